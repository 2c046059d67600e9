import PyProof.Rows.All
import Wide.All
import OpenK.AllK
import Wide.FinOn
import KE.KExcSuper
import KE.KExcIs
import KE.KExcInit
import KE.GoesEnum
import KE.KCallOwn
import KE.DataMinMax
import PyProof.StrOps2
import PyProof.StrBlock2
import HandS.ForMost
import HandS.Wide
import HandS.IsInst
import HandS.DictComp
import HandS.SortInts
import HandS.TupAny
import HandS.Conv
import HandS.Strs
import HandS.Walk
import HandS.More
import HandS.Star
import HandS.Codes
import HandS.ExcInit
import HandS.Nested
import HandS.ExcField
import HandS.ExcOwn
import HandS.ExcIs
import HandS.WordsExc
import HandS.Property
import HandS.RaiseMore
import HandS.Text
import HandS.MakeKwOnly
import HandS.OwnIter
import HandS.IterNext
import PyProof.InstNe
import HandS.ClsMeth
import KE.KDictWalk
import KE.SortData
import HandS.SortKw
import HandS.ListItems
import HandS.DictTup
import HandS.Small
import HandS.IterVal
import KE.KParD
import HandS.OwnEq
import HandS.Records
import HandS.Style
import HandS.Comp
import OpenK.KOps
import PyProof.ReprRoads
import HandS.Ends
import HandS.FStr
import HandS.Words
import KE.KDictList
import PySem.Challenge.RW_silentswaps_k25_calls_made
set_option Elab.async false
set_option maxRecDepth 100000

set_option maxHeartbeats 4000000
set_option maxHeartbeats 4000000
/-! Rd: what the proofs of this repo share. Frames (Kp), data in the heap (Dt), defs as callers use them (Use), readings as rules from back to front (r_..), the tactic rows walk_at "s" (one step), walk_at "S" (many). -/
namespace Rd
open PySem PySem.Spec L2

/-! ### frames -/
def Kp (ex : List Addr) (H H' : Hp) : Prop := ∀ b o, H b = some o → b ∉ ex → H' b = some o
theorem Kp.refl (ex : List Addr) (H : Hp) : Kp ex H H := fun _ _ e _ => e
theorem Kp.trans {ex : List Addr} {H H1 H2 : Hp} (a : Kp ex H H1) (b : Kp ex H1 H2) : Kp ex H H2 := fun c o e n => b c o (a c o e n) n
theorem Kp.mono {ex ex' : List Addr} {H H' : Hp} (a : Kp ex H H') (s : ∀ b ∈ ex, b ∈ ex') : Kp ex' H H' := fun c o e n => a c o e fun m => n (s c m)
theorem Kp.nil {ex : List Addr} {H H' : Hp} (a : Kp [] H H') : Kp ex H H' := a.mono fun _ m => nomatch m
theorem Kp.drop {l : Addr} {ex : List Addr} {H H' : Hp} (a : Kp (l :: ex) H H') (n : H l = none) : Kp ex H H' := fun c o e m => by
  refine a c o e fun z => ?_
  rcases List.mem_cons.mp z with q | q
  · subst q
    rw [n] at e
    cases e
  · exact m q
theorem Kp.free {ex : List Addr} {H H' : Hp} {q : Addr} (a : Kp ex H H') (n : H' q = none) (m : q ∉ ex) : H q = none := by
  cases e : H q with
  | none => rfl
  | some o =>
    rw [a q o e m] at n
    cases n
theorem Kp.new {ex : List Addr} {H : Hp} {p : Addr} {o : HO} (n : H p = none) : Kp ex H (upd H p o) := fun b u e _ => by
  rw [upd_ne (ne_of_none e n)]
  exact e
theorem Kp.put {ex : List Addr} {H : Hp} {p : Addr} {o : HO} (m : p ∈ ex) : Kp ex H (upd H p o) := fun b u e n => by
  rw [upd_ne fun (z : b = p) => n (z ▸ m)]
  exact e
theorem Kp.get {ex : List Addr} {H H' : Hp} {b : Addr} {o : HO} (a : Kp ex H H') (e : H b = some o) (n : b ∉ ex) : H' b = some o := a b o e n
theorem Kp.sql {K : PySem.W.Frag} {H H' : Hp} {a : Addr} {xs : List V} (k : Kp [] H H') (h : SqL K H a xs) : SqL K H' a xs :=
  Same.seq (fun b o e => k b o e (by simp)) h
theorem not_nil {b : Addr} : b ∉ ([] : List Addr) := fun m => nomatch m
theorem not_one {b p : Addr} (h : b ≠ p) : b ∉ [p] := fun m => h (List.mem_singleton.mp m)
theorem not_two {b p q : Addr} (h : b ≠ p) (h' : b ≠ q) : b ∉ [p, q] := fun m => by
  rcases List.mem_cons.mp m with e | e
  · exact h e
  · exact h' (List.mem_singleton.mp e)
theorem ne_none {H : Hp} {a b : Addr} {o : HO} (h : H a = some o) (h' : H b = none) : b ≠ a := fun e => ne_of_none h h' e.symm

/-! ### data -/
mutual
inductive Dt (ex : List Addr) (H : Hp) : V → PyData → Prop
  | non : Dt ex H .non .none
  | bl (b : Bool) : Dt ex H (.bl b) (.bool b)
  | int (i : Int) : Dt ex H (.int i) (.int i)
  | str (x : Str) : Dt ex H (.str x) (.str x)
  | lst {a : Addr} {xs : List V} {ds : List PyData} : a ∉ ex → H a = some (.lst xs) → DtAll ex H xs ds → Dt ex H (.ref a) (.list ds)
  | tup {a : Addr} {xs : List V} {ds : List PyData} : a ∉ ex → H a = some (.tup xs) → DtAll ex H xs ds → Dt ex H (.ref a) (.tuple ds)
inductive DtAll (ex : List Addr) (H : Hp) : List V → List PyData → Prop
  | nil : DtAll ex H [] []
  | cons {v : V} {vs : List V} {d : PyData} {ds : List PyData} : Dt ex H v d → DtAll ex H vs ds → DtAll ex H (v :: vs) (d :: ds)
end
mutual
theorem Dt.mono' {ex ex' : List Addr} {H H' : Hp} (k : Kp ex H H') (s : ∀ b ∈ ex', b ∈ ex) : ∀ (d : PyData) (v : V), Dt ex H v d → Dt ex' H' v d
  | .none, _, h => by cases h; exact .non
  | .bool b, _, h => by cases h; exact .bl b
  | .int i, _, h => by cases h; exact .int i
  | .str x, _, h => by cases h; exact .str x
  | .list ds, _, h => by
    cases h with
    | lst n e al => exact .lst (fun m => n (s _ m)) (k _ _ e n) (DtAll.mono' k s ds _ al)
  | .tuple ds, _, h => by
    cases h with
    | tup n e al => exact .tup (fun m => n (s _ m)) (k _ _ e n) (DtAll.mono' k s ds _ al)
  | .dict _, _, h => by cases h
theorem DtAll.mono' {ex ex' : List Addr} {H H' : Hp} (k : Kp ex H H') (s : ∀ b ∈ ex', b ∈ ex) : ∀ (ds : List PyData) (vs : List V), DtAll ex H vs ds → DtAll ex' H' vs ds
  | [], _, h => by cases h; exact .nil
  | d :: ds, _, h => by
    cases h with
    | cons h1 h2 => exact .cons (Dt.mono' k s d _ h1) (DtAll.mono' k s ds _ h2)
end
theorem Dt.mono {ex : List Addr} {H H' : Hp} {v : V} {d : PyData} (h : Dt ex H v d) (k : Kp ex H H') : Dt ex H' v d := Dt.mono' k (fun _ m => m) d v h
theorem DtAll.mono {ex : List Addr} {H H' : Hp} {vs : List V} {ds : List PyData} (h : DtAll ex H vs ds) (k : Kp ex H H') : DtAll ex H' vs ds := DtAll.mono' k (fun _ m => m) ds vs h
theorem Dt.less {ex ex' : List Addr} {H : Hp} {v : V} {d : PyData} (h : Dt ex H v d) (s : ∀ b ∈ ex', b ∈ ex) : Dt ex' H v d := Dt.mono' (Kp.refl ex H) s d v h
theorem DtAll.less {ex ex' : List Addr} {H : Hp} {vs : List V} {ds : List PyData} (h : DtAll ex H vs ds) (s : ∀ b ∈ ex', b ∈ ex) : DtAll ex' H vs ds := DtAll.mono' (Kp.refl ex H) s ds vs h
mutual
theorem Dt.more' {ex : List Addr} {H : Hp} {l : Addr} (n : H l = none) : ∀ (d : PyData) (v : V), Dt ex H v d → Dt (l :: ex) H v d
  | .none, _, h => by cases h; exact .non
  | .bool b, _, h => by cases h; exact .bl b
  | .int i, _, h => by cases h; exact .int i
  | .str x, _, h => by cases h; exact .str x
  | .list ds, _, h => by
    cases h with
    | lst m e al => exact .lst (fun z => (List.mem_cons.mp z).elim (ne_of_none e n) m) e (DtAll.more' n ds _ al)
  | .tuple ds, _, h => by
    cases h with
    | tup m e al => exact .tup (fun z => (List.mem_cons.mp z).elim (ne_of_none e n) m) e (DtAll.more' n ds _ al)
  | .dict _, _, h => by cases h
theorem DtAll.more' {ex : List Addr} {H : Hp} {l : Addr} (n : H l = none) : ∀ (ds : List PyData) (vs : List V), DtAll ex H vs ds → DtAll (l :: ex) H vs ds
  | [], _, h => by cases h; exact .nil
  | d :: ds, _, h => by
    cases h with
    | cons h1 h2 => exact .cons (Dt.more' n d _ h1) (DtAll.more' n ds _ h2)
end
/-- an address that is new to the heap is none of the data's -/
theorem Dt.more {ex : List Addr} {H : Hp} {v : V} {d : PyData} {l : Addr} (h : Dt ex H v d) (n : H l = none) : Dt (l :: ex) H v d := Dt.more' n d v h
theorem DtAll.more {ex : List Addr} {H : Hp} {vs : List V} {ds : List PyData} {l : Addr} (h : DtAll ex H vs ds) (n : H l = none) : DtAll (l :: ex) H vs ds := DtAll.more' n ds vs h
mutual
theorem Dt.dp' {K : PySem.W.Frag} {ex : List Addr} {H : Hp} : ∀ (d : PyData) (v : V), Dt ex H v d → Dp K H v d
  | .none, _, h => by cases h; exact .non
  | .bool b, _, h => by cases h; exact .bl b
  | .int i, _, h => by cases h; exact .int i
  | .str x, _, h => by cases h; exact .str x
  | .list ds, _, h => by
    cases h with
    | lst n e al => exact .lst (SqL.of e) (DtAll.dp' ds _ al)
  | .tuple ds, _, h => by
    cases h with
    | tup n e al => exact .tup (SqT.of e) (DtAll.dp' ds _ al)
  | .dict _, _, h => by cases h
theorem DtAll.dp' {K : PySem.W.Frag} {ex : List Addr} {H : Hp} : ∀ (ds : List PyData) (vs : List V), DtAll ex H vs ds → DpAll K H vs ds
  | [], _, h => by cases h; exact .nil
  | d :: ds, _, h => by
    cases h with
    | cons h1 h2 => exact .cons (Dt.dp' d _ h1) (DtAll.dp' ds _ h2)
end
theorem Dt.dp {K : PySem.W.Frag} {ex : List Addr} {H : Hp} {v : V} {d : PyData} (h : Dt ex H v d) : Dp K H v d := Dt.dp' d v h
theorem Dt.list {ex : List Addr} {H : Hp} {v : V} {ds : List PyData} (h : Dt ex H v (.list ds)) : ∃ a xs, v = .ref a ∧ a ∉ ex ∧ H a = some (.lst xs) ∧ DtAll ex H xs ds := by
  cases h with
  | lst n e al => exact ⟨_, _, rfl, n, e, al⟩
theorem Dt.tuple {ex : List Addr} {H : Hp} {v : V} {ds : List PyData} (h : Dt ex H v (.tuple ds)) : ∃ a xs, v = .ref a ∧ a ∉ ex ∧ H a = some (.tup xs) ∧ DtAll ex H xs ds := by
  cases h with
  | tup n e al => exact ⟨_, _, rfl, n, e, al⟩
theorem DtAll.length {ex : List Addr} {H : Hp} : ∀ {vs : List V} {ds : List PyData}, DtAll ex H vs ds → vs.length = ds.length
  | [], _, h => by cases h; rfl
  | _ :: _, _, h => by
    cases h with
    | cons _ h2 => exact congrArg (· + 1) (DtAll.length h2)
theorem DtAll.at {ex : List Addr} {H : Hp} : ∀ {vs : List V} {ds : List PyData} {i : Nat} {v : V}, DtAll ex H vs ds → vs[i]? = some v → ∃ d, ds[i]? = some d ∧ Dt ex H v d
  | [], _, i, v, h, e => by simp at e
  | _ :: _, _, 0, v, h, e => by
    cases h with
    | cons h1 _ =>
      cases e
      exact ⟨_, rfl, h1⟩
  | _ :: _, _, i + 1, v, h, e => by
    cases h with
    | cons _ h2 => exact DtAll.at (i := i) h2 e
theorem DtAll.append {ex : List Addr} {H : Hp} : ∀ {vs ws : List V} {ds es : List PyData}, DtAll ex H vs ds → DtAll ex H ws es → DtAll ex H (vs ++ ws) (ds ++ es)
  | [], _, _, _, h, g => by cases h; exact g
  | _ :: _, _, _, _, h, g => by
    cases h with
    | cons h1 h2 => exact .cons h1 (DtAll.append h2 g)
theorem DtAll.snoc {ex : List Addr} {H : Hp} {vs : List V} {ds : List PyData} {v : V} {d : PyData} (h : DtAll ex H vs ds) (g : Dt ex H v d) : DtAll ex H (vs ++ [v]) (ds ++ [d]) := h.append (.cons g .nil)
theorem DtAll.strs {ex : List Addr} {H : Hp} : ∀ {vs : List V} {ws : List Str}, DtAll ex H vs (ws.map PyData.str) → vs = ws.map V.str
  | [], [], _ => rfl
  | [], _ :: _, h => by cases h
  | _ :: _, [], h => by cases h
  | v :: vs, w :: ws, h => by
    cases h with
    | cons h1 h2 =>
      cases h1
      rw [DtAll.strs h2]
      rfl
theorem DtAll.of_strs {ex : List Addr} {H : Hp} : ∀ (ws : List Str), DtAll ex H (ws.map V.str) (ws.map PyData.str)
  | [] => .nil
  | w :: ws => .cons (.str w) (DtAll.of_strs ws)
theorem DtAll.ints {ex : List Addr} {H : Hp} : ∀ {vs : List V} {ns : List Int}, DtAll ex H vs (ns.map PyData.int) → vs = ns.map V.int
  | [], [], _ => rfl
  | [], _ :: _, h => by cases h
  | _ :: _, [], h => by cases h
  | v :: vs, w :: ws, h => by
    cases h with
    | cons h1 h2 =>
      cases h1
      rw [DtAll.ints h2]
      rfl
theorem DtAll.of_ints {ex : List Addr} {H : Hp} : ∀ (ns : List Int), DtAll ex H (ns.map V.int) (ns.map PyData.int)
  | [] => .nil
  | n :: ns => .cons (.int n) (DtAll.of_ints ns)
/-- a pair of a text and a number -/
theorem Dt.pair {ex : List Addr} {H : Hp} {v : V} {x : Str} {n : Int} (h : Dt ex H v (.tuple [.str x, .int n])) : ∃ a, v = .ref a ∧ a ∉ ex ∧ H a = some (.tup [.str x, .int n]) := by
  obtain ⟨a, xs, rfl, m, e, al⟩ := h.tuple
  cases al with
  | cons h1 h2 =>
    cases h2 with
    | cons h3 h4 =>
      cases h4
      cases h1
      cases h3
      exact ⟨a, rfl, m, e⟩

/-! ### a def as its callers use it -/
def Use (P : Program) (w : World) (K : PySem.W.Frag) (mg : Str → Option Value) (base : Heap) (n : Nat) (x : Str) (ps : List Str) (sp : Sp) : Prop :=
  ∃ f fd, FnOk P w K mg base CX0 n f fd ps sp ∧ mg x = some (.ref f) ∧ PySem.W.keepIn K (.ref f) = true ∧ Binds K fd ps []
def tUse (sp : Sp) (t : TA) : TE := fun σ H Q => t σ H fun vs H1 => sp vs H1 Q E0
theorem tUse_eq (sp : Sp) (t : TA) : tCall sp [] E0 t = tUse sp t := by
  funext σ H Q
  show (t σ H fun vs H1 => sp (vs ++ []) H1 Q E0) = (t σ H fun vs H1 => sp vs H1 Q E0)
  simp only [List.append_nil]
theorem pe_use {X : Cx} {n : Nat} {x : Str} {ps : List Str} {sp : Sp} {e : Expr} {es : List Expr} {t : TA} {p pos : Pos} (U : Use X.prog X.w X.K X.mg X.base n x ps sp) (hr : Room n X.A) (hg : Gl X x) (ha : PA X (e :: es) t)
    (hdb : (x == ("__debug__" : Str)) = false := by decide) (he : starEach (e :: es) X.env = (false, eval e X.env) :: starEach es X.env := by rfl) (hpl : (backTo pos (starEach es X.env)).any (·.1) = false := by rfl) :
    PE X (.Call (.Name x p) (e :: es) [] pos) (tUse sp t) := by
  obtain ⟨f, fd, F, hm, hk, hb⟩ := U
  rw [← tUse_eq]
  exact pe_call F hr hg hm hk hb .nil pass0 ha hdb he hpl
theorem pe_use0 {X : Cx} {n : Nat} {x : Str} {ps : List Str} {sp : Sp} {p pos : Pos} (U : Use X.prog X.w X.K X.mg X.base n x ps sp) (hr : Room n X.A) (hg : Gl X x)
    (hdb : (x == ("__debug__" : Str)) = false := by decide) : PE X (.Call (.Name x p) [] [] pos) (tUse sp tNil) := by
  obtain ⟨f, fd, F, hm, hk, hb⟩ := U
  rw [← tUse_eq]
  exact pe_call0 F hr hg hm hk hb .nil pass0 hdb
/-- not A as a value, A a test of any kind -/
theorem pe_notP {X : Cx} {a : Expr} {t : TE} {pos : Pos} (h : PE X a t) : PE X (.UnaryOp .Not a pos) (tNotV t) := pe_not h

/-! ### readings, from back to front -/
section
variable {σ : St} {H : Hp} {Q : VK} {QB : Bool → Hp → Prop} {QA : List V → Hp → Prop} {v x y : V} {i : Nat} {ta tb tc te tv td ty : TE} {t u c : TT} {tr : TA} {r : R2} {g : TG} {gs : TGs}
  {nx bk ct : St → Hp → Prop} {rt : VK} {t1 t2 : TS} {K : PySem.W.Frag} {b : Bool}
theorem r_var (h : σ[i]? = some (some v)) (q : Q v H) : tVar i σ H Q := ⟨v, h, q⟩
theorem r_c (q : Q v H) : tC v σ H Q := q
theorem r_op (q : ta σ H fun x H1 => tb σ H1 fun y H2 => r x y H2 Q) : tOp r ta tb σ H Q := q
theorem r_un {f : V → Hp → VK → Prop} (q : ta σ H fun x H1 => f x H1 Q) : tUn f ta σ H Q := q
def kB (QB : Bool → Hp → Prop) : VK := fun x H => ∃ k, x = .bl k ∧ QB k H
theorem r_kB (q : QB b H) : kB QB (.bl b) H := ⟨b, rfl, q⟩
theorem r_test (q : te σ H (kB QB)) : tTest te σ H QB := q
theorem r_tB (q : te σ H (kB QB)) : tB te σ H QB := q
def kAnd (u : TT) (σ : St) (QB : Bool → Hp → Prop) : Bool → Hp → Prop := fun c H => if c = true then u σ H QB else QB false H
def kOr (u : TT) (σ : St) (QB : Bool → Hp → Prop) : Bool → Hp → Prop := fun c H => if c = true then QB true H else u σ H QB
theorem r_and (q : t σ H (kAnd u σ QB)) : tAnd t u σ H QB := q
theorem r_or (q : t σ H (kOr u σ QB)) : tOr t u σ H QB := q
theorem r_not (q : t σ H fun c H1 => QB (!c) H1) : tNot t σ H QB := q
theorem r_kAnd (h1 : b = true → u σ H QB) (h2 : b = false → QB false H) : kAnd u σ QB b H := by
  unfold kAnd
  cases b
  · exact h2 rfl
  · exact h1 rfl
theorem r_kOr (h1 : b = true → QB true H) (h2 : b = false → u σ H QB) : kOr u σ QB b H := by
  unfold kOr
  cases b
  · exact h2 rfl
  · exact h1 rfl
theorem r_kAnd1 (h : b = true) (q : u σ H QB) : kAnd u σ QB b H := by
  subst h
  exact q
theorem r_kAnd0 (h : b = false) (q : QB false H) : kAnd u σ QB b H := by
  subst h
  exact q
theorem r_kOr1 (h : b = true) (q : QB true H) : kOr u σ QB b H := by
  subst h
  exact q
theorem r_kOr0 (h : b = false) (q : u σ H QB) : kOr u σ QB b H := by
  subst h
  exact q
def kAndV (tb : TE) (σ : St) (Q : VK) : VK := fun x H1 => ∃ c, x = .bl c ∧ if c = true then tb σ H1 Q else Q (.bl false) H1
def kOrV (tb : TE) (σ : St) (Q : VK) : VK := fun x H1 => ∃ c, x = .bl c ∧ if c = true then Q (.bl true) H1 else tb σ H1 Q
theorem r_andV (q : ta σ H (kAndV tb σ Q)) : tAndV ta tb σ H Q := q
theorem r_orV (q : ta σ H (kOrV tb σ Q)) : tOrV ta tb σ H Q := q
theorem r_kAndV (h1 : b = true → tb σ H Q) (h2 : b = false → Q (.bl false) H) : kAndV tb σ Q (.bl b) H := by
  refine ⟨b, rfl, ?_⟩
  cases b
  · exact h2 rfl
  · exact h1 rfl
theorem r_kOrV (h1 : b = true → Q (.bl true) H) (h2 : b = false → tb σ H Q) : kOrV tb σ Q (.bl b) H := by
  refine ⟨b, rfl, ?_⟩
  cases b
  · exact h2 rfl
  · exact h1 rfl
def kNotV (Q : VK) : VK := fun x H1 => ∃ c, x = .bl c ∧ Q (.bl (!c)) H1
theorem r_notV (q : ta σ H (kNotV Q)) : tNotV ta σ H Q := q
theorem r_kNotV (q : Q (.bl (!b)) H) : kNotV Q (.bl b) H := ⟨b, rfl, q⟩
def kIf (ta tb : TE) (σ : St) (Q : VK) : Bool → Hp → Prop := fun c H => if c = true then ta σ H Q else tb σ H Q
theorem r_if (q : t σ H (kIf ta tb σ Q)) : tIf t ta tb σ H Q := q
theorem r_kIf (h1 : b = true → ta σ H Q) (h2 : b = false → tb σ H Q) : kIf ta tb σ Q b H := by
  unfold kIf
  cases b
  · exact h2 rfl
  · exact h1 rfl
theorem r_kIf1 (h : b = true) (q : ta σ H Q) : kIf ta tb σ Q b H := by
  subst h
  exact q
theorem r_kIf0 (h : b = false) (q : tb σ H Q) : kIf ta tb σ Q b H := by
  subst h
  exact q
theorem r_nilA (q : QA [] H) : tNil σ H QA := q
theorem r_consA (q : ta σ H fun x H1 => tr σ H1 fun xs H2 => QA (x :: xs) H2) : tCons ta tr σ H QA := q
theorem r_use {sp : Sp} (q : tr σ H fun vs H1 => sp vs H1 Q E0) : tUse sp tr σ H Q := q
theorem r_cb {f : List V → Hp → VK → Prop} (q : tr σ H fun vs H1 => f vs H1 Q) : tCB f tr σ H Q := q
/-! operators on numbers -/
theorem r_I0 {f : Int → Int → V} {m n : Int} (q : Q (f m n) H) : rI0 f (.int m) (.int n) H Q := ⟨m, n, rfl, rfl, q⟩
theorem r_I {C : Int → Int → Prop} {f : Int → Int → V} {m n : Int} (h : C m n) (q : Q (f m n) H) : rI C f (.int m) (.int n) H Q := ⟨m, n, rfl, rfl, h, q⟩
theorem r_U {f : Int → V} {m : Int} (q : Q (f m) H) : rU f (.int m) H Q := ⟨m, rfl, q⟩
theorem r_eq (h : scal x y = true) (q : Q (.bl (decide (x = y))) H) : rEq x y H Q := ⟨h, q⟩
theorem r_ne (h : scal x y = true) (q : Q (.bl (!decide (x = y))) H) : rNe x y H Q := ⟨h, q⟩
theorem r_eqI {m n : Int} (q : Q (.bl (decide (m = n))) H) : rEq (.int m) (.int n) H Q := by
  refine ⟨rfl, ?_⟩
  have e : decide (V.int m = V.int n) = decide (m = n) := by
    by_cases h : m = n
    · subst h
      simp
    · rw [decide_eq_false h, decide_eq_false fun z => h (V.int.inj z)]
  rw [e]
  exact q
theorem r_neI {m n : Int} (q : Q (.bl (!decide (m = n))) H) : rNe (.int m) (.int n) H Q := by
  refine ⟨rfl, ?_⟩
  have e : decide (V.int m = V.int n) = decide (m = n) := by
    by_cases h : m = n
    · subst h
      simp
    · rw [decide_eq_false h, decide_eq_false fun z => h (V.int.inj z)]
  rw [e]
  exact q
/-! statements -/
theorem r_seq (q : t1 ⟨t2 ⟨nx, rt, bk, ct⟩, rt, bk, ct⟩ σ H) : tSeq t1 t2 ⟨nx, rt, bk, ct⟩ σ H := q
theorem r_next (q : nx σ H) : tNext ⟨nx, rt, bk, ct⟩ σ H := q
theorem r_brk (q : bk σ H) : tBreak ⟨nx, rt, bk, ct⟩ σ H := q
theorem r_cont (q : ct σ H) : tCont ⟨nx, rt, bk, ct⟩ σ H := q
theorem r_asg (q : te σ H fun x H1 => g x σ H1 nx) : tAsg te g ⟨nx, rt, bk, ct⟩ σ H := q
theorem r_drop (q : te σ H fun _ H1 => nx σ H1) : tDrop te ⟨nx, rt, bk, ct⟩ σ H := q
theorem r_ret (q : te σ H rt) : tRet te ⟨nx, rt, bk, ct⟩ σ H := q
theorem r_retN (q : rt .non H) : tRetN ⟨nx, rt, bk, ct⟩ σ H := q
def kIfS (t1 t2 : TS) (D : Ends) (σ : St) : Bool → Hp → Prop := fun b H => if b = true then t1 D σ H else t2 D σ H
theorem r_ifS (q : c σ H (kIfS t1 t2 ⟨nx, rt, bk, ct⟩ σ)) : tIfS c t1 t2 ⟨nx, rt, bk, ct⟩ σ H := q
theorem r_kIfS {D : Ends} (h1 : b = true → t1 D σ H) (h2 : b = false → t2 D σ H) : kIfS t1 t2 D σ b H := by
  unfold kIfS
  cases b
  · exact h2 rfl
  · exact h1 rfl
theorem r_kIfS1 {D : Ends} (h : b = true) (q : t1 D σ H) : kIfS t1 t2 D σ b H := by
  subst h
  exact q
theorem r_kIfS0 {D : Ends} (h : b = false) (q : t2 D σ H) : kIfS t1 t2 D σ b H := by
  subst h
  exact q
theorem r_name {QS : St → Hp → Prop} (q : QS (σ.set i (some v)) H) : gName i v σ H QS := q
theorem r_par {j : Nat} (q : tr σ H fun vs H1 => ∃ v w, vs = [v, w] ∧ nx ((σ.set i (some v)).set j (some w)) H1) : tPar i j tr ⟨nx, rt, bk, ct⟩ σ H := q
/-! displays, dicts -/
def kLst (Q : VK) : List V → Hp → Prop := fun xs H1 => xs.length ≤ sizeLine ∧ ∀ p, H1 p = none → Q (.ref p) (upd H1 p (.lst xs))
def kTup (Q : VK) : List V → Hp → Prop := fun xs H1 => xs.length ≤ sizeLine ∧ ∀ p, H1 p = none → Q (.ref p) (upd H1 p (.tup xs))
theorem r_lst (q : tr σ H (kLst Q)) : tLst tr σ H Q := q
theorem r_tup (q : tr σ H (kTup Q)) : tTup tr σ H Q := q
theorem r_kLst {xs : List V} (h : xs.length ≤ sizeLine) (q : ∀ p H', H p = none → Kp [] H H' → H' p = some (.lst xs) → Q (.ref p) H') : kLst Q xs H :=
  ⟨h, fun p n => q p _ n (Kp.new n) upd_same⟩
theorem r_kTup {xs : List V} (h : xs.length ≤ sizeLine) (q : ∀ p H', H p = none → Kp [] H H' → H' p = some (.tup xs) → Q (.ref p) H') : kTup Q xs H :=
  ⟨h, fun p n => q p _ n (Kp.new n) upd_same⟩
def kDG (Q : VK) : V → V → Hp → Prop := fun x y H2 => ∃ a v, x = .ref a ∧ DGet H2 a y (some v) ∧ Q v H2
theorem r_dget (q : td σ H fun x H1 => ty σ H1 fun y H2 => kDG Q x y H2) : tDGet td ty σ H Q := q
theorem r_kDGs {a : Addr} {kvs : List (Key × V)} {z : Str} (e : H a = some (.dK kvs)) (h : valV kvs (Sum.inr z) = some v) (q : Q v H) : kDG Q (.ref a) (.str z) H :=
  ⟨a, v, rfl, .inl ⟨kvs, Sum.inr z, .inl e, rfl, h.symm⟩, q⟩
theorem r_kDGi {a : Addr} {kvs : List (Key × V)} {z : Int} (e : H a = some (.dK kvs)) (h : valV kvs (Sum.inl z) = some v) (q : Q v H) : kDG Q (.ref a) (.int z) H :=
  ⟨a, v, rfl, .inl ⟨kvs, Sum.inl z, .inl e, rfl, h.symm⟩, q⟩
def kDP (nx : St → Hp → Prop) (σ : St) : V → V → V → Hp → Prop := fun v x y H3 => ∃ a H4, x = .ref a ∧ DPut H3 a y v H4 ∧ nx σ H4
theorem r_dput (q : tv σ H fun v H1 => td σ H1 fun x H2 => ty σ H2 fun y H3 => kDP nx σ v x y H3) : sDPut td ty tv ⟨nx, rt, bk, ct⟩ σ H := q
theorem r_kDPs {a : Addr} {kvs : List (Key × V)} {z : Str} (e : H a = some (.dK kvs)) (h : kvs.length < sizeLine) (q : nx σ (upd H a (.dK (putK kvs (Sum.inr z) v)))) : kDP nx σ v (.ref a) (.str z) H :=
  ⟨a, _, rfl, .inl ⟨kvs, Sum.inr z, e, rfl, h, rfl⟩, q⟩
end

section
variable {σ : St} {H : Hp} {Q : VK} {QA : List V → Hp → Prop} {v x y : V} {K : PySem.W.Frag} {xs : List V} {p : Addr}
/-! built-ins -/
abbrev R1 := List V → Hp → VK → Prop
def cInt : R1 := fun xs H Q => (∃ i, xs = [.int i] ∧ Q (.int i) H) ∨ ∃ k, xs = [.bl k] ∧ Q (.int (if k then 1 else 0)) H
def cAbs : R1 := fun xs H Q => ∃ i, xs = [.int i] ∧ Q (.int (if i < 0 then -i else i)) H
def cMax2 : R1 := fun xs H Q => ∃ i j, xs = [.int i, .int j] ∧ Q (.int (if j > i then j else i)) H
def cMin2 : R1 := fun xs H Q => ∃ i j, xs = [.int i, .int j] ∧ Q (.int (if j < i then j else i)) H
def cStrI : R1 := fun xs H Q => ∃ i, xs = [.int i] ∧ i.natAbs.log2 < 1920 ∧ Q (.str (toString i)) H
def cLen (K : PySem.W.Frag) : R1 := fun xs H Q => ∃ p ys, xs = [.ref p] ∧ (SqL K H p ys ∨ SqT K H p ys) ∧ Q (.int (ys.length : Nat)) H
def cLenS : R1 := fun xs H Q => ∃ z, xs = [.str z] ∧ z.length ≤ sizeLine ∧ Q (.int (z.length : Nat)) H
def cList (K : PySem.W.Frag) : R1 := fun xs H Q => ∃ p ys, xs = [.ref p] ∧ (SqL K H p ys ∨ SqT K H p ys) ∧ ∀ l, H l = none → Q (.ref l) (upd H l (.lst ys))
def cTuple (K : PySem.W.Frag) : R1 := fun xs H Q => ∃ p ys, xs = [.ref p] ∧ ((SqL K H p ys ∧ ∀ l, H l = none → Q (.ref l) (upd H l (.tup ys))) ∨ (SqT K H p ys ∧ Q (.ref p) H))
section
variable {X : Cx}
theorem cr_int : CallR X (.type "int") cInt := call_int1
theorem cr_abs : CallR X (.builtin "abs") cAbs := call_abs
theorem cr_max2 (hc : X.calm = true) : CallR X (.builtin "max") cMax2 := call_max2 hc
theorem cr_min2 (hc : X.calm = true) : CallR X (.builtin "min") cMin2 := call_min2 hc
theorem cr_strI : CallR X (.type "str") cStrI := call_str_int
theorem cr_len : CallR X (.builtin "len") (cLen X.K) := call_len_seq
theorem cr_lenS : CallR X (.builtin "len") cLenS := call_len_str
theorem cr_list : CallR X (.type "list") (cList X.K) := call_list_of
theorem cr_tuple : CallR X (.type "tuple") (cTuple X.K) := call_tuple_of
end
theorem r_intB {b : Bool} (q : Q (.int (if b = true then 1 else 0)) H) : cInt [.bl b] H Q := .inr ⟨b, rfl, q⟩
theorem r_int {n : Int} (q : Q (.int n) H) : cInt [.int n] H Q := .inl ⟨n, rfl, q⟩
theorem r_abs {n : Int} (q : Q (.int (if n < 0 then -n else n)) H) : cAbs [.int n] H Q := ⟨n, rfl, q⟩
theorem r_max2 {m n : Int} (q : Q (.int (if n > m then n else m)) H) : cMax2 [.int m, .int n] H Q := ⟨m, n, rfl, q⟩
theorem r_min2 {m n : Int} (q : Q (.int (if n < m then n else m)) H) : cMin2 [.int m, .int n] H Q := ⟨m, n, rfl, q⟩
theorem r_strI {n : Int} (h : n.natAbs.log2 < 1920) (q : Q (.str (toString n)) H) : cStrI [.int n] H Q := ⟨n, rfl, h, q⟩
theorem r_lenL (h : SqL K H p xs) (q : Q (.int (xs.length : Nat)) H) : cLen K [.ref p] H Q := ⟨p, xs, rfl, .inl h, q⟩
theorem r_lenT (h : SqT K H p xs) (q : Q (.int (xs.length : Nat)) H) : cLen K [.ref p] H Q := ⟨p, xs, rfl, .inr h, q⟩
theorem r_lenS {z : Str} (h : z.length ≤ sizeLine) (q : Q (.int (z.length : Nat)) H) : cLenS [.str z] H Q := ⟨z, rfl, h, q⟩
theorem r_listL (h : SqL K H p xs) (q : ∀ l H', H l = none → Kp [] H H' → H' l = some (.lst xs) → Q (.ref l) H') : cList K [.ref p] H Q := ⟨p, xs, rfl, .inl h, fun l n => q l _ n (Kp.new n) upd_same⟩
theorem r_listT (h : SqT K H p xs) (q : ∀ l H', H l = none → Kp [] H H' → H' l = some (.lst xs) → Q (.ref l) H') : cList K [.ref p] H Q := ⟨p, xs, rfl, .inr h, fun l n => q l _ n (Kp.new n) upd_same⟩
theorem r_tupleL (h : SqL K H p xs) (q : ∀ l H', H l = none → Kp [] H H' → H' l = some (.tup xs) → Q (.ref l) H') : cTuple K [.ref p] H Q := ⟨p, xs, rfl, .inl ⟨h, fun l n => q l _ n (Kp.new n) upd_same⟩⟩
theorem r_tupleT (h : SqT K H p xs) (q : Q (.ref p) H) : cTuple K [.ref p] H Q := ⟨p, xs, rfl, .inr ⟨h, q⟩⟩
theorem r_ixL {i : Int} (h : SqL K H p xs) (e : atI xs i = some v) (q : Q v H) : rIxL K (.ref p) (.int i) H Q := ⟨p, xs, i, v, rfl, rfl, h, e, q⟩
theorem r_ixT {i : Int} (h : SqT K H p xs) (e : atI xs i = some v) (q : Q v H) : rIxT K (.ref p) (.int i) H Q := ⟨p, xs, i, v, rfl, rfl, h, e, q⟩
theorem r_ixS {z : Str} {i : Int} {c : Nat} (h : z.length ≤ sizeLine) (e : atI z.cps.toList i = some c) (q : Q (.str ⟨#[c]⟩) H) : rIxS (.str z) (.int i) H Q := ⟨z, i, c, rfl, rfl, h, e, q⟩
/-- an item at a number that lies within -/
theorem atI_in {α : Type} {l : List α} {i : Int} (h0 : 0 ≤ i) (h1 : i < (l.length : Int)) : ∃ v, atI l i = some v ∧ v ∈ l ∧ l[i.toNat]? = some v := by
  have hk : i.toNat < l.length := by omega
  have e : l[i.toNat]? = some l[i.toNat] := List.getElem?_eq_getElem hk
  have ei : i = ((i.toNat : Nat) : Int) := by omega
  have q : atI l ((i.toNat : Nat) : Int) = some l[i.toNat] := atI_nat e
  rw [← ei] at q
  exact ⟨l[i.toNat], q, List.getElem_mem hk, e⟩
/-! a display of a dict -/
def kDisp (Q : VK) (p : Addr) : List (V × V) → Hp → Prop := fun ps H2 => H2 p = some (.dK []) ∧ ∃ kvs : List (Key × V), ps = kvs.map (fun kv => (kV kv.1, kv.2)) ∧ kvs.length ≤ 15 ∧ Q (.ref p) (upd H2 p (.dK (mergeK [] kvs)))
theorem r_disp {trs : List (TE × TE)} (q : ∀ p H1, H p = none → Kp [] H H1 → H1 p = some (.dK []) → tPairs trs σ H1 (kDisp Q p)) : tDisp trs σ H Q := fun p n => q p _ n (Kp.new n) upd_same
theorem r_pnil {R : List (V × V) → Hp → Prop} (q : R [] H) : tPairs [] σ H R := q
theorem r_pcons {R : List (V × V) → Hp → Prop} {tk tv : TE} {r : List (TE × TE)} (q : tk σ H fun x H1 => tv σ H1 fun y H2 => tPairs r σ H2 fun ps H3 => R ((x, y) :: ps) H3) : tPairs ((tk, tv) :: r) σ H R := q
theorem r_kDisp {p : Addr} {kvs : List (Key × V)} (e : H p = some (.dK [])) (h : kvs.length ≤ 15) (q : ∀ H', Kp [p] H H' → H' p = some (.dK (mergeK [] kvs)) → Q (.ref p) H') : kDisp Q p (kvs.map fun kv => (kV kv.1, kv.2)) H :=
  ⟨e, kvs, rfl, h, q _ (Kp.put (by simp)) upd_same⟩
end

theorem sql_kp {K : PySem.W.Frag} {ex : List Addr} {H H' : Hp} {a : Addr} {xs : List V} (h : SqL K H a xs) (k : Kp ex H H') (m : a ∉ ex) : SqL K H' a xs := by
  rcases h with (h | ⟨o, h⟩) | h
  · exact .inl (.inl (k _ _ h m))
  · exact .inl (.inr ⟨o, k _ _ h m⟩)
  · exact .inr h
/-- a list stays where only the object o at p changes, which is no list -/
theorem sql_but {K : PySem.W.Frag} {H H' : Hp} {a p : Addr} {xs : List V} {o : HO} (h : SqL K H a xs) (k : Kp [p] H H') (e : H p = some o) (d : ∀ ys, o ≠ .lst ys) (d' : ∀ ob u, o ≠ .frz ob u) : SqL K H' a xs := by
  rcases h with (h | ⟨ob, h⟩) | h
  · exact .inl (.inl (k _ _ h (not_one (ne_of h e fun z => d _ z.symm))))
  · exact .inl (.inr ⟨ob, k _ _ h (not_one (ne_of h e fun z => d' _ _ z.symm))⟩)
  · exact .inr h
theorem sqt_kp {K : PySem.W.Frag} {ex : List Addr} {H H' : Hp} {a : Addr} {xs : List V} (h : SqT K H a xs) (k : Kp ex H H') (m : a ∉ ex) : SqT K H' a xs := by
  rcases h with (h | ⟨o, h⟩) | h
  · exact .inl (.inl (k _ _ h m))
  · exact .inl (.inr ⟨o, k _ _ h m⟩)
  · exact .inr h
section
variable {σ : St} {H : Hp} {Q : VK} {QA : List V → Hp → Prop} {v x y : V} {K : PySem.W.Frag} {xs : List V} {p : Addr} {te tk tv : TE} {tr : TA} {g : TG} {tb : TS} {tt : TT} {wi : TI} {nx bk ct : St → Hp → Prop} {rt : VK}
  {J : It} {n : Nat} {G : Hp → Prop} {Y : Nat → Hp → V → Hp → Prop} {vs : List Nat}
/-! what is walked -/
def cRng1 (R : It → Hp → Prop) : List V → Hp → Prop := fun ws H1 => ∃ j : Int, ws = [.int j] ∧ -(2 ^ 62) ≤ j ∧ j < 2 ^ 62 ∧ R (Itr 0 j.toNat) H1
def cRng2 (R : It → Hp → Prop) : List V → Hp → Prop := fun ws H1 => ∃ i j : Int, ws = [.int i, .int j] ∧ (-(2 ^ 62) ≤ i ∧ i < 2 ^ 62 ∧ -(2 ^ 62) ≤ j ∧ j < 2 ^ 62) ∧ R (Itr i (j - i).toNat) H1
def cWL (K : PySem.W.Frag) (R : It → Hp → Prop) : V → Hp → Prop := fun x H1 => ∃ a, x = .ref a ∧ (∃ xs, SqL K H1 a xs) ∧ R (Itl K a) H1
def cWT (K : PySem.W.Frag) (R : It → Hp → Prop) : V → Hp → Prop := fun x H1 => ∃ a, x = .ref a ∧ (∃ xs, SqT K H1 a xs) ∧ R (Itt K a) H1
def cWS (R : It → Hp → Prop) : V → Hp → Prop := fun v H1 => ∃ x, v = .str x ∧ R (Its x) H1
def cEnum (K : PySem.W.Frag) (R : It → Hp → Prop) : List V → Hp → Prop := fun ws H1 => ∃ a xs, ws = [.ref a] ∧ SqL K H1 a xs ∧ R (Ite K a) H1
def cZip (K : PySem.W.Frag) (R : It → Hp → Prop) : List V → Hp → Prop := fun ws H1 => ∃ a b xs ys, ws = [.ref a, .ref b] ∧ SqL K H1 a xs ∧ SqL K H1 b ys ∧ R (Itz K a b) H1
variable {R : It → Hp → Prop}
theorem r_rng1 (q : tr σ H (cRng1 R)) : iRng1 tr σ H R := q
theorem r_rng2 (q : tr σ H (cRng2 R)) : iRng2 tr σ H R := q
theorem r_wl (q : te σ H (cWL K R)) : iList K te σ H R := q
theorem r_wt (q : te σ H (cWT K R)) : iTup K te σ H R := q
theorem r_ws (q : te σ H (cWS R)) : iStr te σ H R := q
theorem r_enum (q : tr σ H (cEnum K R)) : iEnum K tr σ H R := q
theorem r_zip (q : tr σ H (cZip K R)) : iZip K tr σ H R := q
theorem r_cRng1 {j : Int} (h : -(2 ^ 62) ≤ j ∧ j < 2 ^ 62) (q : R (Itr 0 j.toNat) H) : cRng1 R [.int j] H := ⟨j, rfl, h.1, h.2, q⟩
theorem r_cRng2 {i j : Int} (h : -(2 ^ 62) ≤ i ∧ i < 2 ^ 62 ∧ -(2 ^ 62) ≤ j ∧ j < 2 ^ 62) (q : R (Itr i (j - i).toNat) H) : cRng2 R [.int i, .int j] H := ⟨i, j, rfl, h, q⟩
theorem r_cWL (h : SqL K H p xs) (q : R (Itl K p) H) : cWL K R (.ref p) H := ⟨p, rfl, ⟨xs, h⟩, q⟩
theorem r_cWT (h : SqT K H p xs) (q : R (Itt K p) H) : cWT K R (.ref p) H := ⟨p, rfl, ⟨xs, h⟩, q⟩
theorem r_cWS {z : Str} (q : R (Its z) H) : cWS R (.str z) H := ⟨z, rfl, q⟩
theorem r_cEnum (h : SqL K H p xs) (q : R (Ite K p) H) : cEnum K R [.ref p] H := ⟨p, xs, rfl, h, q⟩
theorem r_cZip {p' : Addr} {ys : List V} (h : SqL K H p xs) (h' : SqL K H p' ys) (q : R (Itz K p p') H) : cZip K R [.ref p, .ref p'] H := ⟨p, p', xs, ys, rfl, h, h', q⟩
/-! for -/
def kFor (g : TG) (tb : TS) (D : Ends) (σ : St) : It → Hp → Prop := fun J H1 => ∃ W : Nat → Nat → St → Hp → Prop, (∃ m, W 0 m σ H1) ∧ ∀ i m σ H, W i m σ H →
  (J.stop i H ∧ D.nx σ H) ∨ (J.go i H ∧ ∃ N : St → Hp → Prop, (∀ σ' H', N σ' H' → ∃ m', m' < m ∧ W (i + 1) m' σ' H') ∧ ∀ x H', J.yld i H x H' → g x σ H' fun σ2 H2 => tb { D with nx := N, ct := N, bk := D.nx } σ2 H2)
theorem r_for (q : wi σ H (kFor g tb ⟨nx, rt, bk, ct⟩ σ)) : tFor wi g tb ⟨nx, rt, bk, ct⟩ σ H := q
theorem r_kFor (w : Walk J n G Y) (Pv : Nat → St → Hp → Prop) (h0 : Pv 0 σ H) (hG : ∀ i σ H, i ≤ n → Pv i σ H → G H)
    (hs : ∀ i x σ H H', i < n → Pv i σ H → Y i H x H' → g x σ H' fun σ2 H2 => tb ⟨Pv (i + 1), rt, nx, Pv (i + 1)⟩ σ2 H2) (hd : ∀ σ H, Pv n σ H → nx σ H) : kFor g tb ⟨nx, rt, bk, ct⟩ σ J H :=
  for_it w (D := ⟨nx, rt, bk, ct⟩) Pv h0 hG hs hd
theorem r_kForR {m : Nat} (Pv : Nat → St → Hp → Prop) (h0 : Pv 0 σ H)
    (hs : ∀ (i : Nat) σ H, i < m → Pv i σ H → g (.int (i : Int)) σ H fun σ2 H2 => tb ⟨Pv (i + 1), rt, nx, Pv (i + 1)⟩ σ2 H2) (hd : ∀ σ H, Pv m σ H → nx σ H) : kFor g tb ⟨nx, rt, bk, ct⟩ σ (Itr 0 m) H := by
  refine r_kFor walk_range Pv h0 (fun _ _ _ _ _ => trivial) (fun i x σ H H' hi hp y => ?_) hd
  obtain ⟨rfl, rfl⟩ := y
  have e : V.int ((0 : Int) + (i : Int)) = V.int (i : Int) := congrArg V.int (by omega)
  show g (V.int ((0 : Int) + (i : Int))) σ _ _
  rw [e]
  exact hs i σ _ hi hp
theorem r_kForL (Pv : Nat → St → Hp → Prop) (h0 : Pv 0 σ H) (hl : ∀ i σ H, i ≤ xs.length → Pv i σ H → SqL K H p xs)
    (hs : ∀ (i : Nat) x σ H, xs[i]? = some x → Pv i σ H → g x σ H fun σ2 H2 => tb ⟨Pv (i + 1), rt, nx, Pv (i + 1)⟩ σ2 H2) (hd : ∀ σ H, Pv xs.length σ H → nx σ H) : kFor g tb ⟨nx, rt, bk, ct⟩ σ (Itl K p) H := by
  refine r_kFor walk_list Pv h0 hl (fun i x σ H H' hi hp y => ?_) hd
  obtain ⟨rfl, e⟩ := y
  exact hs i x σ _ e hp
theorem r_kForT (Pv : Nat → St → Hp → Prop) (h0 : Pv 0 σ H) (hl : ∀ i σ H, i ≤ xs.length → Pv i σ H → SqT K H p xs)
    (hs : ∀ (i : Nat) x σ H, xs[i]? = some x → Pv i σ H → g x σ H fun σ2 H2 => tb ⟨Pv (i + 1), rt, nx, Pv (i + 1)⟩ σ2 H2) (hd : ∀ σ H, Pv xs.length σ H → nx σ H) : kFor g tb ⟨nx, rt, bk, ct⟩ σ (Itt K p) H := by
  refine r_kFor walk_tup Pv h0 hl (fun i x σ H H' hi hp y => ?_) hd
  obtain ⟨rfl, e⟩ := y
  exact hs i x σ _ e hp
/-! [e for ..]: Pv by the new list's place, the turn, what is made so far, the heap -/
def kN (Pv : List V → Hp → Prop) (D : Addr) : Hp → Prop := fun H' => ∃ acc, H' D = some (.lst acc) ∧ Pv acc H'
def kApp (D : Addr) (N : Hp → Prop) : VK := fun y H4 => ∃ acc, H4 D = some (.lst acc) ∧ acc.length < sizeLine ∧ N (upd H4 D (.lst (acc ++ [y])))
def kKeep (te : TE) (σ : St) (D : Addr) (N : Hp → Prop) : Bool → Hp → Prop := fun b H3 => if b = true then te σ H3 (kApp D N) else N H3
def kTurn (tt : TT) (te : TE) (σ0 : St) (vs : List Nat) (D : Addr) (N : Hp → Prop) : St → Hp → Prop := fun σ2 H2 => wipe σ2 vs = σ0 ∧ tt σ2 H2 (kKeep te σ2 D N)
def kLc (g : TG) (tt : TT) (te : TE) (vs : List Nat) (σ : St) (Q : VK) : It → Hp → Prop := fun J H1 => ∀ D, H1 D = none → ∃ W : Nat → Nat → Hp → Prop, (∃ m, W 0 m (upd H1 D (.lst []))) ∧ ∀ i m H, W i m H →
  (J.stop i H ∧ Q (.ref D) H) ∨ (J.go i H ∧ ∃ Nx : Hp → Prop, (∀ H', Nx H' → ∃ m', m' < m ∧ W (i + 1) m' H') ∧ ∀ x H', J.yld i H x H' → g x (wipe σ vs) H' fun σ2 H2 => wipe σ2 vs = wipe σ vs ∧ tt σ2 H2 fun b H3 =>
    if b = true then te σ2 H3 fun y H4 => ∃ acc, H4 D = some (.lst acc) ∧ acc.length < sizeLine ∧ Nx (upd H4 D (.lst (acc ++ [y]))) else Nx H3)
theorem r_lc (q : wi σ H (kLc g tt te vs σ Q)) : tLc wi g tt te vs σ H Q := q
theorem r_kTurn {σ0 : St} {D : Addr} {N : Hp → Prop} (h : wipe σ vs = σ0) (q : tt σ H (kKeep te σ D N)) : kTurn tt te σ0 vs D N σ H := ⟨h, q⟩
theorem r_yes {QB : Bool → Hp → Prop} (q : QB true H) : tYes σ H QB := q
theorem r_kKeep1 {D : Addr} {N : Hp → Prop} {b : Bool} (h : b = true) (q : te σ H (kApp D N)) : kKeep te σ D N b H := by
  subst h
  exact q
theorem r_kKeep0 {D : Addr} {acc : List V} {Pv : List V → Hp → Prop} {b : Bool} (h : b = false) (e : H D = some (.lst acc)) (q : Pv acc H) : kKeep te σ D (kN Pv D) b H := by
  subst h
  exact ⟨acc, e, q⟩
theorem r_kKeep {D : Addr} {N : Hp → Prop} {b : Bool} (h1 : b = true → te σ H (kApp D N)) (h0 : b = false → N H) : kKeep te σ D N b H := by
  cases b
  · exact h0 rfl
  · exact h1 rfl
theorem r_kApp {D : Addr} {acc : List V} {Pv : List V → Hp → Prop} (e : H D = some (.lst acc)) (h : acc.length < sizeLine) (q : ∀ H5, Kp [D] H H5 → H5 D = some (.lst (acc ++ [y])) → Pv (acc ++ [y]) H5) : kApp D (kN Pv D) y H :=
  ⟨acc, e, h, acc ++ [y], upd_same, q _ (Kp.put (by simp)) upd_same⟩
theorem r_kLc (w : Walk J n G Y) (Pv : Addr → Nat → List V → Hp → Prop) (h0 : ∀ D H', H D = none → Kp [] H H' → H' D = some (.lst []) → Pv D 0 [] H') (hG : ∀ D i acc H', i ≤ n → Pv D i acc H' → G H')
    (hs : ∀ D i acc x H' H'', H D = none → i < n → H' D = some (.lst acc) → Pv D i acc H' → Y i H' x H'' → g x (wipe σ vs) H'' (kTurn tt te (wipe σ vs) vs D (kN (Pv D (i + 1)) D)))
    (hd : ∀ D acc H', H D = none → H' D = some (.lst acc) → Pv D n acc H' → Q (.ref D) H') : kLc g tt te vs σ Q J H := by
  intro D hD
  exact lc_it w (fun i => kN (Pv D i) D) ⟨[], upd_same, h0 D _ hD (Kp.new hD) upd_same⟩ (fun i H' hi ⟨acc, _, p⟩ => hG D i acc H' hi p) (fun i x H' H'' hi ⟨acc, e, p⟩ y => hs D i acc x H' H'' hD hi e p y) (fun H' ⟨acc, e, p⟩ => hd D acc H' hD e p)
theorem r_kLcL (Pv : Addr → Nat → List V → Hp → Prop) (h0 : ∀ D H', H D = none → Kp [] H H' → H' D = some (.lst []) → Pv D 0 [] H') (hG : ∀ D i acc H', i ≤ xs.length → Pv D i acc H' → SqL K H' p xs)
    (hs : ∀ D (i : Nat) acc x H', H D = none → xs[i]? = some x → H' D = some (.lst acc) → Pv D i acc H' → g x (wipe σ vs) H' (kTurn tt te (wipe σ vs) vs D (kN (Pv D (i + 1)) D)))
    (hd : ∀ D acc H', H D = none → H' D = some (.lst acc) → Pv D xs.length acc H' → Q (.ref D) H') : kLc g tt te vs σ Q (Itl K p) H := by
  refine r_kLc walk_list Pv h0 hG (fun D i acc x H' H'' hD hi e hp y => ?_) hd
  obtain ⟨rfl, e'⟩ := y
  exact hs D i acc x _ hD e' e hp
theorem r_kLcT (Pv : Addr → Nat → List V → Hp → Prop) (h0 : ∀ D H', H D = none → Kp [] H H' → H' D = some (.lst []) → Pv D 0 [] H') (hG : ∀ D i acc H', i ≤ xs.length → Pv D i acc H' → SqT K H' p xs)
    (hs : ∀ D (i : Nat) acc x H', H D = none → xs[i]? = some x → H' D = some (.lst acc) → Pv D i acc H' → g x (wipe σ vs) H' (kTurn tt te (wipe σ vs) vs D (kN (Pv D (i + 1)) D)))
    (hd : ∀ D acc H', H D = none → H' D = some (.lst acc) → Pv D xs.length acc H' → Q (.ref D) H') : kLc g tt te vs σ Q (Itt K p) H := by
  refine r_kLc walk_tup Pv h0 hG (fun D i acc x H' H'' hD hi e hp y => ?_) hd
  obtain ⟨rfl, e'⟩ := y
  exact hs D i acc x _ hD e' e hp
theorem r_kLcR {m : Nat} (Pv : Addr → Nat → List V → Hp → Prop) (h0 : ∀ D H', H D = none → Kp [] H H' → H' D = some (.lst []) → Pv D 0 [] H')
    (hs : ∀ D (i : Nat) acc H', H D = none → i < m → H' D = some (.lst acc) → Pv D i acc H' → g (.int (i : Int)) (wipe σ vs) H' (kTurn tt te (wipe σ vs) vs D (kN (Pv D (i + 1)) D)))
    (hd : ∀ D acc H', H D = none → H' D = some (.lst acc) → Pv D m acc H' → Q (.ref D) H') : kLc g tt te vs σ Q (Itr 0 m) H := by
  refine r_kLc walk_range Pv h0 (fun _ _ _ _ _ _ => trivial) (fun D i acc x H' H'' hD hi e hp y => ?_) hd
  obtain ⟨rfl, rfl⟩ := y
  have e : V.int ((0 : Int) + (i : Int)) = V.int (i : Int) := congrArg V.int (by omega)
  show g (V.int ((0 : Int) + (i : Int))) (wipe σ vs) _ _
  rw [e]
  exact hs D i acc _ hD hi (by assumption) hp
theorem r_kLcS {z : Str} (Pv : Addr → Nat → List V → Hp → Prop) (h0 : ∀ D H', H D = none → Kp [] H H' → H' D = some (.lst []) → Pv D 0 [] H')
    (hs : ∀ D (i : Nat) acc c H', H D = none → z.cps.toList[i]? = some c → H' D = some (.lst acc) → Pv D i acc H' → g (.str ⟨#[c]⟩) (wipe σ vs) H' (kTurn tt te (wipe σ vs) vs D (kN (Pv D (i + 1)) D)))
    (hd : ∀ D acc H', H D = none → H' D = some (.lst acc) → Pv D z.cps.toList.length acc H' → Q (.ref D) H') : kLc g tt te vs σ Q (Its z) H := by
  refine r_kLc walk_str Pv h0 (fun _ _ _ _ _ _ => trivial) (fun D i acc x H' H'' hD hi e hp y => ?_) (fun D acc H' a b c => hd D acc H' a b (by simpa using c))
  obtain ⟨rfl, c, e', rfl⟩ := y
  exact hs D i acc c _ hD (by simpa using e') e hp
/-! {k: v for ..} -/
def kND (Pv : List (Key × V) → Hp → Prop) (D : Addr) : Hp → Prop := fun H' => ∃ kvs, H' D = some (.dK kvs) ∧ Pv kvs H'
def kPut (D : Addr) (N : Hp → Prop) (y : V) : VK := fun z H5 => ∃ kvs k, y = kV k ∧ H5 D = some (.dK kvs) ∧ kvs.length < sizeLine ∧ N (upd H5 D (.dK (putK kvs k z)))
def kKeepD (tk tv : TE) (σ : St) (D : Addr) (N : Hp → Prop) : Bool → Hp → Prop := fun b H3 => if b = true then tk σ H3 (fun y H4 => tv σ H4 (kPut D N y)) else N H3
def kTurnD (tt : TT) (tk tv : TE) (σ0 : St) (vs : List Nat) (D : Addr) (N : Hp → Prop) : St → Hp → Prop := fun σ2 H2 => wipe σ2 vs = σ0 ∧ tt σ2 H2 (kKeepD tk tv σ2 D N)
def kDc (g : TG) (tt : TT) (tk tv : TE) (vs : List Nat) (σ : St) (Q : VK) : It → Hp → Prop := fun J H1 => ∀ D, H1 D = none → ∃ W : Nat → Nat → Hp → Prop, (∃ m, W 0 m (upd H1 D (.dK []))) ∧ ∀ i m H, W i m H →
  (J.stop i H ∧ Q (.ref D) H) ∨ (J.go i H ∧ ∃ Nx : Hp → Prop, (∀ H', Nx H' → ∃ m', m' < m ∧ W (i + 1) m' H') ∧ ∀ x H', J.yld i H x H' → g x (wipe σ vs) H' fun σ2 H2 => wipe σ2 vs = wipe σ vs ∧ tt σ2 H2 fun b H3 =>
    if b = true then tk σ2 H3 fun y H4 => tv σ2 H4 fun z H5 => ∃ kvs k, y = kV k ∧ H5 D = some (.dK kvs) ∧ kvs.length < sizeLine ∧ Nx (upd H5 D (.dK (putK kvs k z))) else Nx H3)
theorem r_dc (q : wi σ H (kDc g tt tk tv vs σ Q)) : tDc wi g tt tk tv vs σ H Q := q
theorem r_kTurnD {σ0 : St} {D : Addr} {N : Hp → Prop} (h : wipe σ vs = σ0) (q : tt σ H (kKeepD tk tv σ D N)) : kTurnD tt tk tv σ0 vs D N σ H := ⟨h, q⟩
theorem r_kKeepD1 {D : Addr} {N : Hp → Prop} {b : Bool} (h : b = true) (q : tk σ H (fun y H4 => tv σ H4 (kPut D N y))) : kKeepD tk tv σ D N b H := by
  subst h
  exact q
theorem r_kPut {D : Addr} {kvs : List (Key × V)} {k : Key} {Pv : List (Key × V) → Hp → Prop} (ey : x = kV k) (e : H D = some (.dK kvs)) (h : kvs.length < sizeLine) (q : ∀ H5, Kp [D] H H5 → H5 D = some (.dK (putK kvs k y)) → Pv (putK kvs k y) H5) : kPut D (kND Pv D) x y H :=
  ⟨kvs, k, ey, e, h, _, upd_same, q _ (Kp.put (by simp)) upd_same⟩
theorem r_kDc (w : Walk J n G Y) (Pv : Addr → Nat → List (Key × V) → Hp → Prop) (h0 : ∀ D H', H D = none → Kp [] H H' → H' D = some (.dK []) → Pv D 0 [] H') (hG : ∀ D i acc H', i ≤ n → Pv D i acc H' → G H')
    (hs : ∀ D i acc x H' H'', H D = none → i < n → H' D = some (.dK acc) → Pv D i acc H' → Y i H' x H'' → g x (wipe σ vs) H'' (kTurnD tt tk tv (wipe σ vs) vs D (kND (Pv D (i + 1)) D)))
    (hd : ∀ D acc H', H D = none → H' D = some (.dK acc) → Pv D n acc H' → Q (.ref D) H') : kDc g tt tk tv vs σ Q J H := by
  intro D hD
  refine ⟨fun i m H' => m = n - i ∧ i ≤ n ∧ kND (Pv D i) D H', ⟨n, by simp, Nat.zero_le _, [], upd_same, h0 D _ hD (Kp.new hD) upd_same⟩, ?_⟩
  rintro i m H' ⟨rfl, hi, acc, e, p⟩
  have q := hG D i acc H' hi p
  by_cases hlt : i < n
  · exact .inr ⟨w.goes i H' hlt q, kND (Pv D (i + 1)) D, fun H2 p' => ⟨n - (i + 1), by omega, rfl, hlt, p'⟩, fun x H2 y => hs D i acc x H' H2 hD hlt e p (w.yields i H' x H2 hlt q y)⟩
  · have e' : i = n := by omega
    subst e'
    exact .inl ⟨w.stops H' q, hd D acc H' hD e p⟩
/-! targets that are tuples -/
theorem r_gtup {K : PySem.W.Frag} {m : Nat} {t : TGs} {QS : St → Hp → Prop} {a : Addr} (h : SqT K H a xs) (hl : xs.length = m) (q : t xs σ H QS) : gTup K m t (.ref a) σ H QS := ⟨a, xs, rfl, h, hl, q⟩
theorem r_gnil {QS : St → Hp → Prop} (q : QS σ H) : gNil [] σ H QS := ⟨rfl, q⟩
theorem r_gcons {t : TG} {u : TGs} {QS : St → Hp → Prop} (q : t x σ H fun σ' H' => u xs σ' H' QS) : gCons t u (x :: xs) σ H QS := ⟨x, xs, rfl, q⟩
/-! methods of lists -/
def kBM (K : PySem.W.Frag) (T : String) (r : V → List V → Hp → VK → Prop) (tr : TA) (σ : St) (Q : VK) : VK := fun x H1 => tyV K T x H1 ∧ tr σ H1 fun xs H2 => r x xs H2 Q
theorem r_bm {T : String} {r : V → List V → Hp → VK → Prop} (q : te σ H (kBM K T r tr σ Q)) : tBM K T r te tr σ H Q := q
theorem r_kBMl {r : V → List V → Hp → VK → Prop} (h : SqL K H p xs) (q : tr σ H fun ys H2 => r (.ref p) ys H2 Q) : kBM K "list" r tr σ Q (.ref p) H := ⟨.inl ⟨rfl, _, h⟩, q⟩
def kBM0 (K : PySem.W.Frag) (T : String) (r : V → List V → Hp → VK → Prop) (Q : VK) : VK := fun x H1 => tyV K T x H1 ∧ r x [] H1 Q
theorem r_bm0 {T : String} {r : V → List V → Hp → VK → Prop} (q : te σ H (kBM0 K T r Q)) : tBM0 K T r te σ H Q := q
theorem r_kBM0l {r : V → List V → Hp → VK → Prop} (h : SqL K H p xs) (q : r (.ref p) [] H Q) : kBM0 K "list" r Q (.ref p) H := ⟨.inl ⟨rfl, _, h⟩, q⟩
theorem r_append (e : H p = some (.lst xs)) (h : xs.length < sizeLine) (q : ∀ H', Kp [p] H H' → H' p = some (.lst (xs ++ [x])) → Q .non H') : rAppend (.ref p) [x] H Q := ⟨p, xs, x, rfl, rfl, e, h, q _ (Kp.put (by simp)) upd_same⟩
/-! texts -/
def rAddT : R2 := fun x y H Q => ∃ i j, x = .str i ∧ y = .str j ∧ i.length + j.length ≤ sizeLine ∧ Q (.str (i ++ j)) H
theorem op_addT {X : Cx} : OpR X (binaryOp .Add) rAddT := op_add_str
theorem r_addT {a b : Str} (h : a.length + b.length ≤ sizeLine) (q : Q (.str (a ++ b)) H) : rAddT (.str a) (.str b) H Q := ⟨a, b, rfl, rfl, h, q⟩
theorem r_eqS {a b : Str} (q : Q (.bl (decide (a = b))) H) : rEq (.str a) (.str b) H Q := by
  refine ⟨rfl, ?_⟩
  have e : decide (V.str a = V.str b) = decide (a = b) := by
    by_cases h : a = b
    · subst h
      simp
    · rw [decide_eq_false h, decide_eq_false fun z => h (V.str.inj z)]
  rw [e]
  exact q
theorem r_neS {a b : Str} (q : Q (.bl (!decide (a = b))) H) : rNe (.str a) (.str b) H Q := by
  refine ⟨rfl, ?_⟩
  have e : decide (V.str a = V.str b) = decide (a = b) := by
    by_cases h : a = b
    · subst h
      simp
    · rw [decide_eq_false h, decide_eq_false fun z => h (V.str.inj z)]
  rw [e]
  exact q
/-! in, not in, of texts in a list -/
theorem eqV_str (a b : Str) : eqV (.str a) (.str b) = decide (a = b) := by
  show (a == b) = decide (a = b)
  by_cases h : a = b
  · subst h
    simp
  · rw [decide_eq_false h]
    exact beq_eq_false_iff_ne.mpr h
theorem inV_strs (x : Str) : ∀ ws : List Str, inV (.str x) (ws.map V.str) = decide (x ∈ ws)
  | [] => by simp [inV]
  | w :: ws => by
    have ih := inV_strs x ws
    unfold inV at ih
    unfold inV
    rw [List.map_cons, List.any_cons, ih, eqV_str]
    by_cases h : x = w
    · subst h
      simp
    · have h' : ¬ w = x := fun e => h e.symm
      simp [h, h']
theorem flat_strs (ws : List Str) : (ws.map V.str).all flatV = true := by
  rw [List.all_eq_true]
  intro v hv
  obtain ⟨w, _, rfl⟩ := List.mem_map.mp hv
  rfl
theorem r_inL {z : Str} {ws : List Str} (h : SqL K H p (ws.map V.str)) (q : Q (.bl (decide (z ∈ ws))) H) : rIn K false (.str z) (.ref p) H Q := by
  refine ⟨p, _, rfl, .inl h, rfl, flat_strs ws, ?_⟩
  show Q (.bl (inV (.str z) (ws.map V.str))) H
  rw [inV_strs]
  exact q
theorem r_notInL {z : Str} {ws : List Str} (h : SqL K H p (ws.map V.str)) (q : Q (.bl (!decide (z ∈ ws))) H) : rIn K true (.str z) (.ref p) H Q := by
  refine ⟨p, _, rfl, .inl h, rfl, flat_strs ws, ?_⟩
  show Q (.bl (!inV (.str z) (ws.map V.str))) H
  rw [inV_strs]
  exact q
end

/-! the layer's rules with K named: within a comprehension's block it could not be found otherwise -/
section
variable {X : Cx} {K : PySem.W.Frag} (hK : X.K = K)
include hK
theorem K_in : OpR X (compareOp .In) (rIn K false) := by
  subst hK
  exact op_in_seq
theorem K_notIn : OpR X (compareOp .NotIn) (rIn K true) := by
  subst hK
  exact op_notIn_seq
theorem K_eqD (hu : X.A.units + 64 < cLine) : OpR X (compareOp .Eq) (rEqD K) := by
  subst hK
  exact op_eqD hu
theorem K_neD (hu : X.A.units + 64 < cLine) : OpR X (compareOp .NotEq) (rNeD K) := by
  subst hK
  exact op_neD hu
theorem K_len : CallR X (.builtin "len") (cLen K) := by
  subst hK
  exact cr_len
theorem K_list : CallR X (.type "list") (cList K) := by
  subst hK
  exact cr_list
theorem K_tuple : CallR X (.type "tuple") (cTuple K) := by
  subst hK
  exact cr_tuple
theorem K_ixL : IxR X (rIxL K) := by
  subst hK
  exact ix_list
theorem K_ixT : IxR X (rIxT K) := by
  subst hK
  exact ix_tup
theorem K_sum (hc : X.calm = true) : CallR X (.builtin "sum") (rSum K) := by
  subst hK
  exact cr_sum hc
theorem K_max (hc : X.calm = true) : CallR X (.builtin "max") (rMax K) := by
  subst hK
  exact cr_max hc
theorem K_min (hc : X.calm = true) : CallR X (.builtin "min") (rMin K) := by
  subst hK
  exact cr_min hc
theorem K_any (hc : X.calm = true) : CallR X (.builtin "any") (rAny K) := by
  subst hK
  exact cr_any hc
theorem K_all (hc : X.calm = true) : CallR X (.builtin "all") (rAll K) := by
  subst hK
  exact cr_all hc
theorem K_sortedI : CallR X (.builtin "sorted") (rSortedI K) := by
  subst hK
  exact cr_sortedI
theorem K_sortedS : CallR X (.builtin "sorted") (rSortedS K) := by
  subst hK
  exact cr_sortedS
theorem K_isi : CallR X (.builtin "isinstance") (rIsi K) := by
  subst hK
  exact call_isi
theorem K_isiT : CallR X (.builtin "isinstance") (rIsiT K) := by
  subst hK
  exact call_isiT
theorem K_slL : SlR X (rSlL K) := by
  subst hK
  exact sl_list
theorem K_slT : SlR X (rSlT K) := by
  subst hK
  exact sl_tup
theorem K_catT : OpR X (binaryOp .Add) (rCatA K) := by
  subst hK
  exact op_catA
theorem K_index : MtR X "list.index" (rIndex K) := by
  subst hK
  exact mt_index
theorem K_pil {tg l : Expr} {tl : TE} (hl : PE X l tl) : PI X tg l (iList K tl) := by
  subst hK
  exact pi_list hl
theorem K_pit {tg l : Expr} {tl : TE} (hl : PE X l tl) : PI X tg l (iTup K tl) := by
  subst hK
  exact pi_tup hl
theorem K_enum {e : Expr} {ta : TA} {p pos tpos : Pos} {elts : List Expr} {kk : Nat} (hg : Gl X "enumerate") (hm : X.mg "enumerate" = none) (ha : PA X [e] ta) (hs : starEach [e] X.env = [(false, eval e X.env)] := by rfl) :
    PI X (.Tuple elts kk tpos) (.Call (.Name "enumerate" p) [e] [] pos) (iEnum K ta) := by
  subst hK
  exact pi_enum hg hm ha hs
theorem K_zip {e e2 : Expr} {ta : TA} {p pos tpos : Pos} {elts : List Expr} {kk : Nat} (hg : Gl X "zip") (hm : X.mg "zip" = none) (ha : PA X [e, e2] ta) (hs : starEach [e, e2] X.env = (false, eval e X.env) :: starEach [e2] X.env := by rfl) (hpl : (backTo pos (starEach [e2] X.env)).any (·.1) = false := by rfl) :
    PI X (.Tuple elts kk tpos) (.Call (.Name "zip" p) [e, e2] [] pos) (iZip K ta) := by
  subst hK
  exact pi_zip hg hm ha hs hpl
theorem K_bm {o e : Expr} {es : List Expr} {T : String} {name : Str} {id : String} {r : V → List V → Hp → VK → Prop} {to : TE} {t : TA} {apos cpos : Pos} (pa : PlainAttrs T) (slot : Slot T name id) (hty : typeOf (.builtin id) = pure (.type "method_descriptor")) (hm : MtR X id r) (ho : PE X o to) (ha : PA X (e :: es) t) (hbase : attributeBase o name X.env (eval o X.env) = eval o X.env := by rfl) (hfew : ((backTo cpos (starEach (e :: es) X.env)).all (fun x => !x.1) && (backToKw cpos (keywordEach [] X.env)).all (fun x => x.1.isSome) && decide ((e :: es).length + ([] : List Keyword).length + (if ([] : List Keyword).isEmpty then 0 else 1) < 30)) = true := by rfl) (hline : (apos.endLine == cpos.line) = true := by rfl) (hs : starEach (e :: es) X.env = (false, eval e X.env) :: starEach es X.env := by rfl) (hplain : (backTo cpos (starEach es X.env)).any (·.1) = false := by rfl) : PE X (.Call (.Attribute o name apos) (e :: es) [] cpos) (tBM K T r to t) := by
  subst hK
  exact pe_bm pa slot hty hm ho ha hbase hfew hline hs hplain
theorem K_bm0 {o : Expr} {T : String} {name : Str} {id : String} {r : V → List V → Hp → VK → Prop} {to : TE} {apos cpos : Pos} (pa : PlainAttrs T) (slot : Slot T name id) (hty : typeOf (.builtin id) = pure (.type "method_descriptor")) (hm : MtR X id r) (ho : PE X o to) (hbase : attributeBase o name X.env (eval o X.env) = eval o X.env := by rfl) (hline : (apos.endLine == cpos.line) = true := by rfl) : PE X (.Call (.Attribute o name apos) [] [] cpos) (tBM0 K T r to) := by
  subst hK
  exact pe_bm0 pa slot hty hm ho hbase hline
theorem K_gtup {es : List Expr} {k : Nat} {t : TGs} {n : Nat} {pos : Pos} (hc : X.calm = true) (h : PGs X es t) (hn : (assignEach es X.env).length = n := by rfl) (hst : (assignEach es X.env).findIdx? (·.1) = none := by rfl) : PG X (.Tuple es k pos) (gTup K n t) := by
  subst hK
  exact pg_tup hc h hn hst
theorem K_fld {e : Expr} {f : Str} {pos : Pos} {ta : TE} (he : PE X e ta) (hb : attributeBase e f X.env (eval e X.env) = eval e X.env) : PE X (.Attribute e f pos) (tFld K ta f) := by
  subst hK
  exact pe_fld he hb
theorem K_join {o e : Expr} {to te : TE} {apos pos : Pos} (ho : PE X o to) (he : PE X e te) (hs : starEach [e] X.env = [(false, eval e X.env)] := by rfl) (hbase : attributeBase o "join" X.env (eval o X.env) = eval o X.env := by rfl) (hline : (apos.endLine == pos.line) = true := by rfl) : PE X (.Call (.Attribute o "join" apos) [e] [] pos) (tM1 (fun x xs H Q => ∃ a p, ∃ ys : List Str, x = .str a ∧ xs = [.ref p] ∧ (SqL K H p (ys.map V.str) ∨ SqT K H p (ys.map V.str)) ∧ (ys.map (·.length)).sum + ys.length * a.length ≤ 16777216 ∧ Q (.str (Txt.join a ys)) H) to te) := by
  subst hK
  exact pe_join ho he hs hbase hline
end

/-! cuts: what stands behind is read once -/
section
variable {X : Cx}
def tCutS (t u : TS) : TS := fun D σ H => ∃ M : St → Hp → Prop, t { D with nx := M } σ H ∧ ∀ σ' H', M σ' H' → u D σ' H'
theorem pss_cutS {st : Stmt} {more : List Stmt} {t u : TS} (a : PS X st t) (b : PSs X more u) : PSs X (st :: more) (tCutS t u) := by
  constructor
  intro pins s σ H D I ⟨M, hm, hu⟩
  refine wpAny_execs_cons (thn (a.run pins s σ H { D with nx := M } I hm) fun f s1 w => ?_)
  match f, w with
  | .next, ⟨σ', H', I', w'⟩ => exact b.run pins s1 σ' H' D I' (hu σ' H' w')
  | .ret _, w => exact w
  | .brk, w => exact w
  | .cont, w => exact w
theorem r_cutS {t u : TS} {nx bk ct : St → Hp → Prop} {rt : VK} {σ : St} {H : Hp} (M : St → Hp → Prop) (h : t ⟨M, rt, bk, ct⟩ σ H) (q : ∀ σ' H', M σ' H' → u ⟨nx, rt, bk, ct⟩ σ' H') : tCutS t u ⟨nx, rt, bk, ct⟩ σ H := ⟨M, h, q⟩
def tCutT (t : TT) : TT := fun σ H Q => ∃ M : Bool → Hp → Prop, t σ H M ∧ ∀ b H', M b H' → Q b H'
theorem pt_cutT {e : Expr} {t : TT} (a : PT X e t) : PT X e (tCutT t) := by
  constructor
  intro pins s σ H Q I ⟨M, hm, hq⟩
  exact wpAny_mono (a.run pins s σ H M I hm) (fun b s' ⟨H', I', w⟩ => ⟨H', I', hq b H' w⟩) fun _ _ z => z
theorem r_cutT {t : TT} {σ : St} {H : Hp} {QB : Bool → Hp → Prop} (M : Bool → Hp → Prop) (h : t σ H M) (q : ∀ b H', M b H' → QB b H') : tCutT t σ H QB := ⟨M, h, q⟩
def tCutE (t : TE) : TE := fun σ H Q => ∃ M : VK, t σ H M ∧ ∀ x H', M x H' → Q x H'
theorem pe_cutE {e : Expr} {t : TE} (a : PE X e t) : PE X e (tCutE t) := by
  constructor
  intro pins s σ H Q I ⟨M, hm, hq⟩
  exact wpAny_mono (a.run pins s σ H M I hm) (fun u s' ⟨v, H', I', r, w⟩ => ⟨v, H', I', r, hq v H' w⟩) fun _ _ z => z
theorem r_cutE {t : TE} {σ : St} {H : Hp} {Q : VK} (M : VK) (h : t σ H M) (q : ∀ x H', M x H' → Q x H') : tCutE t σ H Q := ⟨M, h, q⟩
end

/-! lists by turns -/
theorem take_more {α : Type} : ∀ {l : List α} {i : Nat} {x : α}, l[i]? = some x → l.take (i + 1) = l.take i ++ [x]
  | [], i, x, h => by simp at h
  | a :: l, 0, x, h => by
    cases h
    rfl
  | a :: l, i + 1, x, h => by
    have ih := take_more (l := l) (i := i) (x := x) h
    rw [List.take_succ_cons, ih]
    rfl
theorem take_map {α β : Type} {l : List α} {i : Nat} {x : α} (f : α → β) (h : l[i]? = some x) : (l.take (i + 1)).map f = (l.take i).map f ++ [f x] := by
  rw [take_more h, List.map_append]
  rfl
theorem take_filter {α : Type} {l : List α} {i : Nat} {x : α} (f : α → Bool) (h : l[i]? = some x) : (l.take (i + 1)).filter f = (l.take i).filter f ++ (if f x = true then [x] else []) := by
  rw [take_more h, List.filter_append]
  cases e : f x <;> simp [e]
theorem map_at {α β : Type} {l : List α} {i : Nat} {y : β} {f : α → β} (h : (l.map f)[i]? = some y) : ∃ x, l[i]? = some x ∧ y = f x := by
  rw [List.getElem?_map] at h
  cases e : l[i]? with
  | none =>
    rw [e] at h
    cases h
  | some x =>
    rw [e] at h
    exact ⟨x, rfl, (Option.some.inj h).symm⟩
theorem lt_at {α : Type} {l : List α} {i : Nat} {x : α} (h : l[i]? = some x) : i < l.length := (List.getElem?_eq_some_iff.mp h).1
theorem mem_at {α : Type} {l : List α} {i : Nat} {x : α} (h : l[i]? = some x) : x ∈ l := List.mem_of_getElem? h
theorem Kp.trans' {a : Addr} {H H1 H2 : Hp} (k : Kp [] H H1) (k2 : Kp [a] H1 H2) (n : H a = none) : Kp [] H H2 := (k.nil.trans k2).drop n
/-- a word's heap behind a new list at D has grown by a change of D -/
theorem Kp.step {D : Addr} {ex : List Addr} {H H1 H2 : Hp} (a : Kp ex H H1) (n : H D = none) (b : Kp [D] H1 H2) : Kp ex H H2 :=
  Kp.drop (l := D) ((a.mono fun _ m => List.mem_cons_of_mem _ m).trans (b.mono fun x m => by rw [List.mem_singleton.mp m]; exact List.mem_cons_self)) n

/-! a walk over a list or a tuple -/
def iSeq (K : PySem.W.Frag) (tl : TE) : TI := fun σ H R => tl σ H fun x H1 => ∃ a, x = .ref a ∧ (((∃ xs, SqL K H1 a xs) ∧ R (Itl K a) H1) ∨ ((∃ xs, SqT K H1 a xs) ∧ R (Itt K a) H1))
theorem K_pis {X : Cx} {K : PySem.W.Frag} (hK : X.K = K) {tg l : Expr} {tl : TE} (hl : PE X l tl) : PI X tg l (iSeq K tl) := by
  subst hK
  constructor
  intro pins s σ H R I h
  refine thn (hl.run pins s σ H _ I h) fun v s1 w => ?_
  obtain ⟨_, H1, I1, rv, a, rfl, w⟩ := w
  cases rv
  have fresh : ∀ b ∈ [s1.heap.objs.size], FpOk X pins H1 b := fun b m => (List.mem_singleton.mp m) ▸ I1.fpOk (Nat.le_refl _) (I1.hok.fresh (Nat.le_refl _))
  rcases w with ⟨⟨xs, hs⟩, w⟩ | ⟨⟨xs, hs⟩, w⟩
  · obtain ⟨_, _, pl, _⟩ := I1.list hs
    exact wpAny_pyIter_list pl.isList ⟨_, [s1.heap.objs.size], _, _, H1, rfl, I1.kept (t' := s1.toks) fun _ _ => Heap.get?_push_of_some _, turn_list a _, ⟨_, Heap.get?_push_size _ rfl, rfl, rfl⟩, fresh, w⟩
  · obtain ⟨_, _, pl, _⟩ := I1.tuple hs
    exact wpAny_pyIter_tuple pl ⟨_, [s1.heap.objs.size], _, _, H1, rfl, I1.kept (t' := s1.toks) fun _ _ => Heap.get?_push_of_some _, turn_tuple a _, ⟨_, Heap.get?_push_size _ rfl, rfl, rfl⟩, fresh, w⟩
def cWQ (K : PySem.W.Frag) (R : It → Hp → Prop) : V → Hp → Prop := fun x H1 => ∃ a, x = .ref a ∧ (((∃ xs, SqL K H1 a xs) ∧ R (Itl K a) H1) ∨ ((∃ xs, SqT K H1 a xs) ∧ R (Itt K a) H1))
section
variable {σ : St} {H : Hp} {Q : VK} {K : PySem.W.Frag} {te : TE} {R : It → Hp → Prop} {p : Addr} {xs : List V} {x : V}
theorem r_wq (q : te σ H (cWQ K R)) : iSeq K te σ H R := q
theorem r_cWQl (h : SqL K H p xs) (q : R (Itl K p) H) : cWQ K R (.ref p) H := ⟨p, rfl, .inl ⟨⟨xs, h⟩, q⟩⟩
theorem r_cWQt (h : SqT K H p xs) (q : R (Itt K p) H) : cWQ K R (.ref p) H := ⟨p, rfl, .inr ⟨⟨xs, h⟩, q⟩⟩
/-- a list or a tuple -/
def Sq (K : PySem.W.Frag) (H : Hp) (p : Addr) (xs : List V) : Prop := SqL K H p xs ∨ SqT K H p xs
theorem Sq.kp {ex : List Addr} {H' : Hp} (h : Sq K H p xs) (k : Kp ex H H') (m : p ∉ ex) : Sq K H' p xs := h.elim (fun z => .inl (sql_kp z k m)) fun z => .inr (sqt_kp z k m)
theorem r_lenQ (h : Sq K H p xs) (q : Q (.int (xs.length : Nat)) H) : cLen K [.ref p] H Q := ⟨p, xs, rfl, h, q⟩
theorem r_listQ (h : Sq K H p xs) (q : ∀ l H', H l = none → Kp [] H H' → H' l = some (.lst xs) → Q (.ref l) H') : cList K [.ref p] H Q := ⟨p, xs, rfl, h, fun l n => q l _ n (Kp.new n) upd_same⟩
/-! isinstance -/
theorem r_isiTy {T n : String} {b : Bool} (h : TyX K H x (.type T)) (e : kitB T n = some b) (q : Q (.bl b) H) : rIsi K [x, .ty n] H Q := ⟨x, .ty n, _, _, b, rfl, .ty n, h, kit_ty e, q⟩
/-! [e for ..] over a list or a tuple -/
theorem r_kLcQ {g : TG} {tt : TT} {vs : List Nat} (Pv : Addr → Nat → List V → Hp → Prop) (hq : Sq K H p xs) (h0 : ∀ D H', H D = none → Kp [] H H' → H' D = some (.lst []) → Pv D 0 [] H') (hG : ∀ D i acc H', i ≤ xs.length → Pv D i acc H' → Kp [] H H')
    (hs : ∀ D (i : Nat) acc x H', H D = none → xs[i]? = some x → H' D = some (.lst acc) → Pv D i acc H' → g x (wipe σ vs) H' (kTurn tt te (wipe σ vs) vs D (kN (Pv D (i + 1)) D)))
    (hd : ∀ D acc H', H D = none → H' D = some (.lst acc) → Pv D xs.length acc H' → Q (.ref D) H') : cWQ K (kLc g tt te vs σ Q) (.ref p) H := by
  rcases hq with h | h
  · exact r_cWQl h (r_kLcL Pv h0 (fun D i acc H' hi p => sql_kp h (hG D i acc H' hi p) not_nil) hs hd)
  · exact r_cWQt h (r_kLcT Pv h0 (fun D i acc H' hi p => sqt_kp h (hG D i acc H' hi p) not_nil) hs hd)
end

/-! list.index of a number -/
theorem eqV_int (a b : Int) : eqV (.int a) (.int b) = (a == b) := rfl
theorem flat_ints (ns : List Int) : (ns.map V.int).all flatV = true := by
  rw [List.all_eq_true]
  intro v hv
  obtain ⟨w, _, rfl⟩ := List.mem_map.mp hv
  rfl
theorem lt_idx {n : Int} : ∀ {l : List Int} {m : Nat} {z : Int}, m < l.idxOf n → l[m]? = some z → z ≠ n
  | [], m, z, _, e => by simp at e
  | x :: l, m, z, h, e => by
    rw [List.idxOf_cons] at h
    by_cases c : x = n
    · subst c
      simp at h
    · have c' : (x == n) = false := beq_eq_false_iff_ne.mpr c
      rw [c'] at h
      cases m with
      | zero =>
        cases e
        exact c
      | succ m =>
        exact lt_idx (l := l) (m := m) (Nat.lt_of_succ_lt_succ h) e
theorem r_indexI {K : PySem.W.Frag} {H : Hp} {Q : VK} {p : Addr} {ns : List Int} {n : Int} (h : SqL K H p (ns.map V.int)) (m : n ∈ ns) (q : Q (.int (ns.idxOf n : Nat)) H) : rIndex K (.ref p) [.int n] H Q := by
  have hi := List.idxOf_lt_length_of_mem m
  have e : ns[ns.idxOf n]? = some n := by rw [List.getElem?_eq_getElem hi, List.getElem_idxOf]
  refine ⟨p, _, .int n, ns.idxOf n, .int n, rfl, rfl, h, rfl, flat_ints ns, ?_, beq_self_eq_true n, fun j z' hj hz => ?_, q⟩
  · rw [List.getElem?_map, e]
    rfl
  · obtain ⟨z, hz', rfl⟩ := map_at hz
    exact beq_eq_false_iff_ne.mpr (lt_idx hj hz')
/-! == of data -/
def Shp (n : Nat) (d : PyData) : Prop := d.canLay0 = true ∧ d.depth ≤ n
theorem Shp.ok {n : Nat} {d : PyData} (h : Shp n d) (hn : n ≤ 64) : SeqAt.shaped d = true := Bool.and_eq_true_iff.mpr ⟨h.1, decide_eq_true (Nat.le_trans h.2 hn)⟩
theorem Shp.all {n : Nat} : ∀ {l : List PyData}, (∀ d ∈ l, Shp n d) → PyData.canLayAll0 l = true ∧ PyData.depthAll l ≤ n
  | [], _ => ⟨rfl, Nat.zero_le _⟩
  | d :: l, h => by
    have h1 := h d List.mem_cons_self
    have h2 := Shp.all (l := l) fun x hx => h x (List.mem_cons_of_mem _ hx)
    exact ⟨Bool.and_eq_true_iff.mpr ⟨h1.1, h2.1⟩, Nat.max_le.mpr ⟨h1.2, h2.2⟩⟩
theorem Shp.list {n : Nat} {l : List PyData} (h : ∀ d ∈ l, Shp n d) : Shp (n + 1) (.list l) := ⟨(Shp.all h).1, Nat.succ_le_succ (Shp.all h).2⟩
theorem Shp.tuple {n : Nat} {l : List PyData} (h : ∀ d ∈ l, Shp n d) : Shp (n + 1) (.tuple l) := ⟨(Shp.all h).1, Nat.succ_le_succ (Shp.all h).2⟩
theorem Shp.int (i : Int) (n : Nat) : Shp n (.int i) := ⟨rfl, Nat.zero_le _⟩
theorem Shp.bool (b : Bool) (n : Nat) : Shp n (.bool b) := ⟨rfl, Nat.zero_le _⟩
theorem Shp.none (n : Nat) : Shp n .none := ⟨rfl, Nat.zero_le _⟩
theorem Shp.str {x : Str} (h : PyData.strOk x = true) (n : Nat) : Shp n (.str x) := ⟨h, Nat.zero_le _⟩
theorem strOk_of {x : Str} {m : Nat} (h : ∀ c ∈ x.cps.toList, c ≤ m) (hm : m < 0x110000) : PyData.strOk x = true := by
  unfold PyData.strOk
  rw [← Array.all_toList, List.all_eq_true]
  intro c hc
  have := h c hc
  exact decide_eq_true (by omega)
section
variable {H : Hp} {Q : VK} {K : PySem.W.Frag} {x y : V} {d e : PyData} {ex ex' : List Addr} {n : Nat}
theorem r_eqD (hx : Dt ex H x d) (hy : Dt ex' H y e) (sx : Shp n d) (sy : Shp n e) (hn : n ≤ 64) (q : Q (.bl (PyData.eqv d e)) H) : rEqD K x y H Q := ⟨d, e, hx.dp, hy.dp, sx.ok hn, sy.ok hn, q⟩
theorem r_neD (hx : Dt ex H x d) (hy : Dt ex' H y e) (sx : Shp n d) (sy : Shp n e) (hn : n ≤ 64) (q : Q (.bl (!PyData.eqv d e)) H) : rNeD K x y H Q := ⟨d, e, hx.dp, hy.dp, sx.ok hn, sy.ok hn, q⟩
theorem r_eqD1 (hx : Dt ex H x d) (hy : Dt ex' H y d) (sx : Shp n d) (hn : n ≤ 64) (q : Q (.bl true) H) : rEqD K x y H Q := by
  refine r_eqD hx hy sx sx hn ?_
  rw [SeqAt.eqv_refl d sx.1]
  exact q
theorem r_neD0 (hx : Dt ex H x d) (hy : Dt ex' H y d) (sx : Shp n d) (hn : n ≤ 64) (q : Q (.bl false) H) : rNeD K x y H Q := by
  refine r_neD hx hy sx sx hn ?_
  rw [SeqAt.eqv_refl d sx.1]
  exact q
end
end Rd

set_option maxHeartbeats 4000000
/-! Ob: objects of own classes (fields, methods, making), their `in`, len, ==; isinstance of data; text in text; walks over a list or a tuple. -/
namespace Rd
open PySem PySem.Spec L2 StX

def UseM (P : Program) (w : World) (K : PySem.W.Frag) (mg : Str → Option Value) (base : Heap) (n : Nat) (C : Addr) (m : Str) (sp : Sp) : Prop := ∃ f, FnR P w K mg base CX0 n f sp ∧ Meth K C m f
def UseC (P : Program) (w : World) (K : PySem.W.Frag) (mg : Str → Option Value) (base : Heap) (n : Nat) (x : Str) (C : Addr) (sp : Sp) : Prop := ∃ f, FnR P w K mg base CX0 n f sp ∧ Mk K C f ∧ mg x = some (.ref C)
theorem fnr {P : Program} {w : World} {K : PySem.W.Frag} {mg : Str → Option Value} {base : Heap} {n : Nat} {f : Addr} {fd : FuncData} {ps : List Str} {sp : Sp} (F : FnOk P w K mg base CX0 n f fd ps sp) (b : Binds K fd ps []) : FnR P w K mg base CX0 n f sp :=
  (F.raw b .nil).imp fun vs H Q E h => by
    rw [List.append_nil]
    exact h

section
variable {σ : St} {H : Hp} {Q : VK} {QB : Bool → Hp → Prop} {v x y : V} {ta tb tc tv : TE} {tr : TA} {K : PySem.W.Frag} {C a dx : Addr} {fs : List (Str × V)} {f m : Str} {nx bk ct : St → Hp → Prop} {rt : VK} {sp : Sp} {r r' : R2} {b : Bool}
/-! fields -/
def kFld (K : PySem.W.Frag) (f : Str) (Q : VK) : VK := fun x H1 => ∃ a C dx fs v, x = .ref a ∧ H1 a = some (.ins C dx fs) ∧ Cls K C ∧ NoAttr K C f ∧ fs.lookup f = some v ∧ Q v H1
theorem r_fld (q : ta σ H (kFld K f Q)) : tFld K ta f σ H Q := q
theorem r_kFld (e : H a = some (.ins C dx fs)) (c : Cls K C) (n : NoAttr K C f) (l : fs.lookup f = some v) (q : Q v H) : kFld K f Q (.ref a) H := ⟨a, C, dx, fs, v, rfl, e, c, n, l, q⟩
def kSF (K : PySem.W.Frag) (f : Str) (y : V) (nx : St → Hp → Prop) (σ : St) : VK := fun x H2 => ∃ a C dx fs, x = .ref a ∧ H2 a = some (.ins C dx fs) ∧ Cls K C ∧ NoAttr K C f ∧ fs.length < 1000 ∧ nx σ (upd H2 a (.ins C dx (putF f y fs)))
theorem r_sfld (q : tv σ H fun y H1 => ta σ H1 (kSF K f y nx σ)) : sFld K ta tv f ⟨nx, rt, bk, ct⟩ σ H := q
theorem r_kSF (e : H a = some (.ins C dx fs)) (c : Cls K C) (n : NoAttr K C f) (l : fs.length < 1000) (q : ∀ H', Kp [a] H H' → H' a = some (.ins C dx (putF f y fs)) → nx σ H') : kSF K f y nx σ (.ref a) H :=
  ⟨a, C, dx, fs, rfl, e, c, n, l, q _ (Kp.put (by simp)) upd_same⟩
/-! methods, making -/
def kMeth (C : Addr) (m : Str) (sp : Sp) (t : TA) (σ : St) (Q : VK) : VK := fun x H1 => ∃ a dx fs, x = .ref a ∧ H1 a = some (.ins C dx fs) ∧ fs.lookup m = none ∧ t σ H1 fun vs H2 => sp (x :: vs) H2 Q E0
theorem r_methR (q : ta σ H (kMeth C m sp tr σ Q)) : tMethR C m sp E0 ta tr σ H Q := q
theorem r_kMeth (e : H a = some (.ins C dx fs)) (l : fs.lookup m = none) (q : tr σ H fun vs H2 => sp (.ref a :: vs) H2 Q E0) : kMeth C m sp tr σ Q (.ref a) H := ⟨a, dx, fs, rfl, e, l, q⟩
def kMade (x : Addr) (Q : VK) : VK := fun v H2 => v = .non ∧ Q (.ref x) H2
theorem r_kMade {p : Addr} (q : Q (.ref p) H) : kMade p Q .non H := ⟨rfl, q⟩
def kMake (C : Addr) (sp : Sp) (Q : VK) : List V → Hp → Prop := fun vs H1 => ∀ x dx, H1 x = none → H1 dx = none → dx ≠ x → sp (.ref x :: vs) (upd (upd H1 dx (.own x)) x (.ins C dx [])) (kMade x Q) E0
theorem r_makeR (q : tr σ H (kMake C sp Q)) : tMakeR C sp E0 tr σ H Q := q
theorem r_kMake {vs : List V} (q : ∀ a dx H', H a = none → Kp [] H H' → H' a = some (.ins C dx []) → sp (.ref a :: vs) H' (kMade a Q) E0) : kMake C sp Q vs H := fun a dx n n' d =>
  q a dx _ n ((Kp.new n').trans (Kp.new (by rw [upd_ne d.symm]; exact n))) upd_same
/-! a op b op c -/
def kCh (r' : R2) (y : V) (tc : TE) (σ : St) (Q : VK) : VK := fun z H3 => ∃ k, z = .bl k ∧ (if k = true then tc σ H3 fun w' H4 => r' y w' H4 Q else Q (.bl false) H3)
theorem r_chain (q : ta σ H fun x H1 => tb σ H1 fun y H2 => r x y H2 (kCh r' y tc σ Q)) : tChain r r' ta tb tc σ H Q := q
theorem r_kCh (h1 : b = true → tc σ H fun w' H4 => r' y w' H4 Q) (h2 : b = false → Q (.bl false) H) : kCh r' y tc σ Q (.bl b) H := by
  refine ⟨b, rfl, ?_⟩
  cases b
  · exact h2 rfl
  · exact h1 rfl
/-! text in text -/
def rInS : R2 := fun x y H Q => ∃ i j, x = .str i ∧ y = .str j ∧ Q (.bl (!(Builtin.Str.occurrences j i 0 j.length 1).isEmpty)) H
def rNinS : R2 := fun x y H Q => ∃ i j, x = .str i ∧ y = .str j ∧ Q (.bl (!(!(Builtin.Str.occurrences j i 0 j.length 1).isEmpty))) H
theorem op_inS {X : Cx} : OpR X (compareOp .In) rInS := op_in_str
theorem op_ninS {X : Cx} : OpR X (compareOp .NotIn) rNinS := op_notin_str
theorem r_inC {c : Nat} {z : Str} (q : Q (.bl (decide (c ∈ z.cps.toList))) H) : rInS (.str ⟨#[c]⟩) (.str z) H Q := by
  refine ⟨_, _, rfl, rfl, ?_⟩
  have e := StrLaws.found_one z c
  rw [show (!(Builtin.Str.occurrences z ⟨#[c]⟩ 0 z.length 1).isEmpty) = decide (c ∈ z.cps.toList) from e]
  exact q
theorem r_ninC {c : Nat} {z : Str} (q : Q (.bl (!decide (c ∈ z.cps.toList))) H) : rNinS (.str ⟨#[c]⟩) (.str z) H Q := by
  refine ⟨_, _, rfl, rfl, ?_⟩
  have e := StrLaws.found_one z c
  rw [show (!(Builtin.Str.occurrences z ⟨#[c]⟩ 0 z.length 1).isEmpty) = decide (c ∈ z.cps.toList) from e]
  exact q
/-! in a tuple of texts; all of truth values -/
theorem r_inT {z : Str} {ws : List Str} {p : Addr} (h : SqT K H p (ws.map V.str)) (q : Q (.bl (decide (z ∈ ws))) H) : rIn K false (.str z) (.ref p) H Q := by
  refine ⟨p, _, rfl, .inr h, rfl, flat_strs ws, ?_⟩
  show Q (.bl (inV (.str z) (ws.map V.str))) H
  rw [inV_strs]
  exact q
theorem r_ninT {z : Str} {ws : List Str} {p : Addr} (h : SqT K H p (ws.map V.str)) (q : Q (.bl (!decide (z ∈ ws))) H) : rIn K true (.str z) (.ref p) H Q := by
  refine ⟨p, _, rfl, .inr h, rfl, flat_strs ws, ?_⟩
  show Q (.bl (!inV (.str z) (ws.map V.str))) H
  rw [inV_strs]
  exact q
theorem r_all {bs : List Bool} {p : Addr} (h : SqL K H p (bs.map V.bl)) (q : Q (.bl (bs.all id)) H) : rAll K [.ref p] H Q := ⟨p, bs, rfl, h, q⟩
theorem r_any {bs : List Bool} {p : Addr} (h : SqL K H p (bs.map V.bl)) (q : Q (.bl (bs.any id)) H) : rAny K [.ref p] H Q := ⟨p, bs, rfl, h, q⟩
/-! two tuples, one behind the other -/
theorem r_catT {a b : Addr} {xs ys : List V} (ha : SqT K H a xs) (hb : SqT K H b ys) (hz : xs.length + ys.length ≤ sizeLine) (hy : ys ≠ []) (hx : xs = [] → Q (.ref b) H) (q : xs ≠ [] → ∀ p H', H p = none → Kp [] H H' → H' p = some (.tup (xs ++ ys)) → Q (.ref p) H') : rCatA K (.ref a) (.ref b) H Q :=
  ⟨a, b, xs, ys, rfl, rfl, ha, hb, hz, hx, fun _ e => absurd e hy, fun hx _ p n => q hx p _ n (Kp.new n) upd_same⟩
/-- the sum of two tuples, the second one not empty: some tuple -/
theorem r_catT' {a b : Addr} {xs ys : List V} (ha : SqT K H a xs) (hb : H b = some (.tup ys)) (hz : xs.length + ys.length ≤ sizeLine) (hy : ys ≠ []) (q : ∀ p H', Kp [] H H' → H' p = some (.tup (xs ++ ys)) → (p = b ∨ H p = none) → Q (.ref p) H') : rCatA K (.ref a) (.ref b) H Q := by
  refine r_catT ha (SqT.of hb) hz hy (fun e => ?_) fun _ p H' n k e => q p H' k e (.inr n)
  subst e
  exact q b H (Kp.refl _ _) hb (.inl rfl)
end

/-! `in`, len by own defs -/
def kOwnB (neg : Bool) (Q : VK) : VK := fun z H' => ∃ b, z = .bl b ∧ Q (.bl (b != neg)) H'
def rInOwn (C : Addr) (sp : Sp) (neg : Bool) : R2 := fun x y H Q => ∃ a dx fs, y = .ref a ∧ H a = some (.ins C dx fs) ∧ sp [.ref a, x] H (kOwnB neg Q) E0
def kOwnI (Q : VK) : VK := fun z H' => ∃ n : Int, z = .int n ∧ 0 ≤ n ∧ n < 2 ^ 63 ∧ Q (.int n) H'
def cLenOwn (C : Addr) (sp : Sp) : R1 := fun xs H Q => ∃ a dx fs, xs = [.ref a] ∧ H a = some (.ins C dx fs) ∧ sp [.ref a] H (kOwnI Q) E0
/-- x == y, both of the class at C -/
def rEqOwn (C : Addr) (sp : Sp) : R2 := fun x y H Q => ∃ a dx fs b dy gs, x = .ref a ∧ y = .ref b ∧ H a = some (.ins C dx fs) ∧ H b = some (.ins C dy gs) ∧ sp [.ref a, .ref b] H (fun z H' => ∃ c, z = .bl c ∧ Q (.bl c) H') E0
section
variable {X : Cx} {n : Nat} {C f : Addr} {sp : Sp}
theorem op_inOwn (hm : Meth X.K C "__contains__" f) (F : FnR X.prog X.w X.K X.mg X.base CX0 n f sp) (hr : Room n X.A) : OpR X (compareOp .In) (rInOwn C sp false) := by
  intro pins s σ H x y v u Q I rx ry h
  obtain ⟨a, dx, fs, rfl, ea, q⟩ := h
  cases (show u = Value.ref a from ry)
  obtain ⟨mA, O, _⟩ := ins_get I.hok ea
  obtain ⟨od, J, _⟩ := O.look
  obtain ⟨m, hF⟩ := I.fr
  refine PySem.W.in_K hF I.ok.mod.kin J hm.at_ hm.fn (wpAny_mono (wpAny_call (run_fnR (us := [.ref a, v]) (vs := [.ref a, x]) F hr pass0 I (.cons rfl (.cons rx .nil)) q)) (fun r s' z => ?_) fun _ _ x => x)
  obtain ⟨z', H', I', rz, b, rfl, qz⟩ := z
  cases (show r = Value.bool b from rz)
  refine wpAny_truthy_bool ⟨.bl b, H', I', rfl, ?_⟩
  have e : (b != false) = b := by cases b <;> rfl
  rw [e] at qz
  exact qz
theorem op_ninOwn (hm : Meth X.K C "__contains__" f) (F : FnR X.prog X.w X.K X.mg X.base CX0 n f sp) (hr : Room n X.A) : OpR X (compareOp .NotIn) (rInOwn C sp true) := by
  intro pins s σ H x y v u Q I rx ry h
  obtain ⟨a, dx, fs, rfl, ea, q⟩ := h
  cases (show u = Value.ref a from ry)
  obtain ⟨mA, O, _⟩ := ins_get I.hok ea
  obtain ⟨od, J, _⟩ := O.look
  obtain ⟨m, hF⟩ := I.fr
  refine PySem.W.notIn_K hF I.ok.mod.kin J hm.at_ hm.fn (wpAny_mono (wpAny_call (run_fnR (us := [.ref a, v]) (vs := [.ref a, x]) F hr pass0 I (.cons rfl (.cons rx .nil)) q)) (fun r s' z => ?_) fun _ _ x => x)
  obtain ⟨z', H', I', rz, b, rfl, qz⟩ := z
  cases (show r = Value.bool b from rz)
  refine wpAny_truthy_bool ⟨.bl (!b), H', I', rfl, ?_⟩
  have e : (b != true) = !b := by cases b <;> rfl
  rw [e] at qz
  exact qz
theorem cr_lenOwn (hm : Meth X.K C "__len__" f) (F : FnR X.prog X.w X.K X.mg X.base CX0 n f sp) (hr : Room (n + 1) X.A) : CallR X (.builtin "len") (cLenOwn C sp) := by
  intro pins s σ H xs us Q I r h
  obtain ⟨a, dx, fs, rfl, ea, q⟩ := h
  obtain ⟨u, rfl, ru⟩ := r.one
  cases (show u = Value.ref a from ru)
  obtain ⟨mA, O, _⟩ := ins_get I.hok ea
  obtain ⟨od, J, _⟩ := O.look
  obtain ⟨m, hF⟩ := I.fr
  refine PySem.W.len_K hF I.ok.mod.kin J hm.at_ hm.fn (wpAny_call (codeAny_mono (F X.A.in1 X.stack s H [.ref a] [.ref a] _ E0 hr.in1 I.env0.in1 (.cons rfl .nil) q) fun r s' z => ?_))
  cases r with
  | error e => exact False.elim z
  | ok fl =>
    cases fl with
    | ret u =>
      obtain ⟨z', H', I', rz, k, rfl, k0, k1, qz⟩ := I.after z
      obtain ⟨t, e⟩ := (show ∃ t, u = Value.int k t from rz)
      cases e
      exact ⟨⟨k0, k1⟩, .int k, H', I'.tok _, ⟨_, rfl⟩, qz⟩
    | next => exact False.elim z
    | brk => exact False.elim z
    | cont => exact False.elim z
theorem op_eqOwn (hm : Meth X.K C "__eq__" f) (F : FnR X.prog X.w X.K X.mg X.base CX0 n f sp) (hr : Room n X.A) : OpR X (compareOp .Eq) (rEqOwn C sp) := by
  intro pins s σ H x y v u Q I rx ry h
  obtain ⟨a, dx, fs, b, dy, gs, rfl, rfl, ea, eb, q⟩ := h
  cases (show v = Value.ref a from rx)
  cases (show u = Value.ref b from ry)
  obtain ⟨mA, O, _⟩ := ins_get I.hok ea
  obtain ⟨od, J, _⟩ := O.look
  obtain ⟨mB, O', _⟩ := ins_get I.hok eb
  obtain ⟨od', J', _⟩ := O'.look
  obtain ⟨m, hF⟩ := I.fr
  have nf : PySem.W.notFirst X.K C (.ref C) = true := by
    unfold PySem.W.notFirst
    simp
  refine PySem.W.cmp_K (op := .Eq) (tb := .ref C) hr.units0 hF I.ok.mod.kin J J'.type nf hm.at_ hm.fn ?_
  refine wpAny_mono (wpAny_call (run_fnR (us := [.ref a, .ref b]) (vs := [.ref a, .ref b]) F hr pass0 I (.cons rfl (.cons rfl .nil)) q)) (fun r s' z => ?_) fun _ _ x => x
  obtain ⟨z', H', I', rz, c, rfl, qz⟩ := z
  cases (show r = Value.bool c from rz)
  exact ⟨.bl c, H', I', rfl, qz⟩
end
section
variable {H : Hp} {Q : VK} {C a dx : Addr} {fs : List (Str × V)} {sp : Sp} {x : V} {neg b : Bool}
theorem r_inOwn (e : H a = some (.ins C dx fs)) (q : sp [.ref a, x] H (kOwnB neg Q) E0) : rInOwn C sp neg x (.ref a) H Q := ⟨a, dx, fs, rfl, e, q⟩
theorem r_kOwnB (q : Q (.bl (b != neg)) H) : kOwnB neg Q (.bl b) H := ⟨b, rfl, q⟩
end

/-! data of any kind: its type -/
def tyD : PyData → String
  | .none => "NoneType"
  | .bool _ => "bool"
  | .int _ => "int"
  | .str _ => "str"
  | .list _ => "list"
  | .tuple _ => "tuple"
  | .dict _ => "dict"
theorem Dt.tyx {K : PySem.W.Frag} {ex : List Addr} {H : Hp} {v : V} {d : PyData} (h : Dt ex H v d) : TyX K H v (.type (tyD d)) := by
  cases h with
  | non => exact .base .non
  | bl b => exact .base (.bl b)
  | int i => exact .base (.int i)
  | str x => exact .base (.str x)
  | lst _ e _ => exact .base (.lst e)
  | tup _ e _ => exact .base (.tup e)
def isStr : PyData → Bool
  | .str _ => true
  | _ => false
def isTup : PyData → Bool
  | .tuple _ => true
  | _ => false
def isLst : PyData → Bool
  | .list _ => true
  | _ => false
def isInt : PyData → Bool
  | .int _ => true
  | .bool _ => true
  | _ => false
def isBool : PyData → Bool
  | .bool _ => true
  | _ => false
theorem kit_D {n : String} {f : PyData → Bool} {d : PyData} (b0 b1 b2 b3 b4 b5 b6 : Bool) (h0 : kitB "NoneType" n = some b0) (h1 : kitB "bool" n = some b1) (h2 : kitB "int" n = some b2) (h3 : kitB "str" n = some b3) (h4 : kitB "list" n = some b4) (h5 : kitB "tuple" n = some b5) (h6 : kitB "dict" n = some b6)
    (e0 : f .none = b0) (e1 : ∀ b, f (.bool b) = b1) (e2 : ∀ b, f (.int b) = b2) (e3 : ∀ b, f (.str b) = b3) (e4 : ∀ b, f (.list b) = b4) (e5 : ∀ b, f (.tuple b) = b5) (e6 : ∀ b, f (.dict b) = b6) : kitB (tyD d) n = some (f d) := by
  cases d with
  | none => rw [e0]; exact h0
  | bool b => rw [e1]; exact h1
  | int b => rw [e2]; exact h2
  | str b => rw [e3]; exact h3
  | list b => rw [e4]; exact h4
  | tuple b => rw [e5]; exact h5
  | dict b => rw [e6]; exact h6
theorem kit_str (d : PyData) : kitB (tyD d) "str" = some (isStr d) :=
  kit_D false false false true false false false (by decide +kernel) (by decide +kernel) (by decide +kernel) (by decide +kernel) (by decide +kernel) (by decide +kernel) (by decide +kernel) rfl (fun _ => rfl) (fun _ => rfl) (fun _ => rfl) (fun _ => rfl) (fun _ => rfl) (fun _ => rfl)
theorem kit_tup (d : PyData) : kitB (tyD d) "tuple" = some (isTup d) :=
  kit_D false false false false false true false (by decide +kernel) (by decide +kernel) (by decide +kernel) (by decide +kernel) (by decide +kernel) (by decide +kernel) (by decide +kernel) rfl (fun _ => rfl) (fun _ => rfl) (fun _ => rfl) (fun _ => rfl) (fun _ => rfl) (fun _ => rfl)
theorem kit_lst (d : PyData) : kitB (tyD d) "list" = some (isLst d) :=
  kit_D false false false false true false false (by decide +kernel) (by decide +kernel) (by decide +kernel) (by decide +kernel) (by decide +kernel) (by decide +kernel) (by decide +kernel) rfl (fun _ => rfl) (fun _ => rfl) (fun _ => rfl) (fun _ => rfl) (fun _ => rfl) (fun _ => rfl)
theorem kit_int (d : PyData) : kitB (tyD d) "int" = some (isInt d) :=
  kit_D false true true false false false false (by decide +kernel) (by decide +kernel) (by decide +kernel) (by decide +kernel) (by decide +kernel) (by decide +kernel) (by decide +kernel) rfl (fun _ => rfl) (fun _ => rfl) (fun _ => rfl) (fun _ => rfl) (fun _ => rfl) (fun _ => rfl)
theorem kit_bool (d : PyData) : kitB (tyD d) "bool" = some (isBool d) :=
  kit_D false true false false false false false (by decide +kernel) (by decide +kernel) (by decide +kernel) (by decide +kernel) (by decide +kernel) (by decide +kernel) (by decide +kernel) rfl (fun _ => rfl) (fun _ => rfl) (fun _ => rfl) (fun _ => rfl) (fun _ => rfl) (fun _ => rfl)
section
variable {K : PySem.W.Frag} {ex : List Addr} {H : Hp} {Q : VK} {x : V} {d : PyData} {tp : Addr}
theorem r_isiStr (h : Dt ex H x d) (q : Q (.bl (isStr d)) H) : rIsi K [x, .ty "str"] H Q := r_isiTy h.tyx (kit_str d) q
theorem r_isiTup (h : Dt ex H x d) (q : Q (.bl (isTup d)) H) : rIsi K [x, .ty "tuple"] H Q := r_isiTy h.tyx (kit_tup d) q
theorem r_isiLst (h : Dt ex H x d) (q : Q (.bl (isLst d)) H) : rIsi K [x, .ty "list"] H Q := r_isiTy h.tyx (kit_lst d) q
theorem r_isiInt (h : Dt ex H x d) (q : Q (.bl (isInt d)) H) : rIsi K [x, .ty "int"] H Q := r_isiTy h.tyx (kit_int d) q
theorem r_isiBool (h : Dt ex H x d) (q : Q (.bl (isBool d)) H) : rIsi K [x, .ty "bool"] H Q := r_isiTy h.tyx (kit_bool d) q
theorem r_isiLT (h : Dt ex H x d) (e : H tp = some (.tup [.ty "list", .ty "tuple"])) (q : Q (.bl (isLst d || isTup d)) H) : rIsiT K [x, .ref tp] H Q := by
  refine ⟨x, tp, _, _, _, _, rfl, e, .cons (.ty "list") (.cons (.ty "tuple") .nil), h.tyx, ?_, q⟩
  refine kitAny_cons (kit_ty (kit_lst d)) (fun c => ?_) fun c => by rw [c]; rfl
  rw [c]
  refine kitAny_cons (kit_ty (kit_tup d)) (fun c => ?_) fun c => by rw [c]; rfl
  rw [c]
  rfl
end
mutual
theorem Dt.skip' {ex : List Addr} {H : Hp} {a : Addr} {o : HO} (e : H a = some o) (n1 : ∀ xs, o ≠ .lst xs) (n2 : ∀ xs, o ≠ .tup xs) : ∀ (d : PyData) (v : V), Dt ex H v d → Dt (a :: ex) H v d
  | .none, _, h => by cases h; exact .non
  | .bool b, _, h => by cases h; exact .bl b
  | .int i, _, h => by cases h; exact .int i
  | .str x, _, h => by cases h; exact .str x
  | .list ds, _, h => by
    cases h with
    | lst m e' al => exact .lst (fun z => (List.mem_cons.mp z).elim (fun q => n1 _ (Option.some.inj ((q ▸ e).symm.trans e'))) m) e' (DtAll.skip' e n1 n2 ds _ al)
  | .tuple ds, _, h => by
    cases h with
    | tup m e' al => exact .tup (fun z => (List.mem_cons.mp z).elim (fun q => n2 _ (Option.some.inj ((q ▸ e).symm.trans e'))) m) e' (DtAll.skip' e n1 n2 ds _ al)
  | .dict _, _, h => by cases h
theorem DtAll.skip' {ex : List Addr} {H : Hp} {a : Addr} {o : HO} (e : H a = some o) (n1 : ∀ xs, o ≠ .lst xs) (n2 : ∀ xs, o ≠ .tup xs) : ∀ (ds : List PyData) (vs : List V), DtAll ex H vs ds → DtAll (a :: ex) H vs ds
  | [], _, h => by cases h; exact .nil
  | d :: ds, _, h => by
    cases h with
    | cons h1 h2 => exact .cons (Dt.skip' e n1 n2 d _ h1) (DtAll.skip' e n1 n2 ds _ h2)
end
/-- nothing of the data lies where an object of another kind stands -/
theorem Dt.skip {ex : List Addr} {H : Hp} {a : Addr} {o : HO} {v : V} {d : PyData} (h : Dt ex H v d) (e : H a = some o) (n1 : ∀ xs, o ≠ .lst xs) (n2 : ∀ xs, o ≠ .tup xs) : Dt (a :: ex) H v d := Dt.skip' e n1 n2 d v h
theorem DtAll.skip {ex : List Addr} {H : Hp} {a : Addr} {o : HO} {vs : List V} {ds : List PyData} (h : DtAll ex H vs ds) (e : H a = some o) (n1 : ∀ xs, o ≠ .lst xs) (n2 : ∀ xs, o ≠ .tup xs) : DtAll (a :: ex) H vs ds := DtAll.skip' e n1 n2 ds vs h

theorem pe_globE {X : Cx} {x : Str} {v : V} {pos : Pos} (h : ∃ u, X.mg x = some u ∧ RelV v u) (hg : Gl X x) (hd : (x == ("__debug__" : Str)) = false := by decide) : PE X (.Name x pos) (tC v) := by
  obtain ⟨u, hm, r⟩ := h
  exact pe_glob hg hm r hd
/-! for over a list or a tuple -/
section
variable {σ : St} {H : Hp} {K : PySem.W.Frag} {xs : List V} {p : Addr} {g : TG} {tb : TS} {nx bk ct : St → Hp → Prop} {rt : VK}
theorem r_kForQ (Pv : Nat → St → Hp → Prop) (hq : Sq K H p xs) (h0 : Pv 0 σ H) (hl : ∀ i σ H', i ≤ xs.length → Pv i σ H' → ∃ ex, p ∉ ex ∧ Kp ex H H')
    (hs : ∀ (i : Nat) x σ H, xs[i]? = some x → Pv i σ H → g x σ H fun σ2 H2 => tb ⟨Pv (i + 1), rt, nx, Pv (i + 1)⟩ σ2 H2) (hd : ∀ σ H, Pv xs.length σ H → nx σ H) : cWQ K (kFor g tb ⟨nx, rt, bk, ct⟩ σ) (.ref p) H := by
  rcases hq with h | h
  · exact r_cWQl h (r_kForL Pv h0 (fun i σ H' hi q => let ⟨_, m, k⟩ := hl i σ H' hi q; sql_kp h k m) hs hd)
  · exact r_cWQt h (r_kForT Pv h0 (fun i σ H' hi q => let ⟨_, m, k⟩ := hl i σ H' hi q; sqt_kp h k m) hs hd)
end
/-! displays of data -/
def ED (te : TE) (σ : St) (H : Hp) (d : PyData) : Prop := ∀ Q : VK, (∀ x H', Kp [] H H' → Dt [] H' x d → Q x H') → te σ H Q
def AD (tr : TA) (σ : St) (H : Hp) (ds : List PyData) : Prop := ∀ QA : List V → Hp → Prop, (∀ xs H', Kp [] H H' → DtAll [] H' xs ds → QA xs H') → tr σ H QA
section
variable {σ : St} {H : Hp} {Q : VK} {d : PyData} {ds : List PyData} {te : TE} {tr : TA} {v : V} {i : Nat}
theorem r_ED (h : ED te σ H d) (q : ∀ x H', Kp [] H H' → Dt [] H' x d → Q x H') : te σ H Q := h Q q
theorem ED_c (h : Dt [] H v d) : ED (tC v) σ H d := fun _ q => q v H (Kp.refl _ _) h
theorem ED_var (e : σ[i]? = some (some v)) (h : Dt [] H v d) : ED (tVar i) σ H d := fun _ q => ⟨v, e, q v H (Kp.refl _ _) h⟩
theorem AD_nil : AD tNil σ H [] := fun _ q => q [] H (Kp.refl _ _) .nil
theorem AD_cons (h : ED te σ H d) (hr : ∀ H1, Kp [] H H1 → AD tr σ H1 ds) : AD (tCons te tr) σ H (d :: ds) := fun _ q =>
  h _ fun x H1 k1 h1 => hr H1 k1 _ fun xs H2 k2 h2 => q (x :: xs) H2 (k1.trans k2) (.cons (h1.mono k2) h2)
theorem ED_tup (h : AD tr σ H ds) (hl : ds.length ≤ sizeLine) : ED (tTup tr) σ H (.tuple ds) := fun _ q =>
  h _ fun xs H1 k1 h1 => ⟨h1.length ▸ hl, fun p n => q (.ref p) _ (k1.trans (Kp.new n)) (.tup not_nil upd_same (h1.mono (Kp.new n)))⟩
theorem ED_lst (h : AD tr σ H ds) (hl : ds.length ≤ sizeLine) : ED (tLst tr) σ H (.list ds) := fun _ q =>
  h _ fun xs H1 k1 h1 => ⟨h1.length ▸ hl, fun p n => q (.ref p) _ (k1.trans (Kp.new n)) (.lst not_nil upd_same (h1.mono (Kp.new n)))⟩
theorem r_neB {a b : Bool} (q : Q (.bl (!decide (a = b))) H) : rNe (.bl a) (.bl b) H Q := by
  refine ⟨rfl, ?_⟩
  have e : decide (V.bl a = V.bl b) = decide (a = b) := by cases a <;> cases b <;> rfl
  rw [e]
  exact q
theorem r_eqB {a b : Bool} (q : Q (.bl (decide (a = b))) H) : rEq (.bl a) (.bl b) H Q := by
  refine ⟨rfl, ?_⟩
  have e : decide (V.bl a = V.bl b) = decide (a = b) := by cases a <;> cases b <;> rfl
  rw [e]
  exact q
theorem idx_in {i : Int} {n : Nat} (h0 : 0 ≤ i) (h1 : i < n) : seqIndex? i n = some i.toNat := by
  unfold seqIndex?
  have e : ¬ i < 0 := by omega
  simp [e, h0, h1]
theorem r_popAt {l : Addr} {xs : List V} {i : Int} {y : V} (e : H l = some (.lst xs)) (h0 : 0 ≤ i) (h1 : i < (xs.length : Int)) (h2 : xs.length < 2 ^ 62) (hy : xs[i.toNat]? = some y) (q : ∀ H', Kp [l] H H' → H' l = some (.lst (xs.eraseIdx i.toNat)) → Q y H') : rPopAt (.ref l) [.int i] H Q :=
  ⟨l, xs, i, i.toNat, y, rfl, rfl, e, by omega, by omega, idx_in h0 h1, hy, q _ (Kp.put (by simp)) upd_same⟩
theorem r_cat {l b : Addr} {xs zs : List V} (e : H l = some (.lst xs)) (e' : H b = some (.lst zs)) (hz : xs.length + zs.length ≤ sizeLine) (q : ∀ p H', H p = none → Kp [] H H' → H' p = some (.lst (xs ++ zs)) → Q (.ref p) H') : rCat (.ref l) (.ref b) H Q :=
  ⟨l, b, xs, zs, rfl, rfl, e, e', hz, fun p n => q p _ n (Kp.new n) upd_same⟩
end
end Rd

set_option maxHeartbeats 4000000
/-! DatS: sorted of data, < of data, max(ints, default=d). -/
namespace Rd
open PySem PySem.Spec L2 StX
open PySem.W (AllAlike Sortable dataLe dataLt alike EachIs)
/-- the sorted data -/
def srtD (ds : List PyData) : List PyData := ds.mergeSort (dataLe false id)
theorem srtD_perm (ds : List PyData) : (srtD ds).Perm ds := List.mergeSort_perm _ _
theorem srtD_pw (ds : List PyData) : (srtD ds).Pairwise fun a b => dataLt b a = false := by
  have h := PySem.W.sort_pairwise (PySem.W.sortLe_total (PyProof.Rows.listOrd PyProof.Rows.itemOrd) false fun b : PyData => PySem.W.keyToks (id b)) ds
  refine List.Pairwise.imp (fun {a b} z => ?_) h
  have z' : (!dataLt (id b) (id a)) = true := z
  simpa using z'
def rSortedD (K : PySem.W.Frag) : List V → Hp → VK → Prop := fun vs H Q => ∃ (a : Addr) (bs : List (V × PyData)), vs = [.ref a] ∧ SqL K H a (bs.map Prod.fst) ∧ (∀ b ∈ bs, Dp K H b.1 b.2) ∧ AllAlike (bs.map Prod.snd) ∧ Sortable (bs.map Prod.snd) ∧ bs.length ≤ sizeLine ∧ (∀ b ∈ bs, b.2.depth ≤ 60) ∧
  ∀ p, H p = none → Q (.ref p) (upd H p (.lst ((bs.mergeSort (dataLe false Prod.snd)).map Prod.fst)))
theorem each_pairs {K : PySem.W.Frag} {R : Value → V × PyData → Prop} : ∀ {bs : List (V × PyData)} {us : List Value}, Vals (bs.map Prod.fst) us → (∀ b ∈ bs, ∀ u, RelV b.1 u → R u b) → EachIs R us bs
  | [], _, h, _ => by
    cases h
    exact .nil
  | b :: bs, _, h, g => by
    cases h with
    | cons r t => exact .cons (g b List.mem_cons_self _ r) (each_pairs (K := K) t fun b' m => g b' (List.mem_cons_of_mem _ m))
theorem each_vals : ∀ {us : List Value} {bs : List (V × PyData)}, EachIs (fun u b => RelV b.1 u) us bs → Vals (bs.map Prod.fst) us
  | _, _, .nil => .nil
  | _, _, .cons h t => .cons h (each_vals t)
section
variable {X : Cx}
theorem cr_sortedD (hu : X.A.units + 64 < cLine) : CallR X (.builtin "sorted") (rSortedD X.K) := by
  intro pins s σ H vs us Q I r h
  obtain ⟨a, bs, rfl, hs, hd, hal, hk, hl, hdep, q⟩ := h
  obtain ⟨its, rv, hp, _⟩ := I.list hs
  rw [Vals.ref1 r]
  refine PySem.W.sorted_data (R := fun u b => RelV b.1 u) (enc := Prod.snd) hp.isList (each_pairs (K := X.K) rv fun b _ u z => z) (each_pairs (K := X.K) rv fun b m u z => Dp.reads I b.2 b.1 u (hd b m) z) hal hk hl (fun b m => by
    have := hdep b m
    omega) fun out h1 h2 => ?_
  obtain ⟨ep, he'⟩ := PyProof.Rows.sortedAll_at s.heap its (List.toArray out)
  have hlen : ((bs.mergeSort (dataLe false Prod.snd)).map Prod.fst).length ≤ sizeLine := by
    rw [List.length_map, List.length_mergeSort]
    exact hl
  exact ⟨.ref _, upd H (s.heap.objs.size + 1) (.lst ((bs.mergeSort (dataLe false Prod.snd)).map Prod.fst)), I.laid (t' := s.toks) (fun _ _ => PyProof.Rows.sortedAll_old) (Nat.le_succ _) ⟨hlen, _, ep, by exact each_vals h2, he'⟩, rfl, q _ (I.hok.fresh (Nat.le_succ _))⟩
theorem K_sortedD {K : PySem.W.Frag} (hK : X.K = K) (hu : X.A.units + 64 < cLine) : CallR X (.builtin "sorted") (rSortedD K) := by
  subst hK
  exact cr_sortedD hu
def rLtD (K : PySem.W.Frag) : R2 := fun x y H Q => ∃ d e, Dp K H x d ∧ Dp K H y e ∧ alike d e = true ∧ d ≠ .none ∧ d.depth ≤ 60 ∧ Q (.bl (dataLt d e)) H
theorem op_ltD (hu : X.A.units + 64 < cLine) : OpR X (compareOp .Lt) (rLtD X.K) := by
  intro pins s σ H x y v u Q I rx ry h
  obtain ⟨d, e, hd, he, al, hn, dep, q⟩ := h
  obtain ⟨as, r1⟩ := Dp.reads I d x v hd rx
  obtain ⟨bs, r2⟩ := Dp.reads I e y u he ry
  exact PySem.W.rcLt_alike d e X.A s v u as bs r1 r2 al hn (by have := Nat.min_le_left d.depth e.depth; omega) _ _ _ _ ⟨.bl (dataLt d e), H, I, rfl, q⟩
theorem K_ltD {K : PySem.W.Frag} (hK : X.K = K) (hu : X.A.units + 64 < cLine) : OpR X (compareOp .Lt) (rLtD K) := by
  subst hK
  exact op_ltD hu
/-- max(ints, default=d) -/
def rMaxDf (K : PySem.W.Frag) : List V → List V → Hp → VK → Prop := fun vs zs H Q => ∃ (a : Addr) (ns : List Int) (d : Int), vs = [V.ref a] ∧ zs = [V.int d] ∧ SqL K H a (ns.map V.int) ∧ (ns = [] → Q (.int d) H) ∧ ∀ n r, ns = n :: r → Q (.int (r.foldl max n)) H
theorem reads_ints {h : Heap} : ∀ {ns : List Int} {us : List Value}, Vals (ns.map V.int) us → ∃ as, ReadsAll h us (ns.map PyData.int) as
  | [], _, r => by
    cases r
    exact ⟨_, .nil⟩
  | n :: ns, _, r => by
    cases r with
    | cons r1 r2 =>
      obtain ⟨t, rfl⟩ := r1
      obtain ⟨as, q⟩ := reads_ints (h := h) r2
      exact ⟨_, .cons (.int _ _) q⟩
theorem depth_ints : ∀ ns : List Int, PyData.depthAll (ns.map PyData.int) = 0
  | [] => rfl
  | n :: ns => by
    show max (PyData.int n).depth (PyData.depthAll (ns.map PyData.int)) = 0
    rw [depth_ints ns]
    rfl
theorem cr_maxDf (hu : X.A.units + 64 < cLine) (hc : X.calm = true) : CallRK X (.builtin "max") [Str.ofString "default"] (rMaxDf X.K) := by
  intro pins s σ H xs zs us ws Q I r1 r2 h
  obtain ⟨a, ns, d, rfl, rfl, hs, q0, q⟩ := h
  obtain ⟨its, rv, hp, _⟩ := I.list hs
  rw [Vals.ref1 r1]
  obtain ⟨wd, rfl, rd⟩ := r2.one
  obtain ⟨as, hr⟩ := reads_ints (h := s.heap) rv
  refine PySem.W.max_list_default (l := a) (vs := its.toArray) (xs := ns.map PyData.int) (as := as) (I.ok.hd hc) hp.isList hr ?_ (by rw [depth_ints]; omega) (fun e h' tk hk => ?_) fun y ys i v h' tk bs e _ rd' hk => ?_
  · refine ⟨fun x m y m' => ?_, fun x m => ?_⟩
    · obtain ⟨x', _, rfl⟩ := List.mem_map.mp m
      obtain ⟨y', _, rfl⟩ := List.mem_map.mp m'
      rfl
    · obtain ⟨x', _, rfl⟩ := List.mem_map.mp m
      exact fun z => nomatch z
  · exact ⟨.int d, H, I.kept hk, rd, q0 (List.map_eq_nil_iff.mp e)⟩
  · cases ns with
    | nil => cases e
    | cons n ns =>
      cases e
      rw [PySem.W.maxD_ints] at rd'
      cases rd' with
      | int _ t => exact ⟨.int _, H, I.kept hk, ⟨t, rfl⟩, q n ns rfl⟩
theorem K_maxDf {K : PySem.W.Frag} (hK : X.K = K) (hu : X.A.units + 64 < cLine) (hc : X.calm = true) : CallRK X (.builtin "max") [Str.ofString "default"] (rMaxDf K) := by
  subst hK
  exact cr_maxDf hu hc
end
section
variable {K : PySem.W.Frag} {H : Hp} {Q : VK} {p : Addr} {xs : List V} {ds : List PyData} {ex ex' : List Addr} {x y : V} {d e : PyData} {σ : St} {ns : List Int} {i : Int}
theorem zip_fst : ∀ {xs : List V} {ds : List PyData}, DtAll ex H xs ds → (xs.zip ds).map Prod.fst = xs ∧ (xs.zip ds).map Prod.snd = ds ∧ ∀ b ∈ xs.zip ds, Dt ex H b.1 b.2
  | _, _, h => by
    match h with
    | .nil => exact ⟨rfl, rfl, fun b m => nomatch m⟩
    | .cons h0 h1 =>
      obtain ⟨e1, e2, e3⟩ := zip_fst h1
      refine ⟨?_, ?_, fun b m => ?_⟩
      · rw [List.zip_cons_cons, List.map_cons, e1]
      · rw [List.zip_cons_cons, List.map_cons, e2]
      · rw [List.zip_cons_cons] at m
        rcases List.mem_cons.mp m with rfl | m
        · exact h0
        · exact e3 b m
theorem dtAll_of {bs : List (V × PyData)} (h : ∀ b ∈ bs, Dt ex H b.1 b.2) : DtAll ex H (bs.map Prod.fst) (bs.map Prod.snd) := by
  induction bs with
  | nil => exact .nil
  | cons b bs ih => exact .cons (h b List.mem_cons_self) (ih fun b' m => h b' (List.mem_cons_of_mem _ m))
theorem r_sortedD (hq : SqL K H p xs) (hd : DtAll ex H xs ds) (hal : AllAlike ds) (hk : Sortable ds) (hl : ds.length ≤ sizeLine) (hdep : ∀ d ∈ ds, d.depth ≤ 60)
    (q : ∀ l ys H', H l = none → Kp [] H H' → H' l = some (.lst ys) → DtAll ex H ys (srtD ds) → Q (.ref l) H') : rSortedD K [.ref p] H Q := by
  obtain ⟨e1, e2, e3⟩ := zip_fst hd
  have hlen : (xs.zip ds).length = ds.length := by
    rw [← e2, List.length_map]
    rw [e2]
  refine ⟨p, xs.zip ds, rfl, by rw [e1]; exact hq, fun b m => (e3 b m).dp, by rw [e2]; exact hal, by rw [e2]; exact hk, by rw [hlen]; exact hl, fun b m => hdep _ (by rw [← e2]; exact List.mem_map.mpr ⟨b, m, rfl⟩), fun l n => ?_⟩
  refine q l _ _ n (Kp.new n) upd_same ?_
  have es : ((xs.zip ds).mergeSort (dataLe false Prod.snd)).map Prod.snd = srtD ds := by
    have := PySem.W.sort_maps (r := dataLe false Prod.snd) (s := dataLe false id) Prod.snd (l := xs.zip ds) (fun a _ b _ => rfl)
    rw [this, e2]
    rfl
  rw [← es]
  exact dtAll_of fun b m => e3 b ((List.mergeSort_perm _ _).mem_iff.mp m)
theorem r_ltD (hx : Dt ex H x d) (hy : Dt ex' H y e) (al : alike d e = true) (hn : d ≠ .none) (dep : d.depth ≤ 60) (q : Q (.bl (dataLt d e)) H) : rLtD K x y H Q := ⟨d, e, hx.dp, hy.dp, al, hn, dep, q⟩
def kKw1 (r : List V → List V → Hp → VK → Prop) (tk : TA) (σ : St) (Q : VK) : List V → Hp → Prop := fun vs H1 => tk σ H1 fun zs H2 => r vs zs H2 Q
def kKw2 (r : List V → List V → Hp → VK → Prop) (vs : List V) (Q : VK) : List V → Hp → Prop := fun zs H2 => r vs zs H2 Q
theorem r_ckw {r : List V → List V → Hp → VK → Prop} {t tk : TA} (q : t σ H (kKw1 r tk σ Q)) : tCKw r t tk σ H Q := q
theorem r_kKw1 {r : List V → List V → Hp → VK → Prop} {tk : TA} {vs : List V} (q : tk σ H (kKw2 r vs Q)) : kKw1 r tk σ Q vs H := q
theorem r_kKw2 {r : List V → List V → Hp → VK → Prop} {vs zs : List V} (q : r vs zs H Q) : kKw2 r vs Q zs H := q
theorem r_maxDf (hs : SqL K H p (ns.map V.int)) (q0 : ns = [] → Q (.int i) H) (q : ∀ n r, ns = n :: r → Q (.int (r.foldl max n)) H) : rMaxDf K [.ref p] [.int i] H Q := ⟨p, ns, i, rfl, rfl, hs, q0, q⟩
end
end Rd

set_option maxHeartbeats 4000000
/-! Cm: d.items() as a view, sorted(d.items()) of a dict from texts to numbers; dict(pairs); d[k] as a target; x(*y) where an object is made. -/
namespace Rd
open PySem PySem.Spec L2 StX PyProof.Rows
open PySem.W (AllAlike Sortable dataLe dataLt alike EachIs)
/-! ### a dict from texts to numbers, its pairs -/
def ndK (nds : List (Str × Int)) : List (Key × V) := nds.map fun q => (Sum.inr q.1, V.int q.2)
def ndD (q : Str × Int) : PyData := .tuple [.str q.1, .int q.2]
def srtN (nds : List (Str × Int)) : List (Str × Int) := nds.mergeSort (dataLe false ndD)
theorem srtN_perm (nds : List (Str × Int)) : (srtN nds).Perm nds := List.mergeSort_perm _ _
theorem ndD_alike (a b : Str × Int) : alike (ndD a) (ndD b) = true := rfl
theorem ndD_sortable {β : Type} (f : β → Str × Int) (bs : List β) : Sortable (bs.map fun b => ndD (f b)) := Sortable.tuples fun b => ⟨_, _, rfl⟩
theorem ndD_all {β : Type} (f : β → Str × Int) (bs : List β) : AllAlike (bs.map fun b => ndD (f b)) := AllAlike.of fun a b => ndD_alike (f a) (f b)
theorem srtD_nds (nds : List (Str × Int)) : srtD (nds.map ndD) = (srtN nds).map ndD :=
  (PySem.W.sort_maps (r := dataLe false ndD) (s := dataLe false id) ndD (l := nds) (fun _ _ _ _ => rfl)).symm
def rItemsK : V → List V → Hp → VK → Prop := fun x xs H Q => ∃ (a : Addr) (kvs : List (Key × V)), x = .ref a ∧ xs = [] ∧ H a = some (.dK kvs) ∧ ∀ p, H p = none → Q (.ref p) (upd H p (DX.itemsO p a))
def rSortN : List V → Hp → VK → Prop := fun vs H Q => ∃ (p a : Addr) (nds : List (Str × Int)), vs = [.ref p] ∧ H p = some (DX.itemsO p a) ∧ H a = some (.dK (ndK nds)) ∧
  ∀ (H' : Hp) (l : Addr) (ts : List Addr), (∀ b o, H b = some o → H' b = some o) → H l = none → H' l = some (.lst (ts.map V.ref)) → (∀ t ∈ ts, H t = none) → Paired (fun t q => H' t = some (.tup [.str q.1, .int q.2])) ts (srtN nds) → Q (.ref l) H'
theorem paired_maps {α β γ : Type} {R : β → γ → Prop} {f : α → β} {g : α → γ} : ∀ {l : List α}, (∀ x ∈ l, R (f x) (g x)) → Paired R (l.map f) (l.map g)
  | [], _ => .nil
  | x :: l, h => .cons (h x List.mem_cons_self) (paired_maps (l := l) fun y m => h y (List.mem_cons_of_mem _ m))
theorem each_of_maps {α : Type} {R : Value → α → Prop} {f : α → Value} : ∀ {l : List α}, (∀ x ∈ l, R (f x) x) → EachIs R (l.map f) l
  | [], _ => .nil
  | x :: l, h => .cons (h x List.mem_cons_self) (each_of_maps (l := l) fun y m => h y (List.mem_cons_of_mem _ m))
theorem vals_of_maps {α : Type} (f : α → V) (g : α → Value) (h : ∀ x, RelV (f x) (g x)) : ∀ l : List α, Vals (l.map f) (l.map g)
  | [] => .nil
  | x :: l => .cons (h x) (vals_of_maps f g h l)
theorem each_maps_of {α : Type} {f : α → Value} : ∀ {us : List Value} {l : List α}, EachIs (fun u x => u = f x) us l → us = l.map f
  | _, _, .nil => rfl
  | _, _, .cons h t => by rw [h, each_maps_of t]; rfl
section
variable {X : Cx}
theorem mt_itemsK : MtR X "dict.items" rItemsK := by
  intro pins s σ H x xs v us Q I rx rxs h
  obtain ⟨a, kvs, rfl, rfl, ha, q⟩ := h
  cases rx
  cases rxs
  obtain ⟨hz, hs0, vs, kv, hdo⟩ := I.hok a _ ha
  obtain ⟨es, ep, raw, _, _⟩ := Heap.DictOf.raw hdo
  refine DT.callItems (es := es) (ep := ep) hs0 raw ?_
  have hf : H s.heap.objs.size = none := I.hok.fresh (Nat.le_refl _)
  exact ⟨.ref s.heap.objs.size, upd H s.heap.objs.size (DX.itemsO s.heap.objs.size a), I.laid (t' := s.toks) (fun b u e => Heap.get?_push_of_some _ e) (Nat.le_refl _) (DX.itemsO_ok (Heap.get?_push_size _ rfl)), rfl, q _ hf⟩
theorem cr_sortN (hc : X.calm = true) (hu : X.A.units + 64 < cLine) : CallR X (.builtin "sorted") rSortN := by
  intro pins s σ H xs us Q I r h
  obtain ⟨p, a, nds, rfl, hp, ha, q⟩ := h
  obtain rfl := Vals.ref1 r
  have view : s.heap.IsItemsView p a := (show ObjOk X.prog X.w H s.heap p (DX.itemsO p a) from I.hok p _ hp).1
  obtain ⟨hz, hs0, vs, kv, hdo⟩ := I.hok a _ ha
  obtain ⟨es, ep, raw, hes, hat⟩ := Heap.DictOf.raw hdo
  have l0 : (ndK nds).length = nds.length := List.length_map _
  have l1 : (ndK nds).length = vs.length := Paired.length kv
  have hh : X.A.handled = none := I.ok.hd hc
  refine DT.sortedI (es := es) (ep := ep) hh view raw (by omega) fun h' tk as hk hlt hl hG => ?_
  have lak : as.length = nds.length := by omega
  have nd : as.Nodup := List.Pairwise.imp (fun h => Nat.ne_of_lt h) hG.rise
  -- the pairs that were made
  have pr : ∀ (j : Nat) (b : Addr), as[j]? = some b → ∃ (e : Str × Int) (t u : Tok), nds[j]? = some e ∧ h'.get? b = some { cls := .type "tuple", data := .seq #[Value.str e.1 t, Value.int e.2 u] } := by
    intro j b hj
    obtain ⟨en, he, hg⟩ := hG.pairs j b hj
    have hj' : j < es.size := (Array.getElem?_eq_some_iff.mp he).1
    have hjn : j < nds.length := by omega
    have hv : vs[j]? = some vs[j] := List.getElem?_eq_getElem (by omega)
    obtain ⟨k1, k2⟩ := hat j hj' vs[j].1 vs[j].2 hv
    have een : es[j] = en := by
      rw [Array.getElem?_eq_getElem hj'] at he
      exact Option.some.inj he
    rw [een] at k1 k2
    have hnk : (ndK nds)[j]? = some (Sum.inr nds[j].1, V.int nds[j].2) := by
      unfold ndK
      rw [List.getElem?_map, List.getElem?_eq_getElem hjn]
      rfl
    obtain ⟨v', hv', r1, r2⟩ := LiI.paired_get kv hnk
    have ev : v' = vs[j] := Option.some.inj (hv'.symm.trans hv)
    rw [ev] at r1 r2
    rw [← r1] at k1
    obtain ⟨t, et⟩ : ∃ t, en.key = Value.str nds[j].1 t := relV_key (k := Sum.inr nds[j].1) k1
    obtain ⟨u, eu⟩ := (show ∃ u, vs[j].2 = Value.int nds[j].2 u from r2)
    refine ⟨nds[j], t, u, List.getElem?_eq_getElem hjn, ?_⟩
    rw [hg, et, k2, eu]
  -- the heap of the sort
  have hob : (h'.push { cls := .type "list", data := .seq (as.map Value.ref).toArray }).get? h'.objs.size = some (seqObj "list" (as.map Value.ref).toArray 0) := Heap.get?_push_size _ rfl
  have kb : ∀ b o, s.heap.get? b = some o → (h'.push { cls := .type "list", data := .seq (as.map Value.ref).toArray }).get? b = some o := fun b o e => Heap.get?_push_of_some _ (hk b o e)
  have ne0 : ∀ b o, h'.get? b = some o → b ≠ h'.objs.size := fun b o e => Nat.ne_of_lt (Heap.lt_size e)
  generalize hh2 : h'.push { cls := .type "list", data := .seq (as.map Value.ref).toArray } = h2 at hob kb ⊢
  have ka : ∀ b o, h'.get? b = some o → h2.get? b = some o := fun b o e => by rw [← hh2]; exact Heap.get?_push_of_some _ e
  have zf : (as.zip nds).map (fun z => Value.ref z.1) = as.map Value.ref := by
    have : (as.zip nds).map (fun z => Value.ref z.1) = ((as.zip nds).map Prod.fst).map Value.ref := (List.map_map ..).symm
    rw [this, List.map_fst_zip (by omega)]
  have zat : ∀ z ∈ as.zip nds, ∃ (j : Nat) (t u : Tok), as[j]? = some z.1 ∧ nds[j]? = some z.2 ∧ h'.get? z.1 = some { cls := .type "tuple", data := .seq #[Value.str z.2.1 t, Value.int z.2.2 u] } := by
    intro z hz'
    obtain ⟨j, hj⟩ := List.mem_iff_getElem?.mp hz'
    obtain ⟨j1, j2⟩ := List.getElem?_zip_eq_some.mp hj
    obtain ⟨e, t, u, he, hg⟩ := pr j z.1 j1
    have ee : e = z.2 := Option.some.inj (he.symm.trans j2)
    rw [ee] at hg
    exact ⟨j, t, u, j1, j2, hg⟩
  refine PySem.W.list_sort_data (s := { s with heap := h2, toks := tk }) (vs := as.map Value.ref) (bs := as.zip nds) (R := fun v z => v = Value.ref z.1) (enc := fun z => ndD z.2) hob ?_ ?_ (ndD_all Prod.snd _) (ndD_sortable Prod.snd _) (by rw [List.length_zip]; omega) (fun b _ => ?_) fun out o1 o2 => ?_
  · rw [← zf]
    exact each_of_maps fun z _ => rfl
  · rw [← zf]
    refine each_of_maps fun z hz' => ?_
    obtain ⟨j, t, u, j1, j2, hg⟩ := zat z hz'
    exact ⟨_, .tuple (ka _ _ hg) rfl rfl (.cons (.str _ _) (.cons (.int _ _) .nil)), fun m => nomatch m⟩
  · show X.A.in1.units + 1 + 1 < cLine
    have : X.A.in1.units = X.A.units + 1 := rfl
    omega
  · show EP X pins σ Q (.ref h'.objs.size) { s with heap := sortedHeap h2 h'.objs.size (as.map Value.ref) (List.toArray out), toks := tk }
    have eout : out = ((as.zip nds).mergeSort (dataLe false fun z => ndD z.2)).map fun z => Value.ref z.1 := each_maps_of o2
    generalize hzs : (as.zip nds).mergeSort (dataLe false fun z => ndD z.2) = zs at eout
    have pz : zs.Perm (as.zip nds) := hzs ▸ List.mergeSort_perm _ _
    have ez : zs.map Prod.snd = srtN nds := by
      rw [← hzs]
      have := PySem.W.sort_maps (r := dataLe false fun z : Addr × Str × Int => ndD z.2) (s := dataLe false ndD) Prod.snd (l := as.zip nds) (fun _ _ _ _ => rfl)
      rw [this, List.map_snd_zip (by omega)]
      rfl
    have kF : ∀ b o, b ≠ h'.objs.size → h2.get? b = some o → (sortedHeap h2 h'.objs.size (as.map Value.ref) (List.toArray out)).get? b = some o := fun b o hb e => (PyProof.Rows.sortedHeap_old hb (Heap.lt_size e)).trans e
    have kS : ∀ b o, s.heap.get? b = some o → (sortedHeap h2 h'.objs.size (as.map Value.ref) (List.toArray out)).get? b = some o := fun b o e => kF b o (ne0 _ _ (hk b o e)) (kb b o e)
    obtain ⟨eF, heF⟩ := PyProof.Rows.sortedHeap_at (vs := as.map Value.ref) (out := List.toArray out) hob
    have I1 : Inv X pins σ H { s with heap := sortedHeap h2 h'.objs.size (as.map Value.ref) (List.toArray out), toks := tk } := I.kept (t' := tk) kS
    have hn0 : H h'.objs.size = none := I.hok.fresh (Nat.le_of_lt hlt)
    have lz : zs.length = nds.length := by
      have := congrArg List.length ez
      rw [List.length_map] at this
      rw [this, (srtN_perm nds).length_eq]
    have hlen : (zs.map fun z => V.ref z.1).length ≤ sizeLine := by
      rw [List.length_map]
      omega
    have rv : Vals (zs.map fun z => V.ref z.1) out := by
      rw [eout]
      exact vals_of_maps (fun z : Addr × Str × Int => V.ref z.1) (fun z => Value.ref z.1) (fun _ => rfl) zs
    have I2 : Inv X pins σ (upd H h'.objs.size (.lst (zs.map fun z => V.ref z.1))) { s with heap := sortedHeap h2 h'.objs.size (as.map Value.ref) (List.toArray out), toks := tk } :=
      I1.take (h' := sortedHeap h2 h'.objs.size (as.map Value.ref) (List.toArray out)) (t' := tk) (fun b ob _ e => e) (I.fpOk (Nat.le_of_lt hlt) hn0) ⟨hlen, out, eF, rv, heF⟩
    obtain ⟨H2, I3, g, qt⟩ := DX.takeT (P := fun b ws => ∃ (j : Nat) (e : Str × Int), as[j]? = some b ∧ nds[j]? = some e ∧ ws = [.str e.1, .int e.2]) I as _ I2 nd fun b hb => by
      obtain ⟨j, hj⟩ := List.mem_iff_getElem?.mp hb
      obtain ⟨e, t, u, he, hg⟩ := pr j b hj
      have hbl : s.heap.objs.size ≤ b := Nat.le_of_lt (hG.above b hb)
      refine ⟨hbl, ?_, [.str e.1, .int e.2], ⟨j, e, hj, he, rfl⟩, fun H3 => ⟨(by show 2 ≤ sizeLine; decide), [Value.str e.1 t, Value.int e.2 u], .cons ⟨_, rfl⟩ (.cons ⟨_, rfl⟩ .nil), ⟨_, kF _ _ (ne0 _ _ hg) (ka _ _ hg), rfl, 0, rfl⟩⟩⟩
      rw [upd_ne (ne0 _ _ hg)]
      exact I.hok.fresh hbl
    have gr : ∀ b o, H b = some o → H2 b = some o := fun b o e => g b o (by rw [upd_ne (ne_of_none e hn0)]; exact e)
    refine ⟨.ref h'.objs.size, H2, I3, rfl, q H2 h'.objs.size (zs.map Prod.fst) gr hn0 ?_ (fun t ht => ?_) ?_⟩
    · have := g _ _ (upd_same (H := H) (a := h'.objs.size) (o := .lst (zs.map fun z => V.ref z.1)))
      rw [this, List.map_map]
      rfl
    · obtain ⟨z, hz', rfl⟩ := List.mem_map.mp ht
      obtain ⟨j, t, u, j1, j2, hg⟩ := zat z (pz.mem_iff.mp hz')
      exact I.hok.fresh (Nat.le_of_lt (hG.above _ (List.mem_of_getElem? j1)))
    · rw [← ez]
      refine paired_maps fun z hz' => ?_
      obtain ⟨i, _, _, i1, i2, _⟩ := zat z (pz.mem_iff.mp hz')
      obtain ⟨ws, ⟨j, e, j1, j2, ev⟩, hH⟩ := qt z.1 (List.mem_of_getElem? i1)
      have eij : i = j := (List.getElem?_inj (List.getElem?_eq_some_iff.mp i1).1 nd).mp (i1.trans j1.symm)
      subst eij
      have ee : e = z.2 := Option.some.inj (j2.symm.trans i2)
      rw [ev, ee] at hH
      exact hH
end
end Rd

set_option maxHeartbeats 4000000
/-! Sup: defs with the cell __class__; super().__init__(text) of an exception over ValueError, as a body's first statement. -/
namespace Rd
open PySem PySem.Spec L2 NdefX

/-! ### a body at its own code -/
structure QS (X : Cx) (c : Code) (ss : List Stmt) (t : TS) : Prop where
  run : ∀ (pins : List (Addr × Obj)) (s : Shared) (σ : St) (H : Hp) (D : Ends), Inv X pins σ H s → t D σ H → _root_.PySem.wpAt (model X.prog X.w) X.A c (execs ss X.env) (SP X pins D) X.xe s
theorem qs_of {X : Cx} {c : Code} {ss : List Stmt} {t : TS} (h : PSs X ss t) : QS X c ss t := ⟨fun pins s σ H D I q => wpAt_of_wpAny (h.run pins s σ H D I q)⟩

/-! ### a def of the text with the cell __class__ -/
theorem cells_written {P : Program} {w : World} {K : PySem.W.Frag} {mg : Str → Option Value} {base : Heap} {A : Around} {outer : List Env} {s : Shared} {H : Hp} {cc : Addr} {u : Value} {cl : Value} {cld : Option Addr} {csl : Array (Option Value)}
    (e0 : Env0 P w K mg base A outer s H) (cell : K.lookup cc = some ⟨cl, cld, .cell (some u), csl⟩) : CellsAt [("__class__", cc)] ["__class__"] [none] s.heap H := by
  have hb := e0.bs _ _ (e0.mod.kin _ _ cell)
  have hc : s.heap.IsCell cc (some u) := ⟨_, hb.1, rfl⟩
  have look : ∀ {y : Str} {c : Addr}, ([("__class__", cc)] : List (Str × Addr)).lookup y = some c → y = "__class__" ∧ c = cc := fun {y c} h => by
    rw [List.lookup_cons] at h
    by_cases e : (y == ("__class__" : Str)) = true
    · rw [e] at h
      exact ⟨beq_iff_eq.mp e, (Option.some.inj h).symm⟩
    · rw [Bool.eq_false_iff.mpr e] at h
      cases h
  refine ⟨rfl, fun y c h => ?_, fun x y c h1 h2 => (look h1).1.trans (look h2).1.symm, fun i y h => ?_⟩
  · obtain ⟨_, rfl⟩ := look h
    exact ⟨hb.2, _, hc⟩
  · match i, h with
    | 0, h =>
      cases h
      exact ⟨cc, by rw [List.lookup_cons]; simp, fun v hv => nomatch hv⟩
    | i + 1, h => cases h
theorem fn_sup {CX : CXT} {P : Program} {w : World} {K : PySem.W.Frag} {mg : Str → Option Value} {base : Heap} {k : Nat} {f cc cda : Addr} {name qual : Str} {params : Arguments} {body : List Stmt} {scope : Scope} {dV kV doc pm ct oc cl u : Value} {an od cld : Option Addr}
    {osl csl : Array (Option Value)} {N ps : List Str} {sp : Sp} (lk : K.lookup f = some ⟨oc, od, .func (PySem.W.ksFn name qual params body scope dV kV doc pm an (.ref cda) ct cc), osl⟩) (hcd : PySem.W.codeIn K (.ref cda) qual = true)
    (cell : K.lookup cc = some ⟨cl, cld, .cell (some u), csl⟩) (S : NScope N ps ["__class__"] scope)
    (len : ∀ vs H Q E, sp vs H Q E → vs.length = ps.length)
    (hbody : ∀ (A : Around) (outer : List Env) (s : Shared) (H : Hp) (vs : List V) (Q : VK) (E : XK), Room k (A.deeper (envF ⟨name, qual, params, body, scope, [("__class__", cc)], cda⟩ f s.heap.objs.size)) → sp vs H Q E →
      ∃ t, QS (ncx CX P w K mg base N ⟨name, qual, params, body, scope, [("__class__", cc)], cda⟩ f A outer s H E) (.func body (envF ⟨name, qual, params, body, scope, [("__class__", cc)], cda⟩ f s.heap.objs.size)) body t ∧
        t { nx := fun _ H' => Q .non H', rt := Q } (startF N vs [none]) H) : FnOk P w K mg base CX (k + 1) f (PySem.W.ksFn name qual params body scope dV kV doc pm an (.ref cda) ct cc) ps sp := by
  refine ⟨len, fun A outer s H args us vs Q E hr e0 hb r hsp => ?_⟩
  have hl := len _ _ _ _ hsp
  have KX : K.In s.heap := e0.mod.kin.keeps fun b o e => (e0.bs b o e).1
  have lim : s.heap.NoLimit := e0.mod.nolimit.keeps fun b o e => (e0.bs b o e).1
  refine codeAny_call_function hr.depth (KX _ _ lk) rfl S.co S.gen rfl (PySem.W.codeRec_of KX hcd) (hb _ _ _ _ ?_)
  refine (wpAny_newFunctionEnv S.nocell (fun ⟨n, _⟩ hy => S.par n (List.of_mem_zip hy).1) (fun h₁ hns hsb => ⟨lim.fresh _ hsb, ?_⟩) S.kind)
  show codeAny _ _ (.func body (envF ⟨name, qual, params, body, scope, [("__class__", cc)], cda⟩ f s.heap.objs.size)) _ _
  refine ks_codeAny_funcAt ?_
  have kp : ∀ b o, s.heap.get? b = some o → h₁.get? b = some o := fun b o e => hsb.extBut b o (Nat.ne_of_lt (Heap.lt_size e)) (Heap.get?_push_of_some _ e)
  obtain ⟨t, ht, hq⟩ := hbody A outer s H vs Q E (hr.deeper _) hsp
  have I : Inv (ncx CX P w K mg base N ⟨name, qual, params, body, scope, [("__class__", cc)], cda⟩ f A outer s H E) [] (startF N vs [none]) H { s with heap := h₁, toks := s.toks + (ps.zip us).length } := inv_startN S hr.hd e0 hl r (cells_written e0 cell) hns kp
  refine ks_wpAt_mono (ht.run [] _ (startF N vs [none]) H _ I hq) (fun fl s' hs => ?_) fun e s' hs => hs
  have fin : ∀ {σ' : L2.St} {H' : Hp} {v : V} {u : Value}, Inv (ncx CX P w K mg base N ⟨name, qual, params, body, scope, [("__class__", cc)], cda⟩ f A outer s H E) [] σ' H' s' → RelV v u → Q v H' → CE outer P w H s Q u s' := fun {σ' H' v u} J rv q => ⟨v, H', J.os, J.bare, J.base, J.hok, rv, q⟩
  match fl, hs with
  | .ret u, ⟨v, σ', H', J, rv, q⟩ => exact fin J rv q
  | .next, ⟨σ', H', J, q⟩ => exact fin (v := V.non) (u := Value.none) J rfl q
  | .brk, ⟨_, _, _, q⟩ => exact False.elim q
  | .cont, ⟨_, _, _, q⟩ => exact False.elim q

/-! ### the wrapper's call -/
section
variable {prog : Program} {w : World} {A : Around} {E : Value → Shared → Prop} {h : Heap} {g : Array GenState} {d : Drawn} {t : Nat} {os : OsState}
variable {nm q : Str} {C N : Addr} {bs bm bmB : List Value} {hdct : Bool} {sn : List Str} {sub : List Value} {ab : Bool} {col : Option Bool} {dd : Option Addr} {k0 k1 k2 k3 k5 : Option Value} {B newId initId : String}
theorem mw_call (F : ExcBaseFacts B newId initId bmB) {u e t0 : Addr} {rest : List Value} {Q : Value → Shared → Prop}
    (hC : h.get? C = some (excClassObj nm q C N bs bm hdct sn sub ab col dd k0 k1 k2 k3 k5 newId)) (he : h.get? e = some (HandSPX.excO C t0)) (hu : h.get? u = some (W.kxs_mw initId e)) (hrest : rest.length ≤ sizeLine)
    (hq : ∀ h' t1, (∀ b o, b ≠ e → h.get? b = some o → h'.get? b = some o) → h'.get? e = some (HandSPX.excO C t1) → Q .none ⟨h', g, d, t, os⟩) : wpAny (model prog w) A (call (.ref u) rest) Q E ⟨h, g, d, t, os⟩ := by
  refine wpAny_call (codeAny_of_tree ?_)
  show wpAny _ A.in1 (callAny (.ref u) ⟨rest, []⟩) _ _ _
  unfold callAny
  refine wpAny_bind (wpAny_load hu ?_)
  simp only [show (Value.type "method-wrapper" == Value.type "method" || Value.type "method-wrapper" == Value.type "builtin_function_or_method" || Value.type "method-wrapper" == Value.type "method-wrapper") = true by decide, if_true]
  refine W.KFB.if_so (by decide) (wpAny_bind (W.check_bound_init F.toExcCallFacts hC he rfl (wpAny_bind (wpAny_pure (wpAny_pure ⟨plainId_quiet F.init.plain _, codeAny_builtin F.initEntry ?_⟩)))))
  rw [Around.under_plainId F.init.plain _]
  wp_walk
  refine hq _ h.objs.size (fun b o hb ho => ?_) ?_
  · rw [Heap.get?_update_other _ _ (Ne.symm hb)]
    exact Heap.get?_push_of_some _ ho
  · rw [Heap.get?_update_self _ (Heap.get?_push_of_some _ he) rfl]
    rfl
end

/-! ### super().__init__(text) -/
/-- what is asked of an exception's class at C (straight or farther over ValueError), whose __init__ has the code object at cda -/
structure SupC (P : Program) (K : PySem.W.Frag) (mg : Str → Option Value) (C cda : Addr) : Prop where
  oex : OexC K C
  up : PySem.W.ks_superIn K C C "__init__" = some (some (.builtin "ValueError.__init__"))
  sub : PySem.W.subIn K (.ref C) (.type "ValueError") = some true
  own : PySem.W.mroIn K C (.ref C) = some true
  opq : PySem.W.nsIn K cStatics "thirdparty.any" = some none
  zs : mg "super" = none
  file : ∃ ccl cdd vs ccs fl tf, K.lookup cda = some ⟨ccl, cdd, .fields vs, ccs⟩ ∧ vs[2]? = some (.str fl tf) ∧ (P.main.file == fl) = true
  top : (P.main.scope.names.lookup ("super" : Str)).isSome = false
def tSupI (C : Addr) (t : TS) : TS := fun D σ H => ∃ a, σ[0]? = some (some (.ref a)) ∧ H a = some (exo a C none) ∧ t D σ H
theorem qs_sup {CX : CXT} {P : Program} {w : World} {K : PySem.W.Frag} {mg : Str → Option Value} {base : Heap} {f cc cda C : Addr} {name qual : Str} {params : Arguments} {body body' : List Stmt} {scope : Scope} {dV kV doc pm ct oc cl : Value} {an od cld : Option Addr}
    {osl csl : Array (Option Value)} {N : List Str} {A : Around} {outer : List Env} {s0 : Shared} {H0 : Hp} {E : XK} {ar : Arg} {p0 p1 p2 p3 p4 p5 : Pos} {m : Str} {j : Nat} {pl : Sem Bool} {rest : List Stmt} {t : TS}
    (lk : K.lookup f = some ⟨oc, od, .func (PySem.W.ksFn name qual params body scope dV kV doc pm an (.ref cda) ct cc), osl⟩) (cell : K.lookup cc = some ⟨cl, cld, .cell (some (.ref C)), csl⟩) (Z : SupC P K mg C cda)
    (hks : scope.names.lookup ("super" : Str) = some .globalImplicit) (hkc : scope.names.lookup ("__class__" : Str) = some .free) (hp : (params.posonlyargs ++ params.args).head? = some ar) (hN : N[0]? = some ar.arg)
    (hka : scope.names.lookup ar.arg = some .local) (hk : scope.kind = .function)
    (hi : interactive (envF ⟨name, qual, params, body, scope, [("__class__", cc)], cda⟩ f s0.heap.objs.size) = false)
    (hs : swapsWith (.Call (.Attribute (.Call (.Name "super" p0) [] [] p1) "__init__" p2) [.Constant (.str m) j p3] [] p4) none p5.line (envF ⟨name, qual, params, body, scope, [("__class__", cc)], cda⟩ f s0.heap.objs.size) = pure false)
    (he : eval (.Call (.Attribute (.Call (.Name "super" p0) [] [] p1) "__init__" p2) [.Constant (.str m) j p3] [] p4) (envF ⟨name, qual, params, body, scope, [("__class__", cc)], cda⟩ f s0.heap.objs.size) = (do
      let ov ← attributeBase (.Call (.Name "super" p0) [] [] p1) "__init__" (envF ⟨name, qual, params, body, scope, [("__class__", cc)], cda⟩ f s0.heap.objs.size) (eval (.Call (.Name "super" p0) [] [] p1) (envF ⟨name, qual, params, body, scope, [("__class__", cc)], cda⟩ f s0.heap.objs.size))
      standAt p2.atName
      let (fx, first) ← holding [ov] (getMethod ov "__init__" pl)
      callWith p4 fx first (backTo p4 (starEach [.Constant (.str m) j p3] (envF ⟨name, qual, params, body, scope, [("__class__", cc)], cda⟩ f s0.heap.objs.size))) []))
    (hst : starEach [.Constant (.str m) j p3] (envF ⟨name, qual, params, body, scope, [("__class__", cc)], cda⟩ f s0.heap.objs.size) = [(false, eval (.Constant (.str m) j p3) (envF ⟨name, qual, params, body, scope, [("__class__", cc)], cda⟩ f s0.heap.objs.size))])
    (hr : QS (ncx CX P w K mg base N ⟨name, qual, params, body, scope, [("__class__", cc)], cda⟩ f A outer s0 H0 E) (.func body' (envF ⟨name, qual, params, body, scope, [("__class__", cc)], cda⟩ f s0.heap.objs.size)) rest t) :
    QS (ncx CX P w K mg base N ⟨name, qual, params, body, scope, [("__class__", cc)], cda⟩ f A outer s0 H0 E) (.func body' (envF ⟨name, qual, params, body, scope, [("__class__", cc)], cda⟩ f s0.heap.objs.size))
      (.Expr (.Call (.Attribute (.Call (.Name "super" p0) [] [] p1) "__init__" p2) [.Constant (.str m) j p3] [] p4) p5 :: rest) (tSupI C t) := by
  constructor
  intro pins s σ H D I ⟨a, hσ, ha, q⟩
  have KX := I.kIn
  obtain ⟨t1, ho⟩ := exo_at I.hok ha
  obtain ⟨ccl, cdd, vs, ccs, fl, tf, hcode, hvs, hfile⟩ := Z.file
  obtain ⟨nm, qq, N', bs, bm, sn, sub, ab, col, dd, k0, k1, k2, k3, k5, hC, hbm⟩ := Z.oex.cls
  refine ks_wpAt_execs_cons (ks_wpAt_Expr_any (ks_wpAt_MethodCall (pl := pl) ?_ he) hi hs)
  obtain ⟨hh, g, d, tk, os⟩ := s
  have hD1 := KX _ _ hC
  refine ks_wpAt_super_base hks hkc (by decide) rfl (KX _ _ lk) rfl hp rfl (KX _ _ hcode) rfl hvs hfile Z.top ?_
  obtain ⟨mb, hbn, hbv⟩ := I.ok.mod.blt
  have hbo : bootBuiltins "super" = some (.type "super") := by first | rfl | decide +kernel
  refine W.ks_loadName_global hk hks (Calls.loadGlobal_builtin (I.mod.glob.keeps I.bk) Z.zs (hbn.keeps I.bk) ((hbv ("super" : Str) (by decide +kernel)).trans hbo) ⟨rfl, ?_⟩)
  refine wpAny_loadName_free hk hkc rfl ⟨_, KX _ _ cell, rfl⟩ ?_
  obtain ⟨ml, hns, hl⟩ := I.loc
  obtain ⟨u, ru, lku⟩ := hl 0 ar.arg (.ref a) hN hσ (.inl hka)
  have hm : ml ar.arg = some u := by
    rcases lku with ⟨_, z⟩ | ⟨z, _⟩
    · exact z
    · rcases z with z | z
      · exact absurd (hka.symm.trans z) (by decide)
      · exact absurd (hka.symm.trans z) (by decide)
  obtain rfl : u = Value.ref a := ru
  refine wpAny_loadName_local hk hka hns hm ?_
  refine ks_wpAny_isType_cls hD1 rfl ⟨rfl, ?_⟩
  refine ks_wpAny_call_super hD1 rfl ho rfl (fun c z => nomatch z) (W.looks_mroIn KX Z.own) fun h' e1 kp => ?_
  have I1 : Inv _ pins σ H ⟨h', g, d, tk, os⟩ := I.kept (t' := tk) kp
  have KX1 := I1.kIn
  have ho1 := kp _ _ ho
  have J : W.InstAt h' a (HandSPX.excO C t1) C none := ⟨ho1, rfl, rfl, trivial⟩
  have up := Z.up
  cases hc : W.clsIn K C with
  | none =>
    unfold W.ks_superIn at up
    rw [hc] at up
    cases up
  | some cd =>
    unfold W.ks_superIn at up
    rw [hc] at up
    refine W.kxs_getMethod W.kxs_ValueError e1 (W.looks_opaque KX1 Z.opq) (l₀ := cd.mro) (fun A Q E s k z => wpAny_bind ((W.looks_clsIn KX1 hc) A _ E s k (wpAny_pure z))) rfl KX1 up (J.type.andThen (W.looks_subIn KX1 Z.sub)) (W.ks_ne KX1 J hc) (by decide) ?_
    have k2 : ∀ b o, h'.get? b = some o → (h'.push (W.kxs_mw "ValueError.__init__" a)).get? b = some o := fun b o e => Heap.get?_push_of_some _ e
    have I2 : Inv _ pins σ H ⟨h'.push (W.kxs_mw "ValueError.__init__" a), g, d, tk + 1, os⟩ := I1.kept (t' := tk + 1) k2
    have hu : (h'.push (W.kxs_mw "ValueError.__init__" a)).get? h'.objs.size = some (W.kxs_mw "ValueError.__init__" a) := Heap.get?_push_size _ rfl
    have hst' : starEach [.Constant (.str m) j p3] (ncx CX P w K mg base N ⟨name, qual, params, body, scope, [("__class__", cc)], cda⟩ f A outer s0 H0 E).env = [(false, eval (.Constant (.str m) j p3) (ncx CX P w K mg base N ⟨name, qual, params, body, scope, [("__class__", cc)], cda⟩ f A outer s0 H0 E).env)] := hst
    rw [hst']
    refine W.kxs_callWith (i := "ValueError.__init__") (x := a) rfl (Calls.evalArgs_plain (Calls.spliced_cons (Calls.Constant_str (pos := p3) (k := j) (Calls.spliced_nil ⟨hu, ?_⟩))))
    refine mw_call F.excBase_ValueError (I2.kIn _ _ hC) (k2 _ _ ho1) hu (by show 1 ≤ sizeLine; decide) fun h3 t2 k3 e3 => ?_
    have J3 := (I2.tok (tk + 1 + 1)).write (t' := tk + 1 + 1) (x := a) (e := a) (o := exo a C none) (by rw [ha]; exact True.intro) (.inl rfl) k3 ⟨_, e3⟩ (exo_ok e3)
    have eu : upd H a (exo a C none) = H := by
      funext b
      by_cases hb : b = a
      · rw [hb, upd_same, ha]
      · rw [upd_ne hb]
    rw [eu] at J3
    exact hr.run pins _ σ H D J3 q

/-- such a def of the text, its class at C -/
structure SFun (P : Program) (K : PySem.W.Frag) (mg : Str → Option Value) (qual : Str) (st : Stmt) (C f : Addr) (fd : FuncData) : Prop where
  ex : ∃ (oc kV doc pm ct cl : Value) (od an cld : Option Addr) (cda cc : Addr) (osl csl : Array (Option Value)), fd = PySem.W.ksFn "__init__" qual (defArgs st) (defBody st) (defScope st) .none kV doc pm an (.ref cda) ct cc ∧
    K.lookup f = some ⟨oc, od, .func (PySem.W.ksFn "__init__" qual (defArgs st) (defBody st) (defScope st) .none kV doc pm an (.ref cda) ct cc), osl⟩ ∧ PySem.W.codeIn K (.ref cda) qual = true ∧ K.lookup cc = some ⟨cl, cld, .cell (some (.ref C)), csl⟩ ∧ SupC P K mg C cda
/-- __init__(self, fld) of an exception: super().__init__(text); self.fld = fld -/
def sp_exc1 (fld : Str) (C : Addr) : Sp := fun vs H Q _ => ∃ (a : Addr) (v : V), vs = [.ref a, v] ∧ H a = some (exo a C none) ∧ ∀ dx, H dx = none → dx ≠ a → Q .non (upd (upd H dx (exd dx [(fld, v)])) a (exo a C (some dx)))
theorem r_sup {C : Addr} {t : TS} {D : Ends} {σ : St} {H : Hp} {a : Addr} (e : σ[0]? = some (some (.ref a))) (ha : H a = some (exo a C none)) (q : t D σ H) : tSupI C t D σ H := ⟨a, e, ha, q⟩
theorem r_ost {K : PySem.W.Frag} {fld : Str} {i j : Nat} {D : Ends} {σ : St} {H : Hp} {a C : Addr} {v : V} (e : σ[i]? = some (some (.ref a))) (e' : σ[j]? = some (some v)) (T : OexC K C) (n : PySem.W.findIn K (.ref C) fld = some none) (ha : H a = some (exo a C none))
    (q : ∀ dx, H dx = none → dx ≠ a → D.nx σ (upd (upd H dx (exd dx [(fld, v)])) a (exo a C (some dx)))) : tOst K fld (tVar i) (tVar j) D σ H :=
  ⟨v, e', .ref a, e, a, C, rfl, T, n, .inl ⟨ha, q⟩⟩

/-! ### such an exception as its users see it -/
structure Exc1 (P : Program) (w : World) (K : PySem.W.Frag) (mg : Str → Option Value) (base : Heap) (k : Nat) (x fld : Str) (C : Addr) : Prop where
  oex : OexC K C
  made : ∃ fI fd ps, PySem.W.findIn K (.ref C) "__init__" = some (some (.ref fI)) ∧ PySem.W.typeIn K (.ref fI) = some (.type "function") ∧ FnOk P w K mg base CX0 k fI fd ps (sp_exc1 fld C) ∧ Binds K fd ps []
  gC : mg x = some (.ref C)
  xf : XfC K C
  nof : PySem.W.findIn K (.ref C) fld = some none
  te : PySem.W.exmOne K (.ref C) (.ref C) = some true
def kMkO (C : Addr) (fld : Str) (Q : XK) : List V → Hp → Prop := fun vs H1 => vs.length ≤ 1000 ∧ ∀ a, H1 a = none → sp_exc1 fld C (.ref a :: (vs ++ [])) (upd H1 a (exo a C none))
  (fun v H2 => v = .non ∧ ∃ (d : Addr) (fs : List (Str × V)), H2 a = some (exo a C (some d)) ∧ H2 d = some (exd d fs) ∧ H1 d = none ∧ Q (.ref C) (some d) (upd (del H2 a) d (.xd fs))) (fun _ _ _ => False)
theorem r_kMkO {C : Addr} {fld : Str} {Q : XK} {v : V} {H : Hp} (q : ∀ d H', H d = none → Kp [] H H' → H' d = some (.xd [(fld, v)]) → Q (.ref C) (some d) H') : kMkO C fld Q [v] H := by
  refine ⟨by show 1 ≤ 1000; decide, fun a ha => ⟨a, v, rfl, upd_same, fun dx hdx ne => ⟨rfl, dx, [(fld, v)], upd_same, by rw [upd_ne ne, upd_same], ?_, ?_⟩⟩⟩
  · rw [upd_ne ne] at hdx
    exact hdx
  · have n1 : H dx = none := by
      rw [upd_ne ne] at hdx
      exact hdx
    have eq : upd (del (upd (upd (upd H a (exo a C none)) dx (exd dx [(fld, v)])) a (exo a C (some dx))) a) dx (.xd [(fld, v)]) = upd H dx (.xd [(fld, v)]) := by
      funext b
      by_cases hb : b = dx
      · rw [hb, upd_same, upd_same]
      · rw [upd_ne hb, upd_ne hb]
        by_cases hba : b = a
        · rw [hba, del_same, ha]
        · rw [del_ne hba, upd_ne hba, upd_ne hb, upd_ne hba]
    rw [eq]
    exact q dx _ n1 (Kp.new n1) upd_same
/-- raise X(e) -/
def tRaise1 (C : Addr) (fld : Str) (W : WX) (ta : TA) : TS := fun _ σ H => ta σ H (kMkO C fld fun cls d H' => W cls d σ H')
section
variable {X : Cx} {x fld : Str} {C : Addr} {k : Nat} {e : Expr} {ta : TA} {p pos pos2 : Pos} {W : WX}
theorem ps_raise1 (T : Exc1 X.prog X.w X.K X.mg X.base k x fld C) (hr : Room (k + 1) X.A) (hc : X.calm = true) (tk : Takes X W) (hg : Gl X x) (ha : PA X [e] ta) (hdb : (x == ("__debug__" : Str)) = false := by decide)
    (hst : starEach (e :: []) X.env = (false, eval e X.env) :: starEach [] X.env := by rfl) (hpl : (backTo pos (starEach [] X.env)).any (·.1) = false := by rfl) :
    PS X (.Raise (some (.Call (.Name x p) [e] [] pos)) none pos2) (tRaise1 C fld W ta) := by
  obtain ⟨fI, fd, ps, iC, tI, F1, hb⟩ := T.made
  exact ps_raise hc tk (pmk_oex (dvs := []) T.oex iC tI F1 hr hb .nil pass0 hg T.gC ha hdb hst hpl)
end
theorem r_raise1 {C : Addr} {fld : Str} {W : WX} {ta : TA} {D : Ends} {σ : St} {H : Hp} (q : ta σ H (kMkO C fld fun cls d H' => W cls d σ H')) : tRaise1 C fld W ta D σ H := q

/-! ### an object made where an exception of its __init__ is wished for -/
def kMakeS (C : Addr) (sp : Sp) (E : XK) (Q : VK) : List V → Hp → Prop := fun vs H1 => ∀ x dx, H1 x = none → H1 dx = none → dx ≠ x → sp (.ref x :: vs) (upd (upd H1 dx (.own x)) x (.ins C dx [])) (kMade x Q) E
def tMakeS (C : Addr) (sp : Sp) (E : St → XK) (t : TA) : TE := fun σ H Q => t σ H (kMakeS C sp (E σ) Q)
theorem r_makeS {C : Addr} {sp : Sp} {E : St → XK} {t : TA} {σ : St} {H : Hp} {Q : VK} (q : t σ H (kMakeS C sp (E σ) Q)) : tMakeS C sp E t σ H Q := q
theorem r_kMakeS {C : Addr} {sp : Sp} {E : XK} {H : Hp} {Q : VK} {vs : List V} (q : ∀ a dx H', H a = none → Kp [] H H' → H' a = some (.ins C dx []) → sp (.ref a :: vs) H' (kMade a Q) E) : kMakeS C sp E Q vs H := fun a dx n n' d =>
  q a dx _ n ((Kp.new n').trans (Kp.new (by rw [upd_ne d.symm]; exact n))) upd_same
section
variable {X : Cx} {CX : CXT} {k : Nat} {f C : Addr} {sp : Sp} {E : St → XK} {x : Str} {e : Expr} {es : List Expr} {t : TA} {p pos : Pos}
theorem pe_makeS (mk : Mk X.K C f) (F : FnR X.prog X.w X.K X.mg X.base CX k f sp) (hr : Room (k + 1) X.A) (hg : Gl X x) (hm : X.mg x = some (.ref C)) (hx : ∀ σ, PassesAt CX X σ (E σ)) (ha : PA X (e :: es) t) (hdb : (x == ("__debug__" : Str)) = false := by decide)
    (hst : starEach (e :: es) X.env = (false, eval e X.env) :: starEach es X.env := by rfl) (hpl : (backTo pos (starEach es X.env)).any (·.1) = false := by rfl) : PE X (.Call (.Name x p) (e :: es) [] pos) (tMakeS C sp E t) := by
  constructor
  intro pins s σ H Q I h
  refine wpAny_Call_Name_kw (ld_glob I hg hm (PySem.W.callWith_K (h₀ := X.base) I.ok.mod.kin mk.kp (thn (ha.run pos pins s σ H _ I h) fun us s1 ⟨vs, H1, I1, r, q⟩ => ⟨I1.kIn, ?_⟩) hst hpl) hdb)
  have old : H1 (s1.heap.objs.size + 1) = none ∧ H1 s1.heap.objs.size = none := ⟨I1.hok.fresh (Nat.le_succ _), I1.hok.fresh (Nat.le_refl _)⟩
  have J := Inv.made (C := C) I1
  have r2 : Vals (V.ref (s1.heap.objs.size + 1) :: vs) (Value.ref (s1.heap.objs.size + 1) :: us) := .cons rfl r
  have go := F _ X.stack _ _ (Value.ref (s1.heap.objs.size + 1) :: us) _ _ (E σ) (hr.make C us []) (J.env0.make C us []) r2 (q _ _ old.1 old.2 (Nat.ne_of_lt (Nat.lt_succ_self _)))
  refine wpAny_call (make_map (f := f) I1.kIn mk.makes mk.init (beq_iff_eq.mp mk.fn) (codeAny_mono go fun z s' hz => ?_))
  match z, hz with
  | .error u, hz => exact hx σ pins _ _ u s' J hz
  | .ok (.ret u), hz =>
    obtain ⟨v, H', I3, rv, ev, q3⟩ := J.after hz
    subst ev
    exact ⟨rv, V.ref (s1.heap.objs.size + 1), H', I3, rfl, q3⟩
  | .ok .next, hz => exact hz.elim
  | .ok .brk, hz => exact hz.elim
  | .ok .cont, hz => exact hz.elim
end

/-! ### isinstance(e, c), e.f of the exception that a suite holds, which has a dict -/
def rIsX (K : PySem.W.Frag) (C a : Addr) (cls : Value) (d : Option Addr) : R1 := fun xs H Q => cls = .ref C ∧ ∃ (dd : Addr) (fs : List (Str × V)) (c : V) (cv : Value) (b : Bool), d = some dd ∧ H dd = some (.xd fs) ∧ xs = [.ref a, c] ∧ ClsV c cv ∧ PySem.W.kitOne K (.ref C) cv = some b ∧ Q (.bl b) H
theorem call_isX {X : Cx} {a C : Addr} {oe : Obj} {cls : Value} {d : Option Addr} {pn : List (Addr × Obj)} (T : ExcC X.K C) (hz : Zc cls d oe) (hf : ∃ vs, oe.data = .fields vs) : CallR (X.suite a ((a, oe) :: pn)) (.builtin "isinstance") (rIsX X.K C a cls d) := by
  rintro pins s σ H xs us Q I r ⟨rfl, dd, fs, c, cv, b, rfl, ed, rfl, k, e, q⟩
  obtain ⟨u1, u2, rfl, r1, r2⟩ := vals2 r
  cases (show u1 = Value.ref a from r1)
  have e2 := k.eq r2
  subst e2
  obtain ⟨hget, _⟩ := I.pin (a, oe) (List.mem_append_left _ List.mem_cons_self)
  obtain ⟨vs, hv⟩ := hf
  have hx : ObjOk X.prog X.w H s.heap dd (.xd fs) := I.hok dd _ ed
  obtain ⟨mA, hns, _⟩ := hx
  obtain ⟨od, ho, _⟩ := lookIn_ns hns
  have J : PySem.W.InstAt s.heap a oe C (some od) := ⟨hget, hz.1, by unfold PySem.W.notCls; rw [hv] <;> rfl, by rw [hz.2]; exact ho⟩
  obtain ⟨cd, hc, _⟩ := PySem.W.any_some T.hd
  exact PySem.W.kia_one (PySem.W.kitx_exc (by rw [hc]; rfl) T.hg T.hk T.hs T.ha T.hn T.ht T.hm) I.kIn J e (fun z => nomatch z) fun tk => ⟨.bl b, H, I.kept (t' := tk) fun _ _ z => z, rfl, q⟩
theorem r_isX {K : PySem.W.Frag} {C a dd : Addr} {fs : List (Str × V)} {H : Hp} {Q : VK} {c : V} {cv : Value} {b : Bool} (ed : H dd = some (.xd fs)) (k : ClsV c cv) (e : PySem.W.kitOne K (.ref C) cv = some b) (q : Q (.bl b) H) : rIsX K C a (.ref C) (some dd) [.ref a, c] H Q :=
  ⟨rfl, dd, fs, c, cv, b, rfl, ed, rfl, k, e, q⟩
def kXf (a : Addr) (cls : Value) (d : Option Addr) (C : Addr) (f : Str) (Q : VK) : VK := fun x H1 => x = .ref a ∧ cls = .ref C ∧ ∃ (dd : Addr) (fs : List (Str × V)) (v : V), d = some dd ∧ H1 dd = some (.xd fs) ∧ fs.lookup f = some v ∧ Q v H1
theorem r_xf {a C : Addr} {cls : Value} {d : Option Addr} {f : Str} {te : TE} {σ : St} {H : Hp} {Q : VK} (q : te σ H (kXf a cls d C f Q)) : tXf a cls d C f te σ H Q := q
theorem r_kXf {a C dd : Addr} {f : Str} {H : Hp} {Q : VK} {fs : List (Str × V)} {v : V} (ed : H dd = some (.xd fs)) (l : fs.lookup f = some v) (q : Q v H) : kXf a (.ref C) (some dd) C f Q (.ref a) H := ⟨rfl, rfl, dd, fs, v, rfl, ed, l, q⟩
def UseCX (P : Program) (w : World) (K : PySem.W.Frag) (mg : Str → Option Value) (base : Heap) (n : Nat) (x : Str) (C : Addr) (sp : Sp) : Prop := ∃ f, FnR P w K mg base (L2.CX P w) n f sp ∧ Mk K C f ∧ mg x = some (.ref C)
theorem fnrX {P : Program} {w : World} {K : PySem.W.Frag} {mg : Str → Option Value} {base : Heap} {n : Nat} {f : Addr} {fd : FuncData} {ps : List Str} {sp : Sp} (F : FnOk P w K mg base (L2.CX P w) n f fd ps sp) (b : Binds K fd ps []) : FnR P w K mg base (L2.CX P w) n f sp :=
  (F.raw b .nil).imp fun vs H Q E h => by
    rw [List.append_nil]
    exact h
end Rd

set_option maxHeartbeats 4000000
/-! EnT: enumerate(tuple); for over enumerate of a list or a tuple. -/
namespace PySem
theorem enum_new1 {v : Value} {o : Obj} {Hh : Heap → Prop} (B : Begins v o Hh) : Meets (Builtin.«enumerate.__new__» ⟨[.type "enumerate", v], []⟩) (fun _ R s => Hh s.heap ∧
    R (.ok (.ret (.ref (s.heap.push o).objs.size))) { s with heap := (s.heap.push o).push { cls := .type "enumerate", data := .fields #[.none, .bool false, .ref s.heap.objs.size, rawInt 0, .none, .none] } }) :=
  .of_wp fun prog w A R s hB => by
    obtain ⟨hp, g, d, tk, os⟩ := s
    obtain ⟨h1, hB⟩ := hB
    have esub := sub_enumerate
    have start : ∀ {A' : Around} {E : Value → Shared → Prop} {Q : Value → Shared → Prop}, Q (.ref hp.objs.size) ⟨hp.push o, g, d, tk, os⟩ → wpAny (model prog w) A' (pyIter v) Q E ⟨hp, g, d, tk, os⟩ := fun z => B.iter prog w _ _ ⟨hp, g, d, tk, os⟩ _ h1 z
    wp_walk using start
    refine wpAny_stack_any fun st => wpAny_pure ?_
    split
    · rename_i c _ _ _ _ _
      cases (c == Value.type "enumerate") <;> (wp_walk using start; exact ⟨_, rfl, hB⟩)
    · wp_walk using start
      exact ⟨_, rfl, hB⟩
section
variable {prog : Program} {w : World} {A : Around} {E : Value → Shared → Prop} {s : Shared}
theorem enum_starts {v : Value} {o : Obj} {Hh : Heap → Prop} {Q : Value → Shared → Prop} (B : Begins v o Hh) (h1 : Hh s.heap)
    (q : ∀ h', IsEnum h' (s.heap.objs.size + 1) s.heap.objs.size 0 .none → h'.get? s.heap.objs.size = some o → (∀ b u, s.heap.get? b = some u → h'.get? b = some u) → Q (.ref (s.heap.objs.size + 1)) { s with heap := h' }) :
    wpAny (model prog w) A (call (.type "enumerate") [v]) Q E s := by
  refine callType_new F.called_enumerate (by decide) (F.typeCall_enumerate_1 _) (F.newCall_enumerate_1 _) (fun obj => F.args_object_init_2 obj _) F.entry_enumerate_new (enum_new1 B) ⟨h1, ?_⟩
  have hz : (s.heap.push o).objs.size = s.heap.objs.size + 1 := Heap.size_push _ _
  have he := Heap.get?_push_size (s.heap.push o) (o := { cls := .type "enumerate", data := .fields #[.none, .bool false, .ref s.heap.objs.size, rawInt 0, .none, .none] }) rfl
  show _ ∧ _
  rw [hz] at he ⊢
  exact ⟨⟨_, he, rfl⟩, q _ he (Heap.get?_push_of_some _ (Heap.get?_push_size _ B.free)) fun b u x => Heap.get?_push_of_some _ (Heap.get?_push_of_some _ x)⟩
end
end PySem
namespace Rd
open PySem PySem.Spec PyProof.Rows L2
/-- the tuple at a, each item in a new pair with its place -/
def Iet (K : PySem.W.Frag) (a : Addr) : It :=
  ⟨fun i H => ∃ (xs : List V) (x : V), SqT K H a xs ∧ xs[i]? = some x, fun i H v H' => ∃ T x, v = .ref T ∧ H T = none ∧ H' = upd H T (.tup [.int (i : Nat), x]) ∧ ∀ xs, SqT K H a xs → xs[i]? = some x, fun i H => ∃ xs : List V, SqT K H a xs ∧ xs.length ≤ i⟩
theorem turn_et {P : Program} {w : World} {K : PySem.W.Frag} {elts : List Expr} {kk : Nat} {tpos : Pos} (a e it : Addr) (ha : a ≠ it) (hae : e ≠ a) :
    Turn P w K (.Tuple elts kk tpos) (Iet K a) [e, it] e (fun i h => (∃ old, IsEnum h e it ((i : Nat) : Int) old) ∧ h.IsTupleIter it a i ∧ e ≠ it) := by
  have two : ∀ {b : Addr}, b ∈ [e, it] → b = e ∨ b = it := fun {b} hb => by simpa using hb
  refine ⟨by simp, fun i h st b hb => ?_, fun i h h' st k => ?_, ?_, ?_, fun A i s Q E st q => ?_⟩
  · obtain ⟨⟨old, he⟩, ⟨o, ho, hc, hd⟩, _⟩ := st
    rcases two hb with rfl | rfl
    · exact ⟨_, he, fun v z => nomatch z⟩
    · exact ⟨o, ho, fun v z => by rw [hd] at z; cases z⟩
  · obtain ⟨⟨old, he⟩, hi, hne⟩ := st
    exact ⟨⟨old, k e (by simp) _ he⟩, hi.at fun o z => k it (by simp) o z, hne⟩
  · intro X hP hw hK hc i pins s σ H E I hf st hg
    subst hP hw hK
    obtain ⟨⟨old, he⟩, hit, hne⟩ := st
    obtain ⟨xs, x, hq, hx⟩ := hg
    obtain ⟨its, rv, p, _⟩ := I.tuple hq
    obtain ⟨u, hu, ru⟩ := rv.get hx
    have big : e < s.heap.objs.size ∧ it < s.heap.objs.size := ⟨Heap.lt_size he, by obtain ⟨_, z, _⟩ := hit; exact Heap.lt_size z⟩
    have hi : i < its.toArray.size := by
      have := (List.getElem?_eq_some_iff.mp hu).1
      simpa using this
    refine wpAny_pyNext_enum_itemC (Draws.tuple (A := X.A.in1) (I.ok.hd hc) it a ha its.toArray) he ⟨hit, p⟩ hi hne (by simp [hne, hae]) fun y h1 tk hy ho hst hT hsz hk => ?_
    have ey : y = u := by
      have hy : its.toArray[i]? = some y := hy
      rw [List.getElem?_toArray, hu] at hy
      exact (Option.some.inj hy).symm
    subst ey
    refine ⟨_, rfl, wpAny_letOwnedTupleGo_enum (s := { s with heap := h1, toks := tk + 1 }) ho fun h2 he2 sb => ?_⟩
    have hT2 := (sb.2 _ (Nat.ne_of_gt big.1)).trans hT
    have new : ObjOk X.prog X.w (upd H s.heap.objs.size (.tup [.int (i : Nat), x])) h2 s.heap.objs.size (.tup [.int (i : Nat), x]) := ⟨by show 2 ≤ sizeLine; decide, [.int i tk, y], .cons ⟨_, rfl⟩ (.cons ru .nil), ⟨_, hT2, rfl, _, rfl⟩⟩
    have I1 : Inv X pins σ (upd H s.heap.objs.size (.tup [.int (i : Nat), x])) { s with heap := h2, toks := tk + 1 } :=
      I.turnedNew (ch := [e, it]) (fun b ob hb z => (sb.2 b (fun w => hb (by simp [w]))).trans (hk b ob (fun w => hb (by simp [w])) (fun w => hb (by simp [w])) z)) hf (Nat.le_refl _) new
    refine ⟨.ref s.heap.objs.size, _, I1, rfl, ⟨_, x, rfl, I.hok.fresh (Nat.le_refl _), rfl, fun ys hy => ?_⟩, ⟨⟨y, ?_⟩, hst.1.at fun o z => (sb.2 it (Ne.symm hne)).trans z, hne⟩, fun b hb => ?_⟩
    · rw [I.tuple_inj hy hq]
      exact hx
    · have e1 : ((i + 1 : Nat) : Int) = (i : Int) + 1 := by omega
      rw [e1]
      exact he2
    · have hb' : b < s.heap.objs.size := (two hb).elim (fun z => z ▸ big.1) fun z => z ▸ big.2
      rw [upd_ne (Nat.ne_of_lt hb')]
      exact (hf b hb).1
  · intro X hP hw hK hc i pins s σ H E I hf st hg
    subst hP hw hK
    obtain ⟨⟨old, he⟩, hit, hne⟩ := st
    obtain ⟨xs, hq, hx⟩ := hg
    obtain ⟨its, rv, p, _⟩ := I.tuple hq
    have hl := rv.length
    have D : Draws X.prog X.w X.A.in1 it [it, a] i (fun _ _ => True) (fun j h => j = i ∧ h.IsTupleIter it a i ∧ h.IsTuple a its.toArray) :=
      ⟨fun _ _ st => let ⟨o, ho, _⟩ := st.2.1; ⟨o, ho⟩, fun _ _ _ st hk => ⟨st.1, st.2.1.at fun o z => hk it (by simp) o z, st.2.2.at fun o z => hk a (by simp) o z⟩, fun j _ _ _ hj st _ => absurd st.1 (Nat.ne_of_lt hj),
        fun s Q E st hE => wpAny_nextOf_tuple_end (A := X.A.in1) (I.ok.hd hc) st.2.1 st.2.2 (by simp; omega) hE⟩
    obtain ⟨f0, f1, f2, f3, f4, f5⟩ := hf it (by simp)
    exact wpAny_pyNext_enum_endD D he ⟨rfl, hit, p⟩ fun h' eb => ⟨rfl, I.turned (t' := s.toks) (fun b o hb z => eb b o hb z) f0 f1 f3 f4 f5⟩
  · obtain ⟨⟨_, he⟩, _⟩ := st
    exact wpAny_pyIter_enum he q
def iEnumQ (K : PySem.W.Frag) (ta : TA) : TI := fun σ H R => ta σ H fun vs H1 => ∃ a, vs = [.ref a] ∧ (((∃ xs, SqL K H1 a xs) ∧ R (Ite K a) H1) ∨ ((∃ xs, SqT K H1 a xs) ∧ R (Iet K a) H1))
theorem K_enumQ {X : Cx} {K : PySem.W.Frag} (hK : X.K = K) {e : Expr} {ta : TA} {p pos tpos : Pos} {elts : List Expr} {kk : Nat} (hg : Gl X "enumerate") (hm : X.mg "enumerate" = none) (ha : PA X [e] ta) (hs : starEach [e] X.env = [(false, eval e X.env)] := by rfl) :
    PI X (.Tuple elts kk tpos) (.Call (.Name "enumerate" p) [e] [] pos) (iEnumQ K ta) := by
  subst hK
  constructor
  intro pins s σ H R I h
  refine Call_ (ld_blt I hg hm boot_enumerate (PyProof.Rows.callWith_type1 (thn (ha.run pos pins s σ H _ I h) fun us s1 ⟨vs, H1, I1, r1, q1⟩ => ?_) hs rfl))
  obtain ⟨a, rfl, q1⟩ := q1
  obtain ⟨u, rfl, ru⟩ := r1.one
  cases (show u = Value.ref a from ru)
  have fresh : ∀ b ∈ [s1.heap.objs.size + 1, s1.heap.objs.size], FpOk X pins H1 b := fun b m => by
    have le : s1.heap.objs.size ≤ b := by
      rcases List.mem_cons.mp m with z | z
      · omega
      · rw [List.mem_singleton.mp z]
        exact Nat.le_refl _
    exact I1.fpOk le (I1.hok.fresh le)
  rcases q1 with ⟨⟨xs, hq⟩, q⟩ | ⟨⟨xs, hq⟩, q⟩
  · obtain ⟨its, rv, pl, _⟩ := I1.list hq
    exact call_enumerate_list pl.isList fun h' he hit _ hk => wpAny_pyIter_enum he ⟨_, _, _, _, H1, rfl, I1.kept (t' := s1.toks) hk, turn_enum a _ _, ⟨⟨.none, he⟩, hit, Nat.succ_ne_self _⟩, fresh, q⟩
  · obtain ⟨its, rv, pl, _⟩ := I1.tuple hq
    have la : a < s1.heap.objs.size := by
      obtain ⟨o, ho, _⟩ := pl
      exact Heap.lt_size ho
    exact enum_starts (begins_tuple a its.toArray) pl fun h' he ho hk => wpAny_pyIter_enum he ⟨_, _, _, _, H1, rfl, I1.kept (t' := s1.toks) hk, turn_et a _ _ (Nat.ne_of_lt la) (Nat.ne_of_gt (Nat.lt_succ_of_lt la)), ⟨⟨.none, he⟩, ⟨_, ho, rfl, rfl⟩, Nat.succ_ne_self _⟩, fresh, q⟩
def cEnumQ (K : PySem.W.Frag) (R : It → Hp → Prop) : List V → Hp → Prop := fun vs H1 => ∃ a, vs = [.ref a] ∧ (((∃ xs, SqL K H1 a xs) ∧ R (Ite K a) H1) ∨ ((∃ xs, SqT K H1 a xs) ∧ R (Iet K a) H1))
section
variable {σ : L2.St} {H : Hp} {K : PySem.W.Frag} {tr : TA} {R : It → Hp → Prop} {xs : List V} {p a : Addr} {g : TG} {tb : TS} {nx bk ct : L2.St → Hp → Prop} {rt : VK}
theorem r_enumQ (q : tr σ H (cEnumQ K R)) : iEnumQ K tr σ H R := q
theorem walk_et : Walk (Iet K a) xs.length (fun H => SqT K H a xs) (YPair (fun i => some (.int (i : Nat))) (fun i => xs[i]?)) := by
  refine ⟨fun i _ hi q => ⟨xs, xs[i], q, List.getElem?_eq_getElem hi⟩, fun _ q => ⟨xs, q, Nat.le_refl _⟩, fun i H v H' _ q ⟨T, x, h1, h2, h3, h4⟩ => ⟨T, .int (i : Nat), x, h1, h2, h3, rfl, h4 xs q⟩⟩
theorem r_kForE (Pv : Nat → L2.St → Hp → Prop) (hq : Sq K H p xs) (h0 : Pv 0 σ H) (hl : ∀ i σ H', i ≤ xs.length → Pv i σ H' → ∃ ex, p ∉ ex ∧ Kp ex H H')
    (hs : ∀ (i : Nat) x t σ H H', xs[i]? = some x → Pv i σ H → H t = none → Kp [] H H' → H' t = some (.tup [.int (i : Int), x]) → g (.ref t) σ H' fun σ2 H2 => tb ⟨Pv (i + 1), rt, nx, Pv (i + 1)⟩ σ2 H2) (hd : ∀ σ H, Pv xs.length σ H → nx σ H) :
    cEnumQ K (kFor g tb ⟨nx, rt, bk, ct⟩ σ) [.ref p] H := by
  have step : ∀ (i : Nat) x σ H H', i < xs.length → Pv i σ H → YPair (fun i => some (.int (i : Nat))) (fun i => xs[i]?) i H x H' → g x σ H' fun σ2 H2 => tb ⟨Pv (i + 1), rt, nx, Pv (i + 1)⟩ σ2 H2 := by
    rintro i x σ H H' hi hp ⟨t, u, v, rfl, nt, rfl, hu, hx⟩
    cases hu
    exact hs i v t σ H _ hx hp nt (Kp.new nt) upd_same
  rcases hq with h | h
  · exact ⟨p, rfl, .inl ⟨⟨xs, h⟩, r_kFor walk_enum Pv h0 (fun i σ H' hi q => let ⟨_, m, k⟩ := hl i σ H' hi q; sql_kp h k m) step hd⟩⟩
  · exact ⟨p, rfl, .inr ⟨⟨xs, h⟩, r_kFor walk_et Pv h0 (fun i σ H' hi q => let ⟨_, m, k⟩ := hl i σ H' hi q; sqt_kp h k m) step hd⟩⟩
end
end Rd

set_option maxHeartbeats 4000000
/-! New: data laid since a heap. -/
namespace Rd
open PySem PySem.Spec L2
/-- what is allocated -/
def Has (H : Hp) (b : Addr) : Prop := ∃ o, H b = some o
/-- x is the data d in H', laid since H (scalars, or new objects only) -/
def New (H H' : Hp) (x : V) (d : PyData) : Prop := ∀ ex, (∀ b ∈ ex, Has H b) → Dt ex H' x d
def NewAll (H H' : Hp) (xs : List V) (ds : List PyData) : Prop := ∀ ex, (∀ b ∈ ex, Has H b) → DtAll ex H' xs ds
theorem Has.kp {H H' : Hp} {b : Addr} (h : Has H b) (k : Kp [] H H') : Has H' b := let ⟨o, e⟩ := h; ⟨o, k _ _ e not_nil⟩
theorem New.mono {H H' H'' : Hp} {x : V} {d : PyData} (h : New H H' x d) (k : Kp [] H' H'') : New H H'' x d := fun ex e => (h ex e).mono k.nil
theorem NewAll.mono {H H' H'' : Hp} {x : List V} {d : List PyData} (h : NewAll H H' x d) (k : Kp [] H' H'') : NewAll H H'' x d := fun ex e => (h ex e).mono k.nil
theorem New.mono1 {H H' H'' : Hp} {x : V} {d : PyData} {p : Addr} (h : New H H' x d) (hp : Has H p) (k : Kp [p] H' H'') : New H H'' x d := fun ex e =>
  ((h (p :: ex) fun b m => (List.mem_cons.mp m).elim (fun z => z ▸ hp) (e b)).mono (k.mono fun b m => List.mem_cons.mpr (.inl (List.mem_singleton.mp m)))).less fun _ m => List.mem_cons_of_mem _ m
theorem NewAll.mono1 {H H' H'' : Hp} {x : List V} {d : List PyData} {p : Addr} (h : NewAll H H' x d) (hp : Has H p) (k : Kp [p] H' H'') : NewAll H H'' x d := fun ex e =>
  ((h (p :: ex) fun b m => (List.mem_cons.mp m).elim (fun z => z ▸ hp) (e b)).mono (k.mono fun b m => List.mem_cons.mpr (.inl (List.mem_singleton.mp m)))).less fun _ m => List.mem_cons_of_mem _ m
theorem New.back {H H1 H' : Hp} {x : V} {d : PyData} (h : New H1 H' x d) (a : ∀ b, Has H b → Has H1 b) : New H H' x d := fun ex e => h ex fun b m => a b (e b m)
theorem NewAll.back {H H1 H' : Hp} {x : List V} {d : List PyData} (h : NewAll H1 H' x d) (a : ∀ b, Has H b → Has H1 b) : NewAll H H' x d := fun ex e => h ex fun b m => a b (e b m)
theorem New.dt {H H' : Hp} {x : V} {d : PyData} (h : New H H' x d) : Dt [] H' x d := h [] fun _ m => nomatch m
theorem NewAll.dt {H H' : Hp} {x : List V} {d : List PyData} (h : NewAll H H' x d) : DtAll [] H' x d := h [] fun _ m => nomatch m
theorem DtAll.mem {ex : List Addr} {H : Hp} : ∀ {vs : List V} {ds : List PyData} {i : Nat} {v : V}, DtAll ex H vs ds → vs[i]? = some v → ∃ d, ds[i]? = some d := fun h e => let ⟨d, hd, _⟩ := h.at e; ⟨d, hd⟩
theorem NewAll.mem {H H' : Hp} {xs : List V} {ds : List PyData} {v : V} (h : NewAll H H' xs ds) (m : v ∈ xs) : ∃ d ∈ ds, New H H' v d := by
  obtain ⟨i, e⟩ := List.mem_iff_getElem?.mp m
  obtain ⟨d, hd, _⟩ := h.dt.at e
  refine ⟨d, List.mem_of_getElem? hd, fun ex he => ?_⟩
  obtain ⟨d', hd', q⟩ := (h ex he).at e
  rw [hd] at hd'
  cases hd'
  exact q
theorem NewAll.cons {H H' : Hp} {v : V} {vs : List V} {d : PyData} {ds : List PyData} (h : New H H' v d) (t : NewAll H H' vs ds) : NewAll H H' (v :: vs) (d :: ds) := fun ex e => .cons (h ex e) (t ex e)
theorem New.tup {H H1 H' : Hp} {p : Addr} {xs : List V} {ds : List PyData} (h : NewAll H H' xs ds) (n : H1 p = none) (a : ∀ b, Has H b → Has H1 b) (e : H' p = some (.tup xs)) : New H H' (.ref p) (.tuple ds) := fun ex he =>
  .tup (fun m => by
    obtain ⟨o, ho⟩ := a p (he p m)
    rw [n] at ho
    cases ho) e (h ex he)
theorem New.lst {H H1 H' : Hp} {p : Addr} {xs : List V} {ds : List PyData} (h : NewAll H H' xs ds) (n : H1 p = none) (a : ∀ b, Has H b → Has H1 b) (e : H' p = some (.lst xs)) : New H H' (.ref p) (.list ds) := fun ex he =>
  .lst (fun m => by
    obtain ⟨o, ho⟩ := a p (he p m)
    rw [n] at ho
    cases ho) e (h ex he)
/-! displays of new data -/
def EN (te : TE) (σ : St) (H : Hp) (d : PyData) : Prop := ∀ Q : VK, (∀ x H', Kp [] H H' → New H H' x d → Q x H') → te σ H Q
def AN (tr : TA) (σ : St) (H : Hp) (ds : List PyData) : Prop := ∀ QA : List V → Hp → Prop, (∀ xs H', Kp [] H H' → NewAll H H' xs ds → QA xs H') → tr σ H QA
section
variable {σ : St} {H : Hp} {Q : VK} {QA : List V → Hp → Prop} {d : PyData} {ds : List PyData} {te : TE} {tr : TA} {v : V} {i : Nat}
theorem r_EN (h : EN te σ H d) (q : ∀ x H', Kp [] H H' → New H H' x d → Q x H') : te σ H Q := h Q q
theorem r_AN (h : AN tr σ H ds) (q : ∀ xs H', Kp [] H H' → NewAll H H' xs ds → QA xs H') : tr σ H QA := h QA q
theorem EN_c (h : ∀ ex, Dt ex H v d) : EN (tC v) σ H d := fun _ q => q v H (Kp.refl _ _) fun ex _ => h ex
theorem EN_var (e : σ[i]? = some (some v)) (h : ∀ ex, Dt ex H v d) : EN (tVar i) σ H d := fun _ q => ⟨v, e, q v H (Kp.refl _ _) fun ex _ => h ex⟩
theorem AN_nil : AN tNil σ H [] := fun _ q => q [] H (Kp.refl _ _) fun _ _ => .nil
theorem AN_cons (h : EN te σ H d) (hr : ∀ H1, Kp [] H H1 → AN tr σ H1 ds) : AN (tCons te tr) σ H (d :: ds) := fun _ q =>
  h _ fun x H1 k1 h1 => hr H1 k1 _ fun xs H2 k2 h2 => q (x :: xs) H2 (k1.trans k2) (.cons (h1.mono k2) (h2.back fun _ a => a.kp k1))
theorem EN_tup (h : AN tr σ H ds) (hl : ds.length ≤ sizeLine) : EN (tTup tr) σ H (.tuple ds) := fun _ q =>
  h _ fun xs H1 k1 h1 => ⟨h1.dt.length ▸ hl, fun p n => q (.ref p) _ (k1.trans (Kp.new n)) (New.tup (h1.mono (Kp.new n)) n (fun _ a => a.kp k1) upd_same)⟩
theorem EN_lst (h : AN tr σ H ds) (hl : ds.length ≤ sizeLine) : EN (tLst tr) σ H (.list ds) := fun _ q =>
  h _ fun xs H1 k1 h1 => ⟨h1.dt.length ▸ hl, fun p n => q (.ref p) _ (k1.trans (Kp.new n)) (New.lst (h1.mono (Kp.new n)) n (fun _ a => a.kp k1) upd_same)⟩
end
/-! is None -/
def rIsNo : R2 := fun x y H Q => y = .non ∧ Q (.bl (decide (x = .non))) H
def rNotNo : R2 := fun x y H Q => y = .non ∧ Q (.bl (!decide (x = .non))) H
theorem op_isNo {X : Cx} : OpR X (compareOp .Is) rIsNo := op_isN
theorem op_notNo {X : Cx} : OpR X (compareOp .IsNot) rNotNo := op_notN
theorem r_isNo {x : V} {H : Hp} {Q : VK} (q : Q (.bl (decide (x = .non))) H) : rIsNo x .non H Q := ⟨rfl, q⟩
theorem r_notNo {x : V} {H : Hp} {Q : VK} (q : Q (.bl (!decide (x = .non))) H) : rNotNo x .non H Q := ⟨rfl, q⟩
end Rd

set_option maxHeartbeats 4000000
/-! Sl: slices of lists and tuples as rules. -/
namespace Rd
open PySem L2 StX
section
variable {σ : St} {H : Hp} {Q : VK} {te : TE} {tl th : TO} {K : PySem.W.Frag} {p : Addr} {xs : List V} {r : V → Option Int → Option Int → Hp → VK → Prop} {R : Option Int → Hp → Prop} {x : V} {l u : Option Int}
def kS1 (r : V → Option Int → Option Int → Hp → VK → Prop) (tl th : TO) (σ : St) (Q : VK) : VK := fun x H1 => tl σ H1 fun l H2 => th σ H2 fun u H3 => r x l u H3 Q
def kS2 (r : V → Option Int → Option Int → Hp → VK → Prop) (th : TO) (σ : St) (Q : VK) (x : V) : Option Int → Hp → Prop := fun l H2 => th σ H2 fun u H3 => r x l u H3 Q
def kS3 (r : V → Option Int → Option Int → Hp → VK → Prop) (Q : VK) (x : V) (l : Option Int) : Option Int → Hp → Prop := fun u H3 => r x l u H3 Q
def kPart (R : Option Int → Hp → Prop) : VK := fun x H1 => ∃ i, x = .int i ∧ R (some i) H1
theorem r_sl (q : te σ H (kS1 r tl th σ Q)) : tSl r te tl th σ H Q := q
theorem r_kS1 (q : tl σ H (kS2 r th σ Q x)) : kS1 r tl th σ Q x H := q
theorem r_kS2 (q : th σ H (kS3 r Q x l)) : kS2 r th σ Q x l H := q
theorem r_kS3 (q : r x l u H Q) : kS3 r Q x l u H := q
theorem r_noPart (q : R none H) : tNoPart σ H R := q
theorem r_part (q : te σ H (kPart R)) : tPart te σ H R := q
theorem r_kPart {i : Int} (q : R (some i) H) : kPart R (.int i) H := ⟨i, rfl, q⟩
theorem r_slL (h : SqL K H p xs) (q : ∀ b H', H b = none → Kp [] H H' → H' b = some (.lst (cutV xs l u)) → Q (.ref b) H') : rSlL K (.ref p) l u H Q := ⟨p, xs, rfl, h, fun b n => q b _ n (Kp.new n) upd_same⟩
theorem r_slT (h : SqT K H p xs) (hw : ¬ (HT.sIx xs.length 0 l = 0 ∧ HT.sIx xs.length xs.length u = xs.length)) (q : ∀ b H', H b = none → Kp [] H H' → H' b = some (.tup (cutV xs l u)) → Q (.ref b) H') : rSlT K (.ref p) l u H Q := ⟨p, xs, rfl, h, hw, fun b n => q b _ n (Kp.new n) upd_same⟩
theorem cut_to (n : Nat) : cutV xs none (some (n : Int)) = xs.take n := by
  unfold cutV
  rw [HT.sIx_nat, HT.sIx_none, List.drop_zero, Nat.sub_zero]
  by_cases h : n ≤ xs.length
  · rw [Nat.min_eq_left h]
  · rw [Nat.min_eq_right (by omega), List.take_length, List.take_of_length_le (by omega)]
theorem cut_from (n : Nat) : cutV xs (some (n : Int)) none = xs.drop n := by
  unfold cutV
  rw [HT.sIx_nat, HT.sIx_none]
  by_cases h : n ≤ xs.length
  · rw [Nat.min_eq_left h, List.take_of_length_le (by rw [List.length_drop]; omega)]
  · rw [Nat.min_eq_right (by omega), List.drop_length, List.take_nil, List.drop_eq_nil_of_le (show xs.length ≤ n by omega)]
theorem cut_last : cutV xs none (some (-1)) = xs.take (xs.length - 1) := by
  have e : HT.sIx xs.length xs.length (some (-1)) = xs.length - 1 := by
    show (if (-1 : Int) < 0 then ((-1 : Int) + (xs.length : Int)).toNat else min ((-1 : Int).toNat) xs.length) = xs.length - 1
    rw [if_pos (by decide)]
    omega
  unfold cutV
  rw [e, HT.sIx_none, List.drop_zero, Nat.sub_zero]
theorem atI_last {α : Type} {l : List α} {v : α} (h : l[l.length - 1]? = some v) : atI l (-1) = some v := by
  have hl : l.length - 1 < l.length := (List.getElem?_eq_some_iff.mp h).1
  have e : ixN l.length (-1) = some (l.length - 1) := by
    unfold ixN
    rw [if_neg (by omega), if_pos (by omega)]
    have : ((-1 : Int) + (l.length : Int)).toNat = l.length - 1 := by omega
    rw [this]
  unfold atI
  rw [e]
  exact h
end
end Rd

set_option maxHeartbeats 4000000
/-! TupIt: iter(t) of a tuple: the iterator as an object of the heap. -/
namespace Rd
open PySem PySem.Spec L2 StX PyProof.Rows
def tiObj (t : Addr) : Obj := { cls := .type "tuple_iterator", data := .fields #[.ref t, .int 0 0] }
/-- at it an iterator over the tuple at t, i turns done -/
def TiO (t it : Addr) (i : Nat) : HO := .ext fun h => h.IsTupleIter it t i
section
variable {prog : Program} {w : World} {A : Around} {E : Value → Shared → Prop} {s : Shared} {t it : Addr}
theorem call_iter_tup {items : Array Value} {Q : Value → Shared → Prop} (hl : s.heap.IsTuple t items) (h : Q (.ref s.heap.objs.size) { s with heap := s.heap.push (tiObj t) }) : wpAny (model prog w) A (call (.builtin "iter") [.ref t]) Q E s := by
  refine Calls.call_function_entry (by decide +kernel) (by decide +kernel) PySem.W.kdk_entry_iter (PySem.W.kdk_args_iter _) ?_
  unfold Builtin.«iter»
  refine wpAny_bind (m := someArgs "iter" 1 2 _) (wpAny_of_eq (a := [Value.ref t]) (by first | rfl | kernel_rfl!) ?_)
  show wpAny _ _ (pyIter (.ref t) >>= _) _ _ _
  refine wpAny_bind (wpAny_pyIter_tuple hl ?_)
  exact wpAny_pure ⟨_, rfl, h⟩
theorem tiO_ok {P : Program} {H : Hp} {h : Heap} {i : Nat} (e : h.IsTupleIter it t i) : ObjOk P w H h it (TiO t it i) := ⟨e, ⟨_, e.choose_spec.1⟩, fun h1 h2 q k => Heap.IsTupleIter.at q fun o e => k o e⟩
variable {X : Cx} {pins : List (Addr × Obj)} {σ : L2.St} {H : Hp}
theorem tiO_get {i : Nat} (I : Inv X pins σ H s) (e : H it = some (TiO t it i)) : s.heap.IsTupleIter it t i := (I.hok it _ e).1
def rIterT (K : PySem.W.Frag) : List V → Hp → VK → Prop := fun xs H Q => ∃ (t : Addr) (zs : List V), xs = [.ref t] ∧ SqT K H t zs ∧ ∀ it, H it = none → Q (.ref it) (upd H it (TiO t it 0))
theorem call_iterT : CallR X (.builtin "iter") (rIterT X.K) := by
  intro pins s σ H xs us Q I r h
  obtain ⟨t, zs, rfl, hq, q⟩ := h
  obtain rfl := Vals.ref1 r
  obtain ⟨its, rv, pl, hz⟩ := I.tuple hq
  refine call_iter_tup pl ?_
  exact ⟨.ref s.heap.objs.size, _, I.laid (t' := s.toks) (fun b u e => Heap.get?_push_of_some _ e) (Nat.le_refl _) (tiO_ok ⟨_, Heap.get?_push_size _ rfl, rfl, rfl⟩), rfl, q _ (I.hok.fresh (Nat.le_refl _))⟩
theorem r_iterT {K : PySem.W.Frag} {Q : VK} {zs : List V} (h : SqT K H t zs) (q : ∀ it H', H it = none → Kp [] H H' → H' it = some (TiO t it 0) → Q (.ref it) H') : rIterT K [.ref t] H Q := ⟨t, zs, rfl, h, fun it n => q it _ n (Kp.new n) upd_same⟩
theorem K_iterT {K : PySem.W.Frag} (hK : X.K = K) : CallR X (.builtin "iter") (rIterT K) := by
  subst hK
  exact call_iterT
/-- an iterator that has ended -/
def TiE (it : Addr) : HO := .ext fun h => ∃ o, h.get? it = some o
theorem tiE_ok {P : Program} {H : Hp} {h : Heap} (e : ∃ o, h.get? it = some o) : ObjOk P w H h it (TiE it) := ⟨e, e, fun h1 h2 q k => let ⟨o, e⟩ := q; ⟨o, k o e⟩⟩
theorem ti_end {i : Nat} {items : Array Value} {Q : Option Value → Shared → Prop} (hh : A.handled = none) (hit : s.heap.IsTupleIter it t i) (ht : s.heap.IsTuple t items) (hx : items[i]? = none)
    (hQ : ∀ h', (∃ o, h'.get? it = some o) → Heap.ExtBut it s.heap h' → Q none { s with heap := h' }) : wpAny (model prog w) A (pyNext (.ref it)) Q E s := by
  obtain ⟨o, ho, hc, hd⟩ := id hit
  obtain ⟨ol, hol, _, nl, hdl⟩ := ht
  unfold pyNext
  refine wpAny_bind (wpAny_attempt (wpAny_callSpecial?_slot (name := Str.ofString "__next__") hit.typeIs PySem.F.slot_tuple_iterator_next
    (wpAny_call_entry PySem.F.slot_tuple_iterator_next hit.typeIs PySem.F.entry_tuple_iterator_next ?_ (PySem.F.args_tuple_iterator_next_1 _))))
  show wpAny _ _ (field (.ref it) 0 >>= _) _ _ s
  refine wpAny_bind (wpAny_field ho hd (x := .ref t) rfl ?_)
  show wpAny _ _ (if (Value.ref t == Value.none) = true then _ else _) _ _ s
  rw [if_neg (show ¬ ((Value.ref t == Value.none) = true) from Bool.false_ne_true)]
  show wpAny _ _ (field (.ref it) 1 >>= _) _ _ s
  refine wpAny_bind (wpAny_field ho hd (x := .int i 0) rfl ?_)
  show wpAny _ _ (seqItems? (.ref t) >>= _) _ _ s
  refine wpAny_bind (wpAny_seqItems hol hdl ?_)
  simp only [Int.toNat_natCast, hx]
  refine wpAny_bind (wpAny_rule (wpAny_bind (wpAny_setField ho hd (by simp) ?_)))
  show wpAny _ _ (newExc (.type "StopIteration") [] >>= _) _ _ _
  refine wpAny_bind ?_
  simp only [newExc, newTuple]
  refine wpAny_bind (wpAny_newObj_type ?_ (by size_fits))
  refine wpAny_bind (m := firstArgMember _ _) (wpAny_of_eq (a := Value.none) (by first | rfl | (simp only [firstArgMember]; rfl)) ?_)
  refine wpAny_newObj_type ?_ (by size_fits)
  simp only [raiseNew]
  refine wpAny_bind (wpAny_handled ?_)
  first | rw [show A.in1.handled = none from hh] | rw [hh]
  refine wpAny_bind (wpAny_pure (wpAny_throw ?_))
  refine wpAny_bind (wpAny_isInstance (T := "StopIteration") (b := true) ⟨_, Heap.get?_push_size _ rfl, rfl⟩ isSubtype_stop ?_)
  refine wpAny_pure (hQ _ ⟨_, Heap.get?_push_of_some _ (Heap.get?_push_of_some _ (Heap.get?_update_self _ ho (Obj.isFreed_of_fields (Obj.data_mapFields hd _))))⟩ (((Heap.SameBut.update ..).extBut.push _).push _))
/-- the iterator's items go into a list -/
theorem ti_fill {xs : List V} {q : Addr} {A1 : Around} {Rs : Result → Shared → Prop} (hc : X.calm = true) (hA : A1.handled = none) (t1 : t ≠ it) (t2 : t ≠ q) : ∀ (m i : Nat) (H : Hp) (s : Shared), xs.length - i = m → i ≤ xs.length → Inv X pins σ H s → H it = some (TiO t it i) → SqT X.K H t xs → H q = some (.lst (xs.take i)) →
    (∀ H' s', Inv X pins σ H' s' → Kp [it, q] H H' → H' q = some (.lst xs) → Rs (.ok (.ret .none)) s') → codeAny (model X.prog X.w) A1 (.builtin "list.extend.loop" ⟨[.ref q, .ref it, .none], []⟩) Rs s := by
  intro m
  induction m with
  | zero =>
    intro i H s hm hi I ei ht eq hR
    have hin : i = xs.length := by omega
    subst hin
    obtain ⟨its, rv, p, hz⟩ := I.tuple ht
    have hl := rv.length
    refine codeAny_builtin PySem.F.entry_extend_loop ?_
    rw [Around.under_plainId PySem.F.plain_extend_loop _]
    show wpAny _ A1.in1 (pyNext (.ref it) >>= _) _ _ s
    refine wpAny_bind (ti_end hA (tiO_get I ei) (show s.heap.IsTuple t its.toArray from p) (by simp; omega) fun h' eo eb => ?_)
    have mu : Mut (H it) := by rw [ei]; exact True.intro
    have I1 : L2.Inv X pins σ (upd H it (TiE it)) { s with heap := h' } := I.write (x := it) (e := it) (t' := s.toks) mu (.inl rfl) (fun b o nb z => eb b o nb z) eo (tiE_ok eo)
    have qi : q ≠ it := fun e => by
      rw [e, ei] at eq
      cases eq
    refine wpAny_pure (hR _ _ I1 (Kp.put List.mem_cons_self) ?_)
    rw [upd_ne qi, eq, List.take_length]
  | succ m ih =>
    intro i H s hm hi I ei ht eq hR
    obtain ⟨its, rv, p, hz⟩ := I.tuple ht
    have hl := rv.length
    have hix : i < xs.length := by omega
    obtain ⟨u, hu, ru⟩ := rv.get (List.getElem?_eq_getElem hix)
    have qi : q ≠ it := fun e => by
      rw [e, ei] at eq
      cases eq
    refine codeAny_builtin PySem.F.entry_extend_loop ?_
    rw [Around.under_plainId PySem.F.plain_extend_loop _]
    show wpAny _ A1.in1 (pyNext (.ref it) >>= _) _ _ s
    refine wpAny_bind (wpAny_pyNext_tuple_item (tiO_get I ei) (show s.heap.IsTuple t its.toArray from p) (x := u) (by simpa using hu) fun h' st' sb => ?_)
    have mu : Mut (H it) := by rw [ei]; exact True.intro
    have I1 : L2.Inv X pins σ (upd H it (TiO t it (i + 1))) { s with heap := h' } := I.write (x := it) (e := it) (t' := s.toks) mu (.inl rfl) (fun b o nb z => (sb.2 b nb).trans z) ⟨_, st'.choose_spec.1⟩ (tiO_ok st')
    have eq1 : upd H it (TiO t it (i + 1)) q = some (.lst (xs.take i)) := by rw [upd_ne qi, eq]
    obtain ⟨z, its2, k, r2, hl2, e⟩ := I1.lstM eq1
    show wpAny _ A1.in1 (updateSeq q (·.push u) >>= _) _ _ _
    refine wpAny_bind (wpAny_updateSeq e rfl (wpAny_pure ⟨plainId_quiet PySem.F.plain_extend_loop _, ?_⟩) (by rw [List.size_toArray]; omega) (by show (its2.toArray.push u).size ≤ sizeLine + 1; rw [Array.size_push, List.size_toArray]; omega))
    have I2 := I1.lset (f := (·.push u)) (its := its2) (its' := its2 ++ [u]) (ys := xs.take i ++ [xs[i]]) (t' := s.toks) eq1 e (by simp) (r2.append (.cons ru .nil)) (by rw [List.length_append, List.length_take, List.length_singleton]; omega)
    have hI : it ≠ q := qi.symm
    refine ih (i + 1) _ _ (by omega) hix I2 ?_ ?_ ?_ fun H' s' I' k' e' => hR H' s' I' ?_ e'
    · rw [upd_ne hI, upd_same]
    · exact sqt_kp (sqt_kp ht (Kp.put (ex := [it]) List.mem_cons_self) (not_one t1)) (Kp.put (ex := [q]) List.mem_cons_self) (not_one t2)
    · rw [upd_same, ← List.take_succ_eq_append_getElem hix]
    · exact ((Kp.put List.mem_cons_self).trans (Kp.put (List.mem_cons_of_mem _ List.mem_cons_self))).trans k'
end
end Rd

set_option maxHeartbeats 4000000
/-! OwnList: list(o), o's own __iter__ returns an iterator over a tuple, with an own __len__. -/
namespace Rd
open PySem PySem.Spec L2 PyProof.Rows
section
variable {X : Cx} {pins : List (Addr × Obj)} {σ : L2.St} {H : Hp} {s : Shared} {a C dx f : Addr} {fs : List (Str × V)} {sp : Sp} {n : Nat} {E : Value → Shared → Prop} {A1 : Around}
theorem ol_hint {R : Hp → Prop} {Q : Bool → Shared → Prop} (sb : Sub X n A1.in1) (hm : Meth X.K C "__len__" f) (F : FnR X.prog X.w X.K X.mg X.base CX0 n f sp) (I : Inv X pins σ H s) (ea : H a = some (.ins C dx fs))
    (q : sp [.ref a] H (fun v H' => ∃ k : Int, v = .int k ∧ 0 ≤ k ∧ k < 1000 ∧ R H') E0) (hQ : ∀ b H' s', Inv X pins σ H' s' → R H' → Q b s') :
    wpAny (model X.prog X.w) A1 (Builtin.List.listLengthHint (.ref a)) Q E s := by
  obtain ⟨mA, J, _⟩ := ins_get I.hok ea
  obtain ⟨od, J, _⟩ := J.look
  obtain ⟨m, hF⟩ := I.fr
  unfold Builtin.List.listLengthHint
  refine wpAny_bind (wpAny_bind (J.type.here ((PySem.W.looks_findIn I.kIn hm.at_).here ?_)))
  refine PySem.W.KFB.if_not rfl ?_
  refine PySem.W.KFB.if_so rfl ?_
  refine wpAny_bind (wpAny_rule ?_)
  refine wpAny_bind (wpAny_attempt ?_)
  have e0 : Env0 X.prog X.w X.K X.mg X.base A1.in1 X.stack s H := by
    have e := I.env0
    exact ⟨by rw [sb.fr]; exact e.frames, e.mod, e.bs, e.bsz, e.funs, e.frf, e.hok, e.bare⟩
  refine PySem.W.len_K hF I.ok.mod.kin J hm.at_ hm.fn (wpAny_call (codeAny_mono (F A1.in1 X.stack s H [.ref a] [.ref a] _ E0 sb.room e0 (.cons rfl .nil) q) fun r s' z => ?_))
  cases r with
  | error e => exact False.elim z
  | ok fl =>
    cases fl with
    | ret u =>
      obtain ⟨z', H', I', rz, k, rfl, k0, k1, qz⟩ := I.after z
      obtain ⟨t, e⟩ := (show ∃ t, u = Value.int k t from rz)
      cases e
      refine ⟨⟨k0, by omega⟩, ?_⟩
      refine wpAny_bind (wpAny_pure ?_)
      refine PySem.W.KFB.if_not (decide_eq_false (by have : 1000 < sizeLine := by decide
                                                     omega)) ?_
      exact wpAny_pure (hQ _ H' _ (I'.tok _) qz)
    | next => exact False.elim z
    | brk => exact False.elim z
    | cont => exact False.elim z
/-- list(o): __iter__ gives an iterator over the tuple of xs, __len__ a number -/
def rListOwn (K : PySem.W.Frag) (C : Addr) (spI spL : Sp) : List V → Hp → VK → Prop := fun vs H Q => ∃ a dx fs t xs, vs = [.ref a] ∧ H a = some (.ins C dx fs) ∧ SqT K H t xs ∧
  ∀ q, H q = none → spI [.ref a] (upd H q (.lst [])) (fun v H1 => ∃ it, v = .ref it ∧ t ≠ it ∧ H1 it = some (TiO t it 0) ∧ Kp [] (upd H q (.lst [])) H1 ∧
    spL [.ref a] H1 (fun v H2 => ∃ k : Int, v = .int k ∧ 0 ≤ k ∧ k < 1000 ∧ Kp [] H1 H2 ∧ ∀ H3, Kp [it, q] H2 H3 → H3 q = some (.lst xs) → Q (.ref q) H3) E0) E0
theorem next_ti {it t : Addr} {i : Nat} {M : Model} {Q : Value → Shared → Prop} (h : s.heap.IsTupleIter it t i) (q : Q (.ref it) s) : PySem.W.OwitIt M A1 Q E (.ref it) s := by
  unfold PySem.W.OwitIt
  exact wpAny_specialOf h.typeIs PySem.F.slot_tuple_iterator_next.lookup q
variable {fi fl : Addr} {spI spL : Sp}
theorem call_listOwnT (hc : X.calm = true) (it_ : PySem.W.findIn X.K (.ref C) "__iter__" = some (some (.ref fi))) (itF : PySem.W.isFn X.K (.ref fi) = true) (FI : FnR X.prog X.w X.K X.mg X.base CX0 n fi spI)
    (hl : Meth X.K C "__len__" fl) (FL : FnR X.prog X.w X.K X.mg X.base CX0 n fl spL) (hr : Room (n + 3) X.A) : CallR X (.type "list") (rListOwn X.K C spI spL) := by
  intro pins s σ H xs us Q I rv h
  obtain ⟨a, dx, fs, t, xs, rfl, ha, ht, hq⟩ := h
  obtain ⟨u, rfl, ru⟩ := rv.one
  cases ru
  have sb : Sub X (n + 1) X.A.in1.in1 := (Sub.in1 (Sub.in1 (⟨hr, rfl⟩ : Sub X (n + 3) X.A)))
  have sb3 : Sub X n X.A.in1.in1.in1 := Sub.in1 sb
  refine callType_codes (Q₁ := fun obj s₁ => obj = .ref s.heap.objs.size ∧ s₁ = { s with heap := s.heap.push { cls := .type "list", data := .seq #[] } }) PySem.F.called_list (PySem.F.typeCall_list_1 _) PySem.F.entry_list_init
    (code_list_new _ ⟨rfl, rfl⟩) fun obj s₁ h₁ => ?_
  obtain ⟨rfl, rfl⟩ := h₁
  have hS : (s.heap.push { cls := .type "list", data := .seq #[] }).get? s.heap.objs.size = some { cls := .type "list", data := .seq #[] } := Heap.get?_push_size _ rfl
  refine ⟨⟨_, hS, rfl⟩, PySem.F.args_list_init_2 _ _, ?_⟩
  have fr : H s.heap.objs.size = none := I.hok.fresh (Nat.le_refl _)
  have hsp := hq _ fr
  have I1 : Inv X pins σ (upd H s.heap.objs.size (.lst [])) { s with heap := s.heap.push { cls := .type "list", data := .seq #[] } } := I.lnew (its := []) (t' := s.toks) .nil (Nat.zero_le _)
  show wpAny _ _ (do let old ← Builtin.List.listItems (.ref s.heap.objs.size); Builtin.List.listUpdate (.ref s.heap.objs.size) (fun _ => #[]); letGo old.toList.reverse; Builtin.List.listExtendWith (.ref s.heap.objs.size) (.ref a) .none) _ _ _
  refine wpAny_bind ?_
  unfold Builtin.List.listItems
  refine wpAny_bind (wpAny_seqItems hS rfl (wpAny_pure ?_))
  show wpAny _ _ (updateSeq s.heap.objs.size (fun _ => #[]) >>= fun _ => letGo (#[] : Array Value).toList.reverse >>= fun _ => Builtin.List.listExtendWith (.ref s.heap.objs.size) (.ref a) .none) _ _ _
  refine wpAny_bind (wpAny_updateSeq hS rfl ?_)
  have I2 := I1.lset (f := fun _ => #[]) (its := []) (its' := []) (ys := []) (t' := s.toks) upd_same hS rfl .nil (Nat.zero_le _)
  rw [upd_upd] at I2
  refine wpAny_bind (wpAny_letGo ?_)
  have ha2 : upd H s.heap.objs.size (.lst []) a = some (.ins C dx fs) := by rw [upd_ne (ne_of_none ha fr)]; exact ha
  have hne : s.heap.objs.size ≠ a := fun e => by rw [← e, fr] at ha; cases ha
  obtain ⟨mA, J, _⟩ := ins_get I2.hok ha2
  obtain ⟨od, J, _⟩ := J.look
  obtain ⟨m0, hF⟩ := I2.fr
  unfold Builtin.List.listExtendWith
  refine wpAny_bind (J.type.here ?_)
  have h1 : Builtin.List.listSameRef (.ref s.heap.objs.size) (.ref a) = false := by simp [Builtin.List.listSameRef, hne]
  have h2 : (Value.ref C == Value.type "list") = false := rfl
  have h3 : (Value.ref C == Value.type "tuple") = false := rfl
  simp only [h1, h2, h3, Bool.or_false, Bool.false_eq_true, if_false]
  refine wpAny_bind (PySem.W.owit_iter hF I2.ok.mod.kin J it_ itF ?_)
  have e := I2.env0
  refine wpAny_call (codeAny_mono (FI X.A.in1.in1 X.stack _ _ [.ref a] [.ref a] _ E0 (sb.room.mono (Nat.le_succ n)) ⟨by rw [sb.fr]; exact e.frames, e.mod, e.bs, e.bsz, e.funs, e.frf, e.hok, e.bare⟩ (.cons rfl .nil) hsp) fun r s' z => ?_)
  cases r with
  | error e => exact False.elim z
  | ok fo =>
    cases fo with
    | next => exact False.elim z
    | brk => exact False.elim z
    | cont => exact False.elim z
    | ret u =>
      obtain ⟨v, H1, I3, rv, it, rfl, ti, eit, k1, hsp2⟩ := I2.after z
      cases (show u = Value.ref it from rv)
      refine next_ti (tiO_get I3 eit) ?_
      refine wpAny_bind (wpAny_holding (ol_hint (E := _) (R := fun H2 => Kp [] H1 H2 ∧ ∀ H3, Kp [it, s.heap.objs.size] H2 H3 → H3 s.heap.objs.size = some (.lst xs) → Q (.ref s.heap.objs.size) H3) sb3 hl FL I3 (k1 _ _ ha2 not_nil) hsp2 fun b H2 s2 I4 hR => ?_))
      obtain ⟨k2, qq⟩ := hR
      have hq1 : (upd H s.heap.objs.size (.lst [])) s.heap.objs.size = some (.lst []) := upd_same
      have hq2 := k2 _ _ (k1 _ _ hq1 not_nil) not_nil
      have eit2 := k2 _ _ eit not_nil
      have tq : t ≠ s.heap.objs.size := fun e => by
        obtain ⟨its, rv, p, _⟩ := I.tuple ht
        obtain ⟨o, ho, _⟩ := p
        rw [e] at ho
        exact absurd ho (by rw [PyProof.Rows.new_of_ge (Nat.le_refl _)]; simp)
      have ht2 : SqT X.K H2 t xs := sqt_kp (sqt_kp (sqt_kp ht (Kp.new fr) not_nil) k1 not_nil) k2 not_nil
      refine wpAny_ite_split (fun _ => ?_) (fun _ => wpAny_pure ⟨plainId_quiet PySem.F.plain_extend_loop _, ti_fill (A1 := X.A.in1) hc (show X.A.in1.handled = none from I4.ok.hd hc) ti tq _ 0 H2 s2 rfl (Nat.zero_le _) I4 eit2 ht2 hq2 fun H3 s3 I5 k3 e3 => ⟨rfl, .ref s.heap.objs.size, H3, I5, rfl, qq H3 k3 e3⟩⟩)
      obtain ⟨z, its, k, r3, hl3, e3⟩ := I4.lstM hq2
      cases r3
      refine wpAny_bind (wpAny_rule ?_)
      refine wpAny_bind ?_
      show wpAny _ _ (updateSeq s.heap.objs.size (·.push .none) >>= fun _ => updateSeq s.heap.objs.size (·.pop)) _ _ _
      refine wpAny_bind (wpAny_updateSeq e3 rfl ?_)
      have J2 := I4.lset (f := (·.push Value.none)) (its' := [Value.none]) (ys := [.non]) (t' := s2.toks) hq2 e3 (by simp) (.cons rfl .nil) (by rw [List.length_singleton, sizeLine_eq]; decide)
      obtain ⟨z4, its4, k4, r4, hl4, e4⟩ := J2.lstM upd_same
      obtain ⟨u4, rfl, ru4⟩ := r4.one
      have J3 := J2.lset (f := (·.pop)) (its := [u4]) (its' := []) (ys := []) (t' := s2.toks) upd_same e4 (by rfl) .nil (Nat.zero_le _)
      rw [upd_upd] at J3
      have hH : upd H2 s.heap.objs.size (.lst []) = H2 := by
        funext b
        by_cases hb : b = s.heap.objs.size
        · rw [hb, upd_same, hq2]
        · rw [upd_ne hb]
      rw [hH] at J3
      refine wpAny_updateSeq e4 rfl ?_ (by show 1 ≤ sizeLine; rw [sizeLine_eq]; decide) (by show 0 ≤ sizeLine + 1; exact Nat.zero_le _)
      exact wpAny_pure ⟨plainId_quiet PySem.F.plain_extend_loop _, ti_fill (A1 := X.A.in1) hc (show X.A.in1.handled = none from I4.ok.hd hc) ti tq _ 0 H2 _ rfl (Nat.zero_le _) J3 eit2 ht2 hq2 fun H3 s3 I5 k3 e3 => ⟨rfl, .ref s.heap.objs.size, H3, I5, rfl, qq H3 k3 e3⟩⟩
end
end Rd

set_option maxHeartbeats 4000000
/-! OwnNe: a != b by an own __eq__. -/
namespace PySem.W
open PySem PySem.Spec PySem.Calls PyProof.Rows
section
variable {prog : Program} {w : World} {A : Around} {E : Value → Shared → Prop} {s : Shared} {K : Frag} {x C : Addr} {ox : Obj} {od : Option Obj} {name : Str} {id B : String}
theorem ifBoundB_K {M : Model} {args : List Value} {Q : Option Value → Shared → Prop} (X : K.In s.heap) (I : InstAt s.heap x ox C od) (hs : findIn K (.ref C) name = some (some (.builtin id))) (S : Slot B name id)
    (h : wpAny M A (call (.builtin id) (.ref x :: args)) (fun v => Q (some v)) E s) : wpAny M A (callSpecialIfBound? (.ref x) name args) Q E s := by
  simp only [callSpecialIfBound?, bindSpecialIfBound?]
  refine wpAny_holding (wpAny_bind (wpAny_bind (wpAny_bind (I.type.here ((looks_findIn X hs).here ?_)))))
  simp only [S.bind]
  refine wpAny_bind (wpAny_askSetting (wpAny_ite ?_))
  have fin : wpAny M A (call (.builtin id) ([.ref x] ++ args) >>= fun v => pure (some v)) Q E s := wpAny_bind (wpAny_mono h (fun v s' h' => wpAny_pure h') fun _ _ h' => h')
  split
  · exact wpAny_bind (wpAny_pure (wpAny_pure fin))
  · exact wpAny_tryCatch (wpAny_bind (wpAny_pure (wpAny_pure fin)))
theorem check_ne {rest : List Value} {Q : Unit → Shared → Prop} (X : K.In s.heap) (I : InstAt s.heap x ox C od) (hm : mroIn K C (.type "object") = some true) (ha : argsOk "object.__ne__" ⟨.ref x :: rest, []⟩) (hq : Q () s) :
    wpAny (model prog w) A (checkBuiltinCall "object.__ne__" ⟨.ref x :: rest, []⟩) Q E s := by
  simp only [checkBuiltinCall, F.cmpKind_ne, F.cmpSplit_ne]
  refine wpAny_bind ?_
  have L : Looks (model prog w) s.heap (isInstance (.ref x) (.type "object")) true := Looks.andThen I.type (looks_mroIn (M := model prog w) X hm)
  refine wpAny_mono (L.here (Q := fun b s' => b = true ∧ s' = s) ⟨rfl, rfl⟩) (fun b s' h => ?_) fun _ _ z => z
  obtain ⟨rfl, rfl⟩ := h
  refine KFB.if_not rfl ?_
  cases hsig : Manifest.signature? "object.__ne__" with
  | none => exact wpAny_pure hq
  | some sig =>
    simp only [argsOk, hsig] at ha
    have h2 : Bind.checkArgs "object.__ne__" sig ⟨.ref x :: rest, []⟩ = pure () := ha
    show wpAny _ A (Bind.checkArgs "object.__ne__" sig ⟨.ref x :: rest, []⟩) Q E _
    rw [h2]
    exact wpAny_pure hq
theorem objNe_K {b : Value} {f : Addr} (X : K.In s.heap) (I : InstAt s.heap x ox C od) (he : findIn K (.ref C) "__eq__" = some (some (.ref f))) (hf : isFn K (.ref f) = true) (hu : A.units < cLine) {Q : Fin → Shared → Prop}
    (hcall : wpAny (model prog w) A (call (.ref f) [.ref x, b]) (fun v s' => ∃ c, v = .bool c ∧ Q (.done (.ret (.bool (!c)))) s') E s) :
    wpAny (model prog w) A (Builtin.«object.__ne__» ⟨[.ref x, b], []⟩) Q E s := by
  unfold Builtin.«object.__ne__»
  repeat (first
    | with_reducible refine wpAny_cRoomFor hu ?_
    | (refine wpAny_bind (m := callSpecialIfBound? (.ref x) (Str.ofString "__eq__") [b])
        (ifBound_K X I he hf (wpAny_mono hcall (fun r s' hr => by
          obtain ⟨c, rfl, hq⟩ := hr
          repeat (first | exact hq | exact wpAny_pure hq | exact wpAny_truthy_bool hq | (refine wpAny_bind (m := truthy (.bool _)) (wpAny_truthy_bool ?_)) | wp_step)) fun _ _ e => e)))
    | wp_step)
theorem ne_K {b tb : Value} {f : Addr} {h₀ : Heap} {L : Addr} {m : Str → Option Value} {Q : Value → Shared → Prop} (hu : A.units + 1 < cLine) (F : Fr h₀ L s.heap m) (X₀ : K.In h₀) (I : InstAt s.heap x ox C od) (hb : Looks (model prog w) s.heap (typeOf b) tb) (hn : notFirst K C tb = true)
    (hne : findIn K (.ref C) "__ne__" = some (some (.builtin "object.__ne__"))) (he : findIn K (.ref C) "__eq__" = some (some (.ref f))) (hf : isFn K (.ref f) = true) (hm : mroIn K C (.type "object") = some true)
    (h : wpAny (model prog w) A.in1 (call (.ref f) [.ref x, b]) (fun v s' => ∃ c, v = .bool c ∧ Q (.bool (!c)) s') E s) : wpAny (model prog w) A (richCompare .NotEq (.ref x) b) Q E s := by
  have X := X₀.keeps F.keep
  have one : wpAny (model prog w) A (tryCompare (.ref x) "__ne__" b) (fun r s' => ∃ v, r = some v ∧ Q v s') E s := by
    simp only [tryCompare]
    refine wpAny_bind (ifBoundB_K X I hne PySem.F.cmp_object.ne (wpAny_call (codeAny_call_builtin PySem.F.cmp_object.ne.plain PySem.F.cmpEntry_ne
      (check_ne X I hm (PySem.F.cmpArgs_ne _ _) (objNe_K (A := A.in1) X I he hf hu (wpAny_mono h (fun v s' hv => ?_) fun _ _ e => e))))))
    obtain ⟨c, rfl, hq⟩ := hv
    exact ⟨c, rfl, wpAny_pure ⟨_, rfl, hq⟩⟩
  unfold richCompare
  simp only [oneThing_ref]
  refine wpAny_holding (wpAny_bind (wpAny_cRoomFor (Nat.lt_of_succ_lt hu) ?_))
  rw [cmpInfo_NotEq]
  refine wpAny_bind (I.type.here (wpAny_bind (hb.here ?_)))
  split
  · rename_i q
    have e : subIn K tb (.ref C) = some false := by
      rcases Bool.or_eq_true_iff.mp hn with e | e
      · rw [beq_iff_eq.mp e] at q; simp at q
      · exact beq_iff_eq.mp e
    refine wpAny_bind ((looks_subIn X e).here ?_)
    simp only [Bool.false_eq_true, if_false]
    refine wpAny_bind (wpAny_mono one (fun r s' z => ?_) fun _ _ e => e)
    obtain ⟨v, rfl, hq⟩ := z
    exact wpAny_pure hq
  · refine wpAny_bind (wpAny_pure ?_)
    simp only [Bool.false_eq_true, if_false]
    refine wpAny_bind (wpAny_mono one (fun r s' z => ?_) fun _ _ e => e)
    obtain ⟨v, rfl, hq⟩ := z
    exact wpAny_pure hq
end
end PySem.W

set_option maxHeartbeats 4000000
/-! OwnEq: != by an own __eq__; == of an own object and data; list(o) with K named. -/
namespace Rd
open PySem PySem.Spec L2
/-- x != y, both of the class at C -/
def rNeOwn (C : Addr) (sp : Sp) : R2 := fun x y H Q => ∃ a dx fs b dy gs, x = .ref a ∧ y = .ref b ∧ H a = some (.ins C dx fs) ∧ H b = some (.ins C dy gs) ∧ sp [.ref a, .ref b] H (fun z H' => ∃ c, z = .bl c ∧ Q (.bl (!c)) H') E0
/-- x == y, x of the class at C, y of another type -/
def rEqOth (K : PySem.W.Frag) (C : Addr) (sp : Sp) : R2 := fun x y H Q => ∃ a dx fs t, x = .ref a ∧ H a = some (.ins C dx fs) ∧ TyX K H y t ∧ PySem.W.notFirst K C t = true ∧ sp [.ref a, y] H (fun z H' => ∃ c, z = .bl c ∧ Q (.bl c) H') E0
section
variable {X : Cx} {n : Nat} {C f : Addr} {sp : Sp}
theorem op_neOwn (hm : Meth X.K C "__eq__" f) (F : FnR X.prog X.w X.K X.mg X.base CX0 n f sp) (hr : Room n X.A) (hne : PySem.W.findIn X.K (.ref C) "__ne__" = some (some (.builtin "object.__ne__"))) (ho : PySem.W.mroIn X.K C (.type "object") = some true)
    (hr1 : Room (n + 1) X.A) : OpR X (compareOp .NotEq) (rNeOwn C sp) := by
  intro pins s σ H x y v u Q I rx ry h
  obtain ⟨a, dx, fs, b, dy, gs, rfl, rfl, ea, eb, q⟩ := h
  cases (show v = Value.ref a from rx)
  cases (show u = Value.ref b from ry)
  obtain ⟨mA, O, _⟩ := ins_get I.hok ea
  obtain ⟨od, J, _⟩ := O.look
  obtain ⟨mB, O', _⟩ := ins_get I.hok eb
  obtain ⟨od', J', _⟩ := O'.look
  obtain ⟨m, hF⟩ := I.fr
  have nf : PySem.W.notFirst X.K C (.ref C) = true := by
    unfold PySem.W.notFirst
    simp
  refine PySem.W.ne_K (tb := .ref C) (by have := hr1.units; have := hr.units; omega) hF I.ok.mod.kin J J'.type nf hne hm.at_ hm.fn ho ?_
  refine wpAny_call (codeAny_mono (F X.A.in1 X.stack s H [.ref a, .ref b] [.ref a, .ref b] _ E0 hr1.in1 I.env0.in1 (.cons rfl (.cons rfl .nil)) q) fun r s' z => ?_)
  cases r with
  | error e => exact False.elim z
  | ok fl =>
    cases fl with
    | ret u =>
      obtain ⟨z', H', I', rz, c, rfl, qz⟩ := I.after z
      cases (show u = Value.bool c from rz)
      exact ⟨c, rfl, .bl (!c), H', I'.tok _, rfl, qz⟩
    | next => exact False.elim z
    | brk => exact False.elim z
    | cont => exact False.elim z
theorem op_eqOth (hm : Meth X.K C "__eq__" f) (F : FnR X.prog X.w X.K X.mg X.base CX0 n f sp) (hr : Room n X.A) : OpR X (compareOp .Eq) (rEqOth X.K C sp) := by
  intro pins s σ H x y v u Q I rx ry h
  obtain ⟨a, dx, fs, t, rfl, ea, ty, nf, q⟩ := h
  cases (show v = Value.ref a from rx)
  obtain ⟨mA, O, _⟩ := ins_get I.hok ea
  obtain ⟨od, J, _⟩ := O.look
  obtain ⟨P, Z, p, hx⟩ := kit_of I ry ty
  obtain ⟨m, hF⟩ := I.fr
  refine PySem.W.cmp_K (op := .Eq) (tb := t) hr.units0 hF I.ok.mod.kin J (Z.ty _ _ I.kIn p) nf hm.at_ hm.fn ?_
  refine wpAny_mono (wpAny_call (run_fnR (us := [.ref a, u]) (vs := [.ref a, y]) F hr pass0 I (.cons rfl (.cons ry .nil)) q)) (fun r s' z => ?_) fun _ _ x => x
  obtain ⟨z', H', I', rz, c, rfl, qz⟩ := z
  cases (show r = Value.bool c from rz)
  exact ⟨.bl c, H', I', rfl, qz⟩
theorem K_eqOth {K : PySem.W.Frag} (hK : X.K = K) (hm : Meth K C "__eq__" f) (F : FnR X.prog X.w K X.mg X.base CX0 n f sp) (hr : Room n X.A) : OpR X (compareOp .Eq) (rEqOth K C sp) := by
  subst hK
  exact op_eqOth hm F hr
theorem K_listOwn {K : PySem.W.Frag} {fi fl : Addr} {spI spL : Sp} (hK : X.K = K) (hc : X.calm = true) (hi : Meth K C "__iter__" fi) (FI : FnR X.prog X.w K X.mg X.base CX0 n fi spI)
    (hl : Meth K C "__len__" fl) (FL : FnR X.prog X.w K X.mg X.base CX0 n fl spL) (hr : Room (n + 3) X.A) : CallR X (.type "list") (rListOwn K C spI spL) := by
  subst hK
  exact call_listOwnT hc hi.at_ hi.fn FI hl FL hr
end
section
variable {H : Hp} {Q : VK} {C a b dx dy t : Addr} {fs gs : List (Str × V)} {sp spI spL : Sp} {y : V} {xs : List V} {K : PySem.W.Frag} {ty : Value} {c : Bool}
def kNeg (Q : VK) : VK := fun z H' => ∃ c, z = .bl c ∧ Q (.bl (!c)) H'
def kYes (Q : VK) : VK := fun z H' => ∃ c, z = .bl c ∧ Q (.bl c) H'
theorem r_neOwn (e : H a = some (.ins C dx fs)) (e' : H b = some (.ins C dy gs)) (q : sp [.ref a, .ref b] H (kNeg Q) E0) : rNeOwn C sp (.ref a) (.ref b) H Q := ⟨a, dx, fs, b, dy, gs, rfl, rfl, e, e', q⟩
theorem r_eqOwn (e : H a = some (.ins C dx fs)) (e' : H b = some (.ins C dy gs)) (q : sp [.ref a, .ref b] H (kYes Q) E0) : rEqOwn C sp (.ref a) (.ref b) H Q := ⟨a, dx, fs, b, dy, gs, rfl, rfl, e, e', q⟩
theorem r_eqOth (e : H a = some (.ins C dx fs)) (h : TyX K H y ty) (n : PySem.W.notFirst K C ty = true) (q : sp [.ref a, y] H (kYes Q) E0) : rEqOth K C sp (.ref a) y H Q := ⟨a, dx, fs, ty, rfl, e, h, n, q⟩
theorem r_kNeg (q : Q (.bl (!c)) H) : kNeg Q (.bl c) H := ⟨c, rfl, q⟩
theorem r_kYes (q : Q (.bl c) H) : kYes Q (.bl c) H := ⟨c, rfl, q⟩
/-- list(o) -/
def kLoI (spL : Sp) (a t : Addr) (xs : List V) (q : Addr) (H0 : Hp) (Q : VK) : VK := fun v H1 => ∃ it, v = .ref it ∧ t ≠ it ∧ H1 it = some (TiO t it 0) ∧ Kp [] H0 H1 ∧
    spL [.ref a] H1 (fun v H2 => ∃ k : Int, v = .int k ∧ 0 ≤ k ∧ k < 1000 ∧ Kp [] H1 H2 ∧ ∀ H3, Kp [it, q] H2 H3 → H3 q = some (.lst xs) → Q (.ref q) H3) E0
def kLoL (it q : Addr) (xs : List V) (H1 : Hp) (Q : VK) : VK := fun v H2 => ∃ k : Int, v = .int k ∧ 0 ≤ k ∧ k < 1000 ∧ Kp [] H1 H2 ∧ ∀ H3, Kp [it, q] H2 H3 → H3 q = some (.lst xs) → Q (.ref q) H3
theorem r_listOwn (e : H a = some (.ins C dx fs)) (ht : SqT K H t xs) (q : ∀ q H0, H q = none → Kp [] H H0 → H0 q = some (.lst []) → spI [.ref a] H0 (kLoI spL a t xs q H0 Q) E0) : rListOwn K C spI spL [.ref a] H Q := ⟨a, dx, fs, t, xs, rfl, e, ht, fun p n => q p _ n (Kp.new n) upd_same⟩
theorem r_kLoI {H0 : Hp} {it q : Addr} (n : t ≠ it) (e : H it = some (TiO t it 0)) (k : Kp [] H0 H) (h : spL [.ref a] H (kLoL it q xs H Q) E0) : kLoI spL a t xs q H0 Q (.ref it) H := ⟨it, rfl, n, e, k, h⟩
theorem r_kLoL {H1 : Hp} {it q : Addr} {k : Int} (k0 : 0 ≤ k) (k1 : k < 1000) (kk : Kp [] H1 H) (h : ∀ H3, Kp [it, q] H H3 → H3 q = some (.lst xs) → Q (.ref q) H3) : kLoL it q xs H1 Q (.int k) H := ⟨k, rfl, k0, k1, kk, h⟩
end
end Rd

set_option maxHeartbeats 4000000
/-! Fam: objects of some classes with a common base: ==, properties, str; super().m(..) of an own class. -/
namespace Rd
open PySem PySem.Spec L2 NdefX PyProof.Rows
/-! ### x == y by the base's __eq__ -/
def rEqFam (K : PySem.W.Frag) (S : Addr → Prop) (sp : Sp) : R2 := fun x y H Q => ∃ a C dx fs t, x = .ref a ∧ H a = some (.ins C dx fs) ∧ S C ∧ TyX K H y t ∧ PySem.W.notFirst K C t = true ∧ sp [.ref a, y] H (kYes Q) E0
def cStrFam (S : Addr → Prop) (sp : Sp) : R1 := fun xs H Q => ∃ a C dx fs, xs = [.ref a] ∧ H a = some (.ins C dx fs) ∧ S C ∧ sp [.ref a] H (fun z H' => ∃ y, z = .str y ∧ Q (.str y) H') E0
def kPropF (S : Addr → Prop) (sp : Sp) (Q : VK) : VK := fun x H1 => ∃ a C dx fs, x = .ref a ∧ H1 a = some (.ins C dx fs) ∧ S C ∧ sp [.ref a] H1 Q E0
def tPropF (S : Addr → Prop) (sp : Sp) (ta : TE) : TE := fun σ H Q => ta σ H (kPropF S sp Q)
section
variable {X : Cx} {n : Nat} {f p g : Addr} {sp : Sp} {S : Addr → Prop} {K : PySem.W.Frag}
theorem K_eqFam (hK : X.K = K) (hm : ∀ C, S C → Meth K C "__eq__" f) (F : FnR X.prog X.w K X.mg X.base CX0 n f sp) (hr : Room n X.A) : OpR X (compareOp .Eq) (rEqFam K S sp) := by
  subst hK
  intro pins s σ H x y v u Q I rx ry h
  obtain ⟨a, C, dx, fs, t, rfl, ea, hS, ty, nf, q⟩ := h
  exact op_eqOth (hm C hS) F hr pins s σ H _ y v u Q I rx ry ⟨a, dx, fs, t, rfl, ea, ty, nf, q⟩
theorem cr_strFam (hm : ∀ C, S C → Meth X.K C "__str__" f) (F : FnR X.prog X.w X.K X.mg X.base CX0 n f sp) (hr : Room (n + 2) X.A) : CallR X (.type "str") (cStrFam S sp) := by
  intro pins s σ H xs us Q I r h
  obtain ⟨a, C, dx, fs, rfl, ea, hS, q⟩ := h
  obtain ⟨u, rfl, ru⟩ := r.one
  cases (show u = Value.ref a from ru)
  obtain ⟨mA, O, _⟩ := ins_get I.hok ea
  obtain ⟨od, J, _⟩ := O.look
  have M := hm C hS
  refine PySem.W.kso_call hr.in1.in1.units0 I.kIn J M.at_ M.fn (wpAny_call (codeAny_mono (F X.A.in1.in1 X.stack s H [.ref a] [.ref a] _ E0 hr.in1.in1 I.env0.in1.in1 (.cons rfl .nil) q) fun r s' z => ?_))
  cases r with
  | error e => exact False.elim z
  | ok fl =>
    cases fl with
    | ret u =>
      obtain ⟨z', H', I', rz, y, rfl, qz⟩ := I.after z
      obtain ⟨t, e⟩ := (show ∃ t, u = Value.str y t from rz)
      subst e
      exact ⟨.str y, H', I', ⟨_, rfl⟩, qz⟩
    | next => exact False.elim z
    | brk => exact False.elim z
    | cont => exact False.elim z
theorem pe_propF {fd : FuncData} {ps : List Str} {e : Expr} {pos : Pos} {ta : TE} {nm : Str} (he : PE X e ta) (hc : ∀ C, S C → Cls X.K C ∧ PropOf X.K C nm p g) (F : FnOk X.prog X.w X.K X.mg X.base CX0 n g fd ps sp) (hr : Room (n + 1) X.A) (hb : Binds X.K fd ps [])
    (hab : attributeBase e nm X.env (eval e X.env) = eval e X.env := by rfl) : PE X (.Attribute e nm pos) (tPropF S sp ta) := by
  refine ⟨fun pins s σ H Q I h => ?_⟩
  refine attr_of hab (thn (he.run pins s σ H _ I h) fun u s1 ⟨x, H1, I1, rx, a, C, dx, fs, ex, ea, hS, q⟩ => ?_)
  subst ex
  obtain rfl : u = Value.ref a := rx
  obtain ⟨c, hp⟩ := hc C hS
  exact getprop_ok (dvs := []) I1 ea c hp F hr hb .nil pass0 q
end
section
variable {H : Hp} {Q : VK} {S : Addr → Prop} {sp : Sp} {K : PySem.W.Frag} {a C dx : Addr} {fs : List (Str × V)} {y : V} {t : Value} {σ : L2.St} {ta : TE}
theorem r_eqFam (e : H a = some (.ins C dx fs)) (hS : S C) (ty : TyX K H y t) (nf : PySem.W.notFirst K C t = true) (q : sp [.ref a, y] H (kYes Q) E0) : rEqFam K S sp (.ref a) y H Q := ⟨a, C, dx, fs, t, rfl, e, hS, ty, nf, q⟩
def kStr (Q : VK) : VK := fun z H' => ∃ y, z = .str y ∧ Q (.str y) H'
theorem r_kStr {y : Str} (q : Q (.str y) H) : kStr Q (.str y) H := ⟨y, rfl, q⟩
theorem r_strFam (e : H a = some (.ins C dx fs)) (hS : S C) (q : sp [.ref a] H (kStr Q) E0) : cStrFam S sp [.ref a] H Q := ⟨a, C, dx, fs, rfl, e, hS, q⟩
theorem r_propF (q : ta σ H (kPropF S sp Q)) : tPropF S sp ta σ H Q := q
theorem r_kPropF (e : H a = some (.ins C dx fs)) (hS : S C) (q : sp [.ref a] H Q E0) : kPropF S sp Q (.ref a) H := ⟨a, C, dx, fs, rfl, e, hS, q⟩
end
/-! ### a body at its own code: plain statements, then super().m(..) -/
structure PEat (X : Cx) (c : Code) (e : Expr) (te : TE) : Prop where
  run : ∀ (pins : List (Addr × Obj)) (s : Shared) (σ : L2.St) (H : Hp) (Q : VK), Inv X pins σ H s → te σ H Q → _root_.PySem.wpAt (model X.prog X.w) X.A c (eval e X.env) (EP X pins σ Q) X.xe s
section
variable {X : Cx} {c : Code} {st : Stmt} {rest : List Stmt} {t u : TS} {e : Expr} {te : TE} {pos : Pos}
theorem qs_cons (a : PS X st t) (b : QS X c rest u) : QS X c (st :: rest) (tSeq t u) := by
  constructor
  intro pins s σ H D I h
  refine _root_.PySem.ks_wpAt_execs_cons (wpAt_of_wpAny (thn (a.run pins s σ H _ I h) fun f s1 w => ?_))
  match f, w with
  | .next, ⟨σ', H', I', w'⟩ => exact b.run pins s1 σ' H' D I' w'
  | .ret _, w => exact w
  | .brk, w => exact w
  | .cont, w => exact w
def tDrp (te : TE) (u : TS) : TS := fun D σ H => te σ H fun _ H1 => u D σ H1
theorem qs_expr (a : PEat X c e te) (b : QS X c rest u) (hi : interactive X.env = false := by rfl) (hs : swapsWith e none pos.line X.env = pure false := by rfl) : QS X c (.Expr e pos :: rest) (tDrp te u) := by
  constructor
  intro pins s σ H D I h
  refine _root_.PySem.ks_wpAt_execs_cons (_root_.PySem.ks_wpAt_Expr_any (_root_.PySem.ks_wpAt_mono (a.run pins s σ H _ I h) (fun v s1 w => ?_) fun _ _ z => z) hi hs)
  obtain ⟨x, H1, I1, r1, q⟩ := w
  exact b.run pins s1 σ H1 D I1 q
theorem r_drp {nx bk ct : L2.St → Hp → Prop} {rt : VK} {σ : L2.St} {H : Hp} (q : te σ H fun _ H1 => u ⟨nx, rt, bk, ct⟩ σ H1) : tDrp te u ⟨nx, rt, bk, ct⟩ σ H := q
end
/-! ### super().m(e, ..) of an own class -/
/-- what is asked of the class at C, in a method of which (its code object at cda) super().name is called: the def at g -/
structure SupO (P : Program) (K : PySem.W.Frag) (mg : Str → Option Value) (C cda : Addr) (name : Str) (g : Addr) : Prop where
  cls : (PySem.W.clsIn K C).isSome = true
  up : PySem.W.ks_superIn K C C name = some (some (.ref g))
  ty : PySem.W.typeIn K (.ref g) = some (.type "function")
  fn : PySem.W.fnIn K g = true
  own : PySem.W.mroIn K C (.ref C) = some true
  opq : PySem.W.nsIn K cStatics "thirdparty.any" = some none
  zs : mg "super" = none
  file : ∃ ccl cdd vs ccs fl tf, K.lookup cda = some ⟨ccl, cdd, .fields vs, ccs⟩ ∧ vs[2]? = some (.str fl tf) ∧ (P.main.file == fl) = true
  top : (P.main.scope.names.lookup ("super" : Str)).isSome = false
def kSupO (sp : Sp) (a : Addr) (Q : VK) : List V → Hp → Prop := fun vs H1 => sp (.ref a :: vs) H1 Q E0
def tSupO (C : Addr) (sp : Sp) (ta : TA) : TE := fun σ H Q => ∃ a dx fs, σ[0]? = some (some (.ref a)) ∧ H a = some (.ins C dx fs) ∧ ta σ H (kSupO sp a Q)
theorem pe_sup {CX : CXT} {P : Program} {w : World} {K : PySem.W.Frag} {mg : Str → Option Value} {base : Heap} {f g cc cda C : Addr} {name qual m : Str} {params : Arguments} {body body' : List Stmt} {scope : Scope} {dV kV doc pm ct oc cl : Value} {an od cld : Option Addr}
    {osl csl : Array (Option Value)} {N : List Str} {A : Around} {outer : List Env} {s0 : Shared} {H0 : Hp} {E : XK} {ar : Arg} {p0 p1 p2 p4 : Pos} {pl : Sem Bool} {e1 : Expr} {es : List Expr} {ta : TA} {sp : Sp} {k : Nat}
    (lk : K.lookup f = some ⟨oc, od, .func (PySem.W.ksFn name qual params body scope dV kV doc pm an (.ref cda) ct cc), osl⟩) (cell : K.lookup cc = some ⟨cl, cld, .cell (some (.ref C)), csl⟩) (Z : SupO P K mg C cda m g)
    (F : FnR P w K mg base CX0 k g sp) (hr : Room k (ncx CX P w K mg base N ⟨name, qual, params, body, scope, [("__class__", cc)], cda⟩ f A outer s0 H0 E).A)
    (hat : (m == ("__class__" : Str)) = false)
    (hks : scope.names.lookup ("super" : Str) = some .globalImplicit) (hkc : scope.names.lookup ("__class__" : Str) = some .free) (hp : (params.posonlyargs ++ params.args).head? = some ar) (hN : N[0]? = some ar.arg)
    (hka : Loc scope ar.arg) (hk : scope.kind = .function)
    (ha : PA (ncx CX P w K mg base N ⟨name, qual, params, body, scope, [("__class__", cc)], cda⟩ f A outer s0 H0 E) (e1 :: es) ta)
    (he : eval (.Call (.Attribute (.Call (.Name "super" p0) [] [] p1) m p2) (e1 :: es) [] p4) (envF ⟨name, qual, params, body, scope, [("__class__", cc)], cda⟩ f s0.heap.objs.size) = (do
      let ov ← attributeBase (.Call (.Name "super" p0) [] [] p1) m (envF ⟨name, qual, params, body, scope, [("__class__", cc)], cda⟩ f s0.heap.objs.size) (eval (.Call (.Name "super" p0) [] [] p1) (envF ⟨name, qual, params, body, scope, [("__class__", cc)], cda⟩ f s0.heap.objs.size))
      standAt p2.atName
      let (fx, first) ← holding [ov] (getMethod ov m pl)
      callWith p4 fx first (backTo p4 (starEach (e1 :: es) (envF ⟨name, qual, params, body, scope, [("__class__", cc)], cda⟩ f s0.heap.objs.size))) []))
    (hst : starEach (e1 :: es) (envF ⟨name, qual, params, body, scope, [("__class__", cc)], cda⟩ f s0.heap.objs.size) = (false, eval e1 (envF ⟨name, qual, params, body, scope, [("__class__", cc)], cda⟩ f s0.heap.objs.size)) :: starEach es (envF ⟨name, qual, params, body, scope, [("__class__", cc)], cda⟩ f s0.heap.objs.size))
    (hpl : (backTo p4 (starEach es (envF ⟨name, qual, params, body, scope, [("__class__", cc)], cda⟩ f s0.heap.objs.size))).any (·.1) = false) :
    PEat (ncx CX P w K mg base N ⟨name, qual, params, body, scope, [("__class__", cc)], cda⟩ f A outer s0 H0 E) (.func body' (envF ⟨name, qual, params, body, scope, [("__class__", cc)], cda⟩ f s0.heap.objs.size))
      (.Call (.Attribute (.Call (.Name "super" p0) [] [] p1) m p2) (e1 :: es) [] p4) (tSupO C sp ta) := by
  constructor
  intro pins s σ H Q I ⟨a, dx, fs, hσ, hia, q⟩
  have KX := I.kIn
  obtain ⟨mA, O, _⟩ := ins_get I.hok hia
  obtain ⟨odx, J, _⟩ := O.look
  obtain ⟨ccl, cdd, vs, ccs, fl, tf, hcode, hvs, hfile⟩ := Z.file
  refine ks_wpAt_MethodCall (pl := pl) ?_ he
  obtain ⟨hh, gg, d, tk, os⟩ := s
  obtain ⟨cd, hcd⟩ := Option.isSome_iff_exists.mp Z.cls
  obtain ⟨oD, hD1, hD2⟩ : ∃ oD, hh.get? C = some oD ∧ oD.data = .cls cd := by
    unfold PySem.W.clsIn at hcd
    split at hcd
    · rename_i c d cd' sl ho
      cases hcd
      exact ⟨_, KX _ _ ho, rfl⟩
    · cases hcd
  refine ks_wpAt_super_base hks hkc hat rfl (KX _ _ lk) rfl hp rfl (KX _ _ hcode) rfl hvs hfile Z.top ?_
  obtain ⟨mb, hbn, hbv⟩ := I.ok.mod.blt
  have hbo : bootBuiltins "super" = some (.type "super") := by first | rfl | decide +kernel
  refine PySem.W.ks_loadName_global hk hks (Calls.loadGlobal_builtin (I.mod.glob.keeps I.bk) Z.zs (hbn.keeps I.bk) ((hbv ("super" : Str) (by decide +kernel)).trans hbo) ⟨rfl, ?_⟩)
  refine wpAny_loadName_free hk hkc rfl ⟨_, KX _ _ cell, rfl⟩ ?_
  obtain ⟨ml, hns, hl⟩ := I.loc
  obtain ⟨u, ru, lku⟩ := hl 0 ar.arg (.ref a) hN hσ (hka.elim .inl fun z => .inr (.inl z))
  obtain rfl : u = Value.ref a := ru
  refine wpAny_mono (Q := fun u s' => u = Value.ref a ∧ s' = ⟨hh, gg, d, tk, os⟩) (E := fun _ _ => False) ?_ (fun u s' z => ?_) fun _ _ z => z.elim
  · rcases lku with ⟨hkx, hm⟩ | ⟨hkx, cx, hcx, hcell⟩
    · exact wpAny_loadName_local hk hkx hns hm ⟨rfl, rfl⟩
    · rcases hkx with hkx | hkx
      · exact wpAny_loadName_cell hk hkx hcx hcell ⟨rfl, rfl⟩
      · rcases hka with z | z
        · exact absurd (z.symm.trans hkx) (by decide)
        · exact absurd (z.symm.trans hkx) (by decide)
  obtain ⟨rfl, rfl⟩ := z
  refine ks_wpAny_isType_cls hD1 hD2 ⟨rfl, ?_⟩
  refine ks_wpAny_call_super hD1 hD2 J.at_ J.cls (fun c z => ?_) (PySem.W.looks_mroIn KX Z.own) fun h' e1' kp => ?_
  · have := J.no
    unfold PySem.W.notCls at this
    rw [z] at this
    exact Bool.noConfusion this
  have I1 : Inv _ pins σ H ⟨h', gg, d, tk, os⟩ := I.kept (t' := tk) kp
  have KX1 := I1.kIn
  obtain ⟨mA1, O1, _⟩ := ins_get I1.hok hia
  obtain ⟨odx1, J1, _⟩ := O1.look
  obtain ⟨of, hof, hofc⟩ : ∃ of, h'.get? g = some of ∧ of.cls = .type "function" := by
    have ht' : (K.lookup g).map (·.cls) = some (.type "function") := Z.ty
    cases z : K.lookup g with
    | none => rw [z] at ht'; cases ht'
    | some of => rw [z] at ht'; exact ⟨of, KX1 _ _ z, Option.some.inj ht'⟩
  have up := Z.up
  unfold PySem.W.ks_superIn at up
  rw [hcd] at up
  refine ks_wpAny_getMethod_super e1' (PySem.W.looks_opaque KX1 Z.opq) (l₀ := cd.mro) (fun A Q E s k z => wpAny_bind ((PySem.W.looks_clsIn KX1 hcd) A _ E s k (wpAny_pure z))) rfl KX1 up hof hofc (PySem.W.ks_ne KX1 J1 hcd) hat ?_
  have k2 : ∀ b o, h'.get? b = some o → (h'.push (PySem.W.methodObj (.ref g) (.ref a))).get? b = some o := fun b o e => Heap.get?_push_of_some _ e
  have I2 : Inv _ pins σ H ⟨h'.push (PySem.W.methodObj (.ref g) (.ref a)), gg, d, tk + 1, os⟩ := I1.kept (t' := tk + 1) k2
  have hq : (h'.push (PySem.W.methodObj (.ref g) (.ref a))).get? h'.objs.size = some (PySem.W.methodObj (.ref g) (.ref a)) := Heap.get?_push_size _ rfl
  have fp : ∀ b ∈ [h'.objs.size], FpOk (ncx CX P w K mg base N ⟨name, qual, params, body, scope, [("__class__", cc)], cda⟩ f A outer s0 H0 E) pins H b := fun b mb' => by
    rw [List.mem_singleton.mp mb']
    exact I1.fpOk (Nat.le_refl _) (I1.hok.fresh (Nat.le_refl _))
  have I3 := I2.pinned fp fun b mb' => by
    rw [List.mem_singleton.mp mb']
    exact ⟨_, hq, fun v z => by cases z⟩
  have hst' : starEach (e1 :: es) (ncx CX P w K mg base N ⟨name, qual, params, body, scope, [("__class__", cc)], cda⟩ f A outer s0 H0 E).env = (false, eval e1 (envF ⟨name, qual, params, body, scope, [("__class__", cc)], cda⟩ f s0.heap.objs.size)) :: starEach es (envF ⟨name, qual, params, body, scope, [("__class__", cc)], cda⟩ f s0.heap.objs.size) := hst
  have go := ha.run p4 _ _ σ H _ I3 q
  rw [hst'] at go
  rw [hst']
  refine PySem.W.callWith_of (P := PySem.W.MethP K h'.objs.size g (.ref a)) (by show ((false || (backTo p4 (starEach es _)).any (·.1)) || false) = false; rw [hpl]; rfl) (PySem.W.keeps_M Z.fn) (Calls.evalArgs_plain (thn go fun us s3 w3 => ?_))
  obtain ⟨vs3, H1, I4, r, q2⟩ := w3
  have pin := (I4.pin (h'.objs.size, PySem.W.methodObj (.ref g) (.ref a)) (List.mem_append_right _ (List.mem_append_right _ (mem_pinsAt List.mem_cons_self hq)))).1
  refine ⟨⟨pin, I4.kIn⟩, ?_⟩
  have I5 := I4.unpinned
  exact wpAny_call (ks_codeAny_call_bound pin (run_fnR (us := .ref a :: us) (vs := .ref a :: vs3) F hr pass0 I5 (.cons rfl r) q2))
theorem r_supO {C a dx : Addr} {fs : List (Str × V)} {sp : Sp} {ta : TA} {σ : L2.St} {H : Hp} {Q : VK} (e : σ[0]? = some (some (.ref a))) (ha : H a = some (.ins C dx fs)) (q : ta σ H (kSupO sp a Q)) : tSupO C sp ta σ H Q := ⟨a, dx, fs, e, ha, q⟩
end Rd

set_option maxHeartbeats 4000000
/-! SupC: a def with the cell __class__ and cells of its own (names that a comprehension reads); super().m(..) in any context. -/
namespace Rd
open PySem PySem.Spec L2 NdefX PyProof.Rows
/-! ### own cells, behind what was captured -/
theorem cellsFrom_app : ∀ (names : List (Str × NameKind)) (n : Nat) (acc : List (Str × Addr)), cellsFrom n names acc = cellsFrom n names [] ++ acc
  | [], _, _ => rfl
  | (name, kind) :: r, n, acc => by
    unfold cellsFrom
    split
    · rw [cellsFrom_app r (n + 1) ((name, n) :: acc), cellsFrom_app r (n + 1) [(name, n)], List.append_assoc]
      rfl
    · exact cellsFrom_app r n acc
theorem mem_cellsFrom : ∀ (names : List (Str × NameKind)) (n : Nat) (y : Str) (c : Addr), (y, c) ∈ cellsFrom n names [] → (y, NameKind.cell) ∈ names
  | [], _, _, _, h => nomatch h
  | (name, kind) :: r, n, y, c, h => by
    unfold cellsFrom at h
    split at h
    · rename_i hk
      rw [cellsFrom_app] at h
      rcases List.mem_append.mp h with h | h
      · exact List.mem_cons_of_mem _ (mem_cellsFrom r _ y c h)
      · have := List.mem_singleton.mp h
        cases this
        rw [beq_iff_eq.mp hk]
        exact List.mem_cons_self
    · exact List.mem_cons_of_mem _ (mem_cellsFrom r _ y c h)
section
variable {M : Model} {A : Around} {E : Value → Shared → Prop} {s₀ s : Shared} {env : Env} {own : List (Str × Addr)}
theorem bindParamsD (f : Str × Value → PUnit → Sem (ForInStep PUnit)) (hf : ∀ n v u, f (n, v) u = (do storeName env n v; pure (.yield ⟨⟩))) (hk : env.scope.kind = .function) :
    ∀ (binds : List (Str × Value)) (m cm : Str → Option Value) (s : Shared) (Q : PUnit → Shared → Prop), InCallC s₀ env.locals m own cm s →
      (∀ x ∈ binds, env.kindOf x.1 = some .local ∨ (env.kindOf x.1 = some .cell ∧ ∃ c, env.cells.lookup x.1 = some c ∧ own.lookup x.1 = some c)) →
      (∀ s', InCallC s₀ env.locals (bindL env.kindOf binds m) own (bindC env.kindOf binds cm) s' → Q ⟨⟩ s') → wpAny M A (forIn binds ⟨⟩ f) Q E s
  | [], m, cm, s, Q, x, _, h => by rw [List.forIn_nil]; exact wpAny_pure (h s x)
  | (n, v) :: r, m, cm, s, Q, x, hkind, h => by
    rw [List.forIn_cons, hf]
    have hr : ∀ y ∈ r, env.kindOf y.1 = some .local ∨ (env.kindOf y.1 = some .cell ∧ ∃ c, env.cells.lookup y.1 = some c ∧ own.lookup y.1 = some c) := fun y hy => hkind y (List.mem_cons_of_mem _ hy)
    rcases hkind (n, v) List.mem_cons_self with hl | ⟨hl, c, hc, hc'⟩
    · refine wpAny_bind (wpAny_bind (wpAny_storeName_local hl x.toInCall.ns (fun h' hn' hs' => wpAny_pure (bindParamsD f hf hk r (fun y => if y = n then some v else m y) cm _ Q ⟨⟨?_, hn', fun b o e => ?_, x.toInCall.fresh⟩, fun k c hc => ?_, x.apart, x.above⟩ hr fun s'' x'' => h s'' ?_)) (by rw [hk]; rfl)))
      · obtain ⟨h₁, tk, rfl⟩ := x.toInCall.same
        exact ⟨h', _, rfl⟩
      · exact hs'.extBut b o (Nat.ne_of_lt (Nat.lt_of_lt_of_le (Heap.lt_size e) x.toInCall.fresh)) (x.toInCall.keep b o e)
      · exact (x.cell k c hc).sameBut hs' (Nat.ne_of_gt (x.above k c (PySem.mem_of_lookup hc)))
      · unfold bindL bindC; rw [if_pos hl, if_pos hl]; exact x''
    · have hnl : ¬ env.kindOf n = some .local := by rw [hl]; decide
      have hLc := x.above n c (PySem.mem_of_lookup hc')
      refine wpAny_bind (wpAny_bind (wpAny_storeName_cell hk hl hc (x.cell n c hc') fun h' hcl' hs' => wpAny_pure (bindParamsD f hf hk r m (fun y => if y = n then some v else cm y) _ Q ⟨⟨?_, x.toInCall.ns.sameBut hs' (Nat.ne_of_lt hLc), fun b o e => ?_, x.toInCall.fresh⟩, fun k c' hk' => ?_, x.apart, x.above⟩ hr fun s'' x'' => h s'' ?_)))
      · obtain ⟨h₁, tk, rfl⟩ := x.toInCall.same
        exact ⟨h', _, rfl⟩
      · exact hs'.extBut b o (Nat.ne_of_lt (Nat.lt_trans (Nat.lt_of_lt_of_le (Heap.lt_size e) x.toInCall.fresh) hLc)) (x.toInCall.keep b o e)
      · by_cases hkn : k = n
        · subst hkn
          rw [hc'] at hk'
          cases hk'
          simpa using hcl'
        · rw [if_neg hkn]
          exact (x.cell k c' hk').sameBut hs' fun e => hkn (name_of_addr x.apart (PySem.mem_of_lookup hk') (e ▸ PySem.mem_of_lookup hc'))
      · unfold bindL bindC; rw [if_neg hnl, if_neg hnl]; exact x''
theorem newFunctionEnvD {scope : Scope} {globals : Addr} {cl : List (Str × Addr)} {binds : List (Str × Value)} {qual : Str} {func : Option Addr} {code : Value} {builtins : Addr} {Q : Env → Shared → Prop}
    (hk : scope.kind = .function) (hkind : ∀ x ∈ binds, scope.names.lookup x.1 = some .local ∨ scope.names.lookup x.1 = some .cell)
    (hQ : ∀ env, env = newEnv scope s.heap.objs.size globals (cellsFrom (s.heap.objs.size + 1) scope.names cl) qual func code none builtins →
      ∀ s', InCallC s env.locals (bindL env.kindOf binds fun _ => none) (cellsFrom (s.heap.objs.size + 1) scope.names []) (bindC env.kindOf binds fun _ => none) s' → Q env s') :
    wpAny M A (newFunctionEnv scope globals cl binds qual func code none builtins) Q E s := by
  simp only [newFunctionEnv, Option.isSome_none, Bool.false_eq_true, if_false]
  refine wpAny_bind (wpAny_alloc ?_)
  refine wpAny_bind (wpAny_layCells _ (fun name kind cells => by cases hkc : kind == NameKind.cell <;> simp [hkc]) _ _ _ _ ?_)
  have ok := cellsFrom_ok scope.names (s.heap.push { cls := .type "frame", data := .dict #[] }) (s.heap.objs.size + 1) [] ⟨fun _ _ hm => (nomatch hm), List.Pairwise.nil⟩ (by rw [Heap.size_push]; exact Nat.le_refl _)
  rw [Heap.size_push] at ok
  rw [show ({ s with heap := s.heap.push { cls := .type "frame", data := .dict #[] } } : Shared).heap.objs.size = s.heap.objs.size + 1 from Heap.size_push ..]
  refine wpAny_bind (bindParamsD (s₀ := s) (env := newEnv scope s.heap.objs.size globals (cellsFrom (s.heap.objs.size + 1) scope.names cl) qual func code none builtins) (own := cellsFrom (s.heap.objs.size + 1) scope.names [])
    _ (fun _ _ _ => rfl) hk binds (fun _ => none) (fun _ => none) _ _
    ⟨⟨⟨_, _, rfl⟩, (Heap.Ns.new s.heap (.type "frame")).keeps (pushCells_keeps _ _), fun b o e => pushCells_keeps _ _ b o (Heap.get?_push_of_some _ e), Nat.le_refl _⟩,
      fun n c hc => (ok.empty n c (PySem.mem_of_lookup hc)).1, ok.apart, fun n c hm => (ok.empty n c hm).2⟩
    (fun x hx => (hkind x hx).elim .inl fun z => .inr ⟨z, ?_⟩) fun s' x => wpAny_pure (hQ _ rfl s' x))
  obtain ⟨c, e⟩ := cell_has (n := s.heap.objs.size + 1) z
  refine ⟨c, ?_, e⟩
  show (cellsFrom (s.heap.objs.size + 1) scope.names cl).lookup x.1 = some c
  rw [cellsFrom_app, List.lookup_append, e]
  rfl
end
/-! ### such a def's body -/
structure CScope (N ps fr : List Str) (sc : Scope) : Prop where
  kind : sc.kind = .function
  co : sc.isCoroutine = false
  gen : sc.isGenerator = false
  nd : N.Nodup
  pre : N.take (ps.length + fr.length) = ps ++ fr
  par : ∀ x ∈ ps, sc.names.lookup x = some .local ∨ sc.names.lookup x = some .cell
  free : ∀ y ∈ sc.names, y.2 = .free → y.1 ∈ fr
  frk : ∀ x ∈ fr, sc.names.lookup x = some .free
  nofr : ∀ y ∈ sc.names, y.2 = .cell → y.1 ∉ fr
def cscB (N ps fr : List Str) (sc : Scope) : Bool :=
  decide (sc.kind = .function) && !sc.isCoroutine && !sc.isGenerator && decide N.Nodup && decide (N.take (ps.length + fr.length) = ps ++ fr) && ps.all (fun x => decide (sc.names.lookup x = some .local) || decide (sc.names.lookup x = some .cell)) && sc.names.all (fun y => !decide (y.2 = .free) || decide (y.1 ∈ fr)) && fr.all (fun x => decide (sc.names.lookup x = some .free)) && sc.names.all (fun y => !decide (y.2 = .cell) || !decide (y.1 ∈ fr))
theorem cscope_by {N ps fr : List Str} {sc : Scope} (h : cscB N ps fr sc = true) : CScope N ps fr sc := by
  unfold cscB at h
  simp only [Bool.and_eq_true, Bool.not_eq_true', decide_eq_true_eq, List.all_eq_true, Bool.or_eq_true, decide_eq_false_iff_not] at h
  obtain ⟨⟨⟨⟨⟨⟨⟨⟨h1, h2⟩, h3⟩, h4⟩, h5⟩, h6⟩, h7⟩, h8⟩, h9⟩ := h
  exact ⟨h1, h2, h3, h4, h5, h6, fun y hy e => (h7 y hy).elim (fun z => absurd e z) id, h8, fun y hy e => (h9 y hy).elim (fun z => absurd e z) id⟩
/-- the context at its entry -/
def ccx (CX : CXT) (P : Program) (w : World) (K : PySem.W.Frag) (mg : Str → Option Value) (base : Heap) (N fr : List Str) (qual : Str) (scope : Scope) (cl : List (Str × Addr)) (cda f : Addr) (A : Around) (outer : List Env) (s : Shared) (H : Hp) (E : XK) : Cx where
  prog := P
  w := w
  K := K
  mg := mg
  base := base
  A := A.deeper (PySem.W.envX qual scope s.heap.objs.size f (.ref cda) (cellsFrom (s.heap.objs.size + 1) scope.names cl))
  N := N
  s_0 := s
  H_0 := H
  env := PySem.W.envX qual scope s.heap.objs.size f (.ref cda) (cellsFrom (s.heap.objs.size + 1) scope.names cl)
  outer := outer
  stack := PySem.W.envX qual scope s.heap.objs.size f (.ref cda) (cellsFrom (s.heap.objs.size + 1) scope.names cl) :: outer
  ex := []
  calm := true
  fn := fun y => !decide (y ∈ fr)
  pn := []
  xe := fun e s' => wpAny (model P w) (A.deeper (PySem.W.envX qual scope s.heap.objs.size f (.ref cda) (cellsFrom (s.heap.objs.size + 1) scope.names cl))) (leaving (PySem.W.envX qual scope s.heap.objs.size f (.ref cda) (cellsFrom (s.heap.objs.size + 1) scope.names cl)) e) (fun _ s'' => CX outer H s E e s'') (fun e' s'' => CX outer H s E e' s'') s'
section
variable {CX : CXT} {P : Program} {w : World} {K : PySem.W.Frag} {mg : Str → Option Value} {base : Heap} {N ps fr : List Str} {qual : Str} {scope : Scope} {cl : List (Str × Addr)} {cda f : Addr} {A : Around} {outer : List Env} {s s1 : Shared} {H : Hp} {E : XK} {us : List Value} {vs : List V} {ws : List (Option V)}
theorem inv_startC (S : CScope N ps fr scope) (hd : A.handled = none) (e0 : Env0 P w K mg base A outer s H) (hl : vs.length = ps.length) (r : Vals vs us) (C : CellsAt cl fr ws s.heap H) (hclf : ∀ y c, cl.lookup y = some c → y ∈ fr)
    (x : InCallC s s.heap.objs.size (bindL (fun n => scope.names.lookup n) (ps.zip us) fun _ => none) (cellsFrom (s.heap.objs.size + 1) scope.names []) (bindC (fun n => scope.names.lookup n) (ps.zip us) fun _ => none) s1) :
    Inv (ccx CX P w K mg base N fr qual scope cl cda f A outer s H E) [] (startF N vs ws) H s1 := by
  have hpl : ps.length + fr.length ≤ N.length := by
    have q := congrArg List.length S.pre
    rw [List.length_take, List.length_append] at q
    omega
  obtain ⟨h1, tk, rfl, kp⟩ := x.done
  have noA : ∀ b : Addr, b ∉ (ccx CX P w K mg base N fr qual scope cl cda f A outer s H E).ex := fun b z => absurd (show b ∈ ([] : List Addr) from z) (by simp)
  have cellK : ∀ {c : Addr} {v : Option Value}, s.heap.IsCell c v → h1.IsCell c v := fun {c v} ⟨o, ho, hd⟩ => ⟨o, kp _ _ ho, hd⟩
  -- where a name's cell comes from
  have part : ∀ {y : Str} {c : Addr}, (cellsFrom (s.heap.objs.size + 1) scope.names cl).lookup y = some c → (cellsFrom (s.heap.objs.size + 1) scope.names []).lookup y = some c ∨ cl.lookup y = some c := fun {y c} h => by
    rw [cellsFrom_app, List.lookup_append] at h
    cases e : (cellsFrom (s.heap.objs.size + 1) scope.names []).lookup y with
    | none =>
      rw [e] at h
      exact .inr h
    | some d =>
      rw [e] at h
      exact .inl h
  have ownL : ∀ {y : Str} {c : Addr}, (cellsFrom (s.heap.objs.size + 1) scope.names []).lookup y = some c → (cellsFrom (s.heap.objs.size + 1) scope.names cl).lookup y = some c := fun {y c} h => by
    rw [cellsFrom_app, List.lookup_append, h]
    rfl
  have noOwn : ∀ {y : Str}, y ∈ fr → (cellsFrom (s.heap.objs.size + 1) scope.names []).lookup y = none := fun {y} hy => by
    cases e : (cellsFrom (s.heap.objs.size + 1) scope.names []).lookup y with
    | none => rfl
    | some d => exact absurd hy (S.nofr _ (mem_cellsFrom _ _ _ _ (PySem.mem_of_lookup e)) rfl)
  have capL : ∀ {y : Str} {c : Addr}, y ∈ fr → cl.lookup y = some c → (cellsFrom (s.heap.objs.size + 1) scope.names cl).lookup y = some c := fun {y c} hy h => by
    rw [cellsFrom_app, List.lookup_append, noOwn hy]
    exact h
  have old : ∀ {y : Str} {c : Addr}, cl.lookup y = some c → c < s.heap.objs.size := fun {y c} h => let ⟨_, z⟩ := (C.all y c h).2; z.lt
  have big : ∀ {y : Str} {c : Addr}, (cellsFrom (s.heap.objs.size + 1) scope.names []).lookup y = some c → s.heap.objs.size < c := fun {y c} h => x.above y c (PySem.mem_of_lookup h)
  refine ⟨⟨e0.mod, S.kind, rfl, rfl, Nat.le_refl _, fun y z c h1 h2 => ?_, fun y hy => ?_, fun y c hf h => ?_, fun _ => hd, Around.frames_deeper e0.frames, .inr ⟨rfl, rfl⟩, fun b z => absurd z (noA b), e0.bs, e0.bsz, fun b _ _ => noA b, fun b z => absurd z (noA b), e0.funs, e0.frf⟩,
    rfl, e0.bare, Un.kept kp, ⟨_, x.toInCall.ns, fun i y v e1 e2 e3 => ?_⟩, fun y c h => ?_, e0.hok.fresh (Nat.le_refl _), fun y c h => ?_, fun q hq => absurd (show q ∈ ([] : List (Addr × Obj)) ++ [] from hq) (by simp), e0.hok.kept kp, ?_⟩
  · rcases part h1 with h1 | h1 <;> rcases part h2 with h2 | h2
    · exact name_of_addr x.apart (PySem.mem_of_lookup h1) (PySem.mem_of_lookup h2)
    · exact absurd (Nat.lt_trans (big h1) (old h2)) (Nat.lt_irrefl _)
    · exact absurd (Nat.lt_trans (big h2) (old h1)) (Nat.lt_irrefl _)
    · exact C.inj _ _ _ h1 h2
  · have hy : scope.names.lookup y = some .cell ∨ scope.names.lookup y = some .free := hy
    rcases hy with hy | hy
    · obtain ⟨c, e⟩ := cell_has (n := s.heap.objs.size + 1) hy
      exact ⟨c, ownL e⟩
    · have hm := S.free _ (PySem.mem_of_lookup hy) rfl
      obtain ⟨i, hi⟩ := List.mem_iff_getElem?.mp hm
      obtain ⟨c, hc, _⟩ := C.has i y hi
      exact ⟨c, capL hm hc⟩
  · have hf : (!decide (y ∈ fr)) = true := hf
    rcases part h with h | h
    · exact Nat.le_of_lt (big h)
    · have : y ∉ fr := by simpa using hf
      exact absurd (hclf y c h) this
  · have e1 : N[i]? = some y := e1
    have clen := C.len
    unfold startF at e2
    by_cases h1 : i < ps.length
    · have hq : (ps ++ fr)[i]? = some y := by
        rw [← S.pre, List.getElem?_take_of_lt (by omega)]
        exact e1
      rw [List.getElem?_append_left h1] at hq
      rw [List.getElem?_append_left (by rw [List.length_map]; omega), List.getElem?_map] at e2
      have ha : vs[i]? = some v := by
        cases e : vs[i]? with
        | none => rw [e] at e2; cases e2
        | some a => rw [e] at e2; cases e2; rfl
      obtain ⟨u, hu, rv⟩ := r.get ha
      have ndP : ps.Nodup := by
        have q := S.nd.sublist (List.take_sublist (ps.length + fr.length) N)
        rw [S.pre] at q
        exact (List.nodup_append.mp q).1
      refine ⟨u, rv, ?_⟩
      rcases S.par y (List.mem_of_getElem? hq) with k | k
      · exact .inl ⟨k, bindL_get ndP hq hu k⟩
      · obtain ⟨c, e⟩ := cell_has (n := s.heap.objs.size + 1) k
        refine .inr ⟨.inl k, c, ownL e, ?_⟩
        have q := x.cell y c e
        rw [bindC_get ndP hq hu (by show scope.names.lookup y ≠ _; rw [k]; decide)] at q
        exact q
    · rw [List.getElem?_append_right (by rw [List.length_map]; omega), List.length_map] at e2
      by_cases h2 : i < ps.length + fr.length
      · have hq : (ps ++ fr)[i]? = some y := by
          rw [← S.pre, List.getElem?_take_of_lt (by omega)]
          exact e1
        rw [List.getElem?_append_right (by omega)] at hq
        rw [List.getElem?_append_left (by omega), hl] at e2
        obtain ⟨c, hc, hv⟩ := C.has (i - ps.length) y hq
        obtain ⟨u, ru, hu⟩ := hv v e2
        have hm := List.mem_of_getElem? hq
        exact ⟨u, ru, .inr ⟨.inr (S.frk y hm), c, capL hm hc, cellK hu⟩⟩
      · rw [List.getElem?_append_right (by omega), List.getElem?_replicate] at e2
        split at e2 <;> cases e2
  · rcases part h with h | h
    · exact ⟨_, x.cell y c h⟩
    · obtain ⟨v, z⟩ := (C.all y c h).2
      exact ⟨v, cellK z⟩
  · rcases part h with h | h
    · exact e0.hok.fresh (Nat.le_of_lt (big h))
    · exact (C.all y c h).1
  · have clen := C.len
    unfold startF
    show _ = N.length
    rw [List.length_append, List.length_append, List.length_map, List.length_replicate]
    omega
end
theorem fn_supC {CX : CXT} {P : Program} {w : World} {K : PySem.W.Frag} {mg : Str → Option Value} {base : Heap} {k : Nat} {f cc cda : Addr} {name qual : Str} {params : Arguments} {body : List Stmt} {scope : Scope} {dV kV doc pm ct oc cl u : Value} {an od cld : Option Addr}
    {osl csl : Array (Option Value)} {N ps : List Str} {sp : Sp} (lk : K.lookup f = some ⟨oc, od, .func (PySem.W.ksFn name qual params body scope dV kV doc pm an (.ref cda) ct cc), osl⟩) (hcd : PySem.W.codeIn K (.ref cda) qual = true)
    (cell : K.lookup cc = some ⟨cl, cld, .cell (some u), csl⟩) (S : CScope N ps ["__class__"] scope)
    (len : ∀ vs H Q E, sp vs H Q E → vs.length = ps.length)
    (hbody : ∀ (A : Around) (outer : List Env) (s : Shared) (H : Hp) (vs : List V) (Q : VK) (E : XK), Room k (A.deeper (PySem.W.envX qual scope s.heap.objs.size f (.ref cda) (cellsFrom (s.heap.objs.size + 1) scope.names [("__class__", cc)]))) → sp vs H Q E →
      ∃ t, QS (ccx CX P w K mg base N ["__class__"] qual scope [("__class__", cc)] cda f A outer s H E) (.func body (PySem.W.envX qual scope s.heap.objs.size f (.ref cda) (cellsFrom (s.heap.objs.size + 1) scope.names [("__class__", cc)]))) body t ∧
        t { nx := fun _ H' => Q .non H', rt := Q } (startF N vs [none]) H) : FnOk P w K mg base CX (k + 1) f (PySem.W.ksFn name qual params body scope dV kV doc pm an (.ref cda) ct cc) ps sp := by
  refine ⟨len, fun A outer s H args us vs Q E hr e0 hb r hsp => ?_⟩
  have hl := len _ _ _ _ hsp
  have KX : K.In s.heap := e0.mod.kin.keeps fun b o e => (e0.bs b o e).1
  have lim : s.heap.NoLimit := e0.mod.nolimit.keeps fun b o e => (e0.bs b o e).1
  refine codeAny_call_function hr.depth (KX _ _ lk) rfl S.co S.gen rfl (PySem.W.codeRec_of KX hcd) (hb _ _ _ _ ?_)
  refine newFunctionEnvD S.kind (fun ⟨n, _⟩ hy => S.par n (List.of_mem_zip hy).1) fun env he s1 x => ?_
  subst he
  refine ⟨lim.keeps x.toInCall.keep, ?_⟩
  show codeAny _ _ (.func body (PySem.W.envX qual scope s.heap.objs.size f (.ref cda) (cellsFrom (s.heap.objs.size + 1) scope.names [("__class__", cc)]))) _ _
  refine ks_codeAny_funcAt ?_
  obtain ⟨t, ht, hq⟩ := hbody A outer s H vs Q E (hr.deeper _) hsp
  have hclf : ∀ (y : Str) (c : Addr), ([("__class__", cc)] : List (Str × Addr)).lookup y = some c → y ∈ (["__class__"] : List Str) := fun y c h => by
    have := PySem.mem_of_lookup h
    rw [List.mem_singleton] at this
    cases this
    exact List.mem_cons_self
  have I : Inv (ccx CX P w K mg base N ["__class__"] qual scope [("__class__", cc)] cda f A outer s H E) [] (startF N vs [none]) H s1 := inv_startC S hr.hd e0 hl r (cells_written e0 cell) hclf x
  refine ks_wpAt_mono (ht.run [] _ (startF N vs [none]) H _ I hq) (fun fl s' hs => ?_) fun e s' hs => hs
  have fin : ∀ {σ' : L2.St} {H' : Hp} {v : V} {u : Value}, Inv (ccx CX P w K mg base N ["__class__"] qual scope [("__class__", cc)] cda f A outer s H E) [] σ' H' s' → RelV v u → Q v H' → CE outer P w H s Q u s' := fun {σ' H' v u} J rv q => ⟨v, H', J.os, J.bare, J.base, J.hok, rv, q⟩
  match fl, hs with
  | .ret u, ⟨v, σ', H', J, rv, q⟩ => exact fin J rv q
  | .next, ⟨σ', H', J, q⟩ => exact fin (v := V.non) (u := Value.none) J rfl q
  | .brk, ⟨_, _, _, q⟩ => exact False.elim q
  | .cont, ⟨_, _, _, q⟩ => exact False.elim q
/-! ### super().m(..) in any context -/
theorem pe_supX {X : Cx} {f g cc cda C : Addr} {name qual m : Str} {params : Arguments} {body body' : List Stmt} {scope : Scope} {dV kV doc pm ct oc cl : Value} {an od cld : Option Addr}
    {osl csl : Array (Option Value)} {ar : Arg} {p0 p1 p2 p4 : Pos} {pl : Sem Bool} {e1 : Expr} {es : List Expr} {ta : TA} {sp : Sp} {k : Nat}
    (hfu : X.env.func = some f) (hco : X.env.code = .ref cda) (hclo : X.env.cells.lookup ("__class__" : Str) = some cc) (lk : X.K.lookup f = some ⟨oc, od, .func (PySem.W.ksFn name qual params body scope dV kV doc pm an (.ref cda) ct cc), osl⟩) (cell : X.K.lookup cc = some ⟨cl, cld, .cell (some (.ref C)), csl⟩) (Z : SupO X.prog X.K X.mg C cda m g)
    (F : FnR X.prog X.w X.K X.mg X.base CX0 k g sp) (hr : Room k X.A)
    (hat : (m == ("__class__" : Str)) = false)
    (hks : X.env.scope.names.lookup ("super" : Str) = some .globalImplicit) (hkc : X.env.scope.names.lookup ("__class__" : Str) = some .free) (hp : (params.posonlyargs ++ params.args).head? = some ar) (hN : X.N[0]? = some ar.arg)
    (hka : Loc X.env.scope ar.arg)
    (ha : PA X (e1 :: es) ta)
    (he : eval (.Call (.Attribute (.Call (.Name "super" p0) [] [] p1) m p2) (e1 :: es) [] p4) X.env = (do
      let ov ← attributeBase (.Call (.Name "super" p0) [] [] p1) m X.env (eval (.Call (.Name "super" p0) [] [] p1) X.env)
      standAt p2.atName
      let (fx, first) ← holding [ov] (getMethod ov m pl)
      callWith p4 fx first (backTo p4 (starEach (e1 :: es) X.env)) []))
    (hst : starEach (e1 :: es) X.env = (false, eval e1 X.env) :: starEach es X.env)
    (hpl : (backTo p4 (starEach es X.env)).any (·.1) = false) :
    PEat X (.func body' X.env)
      (.Call (.Attribute (.Call (.Name "super" p0) [] [] p1) m p2) (e1 :: es) [] p4) (tSupO C sp ta) := by
  constructor
  intro pins s σ H Q I ⟨a, dx, fs, hσ, hia, q⟩
  have KX := I.kIn
  obtain ⟨mA, O, _⟩ := ins_get I.hok hia
  obtain ⟨odx, J, _⟩ := O.look
  obtain ⟨ccl, cdd, vs, ccs, fl, tf, hcode, hvs, hfile⟩ := Z.file
  refine ks_wpAt_MethodCall (pl := pl) ?_ he
  obtain ⟨hh, gg, d, tk, os⟩ := s
  obtain ⟨cd, hcd⟩ := Option.isSome_iff_exists.mp Z.cls
  obtain ⟨oD, hD1, hD2⟩ : ∃ oD, hh.get? C = some oD ∧ oD.data = .cls cd := by
    unfold PySem.W.clsIn at hcd
    split at hcd
    · rename_i c d cd' sl ho
      cases hcd
      exact ⟨_, KX _ _ ho, rfl⟩
    · cases hcd
  refine ks_wpAt_super_base hks hkc hat hfu (KX _ _ lk) rfl hp hco (KX _ _ hcode) rfl hvs hfile Z.top ?_
  obtain ⟨mb, hbn, hbv⟩ := I.ok.mod.blt
  have hbo : bootBuiltins "super" = some (.type "super") := by first | rfl | decide +kernel
  refine PySem.W.ks_loadName_global I.ok.kind hks (Calls.loadGlobal_builtin (by rw [I.ok.glob]; exact I.mod.glob.keeps I.bk) Z.zs (by rw [I.ok.blt]; exact hbn.keeps I.bk) ((hbv ("super" : Str) (by decide +kernel)).trans hbo) ⟨rfl, ?_⟩)
  refine wpAny_loadName_free I.ok.kind hkc hclo ⟨_, KX _ _ cell, rfl⟩ ?_
  obtain ⟨ml, hns, hl⟩ := I.loc
  obtain ⟨u, ru, lku⟩ := hl 0 ar.arg (.ref a) hN hσ (hka.elim .inl fun z => .inr (.inl z))
  obtain rfl : u = Value.ref a := ru
  refine wpAny_mono (Q := fun u s' => u = Value.ref a ∧ s' = ⟨hh, gg, d, tk, os⟩) (E := fun _ _ => False) ?_ (fun u s' z => ?_) fun _ _ z => z.elim
  · rcases lku with ⟨hkx, hm⟩ | ⟨hkx, cx, hcx, hcell⟩
    · exact wpAny_loadName_local I.ok.kind hkx hns hm ⟨rfl, rfl⟩
    · rcases hkx with hkx | hkx
      · exact wpAny_loadName_cell I.ok.kind hkx hcx hcell ⟨rfl, rfl⟩
      · rcases hka with z | z
        · exact absurd (z.symm.trans hkx) (by decide)
        · exact absurd (z.symm.trans hkx) (by decide)
  obtain ⟨rfl, rfl⟩ := z
  refine ks_wpAny_isType_cls hD1 hD2 ⟨rfl, ?_⟩
  refine ks_wpAny_call_super hD1 hD2 J.at_ J.cls (fun c z => ?_) (PySem.W.looks_mroIn KX Z.own) fun h' e1' kp => ?_
  · have := J.no
    unfold PySem.W.notCls at this
    rw [z] at this
    exact Bool.noConfusion this
  have I1 : Inv _ pins σ H ⟨h', gg, d, tk, os⟩ := I.kept (t' := tk) kp
  have KX1 := I1.kIn
  obtain ⟨mA1, O1, _⟩ := ins_get I1.hok hia
  obtain ⟨odx1, J1, _⟩ := O1.look
  obtain ⟨of, hof, hofc⟩ : ∃ of, h'.get? g = some of ∧ of.cls = .type "function" := by
    have ht' : (X.K.lookup g).map (·.cls) = some (.type "function") := Z.ty
    cases z : X.K.lookup g with
    | none => rw [z] at ht'; cases ht'
    | some of => rw [z] at ht'; exact ⟨of, KX1 _ _ z, Option.some.inj ht'⟩
  have up := Z.up
  unfold PySem.W.ks_superIn at up
  rw [hcd] at up
  refine ks_wpAny_getMethod_super e1' (PySem.W.looks_opaque KX1 Z.opq) (l₀ := cd.mro) (fun A Q E s k z => wpAny_bind ((PySem.W.looks_clsIn KX1 hcd) A _ E s k (wpAny_pure z))) rfl KX1 up hof hofc (PySem.W.ks_ne KX1 J1 hcd) hat ?_
  have k2 : ∀ b o, h'.get? b = some o → (h'.push (PySem.W.methodObj (.ref g) (.ref a))).get? b = some o := fun b o e => Heap.get?_push_of_some _ e
  have I2 : Inv _ pins σ H ⟨h'.push (PySem.W.methodObj (.ref g) (.ref a)), gg, d, tk + 1, os⟩ := I1.kept (t' := tk + 1) k2
  have hq : (h'.push (PySem.W.methodObj (.ref g) (.ref a))).get? h'.objs.size = some (PySem.W.methodObj (.ref g) (.ref a)) := Heap.get?_push_size _ rfl
  have fp : ∀ b ∈ [h'.objs.size], FpOk X pins H b := fun b mb' => by
    rw [List.mem_singleton.mp mb']
    exact I1.fpOk (Nat.le_refl _) (I1.hok.fresh (Nat.le_refl _))
  have I3 := I2.pinned fp fun b mb' => by
    rw [List.mem_singleton.mp mb']
    exact ⟨_, hq, fun v z => by cases z⟩
  have hst' : starEach (e1 :: es) X.env = (false, eval e1 X.env) :: starEach es X.env := hst
  have go := ha.run p4 _ _ σ H _ I3 q
  rw [hst'] at go
  rw [hst']
  refine PySem.W.callWith_of (P := PySem.W.MethP X.K h'.objs.size g (.ref a)) (by show ((false || (backTo p4 (starEach es _)).any (·.1)) || false) = false; rw [hpl]; rfl) (PySem.W.keeps_M Z.fn) (Calls.evalArgs_plain (thn go fun us s3 w3 => ?_))
  obtain ⟨vs3, H1, I4, r, q2⟩ := w3
  have pin := (I4.pin (h'.objs.size, PySem.W.methodObj (.ref g) (.ref a)) (List.mem_append_right _ (List.mem_append_right _ (mem_pinsAt List.mem_cons_self hq)))).1
  refine ⟨⟨pin, I4.kIn⟩, ?_⟩
  have I5 := I4.unpinned
  exact wpAny_call (ks_codeAny_call_bound pin (run_fnR (us := .ref a :: us) (vs := .ref a :: vs3) F hr pass0 I5 (.cons rfl r) q2))
end Rd

set_option maxHeartbeats 4000000
/-! StrO: texts: slices, text * number, enumerate(text), min and max of two, str(x) of a number or a text, "".join. -/
namespace Rd
open PySem PySem.Spec PyProof.Rows L2
section
variable {H : Hp} {Q : VK} {X : Cx}
theorem r_slS {z : Str} {lo hi : Option Int} (h : z.length ≤ sizeLine) (q : Q (.str (cutS z lo hi)) H) : rSlS (.str z) lo hi H Q := ⟨z, rfl, h, q⟩
/-! text * number -/
def rMulS : R2 := fun x y H Q => ∃ z n, x = .str z ∧ y = .int n ∧ MulOk z n ∧ Q (.str (Txt.mul z n)) H
theorem op_mulS : OpR X (binaryOp .Mult) rMulS := by
  intro pins s σ H x y v u Q I rx ry h
  obtain ⟨z, n, rfl, rfl, ok, q⟩ := h
  obtain ⟨t, rfl⟩ := rx
  obtain ⟨t', rfl⟩ := ry
  exact SB.mul ok fun t' k => ⟨.str _, H, I.tok k, ⟨_, rfl⟩, q⟩
/-! str(x) of a number or a text -/
def strD : PyData → Str
  | .int i => toString i
  | .str x => x
  | _ => Str.empty
def strDOk : PyData → Prop
  | .int i => i.natAbs.log2 < 1920
  | .str _ => True
  | _ => False
def cStrIS : R1 := fun xs H Q => ∃ x d ex, xs = [x] ∧ Dt ex H x d ∧ strDOk d ∧ Q (.str (strD d)) H
theorem cr_strIS : CallR X (.type "str") cStrIS := by
  intro pins s σ H xs us Q I r h
  obtain ⟨x, d, ex, rfl, hd, ok, q⟩ := h
  cases hd with
  | int i => exact call_str_int pins s σ H _ us Q I r ⟨i, rfl, ok, q⟩
  | str z => exact SkE.call_str_str pins s σ H _ us Q I r ⟨z, rfl, q⟩
  | non => exact ok.elim
  | bl b => exact ok.elim
  | lst _ _ _ => exact ok.elim
  | tup _ _ _ => exact ok.elim
theorem r_strIS {x : V} {d : PyData} {ex : List Addr} (h : Dt ex H x d) (ok : strDOk d) (q : Q (.str (strD d)) H) : cStrIS [x] H Q := ⟨x, d, ex, rfl, h, ok, q⟩
/-! min, max of two texts -/
def slt (a b : Str) : Bool := decide (a.cps.toList < b.cps.toList)
def minS (a b : Str) : Str := if slt b a = true then b else a
def maxS (a b : Str) : Str := if slt a b = true then b else a
def cMin2S : R1 := fun xs H Q => ∃ a b, xs = [.str a, .str b] ∧ Q (.str (minS a b)) H
def cMax2S : R1 := fun xs H Q => ∃ a b, xs = [.str a, .str b] ∧ Q (.str (maxS a b)) H
def strsV (a b : Str) : Nat → Str := fun i => if i = 0 then a else b
theorem cmpOf_strs {prog : Program} {w : World} {A : Around} {a b : Str} {t u : Tok} : CmpOf prog w A .Lt (fun i v => (#[Value.str a t, Value.str b u] : Array Value)[i]? = some v) (fun i j => slt (strsV a b i) (strsV a b j)) := by
  intro i j vi vj s Q E hi hj hQ
  have at2 : ∀ {i : Nat} {v : Value}, (#[Value.str a t, Value.str b u] : Array Value)[i]? = some v → ∃ k, v = Value.str (strsV a b i) k := fun {i v} h => by
    match i, h with
    | 0, h => cases h; exact ⟨_, rfl⟩
    | 1, h => cases h; exact ⟨_, rfl⟩
    | i + 2, h => simp at h
  obtain ⟨k, rfl⟩ := at2 hi
  obtain ⟨k', rfl⟩ := at2 hj
  exact PySem.P.lt_str hQ
theorem cmpOf_strsG {prog : Program} {w : World} {A : Around} {a b : Str} {t u : Tok} : CmpOf prog w A .Gt (fun i v => (#[Value.str a t, Value.str b u] : Array Value)[i]? = some v) (fun i j => slt (strsV a b j) (strsV a b i)) := by
  intro i j vi vj s Q E hi hj hQ
  have at2 : ∀ {i : Nat} {v : Value}, (#[Value.str a t, Value.str b u] : Array Value)[i]? = some v → ∃ k, v = Value.str (strsV a b i) k := fun {i v} h => by
    match i, h with
    | 0, h => cases h; exact ⟨_, rfl⟩
    | 1, h => cases h; exact ⟨_, rfl⟩
    | i + 2, h => simp at h
  obtain ⟨k, rfl⟩ := at2 hi
  obtain ⟨k', rfl⟩ := at2 hj
  exact (show wpAny (model prog w) A (compareOp .Gt (.str (strsV a b i) k) (.str (strsV a b j) k')) Q E s from PySem.P.gt_str hQ)
theorem cr_min2S (hc : X.calm = true) : CallR X (.builtin "min") cMin2S := by
  intro pins s σ H xs us Q I r h
  obtain ⟨a, b, rfl, q⟩ := h
  obtain ⟨u, w', rfl, ⟨t, rfl⟩, ⟨t', rfl⟩⟩ := vals2 r
  have hh := I.ok.hd hc
  have hT : (s.heap.push { cls := .type "tuple", data := .seq #[.str a t, .str b t'] }).IsTuple s.heap.objs.size #[.str a t, .str b t'] := ⟨_, Heap.get?_push_size _ rfl, rfl, 0, rfl⟩
  refine call_min_two (wpAny_pyIter_tuple hT ?_)
  have hsz : (s.heap.push { cls := .type "tuple", data := .seq #[.str a t, .str b t'] }).objs.size = s.heap.objs.size + 1 := Heap.size_push ..
  refine ⟨_, [_, s.heap.objs.size], [_], _, _, _, _, rfl, Walks.tuple (A := X.A.in1) hh _ s.heap.objs.size (by rw [hsz]; exact Nat.ne_of_lt (Nat.lt_succ_self _)) #[.str a t, .str b t'],
    ⟨⟨_, Heap.get?_push_size _ rfl, rfl, rfl⟩, hT.push _⟩, fun d hd => ?_, by simp, cmpOf_strs, fun v h' tk hP hk => ?_⟩
  · show d < ((s.heap.push _).push _).objs.size
    rw [Heap.size_push, hsz]
    rcases List.mem_cons.mp hd with rfl | hd
    · rw [hsz]; exact Nat.lt_succ_self _
    · rcases List.mem_cons.mp hd with rfl | hd
      · exact Nat.lt_succ_of_lt (Nat.lt_succ_self _)
      · cases hd
  · refine ⟨.str (minS a b), H, I.kept fun c o e => hk c o (fun m => ?_) (Heap.get?_push_of_some _ (Heap.get?_push_of_some _ e)), ?_, q⟩
    · have := Heap.lt_size e
      rw [List.mem_singleton.mp m, hsz] at this
      exact absurd this (Nat.not_lt.mpr (Nat.le_succ _))
    · have e : argBest (fun i j => slt (strsV a b i) (strsV a b j)) (#[Value.str a t, Value.str b t'].size - 1) = if slt b a = true then 1 else 0 := rfl
      rw [e] at hP
      unfold minS
      cases c : slt b a
      · rw [c] at hP
        cases hP
        exact ⟨_, rfl⟩
      · rw [c] at hP
        cases hP
        exact ⟨_, rfl⟩
theorem cr_max2S (hc : X.calm = true) : CallR X (.builtin "max") cMax2S := by
  intro pins s σ H xs us Q I r h
  obtain ⟨a, b, rfl, q⟩ := h
  obtain ⟨u, w', rfl, ⟨t, rfl⟩, ⟨t', rfl⟩⟩ := vals2 r
  have hh := I.ok.hd hc
  have hT : (s.heap.push { cls := .type "tuple", data := .seq #[.str a t, .str b t'] }).IsTuple s.heap.objs.size #[.str a t, .str b t'] := ⟨_, Heap.get?_push_size _ rfl, rfl, 0, rfl⟩
  refine call_max_two (wpAny_pyIter_tuple hT ?_)
  have hsz : (s.heap.push { cls := .type "tuple", data := .seq #[.str a t, .str b t'] }).objs.size = s.heap.objs.size + 1 := Heap.size_push ..
  refine ⟨_, [_, s.heap.objs.size], [_], _, _, _, _, rfl, Walks.tuple (A := X.A.in1) hh _ s.heap.objs.size (by rw [hsz]; exact Nat.ne_of_lt (Nat.lt_succ_self _)) #[.str a t, .str b t'],
    ⟨⟨_, Heap.get?_push_size _ rfl, rfl, rfl⟩, hT.push _⟩, fun d hd => ?_, by simp, cmpOf_strsG, fun v h' tk hP hk => ?_⟩
  · show d < ((s.heap.push _).push _).objs.size
    rw [Heap.size_push, hsz]
    rcases List.mem_cons.mp hd with rfl | hd
    · rw [hsz]; exact Nat.lt_succ_self _
    · rcases List.mem_cons.mp hd with rfl | hd
      · exact Nat.lt_succ_of_lt (Nat.lt_succ_self _)
      · cases hd
  · refine ⟨.str (maxS a b), H, I.kept fun c o e => hk c o (fun m => ?_) (Heap.get?_push_of_some _ (Heap.get?_push_of_some _ e)), ?_, q⟩
    · have := Heap.lt_size e
      rw [List.mem_singleton.mp m, hsz] at this
      exact absurd this (Nat.not_lt.mpr (Nat.le_succ _))
    · have e : argBest (fun i j => slt (strsV a b j) (strsV a b i)) (#[Value.str a t, Value.str b t'].size - 1) = if slt a b = true then 1 else 0 := rfl
      rw [e] at hP
      unfold maxS
      cases c : slt a b
      · rw [c] at hP
        cases hP
        exact ⟨_, rfl⟩
      · rw [c] at hP
        cases hP
        exact ⟨_, rfl⟩
theorem r_min2S {a b : Str} (q : Q (.str (minS a b)) H) : cMin2S [.str a, .str b] H Q := ⟨a, b, rfl, q⟩
theorem r_max2S {a b : Str} (q : Q (.str (maxS a b)) H) : cMax2S [.str a, .str b] H Q := ⟨a, b, rfl, q⟩
end
/-! enumerate(text) -/
/-- a text, each sign in a new pair with its place -/
def Ies (x : Str) : It :=
  ⟨fun i _ => i < x.cps.size, fun i H v H' => ∃ T c, v = .ref T ∧ H T = none ∧ H' = upd H T (.tup [.int (i : Nat), .str ⟨#[c]⟩]) ∧ x.cps[i]? = some c, fun i _ => x.cps.size ≤ i⟩
theorem turn_es {P : Program} {w : World} {K : PySem.W.Frag} {elts : List Expr} {kk : Nat} {tpos : Pos} (x : Str) (t : Tok) (e it : Addr) (ty : String) (hty : ty = "str_ascii_iterator" ∨ ty = "str_iterator") :
    Turn P w K (.Tuple elts kk tpos) (Ies x) [e, it] e (fun i h => (∃ old, IsEnum h e it ((i : Nat) : Int) old) ∧ h.IsStrIter it ty x t i ∧ e ≠ it) := by
  have two : ∀ {b : Addr}, b ∈ [e, it] → b = e ∨ b = it := fun {b} hb => by simpa using hb
  have dr : ∀ {A : Around}, A.handled = none → Draws P w A it [it] x.cps.size (fun i v => ∃ c u, x.cps[i]? = some c ∧ v = .str ⟨#[c]⟩ u) (fun i h => h.IsStrIter it ty x t i) := fun {A} hh => by
    rcases hty with z | z
    · rw [z]; exact Draws.strAscii hh it x t
    · rw [z]; exact Draws.strWide hh it x t
  refine ⟨by simp, fun i h st b hb => ?_, fun i h h' st k => ?_, ?_, ?_, fun A i s Q E st q => ?_⟩
  · obtain ⟨⟨old, he⟩, ⟨o, ho, hc, hd⟩, _⟩ := st
    rcases two hb with rfl | rfl
    · exact ⟨_, he, fun v z => nomatch z⟩
    · exact ⟨o, ho, fun v z => by rw [hd] at z; cases z⟩
  · obtain ⟨⟨old, he⟩, hi, hne⟩ := st
    exact ⟨⟨old, k e (by simp) _ he⟩, (let ⟨o, ho, r⟩ := hi; ⟨o, k it (by simp) o ho, r⟩), hne⟩
  · intro X hP hw hK hc i pins s σ H E I hf st hg
    subst hP hw hK
    obtain ⟨⟨old, he⟩, hit, hne⟩ := st
    have big : e < s.heap.objs.size ∧ it < s.heap.objs.size := ⟨Heap.lt_size he, by obtain ⟨_, z, _⟩ := hit; exact Heap.lt_size z⟩
    refine wpAny_pyNext_enum_itemC (dr (A := X.A.in1) (I.ok.hd hc)) he hit hg hne (by simp [hne]) fun y h1 tk hy ho hst hT hsz hk => ?_
    obtain ⟨c, k, hcx, rfl⟩ := hy
    refine ⟨_, rfl, wpAny_letOwnedTupleGo_enum (s := { s with heap := h1, toks := tk + 1 }) ho fun h2 he2 sb => ?_⟩
    have hT2 := (sb.2 _ (Nat.ne_of_gt big.1)).trans hT
    have new : ObjOk X.prog X.w (upd H s.heap.objs.size (.tup [.int (i : Nat), .str ⟨#[c]⟩])) h2 s.heap.objs.size (.tup [.int (i : Nat), .str ⟨#[c]⟩]) := ⟨by show 2 ≤ sizeLine; decide, [.int i tk, .str ⟨#[c]⟩ k], .cons ⟨_, rfl⟩ (.cons ⟨_, rfl⟩ .nil), ⟨_, hT2, rfl, _, rfl⟩⟩
    have I1 : Inv X pins σ (upd H s.heap.objs.size (.tup [.int (i : Nat), .str ⟨#[c]⟩])) { s with heap := h2, toks := tk + 1 } :=
      I.turnedNew (ch := [e, it]) (fun b ob hb z => (sb.2 b (fun w => hb (by simp [w]))).trans (hk b ob (fun w => hb (by simp [w])) (fun w => hb (by simp [w])) z)) hf (Nat.le_refl _) new
    refine ⟨.ref s.heap.objs.size, _, I1, rfl, ⟨_, c, rfl, I.hok.fresh (Nat.le_refl _), rfl, hcx⟩, ⟨⟨.str ⟨#[c]⟩ k, ?_⟩, (let ⟨o, ho, r⟩ := hst; ⟨o, (sb.2 it (Ne.symm hne)).trans ho, r⟩), hne⟩, fun b hb => ?_⟩
    · have e1 : ((i + 1 : Nat) : Int) = (i : Int) + 1 := by omega
      rw [e1]
      exact he2
    · have hb' : b < s.heap.objs.size := (two hb).elim (fun z => z ▸ big.1) fun z => z ▸ big.2
      rw [upd_ne (Nat.ne_of_lt hb')]
      exact (hf b hb).1
  · intro X hP hw hK hc i pins s σ H E I hf st hg
    subst hP hw hK
    obtain ⟨⟨old, he⟩, hit, hne⟩ := st
    have D := dr (A := X.A.in1) (I.ok.hd hc)
    have D' : Draws X.prog X.w X.A.in1 it [it] i (fun _ _ => True) (fun j h => j = i ∧ h.IsStrIter it ty x t i) :=
      ⟨fun _ _ st => let ⟨o, ho, _⟩ := st.2; ⟨o, ho⟩, fun _ _ _ st hk => ⟨st.1, let ⟨o, ho, r⟩ := st.2; ⟨o, hk it (by simp) o ho, r⟩⟩, fun j _ _ _ hj st _ => absurd st.1 (Nat.ne_of_lt hj),
        fun s Q E st hE => by
          have hn : x.cps[i]? = none := Array.getElem?_eq_none hg
          rcases hty with z | z
          · rw [z] at st
            exact wpAny_nextOf_ascii_end (A := X.A.in1) (I.ok.hd hc) st.2 hn hE
          · rw [z] at st
            exact wpAny_nextOf_wide_end (A := X.A.in1) (I.ok.hd hc) st.2 hn hE⟩
    obtain ⟨f0, f1, f2, f3, f4, f5⟩ := hf it (by simp)
    exact wpAny_pyNext_enum_endD D' he ⟨rfl, hit⟩ fun h' eb => ⟨rfl, I.turned (t' := s.toks) (fun b o hb z => eb b o hb z) f0 f1 f3 f4 f5⟩
  · obtain ⟨⟨_, he⟩, _⟩ := st
    exact wpAny_pyIter_enum he q
def cEnumS (R : It → Hp → Prop) : List V → Hp → Prop := fun vs H1 => ∃ x, vs = [.str x] ∧ R (Ies x) H1
def iEnumS (ta : TA) : TI := fun σ H R => ta σ H (cEnumS R)
theorem K_enumS {X : Cx} {K : PySem.W.Frag} (hK : X.K = K) {e : Expr} {ta : TA} {p pos tpos : Pos} {elts : List Expr} {kk : Nat} (hg : Gl X "enumerate") (hm : X.mg "enumerate" = none) (ha : PA X [e] ta) (hs : starEach [e] X.env = [(false, eval e X.env)] := by rfl) :
    PI X (.Tuple elts kk tpos) (.Call (.Name "enumerate" p) [e] [] pos) (iEnumS ta) := by
  subst hK
  constructor
  intro pins s σ H R I h
  refine Call_ (ld_blt I hg hm boot_enumerate (PyProof.Rows.callWith_type1 (thn (ha.run pos pins s σ H _ I h) fun us s1 ⟨vs, H1, I1, r1, q1⟩ => ?_) hs rfl))
  obtain ⟨x, rfl, q⟩ := q1
  obtain ⟨u, rfl, ru⟩ := r1.one
  obtain ⟨t, rfl⟩ := (show ∃ t, u = Value.str x t from ru)
  have fresh : ∀ b ∈ [s1.heap.objs.size + 1, s1.heap.objs.size], FpOk X pins H1 b := fun b m => by
    have le : s1.heap.objs.size ≤ b := by
      rcases List.mem_cons.mp m with z | z
      · omega
      · rw [List.mem_singleton.mp z]
        exact Nat.le_refl _
    exact I1.fpOk le (I1.hok.fresh le)
  have hty : strIterType x = "str_ascii_iterator" ∨ strIterType x = "str_iterator" := by
    unfold strIterType
    split
    · exact .inl rfl
    · exact .inr rfl
  exact call_enumerate_str fun h' he hit _ hk => wpAny_pyIter_enum he ⟨_, _, _, _, H1, rfl, I1.kept (t' := s1.toks) hk, turn_es x t _ _ _ hty, ⟨⟨.none, he⟩, hit, Nat.succ_ne_self _⟩, fresh, q⟩
section
variable {σ : L2.St} {H : Hp} {tr : TA} {R : It → Hp → Prop} {z : Str}
theorem r_enumS (q : tr σ H (cEnumS R)) : iEnumS tr σ H R := q
theorem r_cEnumS (q : R (Ies z) H) : cEnumS R [.str z] H := ⟨z, rfl, q⟩
theorem walk_es : Walk (Ies z) z.cps.size (fun _ => True) (YPair (fun i => some (.int (i : Nat))) (fun i => z.cps[i]?.map fun c => .str ⟨#[c]⟩)) := by
  refine ⟨fun i _ hi _ => hi, fun _ _ => Nat.le_refl _, fun i H v H' _ _ ⟨T, c, h1, h2, h3, h4⟩ => ⟨T, .int (i : Nat), .str ⟨#[c]⟩, h1, h2, h3, rfl, ?_⟩⟩
  show z.cps[i]?.map (fun c => V.str ⟨#[c]⟩) = some (V.str ⟨#[c]⟩)
  rw [h4]
  rfl
end
end Rd

set_option maxHeartbeats 4000000
/-! Fam2: families of classes: their defs as users see them; C(k = v, ..); defs with super() of an own class. -/
namespace Rd
open PySem PySem.Spec L2 NdefX PyProof.Rows
def FamS (l : List Addr) : Addr → Prop := fun C => C ∈ l
theorem FamS.hd {C : Addr} {l : List Addr} : FamS (C :: l) C := List.mem_cons_self
theorem FamS.tl {C D : Addr} {l : List Addr} (h : FamS l C) : FamS (D :: l) C := List.mem_cons_of_mem _ h
theorem fam_nil {p : Addr → Prop} : ∀ C, FamS [] C → p C := fun _ h => nomatch h
theorem fam_cons {p : Addr → Prop} {D : Addr} {l : List Addr} (h : p D) (t : ∀ C, FamS l C → p C) : ∀ C, FamS (D :: l) C → p C := fun C m => by
  rcases List.mem_cons.mp m with e | m
  · exact e ▸ h
  · exact t C m
def UseMF (P : Program) (w : World) (K : PySem.W.Frag) (mg : Str → Option Value) (base : Heap) (n : Nat) (S : Addr → Prop) (m : Str) (sp : Sp) : Prop := ∃ f, FnR P w K mg base CX0 n f sp ∧ ∀ C, S C → Meth K C m f
def UseP (P : Program) (w : World) (K : PySem.W.Frag) (mg : Str → Option Value) (base : Heap) (n : Nat) (S : Addr → Prop) (m : Str) (ps : List Str) (sp : Sp) : Prop := ∃ p g fd, FnOk P w K mg base CX0 n g fd ps sp ∧ Binds K fd ps [] ∧ ∀ C, S C → Cls K C ∧ PropOf K C m p g
/-- a class by its __init__, whose arguments may come by name -/
def UseCK (P : Program) (w : World) (K : PySem.W.Frag) (mg : Str → Option Value) (base : Heap) (n : Nat) (x : Str) (C : Addr) (ps : List Str) (sp : Sp) : Prop := ∃ f fd, FnOk P w K mg base (L2.CX P w) n f fd ps sp ∧ Mk K C f ∧ mg x = some (.ref C) ∧ Binds K fd ps [] ∧
  (∀ (s : Shared) (us ws : List Value), (us ++ ws).length = ps.length → us.length = 1 → BindsTo s fd ⟨us, (ps.drop 1).zip ws⟩ (ps.zip (us ++ ws))) ∧
  ∀ (s : Shared) (us ws : List Value), (us ++ ws).length = ps.length → us.length = 1 → BindsTo s fd ⟨us, (ps.drop 1).reverse.zip ws⟩ (ps.zip (us ++ ws.reverse))
theorem UseCK.x {P : Program} {w : World} {K : PySem.W.Frag} {mg : Str → Option Value} {base : Heap} {n : Nat} {x : Str} {C : Addr} {ps : List Str} {sp : Sp} (U : UseCK P w K mg base n x C ps sp) : UseCX P w K mg base n x C sp := by
  obtain ⟨f, fd, F, M, g, b, _, _⟩ := U
  exact ⟨f, fnrX F b, M, g⟩
theorem passAtL {X : Cx} (σ : L2.St) : PassesAt (L2.CX X.prog X.w) X σ E0 := fun pins H s e s' I c => passL pins σ H s e s' I c
/-! ### C(k = v, ..) -/
def kMakeK (C : Addr) (m : Nat) (sp : Sp) (gV : List V → List V) (E : XK) (Q : VK) : List V → Hp → Prop := fun zs H2 => zs.length = m ∧ ∀ x dx, H2 x = none → H2 dx = none → dx ≠ x → sp (.ref x :: gV zs) (upd (upd H2 dx (.own x)) x (.ins C dx [])) (kMade x Q) E
def tMakeKS (C : Addr) (m : Nat) (sp : Sp) (gV : List V → List V) (E : L2.St → XK) (tk : TA) : TE := fun σ H Q => tk σ H (kMakeK C m sp gV (E σ) Q)
section
variable {X : Cx} {k n : Nat} {C : Addr} {ps ks : List Str} {sp : Sp} {E : L2.St → XK} {x : Str} {p pos : Pos} {kws : List Keyword} {tk : TA}
theorem pe_makeKO {f : Addr} {fd : FuncData} {g : List Value → List Value} {gV : List V → List V} (F : FnOk X.prog X.w X.K X.mg X.base (L2.CX X.prog X.w) k f fd ps sp) (M : Mk X.K C f) (hr : Room (k + 1) X.A) (hg : Gl X x) (hm : X.mg x = some (.ref C))
    (hb : ∀ (s : Shared) (us ws : List Value), us.length = 1 → ws.length = ks.length → BindsTo s fd ⟨us, ks.zip ws⟩ (ps.zip (us ++ g ws))) (hrel : ∀ {zs : List V} {ws : List Value}, Vals zs ws → Vals (gV zs) (g ws)) (hx : ∀ σ, PassesAt (L2.CX X.prog X.w) X σ (E σ)) (hkw : PK X kws tk)
    (hall : (backToKw pos (keywordEach kws X.env)).all (·.1.isSome) = true := by rfl) (hks : (backToKw pos (keywordEach kws X.env)).filterMap (·.1) = ks := by rfl) (hdb : (x == ("__debug__" : Str)) = false := by decide)
    (hpl : ((backTo pos (starEach [] X.env)).any (·.1) || (backToKw pos (keywordEach kws X.env)).any (·.1.isNone)) = false := by rfl) :
    PE X (.Call (.Name x p) [] kws pos) (tMakeKS C ks.length sp gV E tk) := by
  refine ⟨fun pins s σ H Q I h => ?_⟩
  refine wpAny_Call_Name_kw (ld_glob I hg hm ?_ hdb)
  refine PySem.W.callWith_KW0 (h₀ := X.base) I.ok.mod.kin M.kp hall ?_ hpl
  refine thn (hkw.run pos pins s σ H _ I h) fun ws s ⟨zs, H, I, rz, l2, h⟩ => ⟨I.kIn, ?_⟩
  rw [hks]
  have hq := h (s.heap.objs.size + 1) s.heap.objs.size (I.hok.fresh (Nat.le_succ _)) (I.hok.fresh (Nat.le_refl _)) (Nat.ne_of_lt (Nat.lt_succ_self _))
  have I2 := Inv.made (C := C) I
  have r2 : Vals (V.ref (s.heap.objs.size + 1) :: gV zs) (Value.ref (s.heap.objs.size + 1) :: g ws) := .cons rfl (hrel rz)
  refine wpAny_call (make_map (f := f) I.kIn M.makes M.init (beq_iff_eq.mp M.fn) (codeAny_mono (F.run _ X.stack _ _ ⟨[Value.ref (s.heap.objs.size + 1)], ks.zip ws⟩ (Value.ref (s.heap.objs.size + 1) :: g ws) _ _ (E σ) (hr.make C [] (ks.zip ws))
    (I2.env0.make C [] (ks.zip ws)) (hb _ [Value.ref (s.heap.objs.size + 1)] ws rfl (rz.length.symm.trans l2)) r2 hq) fun r s' hq' => ?_))
  cases r with
  | error e => exact hx σ pins _ _ e s' I2 hq'
  | ok fl =>
    cases fl with
    | ret u =>
      obtain ⟨v, H', I3, rv, ev, q3⟩ := I2.after hq'
      subst ev
      exact ⟨rv, ⟨V.ref (s.heap.objs.size + 1), H', I3, rfl, q3⟩⟩
    | next => exact False.elim hq'
    | brk => exact False.elim hq'
    | cont => exact False.elim hq'
/-- all arguments by name, in the def's order -/
theorem pe_makeKS (U : UseCK X.prog X.w X.K X.mg X.base k x C ps sp) (hr : Room (k + 1) X.A) (hg : Gl X x) (hp : ps.length = ks.length + 1) (hps : ps.drop 1 = ks) (hx : ∀ σ, PassesAt (L2.CX X.prog X.w) X σ (E σ)) (hkw : PK X kws tk)
    (hall : (backToKw pos (keywordEach kws X.env)).all (·.1.isSome) = true := by rfl) (hks : (backToKw pos (keywordEach kws X.env)).filterMap (·.1) = ks := by rfl) (hdb : (x == ("__debug__" : Str)) = false := by decide)
    (hpl : ((backTo pos (starEach [] X.env)).any (·.1) || (backToKw pos (keywordEach kws X.env)).any (·.1.isNone)) = false := by rfl) :
    PE X (.Call (.Name x p) [] kws pos) (tMakeKS C ks.length sp id E tk) := by
  obtain ⟨f, fd, F, M, hm, _, hb, _⟩ := U
  refine pe_makeKO (g := id) F M hr hg hm (fun s us ws l1 l2 => ?_) (fun r => r) hx hkw hall hks hdb hpl
  have := hb s us ws (by rw [List.length_append, l1, l2, hp, Nat.add_comm]) l1
  rw [hps] at this
  exact this
/-- all arguments by name, in the other order -/
theorem pe_makeKR (U : UseCK X.prog X.w X.K X.mg X.base k x C ps sp) (hr : Room (k + 1) X.A) (hg : Gl X x) (hp : ps.length = ks.length + 1) (hps : (ps.drop 1).reverse = ks) (hx : ∀ σ, PassesAt (L2.CX X.prog X.w) X σ (E σ)) (hkw : PK X kws tk)
    (hall : (backToKw pos (keywordEach kws X.env)).all (·.1.isSome) = true := by rfl) (hks : (backToKw pos (keywordEach kws X.env)).filterMap (·.1) = ks := by rfl) (hdb : (x == ("__debug__" : Str)) = false := by decide)
    (hpl : ((backTo pos (starEach [] X.env)).any (·.1) || (backToKw pos (keywordEach kws X.env)).any (·.1.isNone)) = false := by rfl) :
    PE X (.Call (.Name x p) [] kws pos) (tMakeKS C ks.length sp List.reverse E tk) := by
  obtain ⟨f, fd, F, M, hm, _, _, hb⟩ := U
  have vrev : ∀ {zs : List V} {ws : List Value}, Vals zs ws → Vals zs.reverse ws.reverse := fun r => by
    induction r with
    | nil => exact .nil
    | cons a _ ih =>
      rw [List.reverse_cons, List.reverse_cons]
      exact ih.append (.cons a .nil)
  refine pe_makeKO (g := List.reverse) F M hr hg hm (fun s us ws l1 l2 => ?_) vrev hx hkw hall hks hdb hpl
  have := hb s us ws (by rw [List.length_append, l1, l2, hp, Nat.add_comm]) l1
  rw [hps] at this
  exact this
end
section
variable {C : Addr} {m : Nat} {sp : Sp} {gV : List V → List V} {E : L2.St → XK} {tk : TA} {σ : L2.St} {H : Hp} {Q : VK} {zs : List V} {Ex : XK}
theorem r_makeKS (q : tk σ H (kMakeK C m sp gV (E σ) Q)) : tMakeKS C m sp gV E tk σ H Q := q
theorem r_kMakeK (h : zs.length = m) (q : ∀ a dx H', H a = none → Kp [] H H' → H' a = some (.ins C dx []) → sp (.ref a :: gV zs) H' (kMade a Q) Ex) : kMakeK C m sp gV Ex Q zs H := ⟨h, fun a dx n n' d =>
  q a dx _ n ((Kp.new n').trans (Kp.new (by rw [upd_ne d.symm]; exact n))) upd_same⟩
end
/-! ### a def of the text in a class over an own class, which calls super().m -/
structure SFunO (P : Program) (K : PySem.W.Frag) (mg : Str → Option Value) (name qual : Str) (st : Stmt) (C f : Addr) (fd : FuncData) (m : Str) (g : Addr) : Prop where
  ex : ∃ (oc kV doc pm ct cl : Value) (od an cld : Option Addr) (cda cc : Addr) (osl csl : Array (Option Value)), fd = PySem.W.ksFn name qual (defArgs st) (defBody st) (defScope st) .none kV doc pm an (.ref cda) ct cc ∧
    K.lookup f = some ⟨oc, od, .func (PySem.W.ksFn name qual (defArgs st) (defBody st) (defScope st) .none kV doc pm an (.ref cda) ct cc), osl⟩ ∧ PySem.W.codeIn K (.ref cda) qual = true ∧ K.lookup cc = some ⟨cl, cld, .cell (some (.ref C)), csl⟩ ∧ SupO P K mg C cda m g
theorem nf_self {K : PySem.W.Frag} {C : Addr} : PySem.W.notFirst K C (.ref C) = true := by
  unfold PySem.W.notFirst
  simp
end Rd

set_option maxHeartbeats 4000000
/-! Tx: more readings as rules: o[i] = v, "".join, isinstance of an own class. -/
namespace Rd
open PySem PySem.Spec L2 StX
section
variable {σ : L2.St} {H : Hp} {Q : VK} {QS : L2.St → Hp → Prop} {to ti te : TE} {t : TSet} {v x : V} {r : V → List V → Hp → VK → Prop} {K : PySem.W.Frag} {z : Str} {p : Addr}
theorem r_gsub (q : to σ H fun o H1 => ti σ H1 fun i H2 => t o i v H2 fun H3 => QS σ H3) : gSub to ti t v σ H QS := q
theorem r_setL {N : Hp → Prop} {xs : List V} {k : Int} {j : Nat} (e : H p = some (.lst xs)) (h : ixN xs.length k = some j) (q : ∀ H', Kp [p] H H' → H' p = some (.lst (xs.set j v)) → N H') : rSetL (.ref p) (.int k) v H N :=
  ⟨p, xs, k, j, rfl, rfl, e, h, q _ (Kp.put (by simp)) upd_same⟩
theorem r_kAndV1 {tb : TE} {b : Bool} (h : b = true) (q : tb σ H Q) : kAndV tb σ Q (.bl b) H := by
  subst h
  exact ⟨true, rfl, q⟩
theorem r_kAndV0 {tb : TE} {b : Bool} (h : b = false) (q : Q (.bl false) H) : kAndV tb σ Q (.bl b) H := by
  subst h
  exact ⟨false, rfl, q⟩
def kM1 (r : V → List V → Hp → VK → Prop) (te : TE) (σ : L2.St) (Q : VK) : VK := fun x H1 => (∃ a, x = .str a) ∧ te σ H1 fun y H2 => r x [y] H2 Q
theorem r_m1 (q : to σ H (kM1 r te σ Q)) : tM1 r to te σ H Q := q
theorem r_kM1 (q : te σ H fun y H2 => r (.str z) [y] H2 Q) : kM1 r te σ Q (.str z) H := ⟨⟨z, rfl⟩, q⟩
def rJoinS (K : PySem.W.Frag) : V → List V → Hp → VK → Prop := fun x xs H Q => ∃ a p, ∃ ys : List Str, x = .str a ∧ xs = [.ref p] ∧ (SqL K H p (ys.map V.str) ∨ SqT K H p (ys.map V.str)) ∧ (ys.map (·.length)).sum + ys.length * a.length ≤ 16777216 ∧ Q (.str (Txt.join a ys)) H
theorem r_joinL {ys : List Str} (h : SqL K H p (ys.map V.str)) (hz : (ys.map (·.length)).sum + ys.length * z.length ≤ 16777216) (q : Q (.str (Txt.join z ys)) H) : rJoinS K (.str z) [.ref p] H Q := ⟨z, p, ys, rfl, rfl, .inl h, hz, q⟩
theorem sum_le {ys : List Str} {m : Nat} (h : ∀ y ∈ ys, y.length ≤ m) : (ys.map (·.length)).sum ≤ ys.length * m := by
  induction ys with
  | nil => exact Nat.zero_le _
  | cons y ys ih =>
    have h1 := h y List.mem_cons_self
    have h2 := ih fun z hz => h z (List.mem_cons_of_mem _ hz)
    rw [List.map_cons, List.sum_cons, List.length_cons, Nat.succ_mul]
    omega
theorem str_length (z : Str) : z.length = z.cps.toList.length := (Array.length_toList).symm
theorem str_append (a b : Str) : (a ++ b).cps = a.cps ++ b.cps := rfl
theorem str_append_length (a b : Str) : (a ++ b).length = a.length + b.length := Array.size_append
end
end Rd

set_option maxHeartbeats 4000000
/-! StatM: C.m(e, ..), m a staticmethod of the class at C. -/
namespace Rd
open PySem PySem.Spec L2 PyProof.Rows
/-- C.m is a staticmethod: its record at p, its def at g -/
structure SMet (K : PySem.W.Frag) (C : Addr) (mc : Value) (m : Str) (p g : Addr) : Prop where
  at_ : PySem.W.findCls K (.ref C) mc m = some (.get (.builtin "staticmethod.__get__") (.ref p) .none (.ref C))
  rc : ∃ rest, PySem.W.recIn K p "staticmethod" = some (.ref g :: rest)
  kp : PySem.W.keepIn K (.ref g) = true
def kSMeth (C : Addr) (sp : Sp) (E : XK) (t : TA) (σ : L2.St) (Q : VK) : VK := fun x H1 => x = .ref C ∧ t σ H1 fun vs H2 => sp vs H2 Q E
def tSMeth (C : Addr) (sp : Sp) (E : L2.St → XK) (ta : TE) (t : TA) : TE := fun σ H Q => ta σ H (kSMeth C sp (E σ) t σ Q)
def UseSM (P : Program) (w : World) (K : PySem.W.Frag) (mg : Str → Option Value) (base : Heap) (n : Nat) (C : Addr) (m : Str) (sp : Sp) : Prop := ∃ mc p g, FnR P w K mg base (L2.CX P w) n g sp ∧ ClX.CRead K C mc ∧ SMet K C mc m p g
section
variable {X : Cx} {k : Nat} {C p g : Addr} {mc : Value} {sp : Sp} {E : L2.St → XK} {o e : Expr} {es : List Expr} {m : Str} {pos apos : Pos} {ta : TE} {t : TA} {pl : Sem Bool}
theorem run_fnAt {CX : CXT} {f : Addr} {pins : List (Addr × Obj)} {σ : L2.St} {H : Hp} {s : Shared} {Q : VK} {E : XK} {us : List Value} {vs : List V} (F : FnR X.prog X.w X.K X.mg X.base CX k f sp) (hr : Room k X.A) (hx : PassesAt CX X σ E) (I : Inv X pins σ H s)
    (r : Vals vs us) (h : sp vs H Q E) : wpAny (model X.prog X.w) X.A (call (.ref f) us) (EP X pins σ Q) X.xe s := by
  refine wpAny_call (codeAny_mono (F X.A X.stack s H us vs Q E hr I.env0 r h) fun z s' hz => ?_)
  match z, hz with
  | .error u, hz => exact hx pins _ _ u s' I hz
  | .ok (.ret u), hz =>
    obtain ⟨v, H', I3, rv, q3⟩ := I.after hz
    exact ⟨v, H', I3, rv, q3⟩
  | .ok .next, hz => exact hz.elim
  | .ok .brk, hz => exact hz.elim
  | .ok .cont, hz => exact hz.elim
theorem pe_smeth (he : PE X o ta) (r : ClX.CRead X.K C mc) (c : SMet X.K C mc m p g) (F : FnR X.prog X.w X.K X.mg X.base (L2.CX X.prog X.w) k g sp) (hr : Room k X.A) (hx : ∀ σ, PassesAt (L2.CX X.prog X.w) X σ (E σ)) (ha : PA X (e :: es) t)
    (hst : starEach (e :: es) X.env = (false, eval e X.env) :: starEach es X.env := by rfl) (hpl : (backTo pos (starEach es X.env)).any (·.1) = false := by rfl)
    (ht : eval (.Call (.Attribute o m apos) (e :: es) [] pos) X.env = (do
      let ov ← eval o X.env
      standAt apos.atName
      let (f, first) ← holding [ov] (getMethod ov m pl)
      callWith pos f first (backTo pos (starEach (e :: es) X.env)) (backToKw pos (keywordEach [] X.env))) := by rfl) :
    PE X (.Call (.Attribute o m apos) (e :: es) [] pos) (tSMeth C sp E ta t) := by
  refine ⟨fun pins s σ H Q I h => ?_⟩
  refine PySem.W.methodCall_KW (pl := pl) (thn (he.run pins s σ H _ I h) fun u s1 ⟨x, H1, I1, rx, ex, q⟩ => ?_) ht
  subst ex
  obtain rfl : u = Value.ref C := rx
  obtain ⟨rest, hp⟩ := c.rc
  refine PySem.W.method_cls I1.kIn r.ga (PySem.W.cls_bind I1.kIn r.rd c.at_ ?_)
  refine wpAny_call (PySem.W.sm_get (s := { s1 with toks := s1.toks + 1 }) I1.kIn hp (PySem.W.handed_on rfl ?_))
  have I2 := I1.tok (s1.toks + 1)
  refine PySem.W.callWith_K (h₀ := X.base) I2.ok.mod.kin c.kp (thn (ha.run pos pins _ σ H1 _ I2 q) fun us s3 ⟨vs, H2, I3, rv, q2⟩ => ⟨I3.kIn, ?_⟩) hst hpl
  exact run_fnAt F hr (hx σ) I3 rv q2
end
section
variable {C : Addr} {sp : Sp} {E : L2.St → XK} {Ex : XK} {ta : TE} {t : TA} {σ : L2.St} {H : Hp} {Q : VK}
theorem r_smeth (q : ta σ H (kSMeth C sp (E σ) t σ Q)) : tSMeth C sp E ta t σ H Q := q
theorem r_kSMeth (q : t σ H fun vs H2 => sp vs H2 Q Ex) : kSMeth C sp Ex t σ Q (.ref C) H := ⟨rfl, q⟩
end
end Rd

set_option maxHeartbeats 4000000
/-! ExcB: own exception classes over ValueError, LookupError, RuntimeError, as values: made by position and by name, their fields, isinstance. -/
namespace Rd
open PySem PySem.Spec L2 NdefX PyProof.Rows
/-! ### the bases -/
structure ExcBase (B newId initId : String) (t : List Value) : Prop where
  facts : ExcBaseFacts B newId initId t
  kx : PySem.W.KxsFacts B initId
  pass : ∀ self, refuseLoop self "__setattr__" t = pure ()
  obj : t.contains (.type "object") = true
  ne : t.isEmpty = false
theorem base_VE : ExcBase "ValueError" "ValueError.__new__" "ValueError.__init__" [.type "ValueError", .type "Exception", .type "BaseException", .type "object"] := ⟨F.excBase_ValueError, PySem.W.kxs_ValueError, fun s => F.store_ValueError.passes s, by decide +kernel, rfl⟩
theorem base_LE : ExcBase "LookupError" "LookupError.__new__" "LookupError.__init__" [.type "LookupError", .type "Exception", .type "BaseException", .type "object"] := ⟨F.excBase_LookupError, PySem.W.kxs_LookupError, fun s => F.store_LookupError.passes s, by decide +kernel, rfl⟩
theorem base_RE : ExcBase "RuntimeError" "RuntimeError.__new__" "RuntimeError.__init__" [.type "RuntimeError", .type "Exception", .type "BaseException", .type "object"] := ⟨F.excBase_RuntimeError, PySem.W.kxs_RuntimeError, fun s => F.store_RuntimeError.passes s, by decide +kernel, rfl⟩
/-- own classes, then the base's mro -/
def refsT (t : List Value) : List Value → Bool
  | .ref _ :: r => refsT t r
  | l => l == t
theorem refsT_cases (t : List Value) : ∀ l : List Value, refsT t l = true → (∃ c r, l = .ref c :: r ∧ refsT t r = true) ∨ l = t
  | [], e => .inr (beq_iff_eq.mp e)
  | .ref c :: r, e => .inl ⟨c, r, rfl, e⟩
  | .none :: _, e => .inr (beq_iff_eq.mp e)
  | .ellipsis :: _, e => .inr (beq_iff_eq.mp e)
  | .notImplemented :: _, e => .inr (beq_iff_eq.mp e)
  | .bool _ :: _, e => .inr (beq_iff_eq.mp e)
  | .int _ _ :: _, e => .inr (beq_iff_eq.mp e)
  | .float _ _ :: _, e => .inr (beq_iff_eq.mp e)
  | .str _ _ :: _, e => .inr (beq_iff_eq.mp e)
  | .bytes _ _ :: _, e => .inr (beq_iff_eq.mp e)
  | .type _ :: _, e => .inr (beq_iff_eq.mp e)
  | .builtin _ :: _, e => .inr (beq_iff_eq.mp e)
section
variable {B newId initId : String} {t : List Value} (Z : ExcBase B newId initId t)
include Z
theorem refsT_pass (self : Value) : ∀ l : List Value, refsT t l = true → refuseLoop self "__setattr__" l = pure () := by
  intro l
  induction l with
  | nil =>
    intro e
    have e' : ([] : List Value) = t := beq_iff_eq.mp e
    have := Z.ne
    rw [← e'] at this
    cases this
  | cons a r ih =>
    intro e
    rcases refsT_cases t (a :: r) e with ⟨c, r', q, h⟩ | q
    · obtain ⟨rfl, rfl⟩ := List.cons.inj q
      rw [refuseLoop_ref]
      exact ih h
    · rw [q]
      exact Z.pass self
theorem refsT_contains (X : String) : ∀ l : List Value, refsT t l = true → l.contains (.type X) = t.contains (.type X) := by
  intro l
  induction l with
  | nil =>
    intro e
    have e' : ([] : List Value) = t := beq_iff_eq.mp e
    rw [e']
  | cons a r ih =>
    intro e
    rcases refsT_cases t (a :: r) e with ⟨c, r', q, h⟩ | q
    · obtain ⟨rfl, rfl⟩ := List.cons.inj q
      rw [List.contains_cons, ih h]
      rfl
    · rw [q]
theorem refsT_ne {l : List Value} (e : refsT t l = true) : l.isEmpty = false := by
  cases l with
  | nil =>
    have e' : ([] : List Value) = t := beq_iff_eq.mp e
    have := Z.ne
    rw [← e'] at this
    cases this
  | cons _ _ => rfl
end
end Rd
namespace PySem
namespace HandSPX
open Builtin Builtin.ObjectAttr Rd
section
variable {prog : Program} {w : World} {A : Around} {E : Value → Shared → Prop} {R : Result → Shared → Prop} {hp : Heap} {g : Array GenState} {d : Drawn} {t : Nat} {os : OsState}
theorem exc_osaT {B newId initId : String} {tl : List Value} (Z : ExcBase B newId initId tl) {K : W.Frag} {name : Str} {tk : Tok} {v : Value} {x C : Addr} {fv : Array Value} {cd : ClassData}
    (X : K.In hp) (hx : hp.get? x = some { cls := .ref C, data := .fields fv }) (hcd : W.clsIn K C = some cd) (hm : refsT tl cd.mro = true) (hh : cd.hasDict = true) (ha : W.findIn K (.ref C) name = some none)
    (hq : ∀ h' tk' dx, (∀ b o, b ≠ x → hp.get? b = some o → h'.get? b = some o) → hp.objs.size ≤ dx → dx ≠ x → h'.get? x = some { cls := .ref C, dict := some dx, data := .fields fv } →
      h'.Ns1 dx (fun y => if y = name then some v else none) → R (.ok (.ret .none)) ⟨h', g, d, tk', os⟩) :
    codeAny (model prog w) A (.call (.builtin "object.__setattr__") ⟨[.ref x, .str name tk, v], []⟩) R ⟨hp, g, d, t, os⟩ := by
  have I : W.InstAt hp x { cls := .ref C, data := .fields fv } C none := ⟨hx, rfl, rfl, trivial⟩
  have SF := F.store_object
  have ne := refsT_ne Z hm
  have hob : cd.mro.contains (.type "object") = true := (refsT_contains Z "object" _ hm).trans Z.obj
  have hxs : x ≠ hp.objs.size := Nat.ne_of_lt (Heap.lt_size hx)
  have sub : W.Looks (model prog w) hp (isInstance (.ref x) (.type "object")) true := I.type.andThen (W.looks_mroIn X (by unfold W.mroIn; rw [hcd, Option.bind_some, if_neg (by rw [ne]; decide), hob]))
  refine codeAny_call_builtin SF.slot.plain SF.entry (@W.check_slot (model prog w) _ _ ⟨hp, g, d, t, os⟩ "object.__setattr__" "object" "__setattr__" (.ref x) [.str name tk, v] [] _ SF.kind SF.split sub (SF.args (.ref x) (.str name tk) v) ?_)
  have hmr : W.Looks (model prog w) hp (mroOf (.ref C)) cd.mro := (W.looks_clsIn X hcd).andThen .now
  have L3 : W.Looks (model prog w) hp (storeTaker? none) none := .now
  have hcls : W.Looks (model prog w) hp (classData C) cd := W.looks_clsIn X hcd
  rw [W.osa_eq, refuse_eq]
  refine wpAny_bind (wpAny_bind (I.type.at (wpAny_bind (hmr.at ?_))))
  rw [refsT_pass Z _ _ hm]
  refine wpAny_pure (wpAny_bind (I.type.at (wpAny_bind ((W.looks_findIn X ha).at (wpAny_bind (L3.at ?_))))))
  show wpAny _ _ (storeInOwnDict (.ref x) (.ref C) (.str name tk) name v false) _ _ _
  obtain ⟨nm, bs, mro, ns, qn, hd, sn, sb, ab, col, del⟩ := cd
  dsimp only at hh
  subst hh
  unfold storeInOwnDict ownDictForStores
  repeat (first | with_reducible refine store_in_new ?_ ?_ | with_reducible refine wpAny_loadPart_at hx ?_ | with_reducible refine hcls.at ?_ | wp_step)
  · exact ⟨_, #[], _, (Heap.get?_update_ne _ _ _ _ hxs.symm).trans (Heap.get?_push_at rfl rfl), rfl, fun e he => absurd he (by simp), fun _ => rfl⟩
  · intro h' tk' hn' hs
    have hx₁ : (hp.push { cls := .type "dict", data := .dict #[] }).get? x = some { cls := .ref C, data := .fields fv } := Heap.get?_push_of_some _ hx
    refine hq h' tk' hp.objs.size (fun b o hb ho => ?_) (Nat.le_refl _) hxs.symm ?_ hn'
    · exact (hs.2 b (Nat.ne_of_lt (Heap.lt_size ho))).trans ((Heap.get?_update_ne _ _ _ _ hb).trans (Heap.get?_push_of_some _ ho))
    · exact (hs.2 x hxs).trans (Heap.get?_update_self _ hx₁ rfl)
end
end HandSPX
namespace OEX
open PySem.W PySem.Calls PyProof.Rows PySem.HandSPX
open Builtin Builtin.ObjectAttr Rd
section
variable {prog : Program} {w : World} {A : Around} {E : Value → Shared → Prop} {R : Result → Shared → Prop} {hp : Heap} {g : Array GenState} {d : Drawn} {t : Nat} {os : OsState}
theorem osa_oldT {B newId initId : String} {tl : List Value} (Z : ExcBase B newId initId tl) {K : W.Frag} {name : Str} {tk : Tok} {v : Value} {x C dx : Addr} {fv : Array Value} {cd : ClassData} {m0 : Str → Option Value} {nl : List Str}
    (X : K.In hp) (hx : hp.get? x = some { cls := .ref C, dict := some dx, data := .fields fv }) (hns : hp.Ns1 dx m0) (hw : Within m0 nl) (hz : nl.length ≤ 1000) (hcd : W.clsIn K C = some cd) (hm : refsT tl cd.mro = true) (hh : cd.hasDict = true)
    (ha : W.findIn K (.ref C) name = some none)
    (hq : ∀ h' tk', (∀ b o, b ≠ dx → hp.get? b = some o → h'.get? b = some o) → h'.Ns1 dx (fun y => if y = name then some v else m0 y) → R (.ok (.ret .none)) ⟨h', g, d, tk', os⟩) :
    codeAny (model prog w) A (.call (.builtin "object.__setattr__") ⟨[.ref x, .str name tk, v], []⟩) R ⟨hp, g, d, t, os⟩ := by
  obtain ⟨oD, esD, epD, hoD, hdD, _⟩ := hns.count hw
  have I : W.InstAt hp x { cls := .ref C, dict := some dx, data := .fields fv } C (some oD) := ⟨hx, rfl, rfl, hoD⟩
  have SF := F.store_object
  have ne := refsT_ne Z hm
  have hob : cd.mro.contains (.type "object") = true := (refsT_contains Z "object" _ hm).trans Z.obj
  have sub : W.Looks (model prog w) hp (isInstance (.ref x) (.type "object")) true := I.type.andThen (W.looks_mroIn X (by unfold W.mroIn; rw [hcd, Option.bind_some, if_neg (by rw [ne]; decide), hob]))
  refine codeAny_call_builtin SF.slot.plain SF.entry (@W.check_slot (model prog w) _ _ ⟨hp, g, d, t, os⟩ "object.__setattr__" "object" "__setattr__" (.ref x) [.str name tk, v] [] _ SF.kind SF.split sub (SF.args (.ref x) (.str name tk) v) ?_)
  have hmr : W.Looks (model prog w) hp (mroOf (.ref C)) cd.mro := (W.looks_clsIn X hcd).andThen .now
  have L3 : W.Looks (model prog w) hp (storeTaker? none) none := .now
  have hcls : W.Looks (model prog w) hp (classData C) cd := W.looks_clsIn X hcd
  rw [W.osa_eq, refuse_eq]
  refine wpAny_bind (wpAny_bind (I.type.at (wpAny_bind (hmr.at ?_))))
  rw [refsT_pass Z _ _ hm]
  refine wpAny_pure (wpAny_bind (I.type.at (wpAny_bind ((W.looks_findIn X ha).at (wpAny_bind (L3.at ?_))))))
  show wpAny _ _ (storeInOwnDict (.ref x) (.ref C) (.str name tk) name v false) _ _ _
  obtain ⟨nm, bs, mro, ns, qn, hd, sn, sb, ab, col, del⟩ := cd
  dsimp only at hh
  subst hh
  unfold storeInOwnDict ownDictForStores
  repeat (first | with_reducible refine store_in_old hns hw hz ?_ | with_reducible refine wpAny_loadPart_at hx ?_ | with_reducible refine hcls.at ?_ | wp_step)
  intro h' tk' hn' hs
  exact hq h' tk' (fun b o hb ho => (hs.2 b hb).trans ho) hn'
end
end OEX
end PySem

set_option maxHeartbeats 4000000
/-! ExcK: an own exception class called with keywords. -/
namespace PySem
namespace HandSPX
open Builtin Builtin.ObjectAttr
section
variable {M : Model} {A : Around} {E : Value → Shared → Prop} {h : Heap} {g : Array GenState} {d : Drawn} {t : Nat} {os : OsState}
variable {nm q : Str} {C N : Addr} {bs bm bmB : List Value} {hdct : Bool} {sn : List Str} {sub : List Value} {ab : Bool} {col : Option Bool} {dd : Option Addr} {k0 k1 k2 k3 k5 : Option Value} {B newId initId : String}
theorem check_new_kw (F : ExcBaseFacts B newId initId bmB) (hT : ∀ X : String, bm.contains (.type X) = bmB.contains (.type X)) {rest : List Value} {kw : List (Str × Value)} {Q : Unit → Shared → Prop}
    (hC : h.get? C = some (excClassObj nm q C N bs bm hdct sn sub ab col dd k0 k1 k2 k3 k5 newId)) (hq : Q () ⟨h, g, d, t, os⟩) : wpAny M A (checkBuiltinCall newId ⟨.ref C :: rest, kw⟩) Q E ⟨h, g, d, t, os⟩ := by
  have hcont : (Value.ref C :: bm).contains (.type B) = true := by rw [List.contains_cons, hT, F.hasB, Bool.or_true]
  have hstar := F.noStar
  simp only [checkBuiltinCall, F.newKind, F.newSplit, F.newRow]
  repeat (first | refine wpAny_loadPart_at hC ?_ | (refine wpAny_isSubtype_exc hC ?_; rw [hcont]) | refine wpAny_staticBase_exc hC ?_ | refine wpAny_madeBy_exc hC ?_ | simp only [bne_self_eq_false, Bool.false_eq_true, if_false] | wp_step)
  exact hq
end
section
variable {prog : Program} {w : World} {A : Around} {E : Value → Shared → Prop} {R : Result → Shared → Prop} {h : Heap} {g : Array GenState} {d : Drawn} {t : Nat} {os : OsState}
variable {nm q : Str} {C N : Addr} {bs bm bmB : List Value} {hdct : Bool} {sn : List Str} {sub : List Value} {ab : Bool} {col : Option Bool} {dd : Option Addr} {k0 k1 k2 k3 k5 : Option Value} {B newId initId : String}
theorem new_kw (F : ExcBaseFacts B newId initId bmB) (hT : ∀ X : String, bm.contains (.type X) = bmB.contains (.type X)) {rest : List Value} {kw : List (Str × Value)}
    (hC : h.get? C = some (excClassObj nm q C N bs bm hdct sn sub ab col dd k0 k1 k2 k3 k5 newId))
    (hq : R (.ok (.ret (.ref (h.objs.size + 1)))) ⟨(h.push { cls := .type "tuple", data := .seq rest.toArray }).push
      { cls := .ref C, data := .fields #[.ref h.objs.size, .none, .none, .none, .bool false, .none] }, g, d, t, os⟩) (hrest : rest.length ≤ sizeLine) :
    codeAny (model prog w) A (.builtin newId ⟨.ref C :: rest, kw⟩) R ⟨h, g, d, t, os⟩ := by
  have hends := F.ends
  have hcB : (Value.ref C :: bm).contains (.type B) = true := by rw [List.contains_cons, hT, F.hasB, Bool.or_true]
  have hcA : (Value.ref C :: bm).contains (.type "AttributeError") = false := by rw [List.contains_cons, hT, F.noAttr]; rfl
  have hcN : (Value.ref C :: bm).contains (.type "NameError") = false := by rw [List.contains_cons, hT, F.noName]; rfl
  refine codeAny_builtinAt F.entry ?_
  unfold Builtin.«BaseException.__new__»
  refine wpAt_bind ?_
  show wpAt _ _ _ (stack >>= _) _ _ _
  refine wpAt_bind (wpAt_stack fun p below => wpAt_of_wpAny ?_)
  wp_walk
  refine wpAt_of_wpAny ?_
  rw [F.owner]
  repeat (first | with_reducible refine wpAny_madeHere_exc F.canon hC ?_ | with_reducible refine wpAny_loadPart_at hC ?_ | (with_reducible refine wpAny_isSubtype_exc hC ?_; first | rw [hcB] | rw [hcA] | rw [hcN]) | wp_step)
  show R _ _
  rw [Heap.size_push]
  exact hq
theorem type_call_kw (F : ExcBaseFacts B newId initId bmB) (hT : ∀ X : String, bm.contains (.type X) = bmB.contains (.type X)) {rest : List Value} {kw : List (Str × Value)} {fI : Addr} {Q : Fin → Shared → Prop}
    (hC : h.get? C = some (excClassObj nm q C N bs bm hdct sn sub ab col dd k0 k1 k2 k3 k5 newId))
    (hi : W.Looks (model prog w) h (typeLookup (.ref C) "__init__") (some (.ref fI))) (hb : ∀ self, W.Looks (model prog w) h (bindSpecial (.ref fI) self) (.ref fI, [self])) (hrest : rest.length ≤ sizeLine)
    (hq : codeAny (model prog w) A (.call (.ref fI) ⟨.ref (h.objs.size + 1) :: rest, kw⟩)
      (fun r s' => match r with | .ok (.ret v) => v = .none ∧ Q (.done (.ret (.ref (h.objs.size + 1)))) s' | .ok _ => False | .error e => E e s')
      ⟨(h.push (W.kdv_tup rest)).push (excO C h.objs.size), g, d, t, os⟩) :
    wpAny (model prog w) A (Builtin.«type.__call__» ⟨.ref C :: rest, kw⟩) Q E ⟨h, g, d, t, os⟩ := by
  repeat (first | with_reducible refine wpAny_loadPart_at hC ?_ | with_reducible refine wpAny_madeBy_exc hC ?_ | wp_step)
  refine codeAny_call_builtin_code (Code.quiet_builtin _ F.quiet) (check_new_kw F hT hC ?_)
  refine new_kw F hT hC ?_ hrest
  show wpAny _ _ _ _ _ _
  have k : ∀ b o, h.get? b = some o → ((h.push (W.kdv_tup rest)).push (excO C h.objs.size)).get? b = some o := fun b o e => Heap.get?_push_of_some _ (Heap.get?_push_of_some _ e)
  have hC₁ := k _ _ hC
  have hget : ((h.push (W.kdv_tup rest)).push (excO C h.objs.size)).get? (h.objs.size + 1) = some (excO C h.objs.size) := by heap_get
  have hcC : (Value.ref C :: bm).contains (.ref C) = true := by simp
  have i1 := hi.keeps k
  have b1 := (hb (.ref (h.objs.size + 1))).keeps k
  unfold isInstance
  repeat (first | with_reducible refine wpAny_loadPart_at hget ?_ | (with_reducible refine wpAny_isSubtype_exc hC₁ ?_; rw [hcC]) | wp_step)
  show wpAny _ _ (typeLookup (.ref C) _) _ _ _
  refine i1.at ?_
  refine wpAny_holding (wpAny_bind (b1.at ?_))
  refine wpAny_bind (wpAny_call (codeAny_mono hq fun r s' z => ?_))
  rcases r with e | (v | _ | _ | _) <;> first | exact z | exact z.elim | skip
  obtain ⟨rfl, z⟩ := z
  first
    | exact wpAny_pure (wpAny_pure z)
    | (wp_walk; exact z)
theorem call_kw (F : ExcBaseFacts B newId initId bmB) (hT : ∀ X : String, bm.contains (.type X) = bmB.contains (.type X)) {rest : List Value} {kw : List (Str × Value)} {fI : Addr}
    (hC : h.get? C = some (excClassObj nm q C N bs bm hdct sn sub ab col dd k0 k1 k2 k3 k5 newId))
    (hi : W.Looks (model prog w) h (typeLookup (.ref C) "__init__") (some (.ref fI))) (hb : ∀ self, W.Looks (model prog w) h (bindSpecial (.ref fI) self) (.ref fI, [self])) (hrest : rest.length ≤ sizeLine)
    (hq : codeAny (model prog w) (A.under (.builtin "type.__call__" ⟨.ref C :: rest, kw⟩)) (.call (.ref fI) ⟨.ref (h.objs.size + 1) :: rest, kw⟩) (W.InitBack (h.objs.size + 1) R)
      ⟨(h.push (W.kdv_tup rest)).push (excO C h.objs.size), g, d, t, os⟩) :
    codeAny (model prog w) A (.call (.ref C) ⟨rest, kw⟩) R ⟨h, g, d, t, os⟩ := by
  have f1 := tc_lookup
  have f2 := tc_bind (.ref C)
  have f3 := tc_sub
  have hTy : (⟨h, g, d, t, os⟩ : Shared).TypeIs (.ref C) "type" := ⟨_, hC, rfl⟩
  have typ : W.Looks (model prog w) h (isInstance (.ref C) (.type "type")) true := by
    unfold isInstance
    exact ((W.Looks.ld hC).andThen .now).andThen (W.Looks.of_pure f3)
  refine codeAny_of_tree ?_
  show wpAny _ _ (callAny (.ref C) _) _ _ _
  repeat (any_goals (first | assumption | with_reducible refine wpAny_loadPart_at hC ?_ | wp_step))
  refine ⟨rfl, ?_⟩
  refine codeAny_call_builtin_at (Code.quiet_builtin _ (by decide +kernel)) entry_typeCall (W.check_slot tc_kind tc_split typ (W.tc_args _ _ _) (type_call_kw F hT hC hi hb hrest ?_))
  refine codeAny_mono hq fun r s' z => ?_
  rcases r with e | (v | _ | _ | _) <;> exact z
end
end HandSPX
end PySem

set_option maxHeartbeats 4000000
/-! ExcV: exceptions of own classes (over ValueError, LookupError, RuntimeError) as values. -/
namespace Rd
open PySem PySem.Spec L2 NdefX PyProof.Rows
structure OexB (K : PySem.W.Frag) (C : Addr) (newId : String) (t : List Value) : Prop where
  cls : ∃ nm q N bs bm sn sub ab col dd k0 k1 k2 k3 k5, K.lookup C = some (excClassObj nm q C N bs bm true sn sub ab col dd k0 k1 k2 k3 k5 newId) ∧ refsT t bm = true
  sa : PySem.W.findIn K (.ref C) "__setattr__" = some (some (.builtin "object.__setattr__"))
  exC : PySem.W.subIn K (.ref C) (.type "BaseException") = some true
  tyC : PySem.W.typeIn K (.ref C) = some (.type "type")
  kC : PySem.W.keepIn K (.ref C) = true
section
variable {X : Cx} {pins : List (Addr × Obj)} {σ : L2.St} {H : Hp} {s : Shared} {a C dx : Addr} {f : Str} {y : V} {u : Value} {fs : List (Str × V)} {Q : Unit → Shared → Prop} {E : Value → Shared → Prop} {A : Around} {B newId initId : String} {tl : List Value}
theorem ost_newB (Z : ExcBase B newId initId tl) (T : OexB X.K C newId tl) (I : Inv X pins σ H s) (e : H a = some (exo a C none)) (hno : PySem.W.findIn X.K (.ref C) f = some none) (ry : RelV y u)
    (h : ∀ dx s', H dx = none → dx ≠ a → Inv X pins σ (upd (upd H dx (exd dx [(f, y)])) a (exo a C (some dx))) s' → Q () s') : wpAny (model X.prog X.w) A (setAttr (.ref a) f u) Q E s := by
  obtain ⟨nm, q, N, bs, bm, sn, sub, ab, col, dd, k0, k1, k2, k3, k5, hC, hbm⟩ := T.cls
  have hcl : PySem.W.clsIn X.K C = some { name := nm, bases := bs, mro := .ref C :: bm, ns := N, qualname := q, hasDict := true, slotNames := sn, subclasses := sub, abstract := ab, collection := col, hasDel := false } := by unfold PySem.W.clsIn; rw [hC] <;> rfl
  obtain ⟨t1, ho⟩ := exo_at I.hok e
  obtain ⟨hp, g, d, t, os⟩ := s
  refine PySem.W.set_plain I.kIn (ox := { cls := .ref C, dict := none, data := .fields #[.ref t1, .none, .none, .none, .bool false, .none] }) (od := none) ⟨ho, rfl, rfl, trivial⟩ T.sa ?_
  refine PySem.HandSPX.exc_osaT Z I.kIn ho hcl (show refsT tl (.ref C :: bm) = true from hbm) rfl hno (fun h' tk' dx k dn dne hx hn => ?_)
  have hnd : H dx = none := I.hok.fresh dn
  have nd : ∀ {b : Addr} {o : Obj}, hp.get? b = some o → b ≠ dx := fun {b o} q => Nat.ne_of_lt (Nat.lt_of_lt_of_le (Heap.lt_size q) dn)
  have na : ∀ {b : Addr}, H b = none → b ≠ a := fun {b} n z => by
    rw [z, e] at n
    cases n
  have Un1 : Un X.fs [] H (upd (upd H dx (exd dx [(f, y)])) a (exo a C (some dx))) hp h' := {
    keep := fun b o q n _ _ => k b o (na n) q
    slot := fun b o q n _ _ => ⟨o.slots, k b o (na n) q⟩
    free := fun b o q n _ => by rw [upd_ne (na n), upd_ne (nd q)]; exact n
    there := fun b o q _ => by
      by_cases hb : b = a
      · exact ⟨_, by rw [hb]; exact hx⟩
      · exact ⟨o, k b o hb q⟩
    tups := fun b xs q => by rw [upd_ne (at_ne e q exo_tup), upd_ne (ne_of_none q hnd)]; exact q
    frzs := fun b o v q => by rw [upd_ne (at_ne e q exo_frz), upd_ne (ne_of_none q hnd)]; exact q
    tbls := fun b ps q => ⟨#[], by rw [upd_ne (at_ne e q exo_tbl), upd_ne (ne_of_none q hnd), q]; simp⟩ }
  refine h dx _ hnd dne (I.un (t' := tk') Un1 fun b o q => ?_)
  by_cases hb : b = a
  · subst hb
    rw [upd_same] at q
    cases q
    exact exo_ok hx
  · rw [upd_ne hb] at q
    by_cases hd : b = dx
    · subst hd
      rw [upd_same] at q
      cases q
      exact exd_ok hn (relO_put (fs := []) ry fun g => True.intro)
    · rw [upd_ne hd] at q
      exact (I.hok b o q).stay (fun c v hc z => k c v (by
          rcases hc with hc | hc
          · rw [hc]
            exact hb
          · exact at_ne e hc exo_own) z)
        (fun c hc => by rw [upd_ne (at_ne e hc exo_own), upd_ne (ne_of_none hc hnd)]; exact hc) (fun c xs hc => by rw [upd_ne (at_ne e hc exo_tup), upd_ne (ne_of_none hc hnd)]; exact hc)
theorem ost_oldB (Z : ExcBase B newId initId tl) (T : OexB X.K C newId tl) (I : Inv X pins σ H s) (e : H a = some (exo a C (some dx))) (ed : H dx = some (exd dx fs)) (hl : fs.length ≤ 900) (hno : PySem.W.findIn X.K (.ref C) f = some none) (ry : RelV y u)
    (h : ∀ s', Inv X pins σ (upd H dx (exd dx ((f, y) :: fs))) s' → Q () s') : wpAny (model X.prog X.w) A (setAttr (.ref a) f u) Q E s := by
  obtain ⟨nm, q, N, bs, bm, sn, sub, ab, col, dd, k0, k1, k2, k3, k5, hC, hbm⟩ := T.cls
  have hcl : PySem.W.clsIn X.K C = some { name := nm, bases := bs, mro := .ref C :: bm, ns := N, qualname := q, hasDict := true, slotNames := sn, subclasses := sub, abstract := ab, collection := col, hasDel := false } := by unfold PySem.W.clsIn; rw [hC] <;> rfl
  obtain ⟨t1, ho⟩ := exo_at I.hok e
  obtain ⟨mA, hns, rel⟩ := exd_at I.hok ed
  have hw := within_of rel
  obtain ⟨hp, g, d, t, os⟩ := s
  obtain ⟨oD, _, _, hoD, _, _⟩ := hns.count hw
  refine PySem.W.set_plain I.kIn (ox := { cls := .ref C, dict := some dx, data := .fields #[.ref t1, .none, .none, .none, .bool false, .none] }) (od := some oD) ⟨ho, rfl, rfl, hoD⟩ T.sa ?_
  refine PySem.OEX.osa_oldT Z I.kIn ho hns hw (by rw [List.length_map]; omega) hcl (show refsT tl (.ref C :: bm) = true from hbm) rfl hno (fun h' tk' k hn => ?_)
  have hd : ∃ o, h'.get? dx = some o := by
    obtain ⟨o, _, _, e', _⟩ := hn
    exact ⟨o, e'⟩
  exact h _ (I.write (t' := tk') (x := dx) (e := dx) (o := exd dx ((f, y) :: fs)) (by rw [ed]; exact True.intro) (.inl rfl) k hd (exd_ok hn (relO_put ry rel)))
end
/-- self.f = e -/
def tOstB (newId : String) (tl : List Value) (K : PySem.W.Frag) (f : Str) (to te : TE) : TS := fun D σ H => te σ H fun y H1 => to σ H1 fun x H2 => ∃ a C : Addr, x = .ref a ∧ OexB K C newId tl ∧ PySem.W.findIn K (.ref C) f = some none ∧
  ((H2 a = some (exo a C none) ∧ ∀ dx, H2 dx = none → dx ≠ a → D.nx σ (upd (upd H2 dx (exd dx [(f, y)])) a (exo a C (some dx)))) ∨
    ∃ (dx : Addr) (fs : List (Str × V)), H2 a = some (exo a C (some dx)) ∧ H2 dx = some (exd dx fs) ∧ fs.length ≤ 900 ∧ D.nx σ (upd H2 dx (exd dx ((f, y) :: fs))))
section
variable {X : Cx} {o e : Expr} {to te : TE} {f : Str} {p' pos : Pos} {B newId initId : String} {tl : List Value}
theorem ps_ostB (Z : ExcBase B newId initId tl) (ho : PE X o to) (he : PE X e te) (hs : swapsWith e (some (.Attribute o f p')) pos.line X.env = pure false := by rfl) : PS X (.Assign [.Attribute o f p'] e pos) (tOstB newId tl X.K f to te) := by
  refine ⟨fun pins s σ H D I h => ?_⟩
  refine plainObj_wpAny_Assign_Attribute (thn (he.run pins s σ H _ I h) fun v s1 ⟨y, H1, I1, r1, q1⟩ => thn (ho.run pins s1 σ H1 _ I1 q1) fun u s2 ⟨x, H2, I2, r2, a, C, ex, T, hno, q⟩ => ?_) hs
  subst ex
  obtain rfl : u = Value.ref a := r2
  rcases q with ⟨ea, q⟩ | ⟨dx, fs, ea, ed, hl, q⟩
  · exact ost_newB Z T I2 ea hno r1 fun dx s' n ne J => ⟨σ, _, J, q dx n ne⟩
  · exact ost_oldB Z T I2 ea ed hl hno r1 fun s' J => ⟨σ, _, J, q⟩
end
theorem r_ostB {newId : String} {tl : List Value} {K : PySem.W.Frag} {fld : Str} {i j : Nat} {nx bk ct : L2.St → Hp → Prop} {rt : VK} {σ : L2.St} {H : Hp} {a C : Addr} {v : V} (e : σ[i]? = some (some (.ref a))) (e' : σ[j]? = some (some v)) (T : OexB K C newId tl) (n : PySem.W.findIn K (.ref C) fld = some none) (ha : H a = some (exo a C none))
    (q : ∀ dx H', H dx = none → dx ≠ a → Kp [a] H H' → H' a = some (exo a C (some dx)) → H' dx = some (exd dx [(fld, v)]) → nx σ H') : tOstB newId tl K fld (tVar i) (tVar j) ⟨nx, rt, bk, ct⟩ σ H :=
  ⟨v, e', .ref a, e, a, C, rfl, T, n, .inl ⟨ha, fun dx nd ne => q dx _ nd ne (fun b o eb hb => by
    have hba : b ≠ a := fun z => hb (List.mem_singleton.mpr z)
    have hbd : b ≠ dx := fun z => by
      rw [z, nd] at eb
      cases eb
    rw [upd_ne hba, upd_ne hbd]
    exact eb) upd_same (by rw [upd_ne ne, upd_same])⟩⟩
theorem r_ostB2 {newId : String} {tl : List Value} {K : PySem.W.Frag} {fld : Str} {i j : Nat} {nx bk ct : L2.St → Hp → Prop} {rt : VK} {σ : L2.St} {H : Hp} {a C dx : Addr} {v : V} {fs : List (Str × V)} (e : σ[i]? = some (some (.ref a))) (e' : σ[j]? = some (some v)) (T : OexB K C newId tl) (n : PySem.W.findIn K (.ref C) fld = some none) (ha : H a = some (exo a C (some dx)))
    (hd : H dx = some (exd dx fs)) (hl : fs.length ≤ 900) (q : ∀ H', Kp [dx] H H' → H' dx = some (exd dx ((fld, v) :: fs)) → nx σ H') : tOstB newId tl K fld (tVar i) (tVar j) ⟨nx, rt, bk, ct⟩ σ H :=
  ⟨v, e', .ref a, e, a, C, rfl, T, n, .inr ⟨dx, fs, ha, hd, hl, q _ (Kp.put (by simp)) upd_same⟩⟩
/-! ### super().__init__(text) -/
structure SupCB (P : Program) (K : PySem.W.Frag) (mg : Str → Option Value) (C cda : Addr) (B newId initId : String) (tl : List Value) : Prop where
  oex : OexB K C newId tl
  up : PySem.W.ks_superIn K C C "__init__" = some (some (.builtin initId))
  sub : PySem.W.subIn K (.ref C) (.type B) = some true
  own : PySem.W.mroIn K C (.ref C) = some true
  opq : PySem.W.nsIn K cStatics "thirdparty.any" = some none
  zs : mg "super" = none
  file : ∃ ccl cdd vs ccs fl tf, K.lookup cda = some ⟨ccl, cdd, .fields vs, ccs⟩ ∧ vs[2]? = some (.str fl tf) ∧ (P.main.file == fl) = true
  top : (P.main.scope.names.lookup ("super" : Str)).isSome = false
theorem qs_supB {CX : CXT} {P : Program} {w : World} {K : PySem.W.Frag} {mg : Str → Option Value} {base : Heap} {f cc cda C : Addr} {name qual : Str} {params : Arguments} {body body' : List Stmt} {scope : Scope} {dV kV doc pm ct oc cl : Value} {an od cld : Option Addr}
    {osl csl : Array (Option Value)} {N : List Str} {A : Around} {outer : List Env} {s0 : Shared} {H0 : Hp} {E : XK} {ar : Arg} {p0 p1 p2 p3 p4 p5 : Pos} {m : Str} {j : Nat} {pl : Sem Bool} {rest : List Stmt} {t : TS} {B newId initId : String} {tl : List Value} (Zb : ExcBase B newId initId tl)
    (lk : K.lookup f = some ⟨oc, od, .func (PySem.W.ksFn name qual params body scope dV kV doc pm an (.ref cda) ct cc), osl⟩) (cell : K.lookup cc = some ⟨cl, cld, .cell (some (.ref C)), csl⟩) (Z : SupCB P K mg C cda B newId initId tl)
    (hks : scope.names.lookup ("super" : Str) = some .globalImplicit) (hkc : scope.names.lookup ("__class__" : Str) = some .free) (hp : (params.posonlyargs ++ params.args).head? = some ar) (hN : N[0]? = some ar.arg)
    (hka : scope.names.lookup ar.arg = some .local) (hk : scope.kind = .function)
    (hi : interactive (envF ⟨name, qual, params, body, scope, [("__class__", cc)], cda⟩ f s0.heap.objs.size) = false)
    (hs : swapsWith (.Call (.Attribute (.Call (.Name "super" p0) [] [] p1) "__init__" p2) [.Constant (.str m) j p3] [] p4) none p5.line (envF ⟨name, qual, params, body, scope, [("__class__", cc)], cda⟩ f s0.heap.objs.size) = pure false)
    (he : eval (.Call (.Attribute (.Call (.Name "super" p0) [] [] p1) "__init__" p2) [.Constant (.str m) j p3] [] p4) (envF ⟨name, qual, params, body, scope, [("__class__", cc)], cda⟩ f s0.heap.objs.size) = (do
      let ov ← attributeBase (.Call (.Name "super" p0) [] [] p1) "__init__" (envF ⟨name, qual, params, body, scope, [("__class__", cc)], cda⟩ f s0.heap.objs.size) (eval (.Call (.Name "super" p0) [] [] p1) (envF ⟨name, qual, params, body, scope, [("__class__", cc)], cda⟩ f s0.heap.objs.size))
      standAt p2.atName
      let (fx, first) ← holding [ov] (getMethod ov "__init__" pl)
      callWith p4 fx first (backTo p4 (starEach [.Constant (.str m) j p3] (envF ⟨name, qual, params, body, scope, [("__class__", cc)], cda⟩ f s0.heap.objs.size))) []))
    (hst : starEach [.Constant (.str m) j p3] (envF ⟨name, qual, params, body, scope, [("__class__", cc)], cda⟩ f s0.heap.objs.size) = [(false, eval (.Constant (.str m) j p3) (envF ⟨name, qual, params, body, scope, [("__class__", cc)], cda⟩ f s0.heap.objs.size))])
    (hr : QS (ncx CX P w K mg base N ⟨name, qual, params, body, scope, [("__class__", cc)], cda⟩ f A outer s0 H0 E) (.func body' (envF ⟨name, qual, params, body, scope, [("__class__", cc)], cda⟩ f s0.heap.objs.size)) rest t) :
    QS (ncx CX P w K mg base N ⟨name, qual, params, body, scope, [("__class__", cc)], cda⟩ f A outer s0 H0 E) (.func body' (envF ⟨name, qual, params, body, scope, [("__class__", cc)], cda⟩ f s0.heap.objs.size))
      (.Expr (.Call (.Attribute (.Call (.Name "super" p0) [] [] p1) "__init__" p2) [.Constant (.str m) j p3] [] p4) p5 :: rest) (tSupI C t) := by
  constructor
  intro pins s σ H D I ⟨a, hσ, ha, q⟩
  have KX := I.kIn
  obtain ⟨t1, ho⟩ := exo_at I.hok ha
  obtain ⟨ccl, cdd, vs, ccs, fl, tf, hcode, hvs, hfile⟩ := Z.file
  obtain ⟨nm, qq, N', bs, bm, sn, sub, ab, col, dd, k0, k1, k2, k3, k5, hC, hbm⟩ := Z.oex.cls
  refine ks_wpAt_execs_cons (ks_wpAt_Expr_any (ks_wpAt_MethodCall (pl := pl) ?_ he) hi hs)
  obtain ⟨hh, g, d, tk, os⟩ := s
  have hD1 := KX _ _ hC
  refine ks_wpAt_super_base hks hkc (by decide) rfl (KX _ _ lk) rfl hp rfl (KX _ _ hcode) rfl hvs hfile Z.top ?_
  obtain ⟨mb, hbn, hbv⟩ := I.ok.mod.blt
  have hbo : bootBuiltins "super" = some (.type "super") := by first | rfl | decide +kernel
  refine W.ks_loadName_global hk hks (Calls.loadGlobal_builtin (I.mod.glob.keeps I.bk) Z.zs (hbn.keeps I.bk) ((hbv ("super" : Str) (by decide +kernel)).trans hbo) ⟨rfl, ?_⟩)
  refine wpAny_loadName_free hk hkc rfl ⟨_, KX _ _ cell, rfl⟩ ?_
  obtain ⟨ml, hns, hl⟩ := I.loc
  obtain ⟨u, ru, lku⟩ := hl 0 ar.arg (.ref a) hN hσ (.inl hka)
  have hm : ml ar.arg = some u := by
    rcases lku with ⟨_, z⟩ | ⟨z, _⟩
    · exact z
    · rcases z with z | z
      · exact absurd (hka.symm.trans z) (by decide)
      · exact absurd (hka.symm.trans z) (by decide)
  obtain rfl : u = Value.ref a := ru
  refine wpAny_loadName_local hk hka hns hm ?_
  refine ks_wpAny_isType_cls hD1 rfl ⟨rfl, ?_⟩
  refine ks_wpAny_call_super hD1 rfl ho rfl (fun c z => nomatch z) (W.looks_mroIn KX Z.own) fun h' e1 kp => ?_
  have I1 : Inv _ pins σ H ⟨h', g, d, tk, os⟩ := I.kept (t' := tk) kp
  have KX1 := I1.kIn
  have ho1 := kp _ _ ho
  have J : W.InstAt h' a (HandSPX.excO C t1) C none := ⟨ho1, rfl, rfl, trivial⟩
  have up := Z.up
  cases hc : W.clsIn K C with
  | none =>
    unfold W.ks_superIn at up
    rw [hc] at up
    cases up
  | some cd =>
    unfold W.ks_superIn at up
    rw [hc] at up
    refine W.kxs_getMethod Zb.kx e1 (W.looks_opaque KX1 Z.opq) (l₀ := cd.mro) (fun A Q E s k z => wpAny_bind ((W.looks_clsIn KX1 hc) A _ E s k (wpAny_pure z))) rfl KX1 up (J.type.andThen (W.looks_subIn KX1 Z.sub)) (W.ks_ne KX1 J hc) (by decide) ?_
    have k2 : ∀ b o, h'.get? b = some o → (h'.push (W.kxs_mw initId a)).get? b = some o := fun b o e => Heap.get?_push_of_some _ e
    have I2 : Inv _ pins σ H ⟨h'.push (W.kxs_mw initId a), g, d, tk + 1, os⟩ := I1.kept (t' := tk + 1) k2
    have hu : (h'.push (W.kxs_mw initId a)).get? h'.objs.size = some (W.kxs_mw initId a) := Heap.get?_push_size _ rfl
    have hst' : starEach [.Constant (.str m) j p3] (ncx CX P w K mg base N ⟨name, qual, params, body, scope, [("__class__", cc)], cda⟩ f A outer s0 H0 E).env = [(false, eval (.Constant (.str m) j p3) (ncx CX P w K mg base N ⟨name, qual, params, body, scope, [("__class__", cc)], cda⟩ f A outer s0 H0 E).env)] := hst
    rw [hst']
    refine W.kxs_callWith (i := initId) (x := a) rfl (Calls.evalArgs_plain (Calls.spliced_cons (Calls.Constant_str (pos := p3) (k := j) (Calls.spliced_nil ⟨hu, ?_⟩))))
    refine mw_call Zb.facts (I2.kIn _ _ hC) (k2 _ _ ho1) hu (by show 1 ≤ sizeLine; decide) fun h3 t2 k3 e3 => ?_
    have J3 := (I2.tok (tk + 1 + 1)).write (t' := tk + 1 + 1) (x := a) (e := a) (o := exo a C none) (by rw [ha]; exact True.intro) (.inl rfl) k3 ⟨_, e3⟩ (exo_ok e3)
    have eu : upd H a (exo a C none) = H := by
      funext b
      by_cases hb : b = a
      · rw [hb, upd_same, ha]
      · rw [upd_ne hb]
    rw [eu] at J3
    exact hr.run pins _ σ H D J3 q
/-! ### C(e, ..), C(k = v, ..) as values -/
structure UseV (P : Program) (w : World) (K : PySem.W.Frag) (mg : Str → Option Value) (base : Heap) (k : Nat) (x : Str) (C : Addr) (ps : List Str) (sp : Sp) : Prop where
  ex : ∃ B newId initId tl fI fd, ExcBase B newId initId tl ∧ OexB K C newId tl ∧ PySem.W.findIn K (.ref C) "__init__" = some (some (.ref fI)) ∧ PySem.W.typeIn K (.ref fI) = some (.type "function") ∧ FnOk P w K mg base CX0 k fI fd ps sp ∧
    (∀ (s : Shared) (us : List Value), us.length = ps.length → BindsTo s fd ⟨us, []⟩ (ps.zip us)) ∧
    (∀ (s : Shared) (us ws : List Value), (us ++ ws).length = ps.length → us.length = 1 → BindsTo s fd ⟨us, (ps.drop 1).zip ws⟩ (ps.zip (us ++ ws))) ∧
    ∀ (s : Shared) (us ws : List Value), (us ++ ws).length = ps.length → us.length = 1 → BindsTo s fd ⟨us, (ps.drop 1).reverse.zip ws⟩ (ps.zip (us ++ ws.reverse))
  gC : mg x = some (.ref C)
  ec : ExcC K C
def kMkW (C : Addr) (sp : Sp) (Q : VK) : List V → Hp → Prop := fun vs H1 => vs.length ≤ 1000 ∧ ∀ a, H1 a = none → sp (.ref a :: vs) (upd H1 a (exo a C none)) (kMade a Q) E0
def kMkV (n : Nat) (gV : List V → List V) (C : Addr) (sp : Sp) (Q : VK) : List V → Hp → Prop := fun us H1 => us.length = n ∧ kMkW C sp Q (gV us) H1
theorem r_kMkV {n : Nat} {gV : List V → List V} {C : Addr} {sp : Sp} {Q : VK} {us : List V} {H : Hp} (hn : us.length = n) (h : (gV us).length ≤ 1000) (q : ∀ a H', H a = none → Kp [] H H' → H' a = some (exo a C none) → sp (.ref a :: gV us) H' (kMade a Q) E0) : kMkV n gV C sp Q us H :=
  ⟨hn, h, fun a n => q a _ n (Kp.new n) upd_same⟩
def tMkV (n : Nat) (C : Addr) (sp : Sp) (gV : List V → List V) (t : TA) : TE := fun σ H Q => t σ H (kMkV n gV C sp Q)
theorem r_mkV {n : Nat} {C : Addr} {sp : Sp} {gV : List V → List V} {t : TA} {σ : L2.St} {H : Hp} {Q : VK} (q : t σ H (kMkV n gV C sp Q)) : tMkV n C sp gV t σ H Q := q
section
variable {X : Cx} {k : Nat} {C : Addr} {ps ks : List Str} {sp : Sp} {x : Str} {e : Expr} {es : List Expr} {t tk : TA} {p pos : Pos} {kws : List Keyword}
theorem run_mkV {B newId initId : String} {tl : List Value} {fI : Addr} {fd : FuncData} {pins : List (Addr × Obj)} {σ : L2.St} {H1 : Hp} {s1 : Shared} {Q : VK} {us : List Value} {kw : List (Str × Value)} {gs : List Value} {vs : List V} (Z : ExcBase B newId initId tl) (T : OexB X.K C newId tl)
    (iC : PySem.W.findIn X.K (.ref C) "__init__" = some (some (.ref fI))) (tI : PySem.W.typeIn X.K (.ref fI) = some (.type "function")) (F1 : FnOk X.prog X.w X.K X.mg X.base CX0 k fI fd ps sp) (hr : Room (k + 1) X.A)
    (hb : ∀ (s : Shared) (v : Value), BindsTo s fd ⟨v :: us, kw⟩ (ps.zip (v :: gs))) (hus : us.length ≤ sizeLine) (I1 : Inv X pins σ H1 s1) (r1 : Vals vs gs) (q1 : kMkW C sp Q vs H1) :
    wpAny (model X.prog X.w) X.A (call (.ref C) us kw) (EP X pins σ Q) X.xe s1 := by
  obtain ⟨nm, q, N, bs, bm, sn, sub, ab, col, dd, k0, k1, k2, k3, k5, hC, hbm⟩ := T.cls
  obtain ⟨hp, g, dr, tk, os⟩ := s1
  have hsz : hp.objs.size ≤ hp.objs.size + 1 := Nat.le_succ _
  have hn : H1 (hp.objs.size + 1) = none := I1.hok.fresh hsz
  have hq := q1.2 (hp.objs.size + 1) hn
  have kk : ∀ b o, hp.get? b = some o → ((hp.push (PySem.W.kdv_tup us)).push (PySem.HandSPX.excO C hp.objs.size)).get? b = some o := fun b o e => Heap.get?_push_of_some _ (Heap.get?_push_of_some _ e)
  have hget : ((hp.push (PySem.W.kdv_tup us)).push (PySem.HandSPX.excO C hp.objs.size)).get? (hp.objs.size + 1) = some (PySem.HandSPX.excO C hp.objs.size) := by heap_get
  have I2 : Inv X pins σ (upd H1 (hp.objs.size + 1) (exo (hp.objs.size + 1) C none)) ⟨(hp.push (PySem.W.kdv_tup us)).push (PySem.HandSPX.excO C hp.objs.size), g, dr, tk, os⟩ :=
    I1.laid (t' := tk) (a := hp.objs.size + 1) (o := exo (hp.objs.size + 1) C none) (h' := (hp.push (PySem.W.kdv_tup us)).push (PySem.HandSPX.excO C hp.objs.size)) kk hsz (exo_ok hget)
  have r2 : Vals (V.ref (hp.objs.size + 1) :: vs) (Value.ref (hp.objs.size + 1) :: gs) := .cons rfl r1
  refine wpAny_call (PySem.HandSPX.call_kw Z.facts (fun Y => refsT_contains Z Y bm hbm) (I1.kIn _ _ hC) (PySem.W.looks_findIn I1.kIn iC) (fun self => PySem.W.bind_fn I1.kIn self tI) hus
    (codeAny_mono (F1.run _ X.stack _ _ ⟨Value.ref (hp.objs.size + 1) :: us, kw⟩ (Value.ref (hp.objs.size + 1) :: gs) _ _ E0 (hr.make C us kw) (I2.env0.make C us kw) (hb _ _) r2 hq) fun r s' hq' => ?_))
  cases r with
  | error er => exact pass0 (X := X) pins σ _ _ er s' I2 hq'
  | ok fl =>
    cases fl with
    | ret u =>
      obtain ⟨v, H', I3, rv, ev, q3⟩ := I2.after hq'
      subst ev
      exact ⟨rv, ⟨V.ref (hp.objs.size + 1), H', I3, rfl, q3⟩⟩
    | next => exact False.elim hq'
    | brk => exact False.elim hq'
    | cont => exact False.elim hq'
theorem pe_mkV (U : UseV X.prog X.w X.K X.mg X.base k x C ps sp) (hr : Room (k + 1) X.A) (hg : Gl X x) (hl : (e :: es).length + 1 = ps.length) (ha : PA X (e :: es) t) (hdb : (x == ("__debug__" : Str)) = false := by decide)
    (he : starEach (e :: es) X.env = (false, eval e X.env) :: starEach es X.env := by rfl) (hpl : (backTo pos (starEach es X.env)).any (·.1) = false := by rfl) : PE X (.Call (.Name x p) (e :: es) [] pos) (tMkV (e :: es).length C sp id t) := by
  obtain ⟨B, newId, initId, tl, fI, fd, Z, T, iC, tI, F1, hb, _, _⟩ := U.ex
  constructor
  intro pins s σ H Q I h
  refine wpAny_Call_Name_kw (ld_glob I hg U.gC ?_ hdb)
  refine PySem.W.callWith_K (h₀ := X.base) I.ok.mod.kin T.kC (thn (ha.run pos pins s σ H _ I h) fun us s1 ⟨vs, H1, I1, r1, hlen, q1⟩ => ⟨I1.kIn, ?_⟩) he hpl
  have hul : us.length = (e :: es).length := r1.length.symm.trans hlen
  exact run_mkV Z T iC tI F1 hr (fun s v => hb s (v :: us) (by rw [List.length_cons, hul, hl])) (by
    show us.length ≤ sizeLine
    have h9 : vs.length ≤ 1000 := q1.1
    rw [hul, sizeLine_eq]
    omega) I1 r1 q1
theorem pe_mkV0 (U : UseV X.prog X.w X.K X.mg X.base k x C ps sp) (hr : Room (k + 1) X.A) (hg : Gl X x) (hl : ps.length = 1) (hdb : (x == ("__debug__" : Str)) = false := by decide) : PE X (.Call (.Name x p) [] [] pos) (tMkV 0 C sp id tNil) := by
  obtain ⟨B, newId, initId, tl, fI, fd, Z, T, iC, tI, F1, hb, _, _⟩ := U.ex
  constructor
  intro pins s σ H Q I h
  refine wpAny_Call_Name_kw (ld_glob I hg U.gC ?_ hdb)
  refine PySem.W.callWith_K0 (first := []) I.kIn T.kC ?_
  exact run_mkV Z T iC tI F1 hr (fun s v => hb s [v] (by rw [hl]; rfl)) (by rw [sizeLine_eq]; decide) I .nil h.2
theorem pe_mkVK {g : List Value → List Value} {gV : List V → List V} {B newId initId : String} {tl : List Value} {fI : Addr} {fd : FuncData} (Z : ExcBase B newId initId tl) (T : OexB X.K C newId tl) (iC : PySem.W.findIn X.K (.ref C) "__init__" = some (some (.ref fI))) (tI : PySem.W.typeIn X.K (.ref fI) = some (.type "function"))
    (F1 : FnOk X.prog X.w X.K X.mg X.base CX0 k fI fd ps sp) (hm : X.mg x = some (.ref C)) (hr : Room (k + 1) X.A) (hg : Gl X x)
    (hb : ∀ (s : Shared) (v : Value) (ws : List Value), ws.length = ks.length → BindsTo s fd ⟨[v], ks.zip ws⟩ (ps.zip (v :: g ws))) (hrel : ∀ {zs : List V} {ws : List Value}, Vals zs ws → Vals (gV zs) (g ws)) (hkw : PK X kws tk)
    (hall : (backToKw pos (keywordEach kws X.env)).all (·.1.isSome) = true := by rfl) (hks : (backToKw pos (keywordEach kws X.env)).filterMap (·.1) = ks := by rfl) (hdb : (x == ("__debug__" : Str)) = false := by decide)
    (hpl : ((backTo pos (starEach [] X.env)).any (·.1) || (backToKw pos (keywordEach kws X.env)).any (·.1.isNone)) = false := by rfl) :
    PE X (.Call (.Name x p) [] kws pos) (tMkV ks.length C sp gV tk) := by
  refine ⟨fun pins s σ H Q I h => ?_⟩
  refine wpAny_Call_Name_kw (ld_glob I hg hm ?_ hdb)
  refine PySem.W.callWith_KW0 (h₀ := X.base) I.ok.mod.kin T.kC hall ?_ hpl
  refine thn (hkw.run pos pins s σ H _ I h) fun ws s ⟨zs, H, I, rz, l2, h⟩ => ⟨I.kIn, ?_⟩
  rw [hks]
  exact run_mkV (us := []) Z T iC tI F1 hr (fun s v => hb s v ws (rz.length.symm.trans l2)) (Nat.zero_le _) I (hrel rz) h
end
section
variable {X : Cx} {k : Nat} {C : Addr} {ps : List Str} {sp : Sp} {x : Str} {tk : TA} {p pos : Pos} {kws : List Keyword}
theorem pe_mkVS (ks : List Str) (U : UseV X.prog X.w X.K X.mg X.base k x C ps sp) (hr : Room (k + 1) X.A) (hg : Gl X x) (hp : ps.length = ks.length + 1) (hps : ps.drop 1 = ks) (hkw : PK X kws tk)
    (hall : (backToKw pos (keywordEach kws X.env)).all (·.1.isSome) = true := by rfl) (hks : (backToKw pos (keywordEach kws X.env)).filterMap (·.1) = ks := by rfl) (hdb : (x == ("__debug__" : Str)) = false := by decide)
    (hpl : ((backTo pos (starEach [] X.env)).any (·.1) || (backToKw pos (keywordEach kws X.env)).any (·.1.isNone)) = false := by rfl) :
    PE X (.Call (.Name x p) [] kws pos) (tMkV ks.length C sp id tk) := by
  obtain ⟨B, newId, initId, tl, fI, fd, Z, T, iC, tI, F1, _, hb, _⟩ := U.ex
  refine pe_mkVK (ks := ks) (g := id) Z T iC tI F1 U.gC hr hg (fun s v ws l2 => ?_) (fun r => r) hkw hall hks hdb hpl
  have := hb s [v] ws (by rw [List.length_append, l2, hp, Nat.add_comm]; rfl) rfl
  rw [hps] at this
  exact this
theorem pe_mkVR (ks : List Str) (U : UseV X.prog X.w X.K X.mg X.base k x C ps sp) (hr : Room (k + 1) X.A) (hg : Gl X x) (hp : ps.length = ks.length + 1) (hps : (ps.drop 1).reverse = ks) (hkw : PK X kws tk)
    (hall : (backToKw pos (keywordEach kws X.env)).all (·.1.isSome) = true := by rfl) (hks : (backToKw pos (keywordEach kws X.env)).filterMap (·.1) = ks := by rfl) (hdb : (x == ("__debug__" : Str)) = false := by decide)
    (hpl : ((backTo pos (starEach [] X.env)).any (·.1) || (backToKw pos (keywordEach kws X.env)).any (·.1.isNone)) = false := by rfl) :
    PE X (.Call (.Name x p) [] kws pos) (tMkV ks.length C sp List.reverse tk) := by
  obtain ⟨B, newId, initId, tl, fI, fd, Z, T, iC, tI, F1, _, _, hb⟩ := U.ex
  have vrev : ∀ {zs : List V} {ws : List Value}, Vals zs ws → Vals zs.reverse ws.reverse := fun r => by
    induction r with
    | nil => exact .nil
    | cons a _ ih =>
      rw [List.reverse_cons, List.reverse_cons]
      exact ih.append (.cons a .nil)
  refine pe_mkVK (ks := ks) (g := List.reverse) Z T iC tI F1 U.gC hr hg (fun s v ws l2 => ?_) vrev hkw hall hks hdb hpl
  have := hb s [v] ws (by rw [List.length_append, l2, hp, Nat.add_comm]; rfl) rfl
  rw [hps] at this
  exact this
end
/-! ### fields, isinstance -/
/-- an exception as a value: its fields -/
def ExAt (C : Addr) (H : Hp) (a : Addr) (fs : List (Str × V)) : Prop := (H a = some (exo a C none) ∧ fs = []) ∨ ∃ dx, H a = some (exo a C (some dx)) ∧ H dx = some (exd dx fs)
theorem ExAt.kp {C : Addr} {H H' : Hp} {a : Addr} {fs : List (Str × V)} (h : ExAt C H a fs) (k : Kp [] H H') : ExAt C H' a fs := by
  rcases h with ⟨h, e⟩ | ⟨dx, h, e⟩
  · exact .inl ⟨k _ _ h not_nil, e⟩
  · exact .inr ⟨dx, k _ _ h not_nil, k _ _ e not_nil⟩
def kOfl (K : PySem.W.Frag) (f : Str) (Q : VK) : VK := fun x H1 => ∃ a C fs v, x = .ref a ∧ ExAt C H1 a fs ∧ XfC K C ∧ PySem.W.findIn K (.ref C) f = some none ∧ fs.lookup f = some v ∧ Q v H1
def tOfl (K : PySem.W.Frag) (f : Str) (te : TE) : TE := fun σ H Q => te σ H (kOfl K f Q)
def rIsiO (K : PySem.W.Frag) : R1 := fun xs H Q => ∃ (a C : Addr) (fs : List (Str × V)) (c : V) (cv : Value) (b : Bool), xs = [.ref a, c] ∧ ExAt C H a fs ∧ ExcC K C ∧ ClsV c cv ∧ PySem.W.kitOne K (.ref C) cv = some b ∧ Q (.bl b) H
section
variable {X : Cx} {K : PySem.W.Frag} {e : Expr} {te : TE} {n : Str} {pos : Pos}
theorem exat_inst {pins : List (Addr × Obj)} {σ : L2.St} {H : Hp} {s : Shared} {C a : Addr} {fs : List (Str × V)} (I : Inv X pins σ H s) (h : ExAt C H a fs) : ∃ oe od, PySem.W.InstAt s.heap a oe C od := by
  rcases h with ⟨h, _⟩ | ⟨dx, h, e⟩
  · obtain ⟨t1, ho⟩ := exo_at I.hok h
    exact ⟨_, none, ho, rfl, rfl, trivial⟩
  · obtain ⟨t1, ho⟩ := exo_at I.hok h
    obtain ⟨mA, hns, _⟩ := exd_at I.hok e
    obtain ⟨od, hod, _⟩ := lookIn_ns hns
    exact ⟨_, some od, ho, rfl, rfl, hod⟩
theorem K_ofl (hK : X.K = K) (he : PE X e te) (hb : attributeBase e n X.env (eval e X.env) = eval e X.env := by rfl) : PE X (.Attribute e n pos) (tOfl K n te) := by
  subst hK
  refine ⟨fun pins s σ H Q I h => ?_⟩
  refine attr_of hb (thn (he.run pins s σ H _ I h) fun u s1 ⟨x, H1, I1, rx, a, C, fs, v, ex, hA, T, hno, l, q⟩ => ?_)
  subst ex
  obtain rfl : u = Value.ref a := rx
  rcases hA with ⟨_, e⟩ | ⟨dx, ha, ed⟩
  · rw [e] at l
    cases l
  · obtain ⟨t1, ho⟩ := exo_at I1.hok ha
    obtain ⟨mA, hns, hr⟩ := exd_at I1.hok ed
    obtain ⟨od, hod, hl⟩ := lookIn_ns hns
    obtain ⟨u, hu, ru⟩ := RelO.some_of (v := v) (o := mA n) (by rw [← l]; exact hr n)
    have J : PySem.W.InstAt s1.heap a _ C (some od) := ⟨ho, rfl, rfl, hod⟩
    exact HandSPX.exc_get I1.kIn J T.ga T.gg T.exC (PySem.W.findObj_own T.hdC hno rfl (by rw [hl, hu])) (handed_of ru) ⟨v, H1, I1.tok _, ru, q⟩
theorem K_isiO (hK : X.K = K) : CallR X (.builtin "isinstance") (rIsiO K) := by
  subst hK
  rintro pins s σ H xs us Q I r ⟨a, C, fs, c, cv, b, rfl, hA, T, k, e, q⟩
  obtain ⟨u1, u2, rfl, r1, r2⟩ := vals2 r
  cases (show u1 = Value.ref a from r1)
  have e2 := k.eq r2
  subst e2
  obtain ⟨oe, od, J⟩ := exat_inst I hA
  obtain ⟨cd, hc, _⟩ := PySem.W.any_some T.hd
  exact PySem.W.kia_one (PySem.W.kitx_exc (by rw [hc]; rfl) T.hg T.hk T.hs T.ha T.hn T.ht T.hm) I.kIn J e (fun z => nomatch z) fun tk => ⟨.bl b, H, I.kept (t' := tk) fun _ _ z => z, rfl, q⟩
end
section
variable {K : PySem.W.Frag} {H : Hp} {Q : VK} {C a : Addr} {fs : List (Str × V)} {f : Str} {v c : V} {cv : Value} {b : Bool} {te : TE} {σ : L2.St}
theorem r_ofl (q : te σ H (kOfl K f Q)) : tOfl K f te σ H Q := q
theorem r_kOfl (h : ExAt C H a fs) (T : XfC K C) (n : PySem.W.findIn K (.ref C) f = some none) (l : fs.lookup f = some v) (q : Q v H) : kOfl K f Q (.ref a) H := ⟨a, C, fs, v, rfl, h, T, n, l, q⟩
theorem r_isiO (h : ExAt C H a fs) (T : ExcC K C) (k : ClsV c cv) (e : PySem.W.kitOne K (.ref C) cv = some b) (q : Q (.bl b) H) : rIsiO K [.ref a, c] H Q := ⟨a, C, fs, c, cv, b, rfl, h, T, k, e, q⟩
end
/-! ### __init__ of such a class: its fields are what was passed -/
structure SFunB (P : Program) (K : PySem.W.Frag) (mg : Str → Option Value) (qual : Str) (st : Stmt) (C f : Addr) (fd : FuncData) (B newId initId : String) (tl : List Value) : Prop where
  ex : ∃ (oc kV doc pm ct cl : Value) (od an cld : Option Addr) (cda cc : Addr) (osl csl : Array (Option Value)), fd = PySem.W.ksFn "__init__" qual (defArgs st) (defBody st) (defScope st) .none kV doc pm an (.ref cda) ct cc ∧
    K.lookup f = some ⟨oc, od, .func (PySem.W.ksFn "__init__" qual (defArgs st) (defBody st) (defScope st) .none kV doc pm an (.ref cda) ct cc), osl⟩ ∧ PySem.W.codeIn K (.ref cda) qual = true ∧ K.lookup cc = some ⟨cl, cld, .cell (some (.ref C)), csl⟩ ∧ SupCB P K mg C cda B newId initId tl
/-- just made: its dict is new to H -/
def ExNew (C : Addr) (H H' : Hp) (a : Addr) (fs : List (Str × V)) : Prop := (H' a = some (exo a C none) ∧ fs = []) ∨ ∃ dx, H dx = none ∧ H' a = some (exo a C (some dx)) ∧ H' dx = some (exd dx fs)
theorem ExNew.at {C : Addr} {H H' : Hp} {a : Addr} {fs : List (Str × V)} (h : ExNew C H H' a fs) : ExAt C H' a fs := h.elim .inl fun ⟨dx, _, e⟩ => .inr ⟨dx, e⟩
def sp_ev (fs : List Str) (C : Addr) : Sp := fun vs H Q _ => ∃ (a : Addr) (us : List V), vs = .ref a :: us ∧ us.length = fs.length ∧ H a = some (exo a C none) ∧ ∀ H', Kp [a] H H' → ExNew C H H' a (fs.zip us).reverse → Q .non H'
theorem r_kMkE {n : Nat} {gV : List V → List V} {C : Addr} {fs : List Str} {Q : VK} {us : List V} {H : Hp} (hn : us.length = n) (h : (gV us).length = fs.length) (h9 : fs.length ≤ 1000) (q : ∀ a H', H a = none → Kp [] H H' → ExAt C H' a (fs.zip (gV us)).reverse → Q (.ref a) H') : kMkV n gV C (sp_ev fs C) Q us H :=
  r_kMkV hn (by rw [h]; exact h9) fun a H1 na k e => ⟨a, gV us, rfl, h, e, fun H2 k2 x => r_kMade (q a H2 na (k.nil.trans k2 |>.drop na) x.at)⟩
end Rd

set_option maxHeartbeats 4000000
/-! ExcW: families of exception classes: what their lookups tell (isinstance among them). -/
namespace Rd
open PySem PySem.Spec L2 NdefX PyProof.Rows
structure ExL (K : PySem.W.Frag) (nm : Str) (C : Addr) (bm : List Value) (newId : String) : Prop where
  ex : ∃ q N bs sn sub ab col dd k0 k1 k2 k3 k5, K.lookup C = some (excClassObj nm q C N bs bm true sn sub ab col dd k0 k1 k2 k3 k5 newId)
section
variable {K : PySem.W.Frag} {nm nm' : Str} {C D : Addr} {bm bm' : List Value} {n n' : String}
theorem ExL.cls (h : ExL K nm C bm n) : ∃ bs N q sn sub ab col, PySem.W.clsIn K C = some { name := nm, bases := bs, mro := .ref C :: bm, ns := N, qualname := q, hasDict := true, slotNames := sn, subclasses := sub, abstract := ab, collection := col, hasDel := false } := by
  obtain ⟨q, N, bs, sn, sub, ab, col, dd, k0, k1, k2, k3, k5, e⟩ := h.ex
  refine ⟨bs, N, q, sn, sub, ab, col, ?_⟩
  unfold PySem.W.clsIn
  rw [e] <;> rfl
theorem ExL.mro (h : ExL K nm C bm n) (v : Value) : PySem.W.mroIn K C v = some ((Value.ref C :: bm).contains v) := by
  obtain ⟨bs, N, q, sn, sub, ab, col, e⟩ := h.cls
  unfold PySem.W.mroIn
  rw [e]
  rfl
theorem ExL.sub (h : ExL K nm C bm n) (v : Value) : PySem.W.subIn K (.ref C) v = some ((Value.ref C :: bm).contains v) := h.mro v
theorem ExL.ty (h : ExL K nm C bm n) : PySem.W.typeIn K (.ref C) = some (.type "type") := by
  obtain ⟨q, N, bs, sn, sub, ab, col, dd, k0, k1, k2, k3, k5, e⟩ := h.ex
  show (K.lookup C).map (·.cls) = _
  rw [e]
  rfl
theorem ExL.hd (h : ExL K nm C bm n) : PySem.W.hasDictIn K C = true := by
  obtain ⟨bs, N, q, sn, sub, ab, col, e⟩ := h.cls
  unfold PySem.W.hasDictIn
  rw [e]
  rfl
theorem ExL.ne (h : ExL K nm C bm n) (h' : ExL K nm' D bm' n') (m : nm ≠ nm') : C ≠ D := by
  rintro rfl
  obtain ⟨q, N, bs, sn, sub, ab, col, dd, k0, k1, k2, k3, k5, e⟩ := h.ex
  obtain ⟨q', N', bs', sn', sub', ab', col', dd', j0, j1, j2, j3, j5, e'⟩ := h'.ex
  rw [e] at e'
  injection e' with e'
  injection e' with _ _ e' _
  injection e' with e'
  injection e' with e' _
  exact m e'
theorem ref_beq {a b : Addr} : (Value.ref a == Value.ref b) = decide (a = b) := by
  by_cases c : a = b
  · subst c
    rw [decide_eq_true rfl]
    exact beq_self_eq_true _
  · rw [decide_eq_false c]
    exact beq_eq_false_iff_ne.mpr fun e => c (Value.ref.inj e)
theorem ExL.kit (h : ExL K nm C bm n) (h' : ExL K nm' D bm' n') : PySem.W.kitOne K (.ref C) (.ref D) = some ((Value.ref C :: bm).contains (.ref D)) := by
  unfold PySem.W.kitOne
  by_cases c : C = D
  · subst c
    rw [if_pos (beq_self_eq_true _), List.contains_cons, beq_self_eq_true]
    rfl
  · rw [if_neg (by rw [ref_beq, decide_eq_false c]; decide)]
    obtain ⟨bs, N, q, sn, sub, ab, col, e⟩ := h'.cls
    show (if ((PySem.W.clsIn K D).isSome && PySem.W.typeIn K (.ref D) == some (.type "type")) = true then PySem.W.subIn K (.ref C) (.ref D) else none) = _
    rw [e, h'.ty, h.sub, if_pos]
    exact beq_self_eq_true _
theorem ExL.kitT (h : ExL K nm C bm n) {T : String} (m : PySem.W.kitMeta T = true) : PySem.W.kitOne K (.ref C) (.type T) = some ((Value.ref C :: bm).contains (.type T)) := by
  unfold PySem.W.kitOne
  rw [if_neg (by
    have e : (Value.ref C == Value.type T) = false := beq_eq_false_iff_ne.mpr fun e => nomatch e
    rw [e]
    decide)]
  show (if PySem.W.kitMeta T = true then PySem.W.subIn K (.ref C) (.type T) else none) = _
  rw [if_pos m, h.sub]
end
end Rd

set_option maxHeartbeats 4000000
/-! Cm2: raise X(e) of any base; methods of a family of classes, each with its own def; instances called; a, b = super().m(..); X(e, *y). -/
namespace Rd
open PySem PySem.Spec L2 StX NdefX PyProof.Rows
/-! ### readings for Cm -/
section
variable {σ : L2.St} {H : Hp} {Q : VK} {a p d : Addr} {K : PySem.W.Frag} {kvs : List (Key × V)} {nds : List (Str × Int)} {ex : List Addr} {x v : V} {xs : List V}
theorem r_kItems (e : H a = some (.dK kvs)) (q : ∀ p H', H p = none → Kp [] H H' → H' p = some (DX.itemsO p a) → Q (.ref p) H') : kBM0 K "dict" rItemsK Q (.ref a) H :=
  ⟨.inr (.inr (.inl ⟨rfl, .inl ⟨_, e⟩⟩)), a, kvs, rfl, rfl, e, fun p n => q p _ n (Kp.new n) upd_same⟩
theorem paired_dt {H : Hp} {l : Addr} (el : ∀ t o, H t = some (HO.tup o) → t ≠ l) : ∀ {ts : List Addr} {nds : List (Str × Int)}, Paired (fun t q => H t = some (.tup [.str q.1, .int q.2])) ts nds → DtAll [l] H (ts.map V.ref) (nds.map ndD)
  | _, _, .nil => .nil
  | _, _, .cons h t => .cons (.tup (fun m => el _ _ h (List.mem_singleton.mp m)) h (.cons (.str _) (.cons (.int _) .nil))) (paired_dt el t)
theorem r_sortN (ep : H p = some (DX.itemsO p a)) (ea : H a = some (.dK (ndK nds))) (q : ∀ l H' xs, H l = none → Kp [] H H' → H' l = some (.lst xs) → DtAll [l] H' xs ((srtN nds).map ndD) → Q (.ref l) H') : rSortN [.ref p] H Q :=
  ⟨p, a, nds, rfl, ep, ea, fun H' l ts k nl el _ pr => q l H' _ nl (fun b o e _ => k b o e) el (paired_dt (fun t o et z => by
    rw [z, el] at et
    cases et) pr)⟩
/-! dict(pairs) -/
def cDictP (K : PySem.W.Frag) : R1 := fun xs H Q => ∃ (a : Addr) (ps : List Addr) (kvs : List (Key × V)), xs = [.ref a] ∧ SqL K H a (ps.map V.ref) ∧ Paired (fun p kv => SqT K H p [kV kv.1, kv.2]) ps kvs ∧
    ∀ p, H p = none → Q (.ref p) (upd H p (.dK (mergeK [] kvs)))
theorem K_dictP {X : Cx} (hK : X.K = K) (hc : X.calm = true) : CallR X (.type "dict") (cDictP K) := by
  subst hK
  exact call_dictP hc
theorem dt_refs {K : PySem.W.Frag} : ∀ {xs : List V} {nds : List (Str × Int)}, DtAll ex H xs (nds.map ndD) → ∃ ps : List Addr, xs = ps.map V.ref ∧ Paired (fun p kv => SqT K H p [kV kv.1, kv.2]) ps (ndK nds)
  | [], [], _ => ⟨[], rfl, .nil⟩
  | [], _ :: _, h => by cases h
  | _ :: _, [], h => by cases h
  | x :: xs, q :: nds, h => by
    cases h with
    | cons h1 h2 =>
      obtain ⟨ps, rfl, pr⟩ := dt_refs (K := K) h2
      obtain ⟨t, rfl, _, et⟩ := h1.pair
      exact ⟨t :: ps, rfl, .cons (SqT.of et) pr⟩
theorem putK_new {kvs : List (Key × V)} {k : Key} {v : V} (h : k ∉ kvs.map (·.1)) : putK kvs k v = kvs ++ [(k, v)] := by
  unfold putK
  rw [if_neg]
  intro z
  obtain ⟨q, hq, e⟩ := List.any_eq_true.mp z
  exact h (List.mem_map.mpr ⟨q, hq, of_decide_eq_true e⟩)
theorem mergeK_nodup : ∀ (kvs acc : List (Key × V)), ((acc ++ kvs).map (·.1)).Nodup → mergeK acc kvs = acc ++ kvs
  | [], acc, _ => by simp [mergeK]
  | q :: kvs, acc, h => by
    have hq : q.1 ∉ acc.map (·.1) := fun m => by
      rw [List.map_append, List.nodup_append] at h
      exact h.2.2 _ m q.1 (List.mem_map.mpr ⟨q, List.mem_cons_self, rfl⟩) rfl
    have e : mergeK acc (q :: kvs) = mergeK (putK acc q.1 q.2) kvs := rfl
    rw [e, putK_new hq, mergeK_nodup kvs _ (by simpa using h)]
    simp
theorem ndK_keys {nds : List (Str × Int)} (h : (nds.map Prod.fst).Nodup) : ((ndK nds).map (·.1)).Nodup := by
  have e : (ndK nds).map (·.1) = (nds.map Prod.fst).map (Sum.inr : Str → Key) := by
    unfold ndK
    rw [List.map_map, List.map_map]
    rfl
  rw [e]
  exact List.Pairwise.map _ (fun a b n z => n (Sum.inr.inj z)) h
theorem merge_nds {nds : List (Str × Int)} (h : (nds.map Prod.fst).Nodup) : mergeK [] (ndK nds) = ndK nds := by
  rw [mergeK_nodup _ _ (by simpa using ndK_keys h)]
  rfl
theorem r_dictP (hq : SqL K H a xs) (hd : DtAll ex H xs (nds.map ndD)) (hn : (nds.map Prod.fst).Nodup) (q : ∀ p H', H p = none → Kp [] H H' → H' p = some (.dK (ndK nds)) → Q (.ref p) H') : cDictP K [.ref a] H Q := by
  obtain ⟨ps, rfl, pr⟩ := dt_refs (K := K) hd
  refine ⟨a, ps, ndK nds, rfl, hq, pr, fun p n => ?_⟩
  rw [merge_nds hn]
  exact q p _ n (Kp.new n) upd_same
/-! d[k] = v as a target -/
theorem r_setD {z : Str} {R : Hp → Prop} (e : H a = some (.dK kvs)) (h : kvs.length < sizeLine) (q : ∀ H', Kp [a] H H' → H' a = some (.dK (putK kvs (Sum.inr z) v)) → R H') : rSetD (.ref a) (.str z) v H R :=
  ⟨a, _, rfl, .inl ⟨kvs, Sum.inr z, e, rfl, h, rfl⟩, q _ (Kp.put (by simp)) upd_same⟩
end
/-! ### raise X(e), X an own class over any of the bases -/
def kMkR (fs : List Str) (C : Addr) (Q : XK) : List V → Hp → Prop := fun vs H1 => vs.length = fs.length ∧ fs ≠ [] ∧ fs.length ≤ 1000 ∧ ∀ d H', H1 d = none → Kp [] H1 H' → H' d = some (.xd (fs.zip vs).reverse) → Q (.ref C) (some d) H'
def tMkR (fs : List Str) (C : Addr) (t : TA) : L2.St → Hp → XK → Prop := fun σ H Q => t σ H (kMkR fs C Q)
def tRaiseV (fs : List Str) (C : Addr) (W : WX) (ta : TA) : TS := fun _ σ H => ta σ H (kMkR fs C fun cls d H' => W cls d σ H')
section
variable {X : Cx} {k : Nat} {C : Addr} {ps fs : List Str} {x : Str} {e : Expr} {es : List Expr} {t : TA} {p pos pos2 : Pos} {W : WX}
theorem pmk_V (U : UseV X.prog X.w X.K X.mg X.base k x C ps (sp_ev fs C)) (hr : Room (k + 1) X.A) (hg : Gl X x) (ha : PA X (e :: es) t) (hdb : (x == ("__debug__" : Str)) = false := by decide)
    (he : starEach (e :: es) X.env = (false, eval e X.env) :: starEach es X.env := by rfl) (hpl : (backTo pos (starEach es X.env)).any (·.1) = false := by rfl) : PMk X (.Call (.Name x p) (e :: es) [] pos) (tMkR fs C t) := by
  obtain ⟨B, newId, initId, tl, fI, fd, Z, T, iC, tI, F1, hb, _, _⟩ := U.ex
  intro pins s σ H Q I h
  obtain ⟨nm, q, N, bs, bm, sn, sub, ab, col, dd, k0, k1, k2, k3, k5, hC, hbm⟩ := T.cls
  refine wpAny_Call_Name_kw (ld_glob I hg U.gC ?_ hdb)
  refine PySem.W.callWith_K (h₀ := X.base) I.ok.mod.kin T.kC (thn (ha.run pos pins s σ H _ I h) fun us s1 ⟨vs, H1, I1, r1, hvl, hfs, h9, q1⟩ => ⟨I1.kIn, ?_⟩) he hpl
  show wpAny _ _ (call (.ref C) us) _ _ _
  obtain ⟨hp, g, dr, tk, os⟩ := s1
  have hsz : hp.objs.size ≤ hp.objs.size + 1 := Nat.le_succ _
  have hn : H1 (hp.objs.size + 1) = none := I1.hok.fresh hsz
  have hq : sp_ev fs C (.ref (hp.objs.size + 1) :: vs) (upd H1 (hp.objs.size + 1) (exo (hp.objs.size + 1) C none))
      (fun v H2 => v = .non ∧ ∃ (d : Addr) (gs : List (Str × V)), H2 (hp.objs.size + 1) = some (exo (hp.objs.size + 1) C (some d)) ∧ H2 d = some (exd d gs) ∧ H1 d = none ∧ Q (.ref C) (some d) (upd (del H2 (hp.objs.size + 1)) d (.xd gs))) E0 := by
    refine ⟨_, vs, rfl, hvl, upd_same, fun H2 k2 hx => ⟨rfl, ?_⟩⟩
    rcases hx with ⟨_, ez⟩ | ⟨d, nd, e1, e2⟩
    · have := congrArg List.length ez
      rw [List.length_reverse, List.length_zip, hvl, Nat.min_self] at this
      exact absurd (List.length_eq_zero_iff.mp this) hfs
    · have da : d ≠ hp.objs.size + 1 := fun z => by
        rw [z, upd_same] at nd
        cases nd
      have n1 : H1 d = none := by
        rw [upd_ne da] at nd
        exact nd
      refine ⟨d, _, e1, e2, n1, q1 d _ n1 (fun b o eb _ => ?_) upd_same⟩
      have hbd : b ≠ d := ne_of_none eb n1
      have hba : b ≠ hp.objs.size + 1 := ne_of_none eb hn
      rw [upd_ne hbd, del_ne hba]
      exact k2 b o (by rw [upd_ne hba]; exact eb) (not_one hba)
  have kk : ∀ b o, hp.get? b = some o → ((hp.push (PySem.W.kdv_tup us)).push (PySem.HandSPX.excO C hp.objs.size)).get? b = some o := fun b o e => Heap.get?_push_of_some _ (Heap.get?_push_of_some _ e)
  have hget : ((hp.push (PySem.W.kdv_tup us)).push (PySem.HandSPX.excO C hp.objs.size)).get? (hp.objs.size + 1) = some (PySem.HandSPX.excO C hp.objs.size) := by heap_get
  have I2 : Inv X pins σ (upd H1 (hp.objs.size + 1) (exo (hp.objs.size + 1) C none)) ⟨(hp.push (PySem.W.kdv_tup us)).push (PySem.HandSPX.excO C hp.objs.size), g, dr, tk, os⟩ :=
    I1.laid (t' := tk) (a := hp.objs.size + 1) (o := exo (hp.objs.size + 1) C none) (h' := (hp.push (PySem.W.kdv_tup us)).push (PySem.HandSPX.excO C hp.objs.size)) kk hsz (exo_ok hget)
  have r2 : Vals (V.ref (hp.objs.size + 1) :: vs) (Value.ref (hp.objs.size + 1) :: us) := .cons rfl r1
  have hus : us.length ≤ sizeLine := by
    rw [← r1.length, hvl]
    exact Nat.le_trans h9 (by decide)
  refine wpAny_call (PySem.HandSPX.call_kw Z.facts (fun Y => refsT_contains Z Y bm hbm) (I1.kIn _ _ hC) (PySem.W.looks_findIn I1.kIn iC) (fun self => PySem.W.bind_fn I1.kIn self tI) hus
    (codeAny_mono (F1.run _ X.stack _ _ ⟨Value.ref (hp.objs.size + 1) :: us, []⟩ (Value.ref (hp.objs.size + 1) :: us) _ _ E0 (hr.make C us []) (I2.env0.make C us []) (hb _ (Value.ref (hp.objs.size + 1) :: us) (by rw [← r2.length]; exact F1.len _ _ _ _ hq)) r2 hq) fun r s' hq' => ?_))
  cases r with
  | error er => exact pass0 (X := X) pins σ _ _ er s' I2 hq'
  | ok fl =>
    cases fl with
    | ret u =>
      obtain ⟨v, H2, os2, bare2, un2, hok2, rv, ev, d, gs, ea, ed, hd1, q2⟩ := hq'
      subst ev
      obtain ⟨h2, g2, d2, t2, os'⟩ := s'
      exact ⟨rv, mk_end (raises_own T.exC T.tyC) I1 hsz kk un2 hok2 os2 bare2 ea ed hd1 q2⟩
    | next => exact False.elim hq'
    | brk => exact False.elim hq'
    | cont => exact False.elim hq'
theorem ps_raiseV (U : UseV X.prog X.w X.K X.mg X.base k x C ps (sp_ev fs C)) (hr : Room (k + 1) X.A) (hc : X.calm = true) (tk : Takes X W) (hg : Gl X x) (ha : PA X (e :: es) t) (hdb : (x == ("__debug__" : Str)) = false := by decide)
    (he : starEach (e :: es) X.env = (false, eval e X.env) :: starEach es X.env := by rfl) (hpl : (backTo pos (starEach es X.env)).any (·.1) = false := by rfl) :
    PS X (.Raise (some (.Call (.Name x p) (e :: es) [] pos)) none pos2) (tRaiseV fs C W t) := ps_raise hc tk (pmk_V U hr hg ha hdb he hpl)
end
theorem r_raiseV {fs : List Str} {C : Addr} {W : WX} {ta : TA} {D : Ends} {σ : L2.St} {H : Hp} (q : ta σ H (kMkR fs C fun cls d H' => W cls d σ H')) : tRaiseV fs C W ta D σ H := q
theorem r_kMkR1 {C : Addr} {fld : Str} {Q : XK} {v : V} {H : Hp} (q : ∀ d H', H d = none → Kp [] H H' → H' d = some (.xd [(fld, v)]) → Q (.ref C) (some d) H') : kMkR [fld] C Q [v] H := ⟨rfl, (fun z => nomatch z), by show 1 ≤ 1000; decide, q⟩
theorem ExL.exm {K : PySem.W.Frag} {nm : Str} {C : Addr} {bm : List Value} {n : String} (h : ExL K nm C bm n) (e : PySem.W.subIn K (.ref C) (.type "BaseException") = some true) : PySem.W.exmOne K (.ref C) (.ref C) = some true :=
  PySem.W.exm_ref e h.hd h.ty (by rw [h.sub, List.contains_cons, beq_self_eq_true]; rfl)
/-! ### methods of a family of classes -/
def kMethF (S : List Addr) (m : Str) (sp : Nat → Sp) (E : XK) (t : TA) (σ : L2.St) (Q : VK) : VK := fun x H1 => ∃ a C dx fs k, x = .ref a ∧ S[k]? = some C ∧ H1 a = some (.ins C dx fs) ∧ fs.lookup m = none ∧ t σ H1 fun vs H2 => sp k (x :: vs) H2 Q E
def tMethF (S : List Addr) (m : Str) (sp : Nat → Sp) (E : L2.St → XK) (ta : TE) (t : TA) : TE := fun σ H Q => ta σ H (kMethF S m sp (E σ) t σ Q)
/-- each class has its own def of the name, with a promise by its place -/
def UseMV (P : Program) (w : World) (K : PySem.W.Frag) (mg : Str → Option Value) (base : Heap) (n : Nat) (S : List Addr) (m : Str) (sp : Nat → Sp) : Prop := ∀ k C, S[k]? = some C → Cls K C ∧ ∃ f, FnR P w K mg base CX0 n f (sp k) ∧ Meth K C m f
theorem umv_nil {p : Nat → Addr → Prop} : ∀ k C, ([] : List Addr)[k]? = some C → p k C := fun k C h => by simp at h
theorem umv_cons {p : Nat → Addr → Prop} {D : Addr} {l : List Addr} (h : p 0 D) (t : ∀ k C, l[k]? = some C → p (k + 1) C) : ∀ k C, (D :: l)[k]? = some C → p k C
  | 0, _, e => Option.some.inj e ▸ h
  | k + 1, C, e => t k C e
section
variable {X : Cx} {k : Nat} {S : List Addr} {m : Str} {sp : Nat → Sp} {o e : Expr} {es : List Expr} {ta : TE} {t : TA} {apos pos : Pos} {pl : Sem Bool}
theorem pe_methF (he : PE X o ta) (U : UseMV X.prog X.w X.K X.mg X.base k S m sp) (hr : Room k X.A) (ha : PA X (e :: es) t)
    (hst : starEach (e :: es) X.env = (false, eval e X.env) :: starEach es X.env := by rfl) (hpl : (backTo pos (starEach es X.env)).any (·.1) = false := by rfl)
    (ht : eval (.Call (.Attribute o m apos) (e :: es) [] pos) X.env = (do
      let ov ← eval o X.env
      standAt apos.atName
      let (f, first) ← holding [ov] (getMethod ov m pl)
      callWith pos f first (backTo pos (starEach (e :: es) X.env)) (backToKw pos (keywordEach [] X.env))) := by rfl) :
    PE X (.Call (.Attribute o m apos) (e :: es) [] pos) (tMethF S m sp (fun _ => E0) ta t) := by
  refine ⟨fun pins s σ H Q I h => ?_⟩
  refine PySem.W.methodCall_KW (pl := pl) (thn (he.run pins s σ H _ I h) fun u s1 ⟨x, H1, I1, rx, a, C, dx, fs, i, ex, hS, ea, l, q⟩ => ?_) ht
  subst ex
  obtain rfl : u = Value.ref a := rx
  obtain ⟨c, f, F, hm⟩ := U i C hS
  refine getmeth_ok I1 ea c hm l ?_
  refine PySem.W.callWith_K (first := [.ref a]) (h₀ := X.base) I.ok.mod.kin hm.kp (thn (ha.run pos pins s1 σ H1 _ I1 q) fun us s2 ⟨vs, H2, I2, r, q2⟩ => ⟨I2.kIn, ?_⟩) hst hpl
  exact wpAny_call (run_fnR (us := .ref a :: us) (vs := .ref a :: vs) F hr pass0 I2 (.cons rfl r) q2)
theorem pe_methF0 (he : PE X o ta) (U : UseMV X.prog X.w X.K X.mg X.base k S m sp) (hr : Room k X.A)
    (ht : eval (.Call (.Attribute o m apos) [] [] pos) X.env = (do
      let ov ← eval o X.env
      standAt apos.atName
      let (f, first) ← holding [ov] (getMethod ov m pl)
      callWith pos f first (backTo pos (starEach [] X.env)) (backToKw pos (keywordEach [] X.env))) := by rfl) :
    PE X (.Call (.Attribute o m apos) [] [] pos) (tMethF S m sp (fun _ => E0) ta tNil) := by
  refine ⟨fun pins s σ H Q I h => ?_⟩
  refine PySem.W.methodCall_KW (pl := pl) (thn (he.run pins s σ H _ I h) fun u s1 ⟨x, H1, I1, rx, a, C, dx, fs, i, ex, hS, ea, l, q⟩ => ?_) ht
  subst ex
  obtain rfl : u = Value.ref a := rx
  obtain ⟨c, f, F, hm⟩ := U i C hS
  refine getmeth_ok I1 ea c hm l ?_
  refine PySem.W.callWith_K0 (first := [.ref a]) I1.kIn hm.kp ?_
  exact wpAny_call (run_fnR (us := [.ref a]) (vs := [.ref a]) F hr pass0 I1 (.cons rfl .nil) q)
end
section
variable {S : List Addr} {m : Str} {sp : Nat → Sp} {k : Nat} {E : L2.St → XK} {Ex : XK} {ta : TE} {t : TA} {σ : L2.St} {H : Hp} {Q : VK} {a C dx : Addr} {fs : List (Str × V)}
theorem r_methF (q : ta σ H (kMethF S m sp (E σ) t σ Q)) : tMethF S m sp E ta t σ H Q := q
theorem r_kMethF (hS : S[k]? = some C) (e : H a = some (.ins C dx fs)) (l : fs.lookup m = none) (q : t σ H fun vs H2 => sp k (.ref a :: vs) H2 Q Ex) : kMethF S m sp Ex t σ Q (.ref a) H := ⟨a, C, dx, fs, k, rfl, hS, e, l, q⟩
end
/-! ### x(e), x an instance of a family's class -/
def UseCV (P : Program) (w : World) (K : PySem.W.Frag) (mg : Str → Option Value) (base : Heap) (n : Nat) (S : Addr → Prop) (sp : Sp) : Prop := ∃ g, FnR P w K mg base (L2.CX P w) n g sp ∧ ∀ C, S C → CallO K C g
def kCallF (S : Addr → Prop) (sp : Sp) (E : XK) (a : Addr) (Q : VK) : List V → Hp → Prop := fun vs H2 => (∃ C dx fs, S C ∧ H2 a = some (.ins C dx fs)) ∧ sp (.ref a :: vs) H2 Q E
def kCallX (S : Addr → Prop) (sp : Sp) (E : XK) (t : TA) (σ : L2.St) (Q : VK) : VK := fun y H1 => ∃ a, y = .ref a ∧ t σ H1 (kCallF S sp E a Q)
def tCallF (S : Addr → Prop) (sp : Sp) (E : L2.St → XK) (tf : TE) (t : TA) : TE := fun σ H Q => tf σ H (kCallX S sp (E σ) t σ Q)
section
variable {X : Cx} {k : Nat} {S : Addr → Prop} {sp : Sp} {E : L2.St → XK} {fe e : Expr} {es : List Expr} {tf : TE} {t : TA} {pos : Pos}
theorem pe_callF (hf : PE X fe tf) (U : UseCV X.prog X.w X.K X.mg X.base k S sp) (hr : Room k X.A) (hx : ∀ σ, PassesAt (L2.CX X.prog X.w) X σ (E σ)) (ha : PA X (e :: es) t)
    (ht : eval (.Call fe (e :: es) [] pos) X.env = (do callWith pos (← eval fe X.env) [] (backTo pos (starEach (e :: es) X.env)) (backToKw pos (keywordEach [] X.env))) := by rfl)
    (he : starEach (e :: es) X.env = (false, eval e X.env) :: starEach es X.env := by rfl) (hpl : (backTo pos (starEach es X.env)).any (·.1) = false := by rfl) : PE X (.Call fe (e :: es) [] pos) (tCallF S sp E tf t) := by
  refine ⟨fun pins s σ H Q I h => ?_⟩
  refine Call_ (thn (hf.run pins s σ H _ I h) fun u s1 ⟨y, H1, I1, ry, a, ey, q⟩ => ?_) ht
  subst ey
  obtain rfl : u = Value.ref a := ry
  obtain ⟨g, F, hc⟩ := U
  refine callO_with (thn (ha.run pos pins s1 σ H1 _ I1 q) fun us s2 ⟨vs, H2, I2, r, ⟨C, dx, fs, hS, hi⟩, q2⟩ => ?_) he hpl
  obtain ⟨ox, od, J, hd⟩ := insC_at I2 (.inr ⟨dx, fs, hi⟩ : InsC X H2 a C)
  refine ⟨⟨C, ox, od, J, hd⟩, ?_⟩
  have c := hc C hS
  refine wpAny_call (PySem.W.kco_code I2.kIn J hd c.at_ c.fn c.fi (codeAny_mono (F X.A X.stack s2 H2 (.ref a :: us) (.ref a :: vs) Q (E σ) hr I2.env0 (.cons rfl r) q2) fun z s' hz => ?_))
  match z, hz with
  | .error u, hz => exact hx σ pins _ _ u s' I2 hz
  | .ok (.ret u), hz =>
    obtain ⟨v, H', I3, rv, q3⟩ := I2.after hz
    exact ⟨v, H', I3, rv, q3⟩
  | .ok .next, hz => exact hz.elim
  | .ok .brk, hz => exact hz.elim
  | .ok .cont, hz => exact hz.elim
end
section
variable {S : Addr → Prop} {sp : Sp} {E : L2.St → XK} {Ex : XK} {tf : TE} {t : TA} {σ : L2.St} {H : Hp} {Q : VK} {a C dx : Addr} {fs : List (Str × V)} {vs : List V}
theorem r_callF (q : tf σ H (kCallX S sp (E σ) t σ Q)) : tCallF S sp E tf t σ H Q := q
theorem r_kCallX (q : t σ H (kCallF S sp Ex a Q)) : kCallX S sp Ex t σ Q (.ref a) H := ⟨a, rfl, q⟩
theorem r_kCallF (hS : S C) (e : H a = some (.ins C dx fs)) (q : sp (.ref a :: vs) H Q Ex) : kCallF S sp Ex a Q vs H := ⟨⟨C, dx, fs, hS, e⟩, q⟩
end
/-! ### a, b = super().m(..) -/
theorem wpAt_Assign_stores {prog : Program} {w : World} {A : Around} {c : Code} {E : Value → Shared → Prop} {s : Shared} {env : Env} {targets : List Expr} {value : Expr} {pos : Pos} {Q : Flow → Shared → Prop}
    (h : _root_.PySem.wpAt (model prog w) A c (eval value env) (fun v s₁ => wpAny (model prog w) A (assignAll v ((assignEach targets env).map (·.2))) (fun _ => Q .next) E s₁) E s)
    (hs : swapsWithSole targets value pos.line env = pure false) (hw : swappedStores targets value env = pure none) : _root_.PySem.wpAt (model prog w) A c (exec (.Assign targets value pos) env) Q E s := by
  rw [exec_Assign_arm]
  refine _root_.PySem.wpAt_bind (_root_.PySem.wpAt_of_wpAny (wpAny_standAt ?_))
  rw [hs]
  refine _root_.PySem.wpAt_bind (_root_.PySem.wpAt_of_wpAny (wpAny_pure ?_))
  rw [if_neg (by decide)]
  refine _root_.PySem.wpAt_bind (_root_.PySem.ks_wpAt_mono h (fun v s₁ h₁ => _root_.PySem.wpAt_of_wpAny ?_) fun _ _ x => x)
  rw [hw]
  refine wpAny_bind (wpAny_pure ?_)
  show wpAny _ A (do assignAll v ((assignEach targets env).map (·.2)); pure .next) Q E s₁
  exact wpAny_bind (wpAny_mono h₁ (fun _ _ x => wpAny_pure x) fun _ _ x => x)
section
variable {X : Cx} {c : Code} {rest : List Stmt} {u : TS} {e tg : Expr} {te : TE} {g : TG} {pos : Pos}
theorem qs_asg (a : PEat X c e te) (hg : PG X tg g) (b : QS X c rest u) (hs : swapsWithSole [tg] e pos.line X.env = pure false := by rfl) (hw : swappedStores [tg] e X.env = pure none := by rfl)
    (h1 : (assignEach [tg] X.env).map (·.2) = [assign tg X.env] := by rfl) : QS X c (.Assign [tg] e pos :: rest) (tSeq (tAsg te g) u) := by
  constructor
  intro pins s σ H D I h
  refine _root_.PySem.ks_wpAt_execs_cons (wpAt_Assign_stores (_root_.PySem.ks_wpAt_mono (a.run pins s σ H _ I h) (fun v s1 w => ?_) fun _ _ z => z) hs hw)
  obtain ⟨x, H1, I1, r1, q1⟩ := w
  rw [h1]
  exact thn (hg.run pins s1 σ H1 x v _ I1 r1 q1) fun _ s2 ⟨σ', H', I', w'⟩ => b.run pins s2 σ' H' D I' w'
end
/-! ### what a def f(self, a, *v, **d) binds -/
theorem bind_starkw2 {B : List Value → Sem (List (Str × Value))} {p1 p2 pv pd : Str} (h0 : ∀ a b, B [a, b] = (newTuple [] >>= fun t => (alloc ({ cls := .type "dict", data := .dict #[] } : Obj) : Sem Addr) >>= fun d => pure [(p1, a), (p2, b), (pv, t), (pd, Value.ref d)]))
    (h1 : ∀ a b r rs, B (a :: b :: r :: rs) = (newTuple (r :: rs) >>= fun t => (alloc ({ cls := .type "dict", data := .dict #[] } : Obj) : Sem Addr) >>= fun d => pure [(p1, a), (p2, b), (pv, t), (pd, Value.ref d)])) :
    ∀ us rest : List Value, us.length = [p1, p2].length → B (us ++ rest) = (newTuple rest >>= fun t => (alloc ({ cls := .type "dict", data := .dict #[] } : Obj) : Sem Addr) >>= fun d => pure ([p1, p2].zip us ++ [(pv, t), (pd, Value.ref d)]))
  | [a, b], [], _ => h0 a b
  | [a, b], r :: rs, _ => h1 a b r rs
/-! ### X(e, *y), X an own class -/
section
variable {X : Cx} {CX : CXT} {k : Nat} {f C : Addr} {sp : Sp} {E : XK} {x : Str} {e : Expr} {es : List Expr} {t : TA} {p pos : Pos}
theorem pe_makeRS (M : Mk X.K C f) (F : FnR X.prog X.w X.K X.mg X.base CX k f sp) (hr : Room (k + 1) X.A) (hg : Gl X x) (hm : X.mg x = some (.ref C)) (hx : Passes CX X E) (ha : PA X (e :: es) t) (hdb : (x == ("__debug__" : Str)) = false := by decide)
    (he : starEach (e :: es) X.env = (false, eval e X.env) :: starEach es X.env := by rfl) (hst : (backTo pos (starEach es X.env)).any (·.1) = true := by rfl) : PE X (.Call (.Name x p) (e :: es) [] pos) (tMakeR C sp E t) := by
  refine ⟨fun pins s σ H Q I h => ?_⟩
  refine wpAny_Call_Name_kw (ld_glob I hg hm ?_ hdb)
  refine PySem.W.callWith_S2 (h₀ := X.base) I.ok.mod.kin M.kp (thn (ha.run pos pins s σ H _ I h) fun us s1 ⟨vs, H1, I1, r, q⟩ => ⟨I1.kIn, ?_⟩) he hst
  exact run_makeR M F hr hx I1 r q
end
section
variable {K : PySem.W.Frag} {te : TE} {t : TA} {σ : L2.St} {H : Hp} {QA : List V → Hp → Prop} {p : Addr} {xs : List V}
def kStar (K : PySem.W.Frag) (t : TA) (σ : L2.St) (QA : List V → Hp → Prop) : VK := fun x H1 => ∃ p xs, x = V.ref p ∧ (SqT K H1 p xs ∨ SqL K H1 p xs) ∧ t σ H1 fun ys H2 => QA (xs ++ ys) H2
theorem r_star (q : te σ H (kStar K t σ QA)) : tStar K te t σ H QA := q
theorem r_kStarT (h : SqT K H p xs) (q : t σ H fun ys H2 => QA (xs ++ ys) H2) : kStar K t σ QA (.ref p) H := ⟨p, xs, rfl, .inl h, q⟩
theorem r_kStarL (h : SqL K H p xs) (q : t σ H fun ys H2 => QA (xs ++ ys) H2) : kStar K t σ QA (.ref p) H := ⟨p, xs, rfl, .inr h, q⟩
end
end Rd

set_option maxHeartbeats 4000000
/-! Mx: tuples of a number and then numbers or texts, as the number says: sorted lists of them, sorted dicts with such keys. -/
namespace Rd
open PySem PySem.Spec L2 StX PyProof.Rows
open PySem.W (EachIs SortsAt sortVals sortVals_each sortLe sortVals_length KatLex kat_nil kat_cons kat_yes kat_no kat_go kat_lt kat_kind KatTups)
abbrev Tk := Int ⊕ List Nat
def tkOf : Key → Tk
  | .inl n => .inl n
  | .inr x => .inr x.cps.toList
def goodT : List Tk → Bool
  | .inl n :: r => if n < 3 then r.all Sum.isLeft else r.all Sum.isRight
  | _ => false
def itv : Value → Option Tk
  | .int n _ => some (.inl n)
  | .str x _ => some (.inr x.cps.toList)
  | _ => none
def itvs : List Value → Option (List Tk)
  | [] => some []
  | v :: r => (itv v).bind fun a => (itvs r).map (a :: ·)
theorem itvs_cons {v : Value} {r : List Value} {l : List Tk} (h : itvs (v :: r) = some l) : ∃ a l', itv v = some a ∧ itvs r = some l' ∧ l = a :: l' := by
  have h' : ((itv v).bind fun a => (itvs r).map (a :: ·)) = some l := h
  cases e : itv v with
  | none =>
    rw [e] at h'
    cases h'
  | some a =>
    rw [e] at h'
    cases e2 : itvs r with
    | none =>
      rw [e2] at h'
      cases h'
    | some l' =>
      rw [e2] at h'
      exact ⟨a, l', rfl, rfl, (Option.some.inj h').symm⟩
theorem itv_shape {v : Value} {a : Tk} (h : itv v = some a) : (∃ n t, v = .int n t ∧ a = .inl n) ∨ ∃ x t, v = .str x t ∧ a = .inr x.cps.toList := by
  cases v with
  | int n t => exact .inl ⟨n, t, rfl, (Option.some.inj h).symm⟩
  | str x t => exact .inr ⟨x, t, rfl, (Option.some.inj h).symm⟩
  | _ => cases h
def mxKey (h : Heap) : Value → Option (List Tk)
  | .ref a => match h.get? a with
    | some o => match o.data with
      | .seq xs _ => match itvs xs.toList with
        | some l => if goodT l = true then some l else none
        | none => none
      | _ => none
    | none => none
  | _ => none
@[reducible] def mxKind (h : Heap) : PyProof.Rows.KeyKind where
  toKeyOrd := listOrd itemOrd
  keyOf := mxKey h
  dflt := []
theorem mxKey_some {h : Heap} {v : Value} {l : List Tk} (hv : mxKey h v = some l) : ∃ a o xs n, v = .ref a ∧ h.get? a = some o ∧ o.data = .seq xs n ∧ itvs xs.toList = some l ∧ goodT l = true := by
  cases v with
  | ref a =>
    simp only [mxKey] at hv
    cases ho : h.get? a with
    | none => rw [ho] at hv; cases hv
    | some o =>
      rw [ho] at hv
      cases hd : o.data with
      | seq xs n =>
        simp only [hd] at hv
        cases hi : itvs xs.toList with
        | none => rw [hi] at hv; cases hv
        | some l' =>
          rw [hi] at hv
          dsimp only at hv
          by_cases g : goodT l' = true
          · rw [if_pos g] at hv
            cases hv
            exact ⟨a, o, xs, n, rfl, ho, hd, hi, g⟩
          · rw [if_neg g] at hv
            cases hv
      | _ => simp [hd] at hv
  | _ => simp [mxKey] at hv
theorem mxKey_at {h : Heap} {a : Addr} {o : Obj} {xs : Array Value} {n : Nat} {l : List Tk} (ho : h.get? a = some o) (hd : o.data = .seq xs n) (hi : itvs xs.toList = some l) (g : goodT l = true) : mxKey h (.ref a) = some l := by
  simp only [mxKey, ho, hd, hi, g, if_true]
def Cmp : List Tk → List Tk → Prop
  | x :: r, y :: t => x.isLeft = y.isLeft ∧ (x = y → Cmp r t)
  | _, _ => True
theorem cmp_of (b : Bool) : ∀ {l m : List Tk}, (∀ x ∈ l, x.isLeft = b) → (∀ x ∈ m, x.isLeft = b) → Cmp l m
  | [], _, _, _ => True.intro
  | _ :: _, [], _, _ => True.intro
  | x :: r, y :: t, h, g => ⟨(h x List.mem_cons_self).trans (g y List.mem_cons_self).symm, fun _ => cmp_of b (fun z m => h z (List.mem_cons_of_mem _ m)) fun z m => g z (List.mem_cons_of_mem _ m)⟩
theorem right_left {x : Tk} (h : x.isRight = true) : x.isLeft = false := by cases x <;> first | rfl | cases h
theorem good_cmp : ∀ {l m : List Tk}, goodT l = true → goodT m = true → Cmp l m
  | .inl n :: r, .inl k :: t, h, g => ⟨rfl, fun e => by
    have e : n = k := Sum.inl.inj e
    subst e
    have h : (if n < 3 then r.all Sum.isLeft else r.all Sum.isRight) = true := h
    have g : (if n < 3 then t.all Sum.isLeft else t.all Sum.isRight) = true := g
    by_cases c : n < 3
    · rw [if_pos c] at h g
      exact cmp_of true (fun x m => List.all_eq_true.mp h x m) fun x m => List.all_eq_true.mp g x m
    · rw [if_neg c] at h g
      exact cmp_of false (fun x m => right_left (List.all_eq_true.mp h x m)) fun x m => right_left (List.all_eq_true.mp g x m)⟩
  | [], _, h, _ => by cases h
  | .inr _ :: _, _, h, _ => by cases h
  | .inl _ :: _, [], _, h => by cases h
  | .inl _ :: _, .inr _ :: _, _, h => by cases h
section
variable {prog : Program} {w : World} {A : Around} {E : Value → Shared → Prop} {s : Shared}
theorem mx_lex {b fin : Bool} {Q : Bool → Shared → Prop} : ∀ (ps qs : List Value) (i : Nat) (as bs : List Tk),
    itvs ps = some as → itvs qs = some bs → Cmp as bs → fin = decide (ps.length < qs.length) → Q (lexLt itemOrd as bs) s → KatLex prog w A b fin Q (ps.zip qs) i s
  | [], [], i, as, bs, ha, hb, _, hf, h => by
    have ea : [] = as := Option.some.inj ha
    have eb : [] = bs := Option.some.inj hb
    subst ea; subst eb
    have e : fin = false := by rw [hf]; rfl
    subst e
    exact kat_nil h
  | [], q :: qs, i, as, bs, ha, hb, _, hf, h => by
    have ea : [] = as := Option.some.inj ha
    obtain ⟨x, l', _, _, eb⟩ := itvs_cons hb
    subst ea; subst eb
    have e : fin = true := by rw [hf]; exact decide_eq_true (Nat.succ_pos _)
    subst e
    exact kat_nil h
  | p :: ps, [], i, as, bs, ha, hb, _, hf, h => by
    have eb : [] = bs := Option.some.inj hb
    obtain ⟨x, l', _, _, ea⟩ := itvs_cons ha
    subst ea; subst eb
    have e : fin = false := by rw [hf]; exact decide_eq_false (Nat.not_lt_zero _)
    subst e
    exact kat_nil h
  | p :: ps, q :: qs, i, as, bs, ha, hb, hc, hf, h => by
    have hf' : fin = decide (ps.length < qs.length) := by
      rw [hf]; simp only [List.length_cons, Nat.add_lt_add_iff_right]
    obtain ⟨x, as', hx, ha', rfl⟩ := itvs_cons ha
    obtain ⟨y, bs', hy, hb', rfl⟩ := itvs_cons hb
    obtain ⟨hs, hc'⟩ := hc
    rcases itv_shape hx with ⟨n, t, rfl, rfl⟩ | ⟨u, t, rfl, rfl⟩
    · rcases itv_shape hy with ⟨m, t', rfl, rfl⟩ | ⟨v, t', rfl, rfl⟩
      · refine kat_cons (wpAny_eqBool_int (kat_go (fun e => kat_yes ?_) fun e => kat_no ?_))
        · have hnm : n = m := by simpa using e
          subst hnm
          rw [lex_self] at h
          exact mx_lex ps qs (i + 1) as' bs' ha' hb' (hc' rfl) hf' h
        · have hnm : ¬ n = m := by simpa using e
          rw [lex_diff (fun z => hnm (Sum.inl.inj z))] at h
          exact oneLt_any_int h
      · cases hs
    · rcases itv_shape hy with ⟨m, t', rfl, rfl⟩ | ⟨v, t', rfl, rfl⟩
      · cases hs
      · refine kat_cons (wpAny_eqBool_str (kat_go (fun e => kat_yes ?_) fun e => kat_no ?_))
        · have huv : u = v := of_decide_eq_true e
          subst huv
          rw [lex_self] at h
          exact mx_lex ps qs (i + 1) as' bs' ha' hb' (hc' rfl) hf' h
        · have huv : ¬ u = v := of_decide_eq_false e
          have hne : u.cps.toList ≠ v.cps.toList := fun hl => huv (PySem.W.str_of_cps hl)
          rw [lex_diff (fun z => hne (Sum.inr.inj z))] at h
          exact oneLt_any_str h
theorem mx_ltAt : PyProof.Rows.H.LtAt prog w A s (mxKind s.heap) (tuples' true) := by
  intro E x y as bs Q hx hy h
  obtain ⟨a₁, o₁, xs, n, rfl, ho₁, hd₁, hi₁, g₁⟩ := mxKey_some hx
  obtain ⟨a₂, o₂, ys, k, rfl, ho₂, hd₂, hi₂, g₂⟩ := mxKey_some hy
  exact kat_lt ho₁ hd₁ ho₂ hd₂ (mx_lex xs.toList ys.toList 0 as bs hi₁ hi₂ (good_cmp g₁ g₂) (by rw [Array.length_toList, Array.length_toList]) h)
/-- a value is a tuple with these items -/
def MxAt (h : Heap) (v : Value) (l : List Tk) : Prop := ∃ a o xs n, v = .ref a ∧ h.get? a = some o ∧ o.cls = .type "tuple" ∧ o.data = .seq xs n ∧ itvs xs.toList = some l
theorem MxAt.key {h : Heap} {v : Value} {l : List Tk} (m : MxAt h v l) (g : goodT l = true) : (mxKind h).keyOf v = some l := by
  obtain ⟨a, o, xs, n, rfl, ho, _, hd, hi⟩ := m
  exact mxKey_at ho hd hi g
theorem MxAt.keeps {h h' : Heap} {v : Value} {l : List Tk} (m : MxAt h v l) (k : ∀ b o, o.cls = .type "tuple" → h.get? b = some o → h'.get? b = some o) : MxAt h' v l := by
  obtain ⟨a, o, xs, n, rfl, ho, hc, hd, hi⟩ := m
  exact ⟨a, o, xs, n, rfl, k a o hc ho, hc, hd, hi⟩
theorem mx_tups {h : Heap} : ∀ {vs : List Value} {ls : List (List Tk)}, EachIs (MxAt h) vs ls → (∀ l ∈ ls, goodT l = true) → ∃ fs, KatTups h vs fs ∧ fs.length = vs.length ∧ ∀ f ∈ fs, ∃ n t, f = Value.int n t
  | _, _, .nil, _ => ⟨[], KatTups.nil, rfl, fun f m => nomatch m⟩
  | _, _, .cons (b := l) ⟨a, o, xs, n, ev, ho, hc, hd, hi⟩ t, hg => by
    obtain ⟨fs, h1, h2, h3⟩ := mx_tups t fun l m => hg l (List.mem_cons_of_mem _ m)
    have g := hg l List.mem_cons_self
    cases hx : xs.toList with
    | nil =>
      rw [hx] at hi
      cases hi
      cases g
    | cons f fr =>
      rw [hx] at hi
      obtain ⟨x, l', hf, _, rfl⟩ := itvs_cons hi
      have e0 : xs[0]? = some f := by rw [← Array.getElem?_toList, hx]; rfl
      rcases itv_shape hf with ⟨m, t', rfl, rfl⟩ | ⟨u, t', rfl, rfl⟩
      · refine ⟨Value.int m t' :: fs, ?_, by rw [List.length_cons, List.length_cons, h2], fun f hm => ?_⟩
        · rw [ev]
          exact KatTups.cons ho hc hd e0 h1
        · rcases List.mem_cons.mp hm with rfl | hm
          · exact ⟨m, t', rfl⟩
          · exact h3 f hm
      · cases g
theorem sorts_mx {vs : List Value} {ls : List (List Tk)} (e : EachIs (MxAt s.heap) vs ls) (hg : ∀ l ∈ ls, goodT l = true) : SortsAt prog w A s (mxKind s.heap) vs := by
  refine ⟨fun v hv => ?_, tuples' true, mx_ltAt, fun h2 E Q hq => ?_⟩
  · obtain ⟨l, hl, m⟩ := e.left v hv
    exact ⟨l, m.key (hg l hl)⟩
  · obtain ⟨fs, t1, t2, t3⟩ := mx_tups e hg
    have e' : (Value.type "int" != Value.type "tuple") = true := by first | rfl | decide
    refine kat_kind (T := Value.type "int") t1 (by omega) (fun v hv => ?_) rfl (by rw [e']; exact hq)
    obtain ⟨k, t, rfl⟩ := t3 v hv
    exact PySem.W.Looks.of_pure rfl
end
/-! ### the calls -/
def toks (k : List Key) : List Tk := k.map tkOf
def goodK (k : List Key) : Bool := goodT (toks k)
def mxLe {β : Type} (f : β → List Key) (a b : β) : Bool := sortLe (listOrd itemOrd) false (fun z => toks (f z)) a b
def srtK (ks : List (List Key)) : List (List Key) := ks.mergeSort (mxLe id)
theorem srtK_perm (ks : List (List Key)) : (srtK ks).Perm ks := List.mergeSort_perm _ _
theorem srtK_maps {β : Type} (f : β → List Key) (l : List β) : (l.mergeSort (mxLe f)).map f = srtK (l.map f) :=
  PySem.W.sort_maps (r := mxLe f) (s := mxLe id) f (l := l) (fun _ _ _ _ => rfl)
theorem vals_itvs : ∀ {ks : List Key} {us : List Value}, Vals (ks.map kV) us → itvs us = some (toks ks)
  | [], _, h => by
    cases h
    rfl
  | k :: ks, _, h => by
    cases h with
    | cons r t =>
      have ih := vals_itvs t
      cases k with
      | inl n =>
        obtain ⟨t', rfl⟩ := r
        show ((itv (Value.int n t')).bind fun a => (itvs _).map (a :: ·)) = _
        rw [ih]
        rfl
      | inr x =>
        obtain ⟨t', rfl⟩ := r
        show ((itv (Value.str x t')).bind fun a => (itvs _).map (a :: ·)) = _
        rw [ih]
        rfl
theorem each_ofv {β : Type} {f : β → Addr} {R : Value → β → Prop} : ∀ {zs : List β} {us : List Value}, Vals (zs.map fun z => V.ref (f z)) us → (∀ z ∈ zs, R (.ref (f z)) z) → EachIs R us zs
  | [], _, h, _ => by
    cases h
    exact .nil
  | z :: zs, _, h, g => by
    cases h with
    | cons r t =>
      cases r
      exact .cons (g z List.mem_cons_self) (each_ofv t fun b m => g b (List.mem_cons_of_mem _ m))
theorem each_maps2 {β γ : Type} {f : β → γ} {R : Value → γ → Prop} : ∀ {zs : List β} {us : List Value}, EachIs (fun u z => R u (f z)) us zs → EachIs R us (zs.map f)
  | _, _, .nil => .nil
  | _, _, .cons h t => .cons h (each_maps2 t)
theorem vals_ofe {β : Type} {f : β → Addr} : ∀ {zs : List β} {us : List Value}, EachIs (fun u z => u = Value.ref (f z)) us zs → Vals (zs.map fun z => V.ref (f z)) us
  | _, _, .nil => .nil
  | _, _, .cons h t => .cons h (vals_ofe t)
def rSortM (K : PySem.W.Frag) : List V → Hp → VK → Prop := fun vs H Q => ∃ (a : Addr) (zs : List (Addr × List Key)), vs = [.ref a] ∧ SqL K H a (zs.map fun z => V.ref z.1) ∧ (∀ z ∈ zs, H z.1 = some (.tup (z.2.map kV))) ∧ (∀ z ∈ zs, goodK z.2 = true) ∧ zs.length ≤ sizeLine ∧
  ∀ p, H p = none → Q (.ref p) (upd H p (.lst ((zs.mergeSort (mxLe Prod.snd)).map fun z => V.ref z.1)))
def rSortMD : List V → Hp → VK → Prop := fun vs H Q => ∃ (a : Addr) (kvs : List (List Key × V)), vs = [.ref a] ∧ Rd H a (.dT kvs) ∧ (∀ q ∈ kvs, goodK q.1 = true) ∧
  ∀ p ts, H p = none → Paired (fun t k => H t = some (.tup (k.map kV))) ts (srtK (kvs.map Prod.fst)) → Q (.ref p) (upd H p (.lst (ts.map V.ref)))
section
variable {X : Cx} {pins : List (Addr × Obj)} {σ : L2.St} {H : Hp} {s : Shared}
theorem mx_of (I : Inv X pins σ H s) {a : Addr} {k : List Key} (e : H a = some (.tup (k.map kV))) : MxAt s.heap (.ref a) (toks k) := by
  obtain ⟨_, its, r, o, h1, h2, n, h3⟩ := (show ObjOk X.prog X.w H s.heap a (.tup (k.map kV)) from I.hok a _ e)
  exact ⟨a, o, its.toArray, n, rfl, h1, h2, h3, by simpa using vals_itvs r⟩
theorem cr_sortM : CallR X (.builtin "sorted") (rSortM X.K) := by
  intro pins s σ H vs us Q I r h
  obtain ⟨a, zs, rfl, hs, ht, hg, hl, q⟩ := h
  obtain ⟨its, rv, hp, _⟩ := I.list hs
  rw [Vals.ref1 r]
  have hlen0 : its.length = zs.length := by
    have := rv.length
    rw [List.length_map] at this
    omega
  have kp : ∀ b o, o.cls = .type "tuple" → s.heap.get? b = some o → (PySem.W.sortingHeap (PySem.W.copyHeap s.heap its) (s.heap.objs.size + 1) its).get? b = some o := fun b o _ e => PySem.W.sorting_copy_old e
  have e1 : EachIs (fun u z => MxAt (PySem.W.sortingHeap (PySem.W.copyHeap s.heap its) (s.heap.objs.size + 1) its) u (toks z.2) ∧ u = Value.ref z.1 ∧ goodK z.2 = true) its zs :=
    each_ofv (f := Prod.fst) rv fun z m => ⟨(mx_of I (ht z m)).keeps kp, rfl, hg z m⟩
  refine PySem.W.sorted_vals (κ := mxKind (PySem.W.sortingHeap (PySem.W.copyHeap s.heap its) (s.heap.objs.size + 1) its)) hp.isList (sorts_mx (ls := zs.map fun z => toks z.2) (each_maps2 (e1.mono fun _ _ h => h.1)) fun l m => ?_) (by omega) ?_
  · obtain ⟨z, m', rfl⟩ := List.mem_map.mp m
    exact hg z m'
  have e2 := sortVals_each (κ := mxKind (PySem.W.sortingHeap (PySem.W.copyHeap s.heap its) (s.heap.objs.size + 1) its)) (rev := false) (R := fun u z => u = Value.ref z.1) (fun z : Addr × List Key => toks z.2) (e1.mono fun _ _ h => h.2.1) (e1.mono fun _ _ h => h.1.key h.2.2)
  obtain ⟨ep, he'⟩ := PyProof.Rows.sortedAll_at s.heap its (sortVals (mxKind (PySem.W.sortingHeap (PySem.W.copyHeap s.heap its) (s.heap.objs.size + 1) its)) false its its).toArray
  have hlen : ((zs.mergeSort (mxLe Prod.snd)).map fun z => V.ref z.1).length ≤ sizeLine := by
    rw [List.length_map, List.length_mergeSort]
    exact hl
  exact ⟨.ref _, upd H (s.heap.objs.size + 1) (.lst ((zs.mergeSort (mxLe Prod.snd)).map fun z => V.ref z.1)), I.laid (t' := s.toks) (fun _ _ => PyProof.Rows.sortedAll_old) (Nat.le_succ _) ⟨hlen, _, ep, vals_ofe (f := Prod.fst) e2, he'⟩, rfl, q _ (I.hok.fresh (Nat.le_succ _))⟩
theorem K_sortM {K : PySem.W.Frag} (hK : X.K = K) : CallR X (.builtin "sorted") (rSortM K) := by
  subst hK
  exact cr_sortM
theorem cr_sortMD (hc : X.calm = true) : CallR X (.builtin "sorted") rSortMD := by
  intro pins s σ H vs us Q I r h
  obtain ⟨d, kvs, rfl, hd, hg, q⟩ := h
  obtain rfl := Vals.ref1 r
  obtain ⟨z, hs, ks, pr, o, es, ep, ho, hx, hdt, he, hn⟩ := (show ObjOk X.prog X.w H s.heap d (.dT kvs) from hd.ok I.hok)
  have l1 : es.size = ks.length := size_of_entries he
  have l2 : kvs.length = ks.length := Paired.length pr
  refine Calls.call_function_entry PyProof.Rows.kind_sorted PyProof.Rows.plain_sorted PyProof.Rows.entry_sorted (PyProof.Rows.args_sorted1 _) ?_
  unfold Builtin.«sorted»
  refine wpAny_bind (m := checkCount "sorted" 1 1 _) (wpAny_pure ?_)
  refine wpAny_bind (PySem.W.kdu_collect (A := X.A.in1) (kdl_raw hs hx hdt) (I.ok.hd hc) ho (by omega) fun h' tk acc hk hacc => ?_)
  have ea : acc.toList = ks.map fun x => Value.ref x.2.1 := by
    have hl : acc.toList.length = ks.length := by rw [Array.length_toList, hacc.1]; exact l1
    apply List.ext_getElem?
    intro j
    rw [List.getElem?_map]
    cases hj : acc.toList[j]? with
    | none =>
      have h1 := List.getElem?_eq_none_iff.mp hj
      rw [List.getElem?_eq_none (by omega)]
      rfl
    | some v =>
      obtain ⟨en, hen, hv⟩ := hacc.2 j v (by rw [← Array.getElem?_toList]; exact hj)
      have qe := entry_at he j
      rw [hen] at qe
      cases hb : ks[j]? with
      | none =>
        rw [hb] at qe
        cases (show some en = none from qe)
      | some b =>
        rw [hb] at qe
        have e2 : en = entryOfKey (tupleKind (mixKind X.prog X.w)) b := Option.some.inj qe
        rw [hv, e2]
        rfl
  have I1 : Inv X pins σ H { s with heap := h', toks := tk } := I.kept hk
  have hal : acc.toList.length = ks.length := by rw [ea, List.length_map]
  refine wpAny_bind (wpAny_newList ?_ (by omega))
  have hoL : (h'.push (seqObj "list" acc.toList.toArray 0)).get? h'.objs.size = some (seqObj "list" acc.toList.toArray 0) := Heap.get?_push_size _ rfl
  show wpAny _ _ _ _ _ { s with heap := h'.push (seqObj "list" acc.toList.toArray 0), toks := tk }
  -- what the keys are
  have hks : ∀ x ∈ ks, H x.2.1 = some (.tup (x.1.map kV)) ∧ goodK x.1 = true := by
    intro x m
    obtain ⟨j, hj⟩ := List.mem_iff_getElem?.mp m
    have hjk : j < kvs.length := by
      rw [l2]
      exact (List.getElem?_eq_some_iff.mp hj).1
    obtain ⟨x', hx', r1, r2, _⟩ := LiI.paired_get pr (List.getElem?_eq_getElem hjk)
    have ee : x' = x := Option.some.inj (hx'.symm.trans hj)
    subst ee
    rw [← r1]
    exact ⟨r2, hg _ (List.getElem_mem hjk)⟩
  have hkeys : ks.map Prod.fst = kvs.map Prod.fst := by
    refine List.ext_getElem? fun j => ?_
    rw [List.getElem?_map, List.getElem?_map]
    by_cases hj : j < kvs.length
    · obtain ⟨x', hx', r1, _, _⟩ := LiI.paired_get pr (List.getElem?_eq_getElem hj)
      rw [hx', List.getElem?_eq_getElem hj]
      exact congrArg some r1.symm
    · rw [List.getElem?_eq_none (by omega), List.getElem?_eq_none (by omega)]
      rfl
  generalize hh2 : h'.push (seqObj "list" acc.toList.toArray 0) = h2 at hoL ⊢
  have k1 : ∀ b o, h'.get? b = some o → h2.get? b = some o := fun b o e => by rw [← hh2]; exact Heap.get?_push_of_some _ e
  have ne0 : ∀ b o, h'.get? b = some o → b ≠ h'.objs.size := fun b o e => Nat.ne_of_lt (Heap.lt_size e)
  have e1 : EachIs (fun u x => MxAt (PySem.W.sortingHeap h2 h'.objs.size acc.toList) u (toks x.1) ∧ u = Value.ref x.2.1 ∧ goodK x.1 = true) acc.toList ks := by
    rw [ea]
    refine each_of_maps fun x m => ?_
    have mz : MxAt h' (.ref x.2.1) (toks x.1) := mx_of I1 (hks x m).1
    exact ⟨mz.keeps fun b o _ e => PySem.W.sortingHeap_old (ne0 b o e) (k1 b o e), rfl, (hks x m).2⟩
  refine wpAny_bind (wpAny_holding (wpAny_call_entry PyProof.Rows.slot_list_sort ⟨_, hoL, rfl⟩ PyProof.Rows.entry_list_sort
    (PySem.W.list_sort_vals (s := { s with heap := h2, toks := tk }) (κ := mxKind (PySem.W.sortingHeap h2 h'.objs.size acc.toList)) hoL (sorts_mx (s := { s with heap := PySem.W.sortingHeap h2 h'.objs.size acc.toList, toks := tk }) (ls := ks.map fun x => toks x.1) (each_maps2 (e1.mono fun _ _ h => h.1)) fun l m => ?_) (by omega) ⟨_, rfl, ?_⟩)
    (PyProof.Rows.args_list_sort _)))
  · obtain ⟨x, m', rfl⟩ := List.mem_map.mp m
    exact (hks x m').2
  have e2 := sortVals_each (κ := mxKind (PySem.W.sortingHeap h2 h'.objs.size acc.toList)) (rev := false) (R := fun u x => u = Value.ref x.2.1) (fun x : List Key × Addr × Value => toks x.1) (e1.mono fun _ _ h => h.2.1) (e1.mono fun _ _ h => h.1.key h.2.2)
  obtain ⟨eF, heF⟩ := PyProof.Rows.sortedHeap_at (vs := acc.toList) (out := (sortVals (mxKind (PySem.W.sortingHeap h2 h'.objs.size acc.toList)) false acc.toList acc.toList).toArray) hoL
  have hlen : ((ks.mergeSort (mxLe Prod.fst)).map fun x => V.ref x.2.1).length ≤ sizeLine := by
    rw [List.length_map, List.length_mergeSort]
    omega
  refine wpAny_pure ⟨_, rfl, .ref h'.objs.size, upd H h'.objs.size (.lst (((ks.mergeSort (mxLe Prod.fst)).map fun x => x.2.1).map V.ref)), I1.laid (t' := tk) (fun b u e => ?_) (Nat.le_refl _)
    (show ObjOk X.prog X.w _ _ _ (.lst _) from ⟨?_, _, eF, ?_, heF⟩), rfl, q _ ((ks.mergeSort (mxLe Prod.fst)).map fun x => x.2.1) (I1.hok.fresh (Nat.le_refl _)) ?_⟩
  · exact (PyProof.Rows.sortedHeap_old (ne0 b u e) (Heap.lt_size (k1 b u e))).trans (k1 b u e)
  · rw [List.map_map]
    exact hlen
  · rw [List.map_map]
    exact vals_ofe (f := fun x : List Key × Addr × Value => x.2.1) e2
  · rw [← hkeys, ← srtK_maps Prod.fst ks]
    exact paired_maps fun x m => (hks x ((List.mergeSort_perm _ _).mem_iff.mp m)).1
end
end Rd

set_option maxHeartbeats 4000000
/-! DcT: dict comprehensions whose keys are tuples of numbers and texts; d[k] of such a dict. -/
namespace Rd
open PySem PySem.Spec L2 StX PyProof.Rows
/-! ### a pair put into a dict by a comprehension -/
theorem c_put {X : Cx} {pins : List (Addr × Obj)} {σ : L2.St} {H H' : Hp} {s : Shared} {E : Value → Shared → Prop} {D : Addr} {y v : V} {u r : Value} {Q : Unit → Shared → Prop} (hu : X.A.units + 1 < cLine) (I : Inv X pins σ H s) (g : DPut H D y v H')
    (ry : RelV y u) (rv : RelV v r) (h : ∀ s', Inv X pins σ H' s' → Q () s') : wpAny (model X.prog X.w) X.A (dictSet D u r) Q E s := by
  rcases g with ⟨kvs, k, e, ey, l, eH⟩ | ⟨kvs, k, b, e, ey, eb, l, eH⟩
  · subst ey eH
    exact d_dictSet I e l ry rv h
  · subst ey eH
    cases (show u = Value.ref b from ry)
    obtain ⟨z, hd, xs, rel, dd⟩ := dt_of I.hok e
    have hz : xs.length ≤ sizeLine := by rw [← Paired.length rel]; exact z
    have hl : (putK kvs k v).length ≤ sizeLine := by have := length_putK kvs k v; omega
    refine wpAny_dictSet_heap (hsz := hz) (show X.A.units < cLine by omega) (key_of I.hok eb) dd fun h' dd' hs => h _ ?_
    obtain ⟨q, es, ep, hq, h2, h3, h4, _, h5⟩ := dd'
    refine d_write I (by rw [e]; exact True.intro) hs ⟨q, hq⟩ ⟨hl, hd, _, (rel.put k eb rv).keeps fun c ys ec => ?_, q, es, ep, hq, h2, h3, h4, h5⟩
    rw [upd_ne (ne_of ec e (fun z => nomatch z))]
    exact ec
/-- {k: v for target in iter if ..}, the keys tuples -/
def kDcT (g : TG) (tt : TT) (tk tv : TE) (vs : List Nat) (σ : L2.St) (Q : VK) : It → Hp → Prop := fun J H1 => ∀ D, H1 D = none → ∃ W : Nat → Nat → Hp → Prop, (∃ m, W 0 m (upd H1 D (.dT []))) ∧ ∀ i m H, W i m H →
  (J.stop i H ∧ Q (.ref D) H) ∨ (J.go i H ∧ ∃ Nx : Hp → Prop, (∀ H', Nx H' → ∃ m', m' < m ∧ W (i + 1) m' H') ∧ ∀ x H', J.yld i H x H' → g x (wipe σ vs) H' fun σ2 H2 => wipe σ2 vs = wipe σ vs ∧ tt σ2 H2 fun b H3 =>
    if b = true then tk σ2 H3 fun y H4 => tv σ2 H4 fun z H5 => ∃ H6, DPut H5 D y z H6 ∧ Nx H6 else Nx H3)
def tDcT (wi : TI) (g : TG) (tt : TT) (tk tv : TE) (vs : List Nat) : TE := fun σ H Q => wi σ H (kDcT g tt tk tv vs σ Q)
section
variable {X : Cx}
theorem pe_dcT {kx vx tg iter : Expr} {ifs : List Expr} {scope : Scope} {own : List (Str × Nat)} {pos : Pos} {wi : TI} {g : TG} {tt : TT} {tk tv : TE} (hu : X.A.units + 1 < cLine) (hc : X.calm = true) (hN : X.N.Nodup) (hi : PI X tg iter wi) (ok : BlkOk X.N X.env.scope scope own)
    (hg : ∀ (s : Shared) (H : Hp) (C : Addr) (cl : List (Str × Addr)) (fp : List Addr), PG (X.blk s H scope (compEnvC scope cl C X.env) fp) tg g) (ht : ∀ (s : Shared) (H : Hp) (C : Addr) (cl : List (Str × Addr)) (fp : List Addr), PTs (X.blk s H scope (compEnvC scope cl C X.env) fp) ifs tt)
    (hk : ∀ (s : Shared) (H : Hp) (C : Addr) (cl : List (Str × Addr)) (fp : List Addr), PE (X.blk s H scope (compEnvC scope cl C X.env) fp) kx tk)
    (he : ∀ (s : Shared) (H : Hp) (C : Addr) (cl : List (Str × Addr)) (fp : List Addr), PE (X.blk s H scope (compEnvC scope cl C X.env) fp) vx tv) (hs : ∀ x, foldedSetIterable iter X.env x = pure x := by intro _; rfl) :
    PE X (.DictComp kx vx [⟨tg, iter, ifs, 0⟩] scope pos) (tDcT wi g tt tk tv (own.map (·.2))) := by
  refine ⟨fun pins s σ H Q I h => ?_⟩
  rw [arm_eval_DictComp]
  have free : ∀ y ∈ scope.names, y.2 = .free → ∃ c, X.env.cells.lookup y.1 = some c := fun y hy e => by
    rcases ok.free y hy e with k | k
    · exact I.ok.has _ (.inl k)
    · exact I.ok.has _ (.inr k)
  refine wpAny_comprehension_free rfl hs (closure_ok free) ok.kind (fun y hy e => by rw [ok.uniq y hy, e])
    (thn (hi.run pins s σ H _ I h) fun xv s1 hx => thn hx fun itv s2 h2 => ?_)
  obtain ⟨it, fp, tn, J, H2, rfl, I2, T, st2, f2, q⟩ := h2
  refine wpAny_newObj_type (newEnv_comp ?_)
  generalize hD : s2.heap.objs.size = D
  have hDn : H2 D = none := I2.hok.fresh (Nat.le_of_eq hD)
  obtain ⟨W, ⟨m0, w0⟩, turn⟩ := q D hDn
  -- the dict, empty
  generalize hs3 : ({ s2 with heap := s2.heap.push { cls := .type "dict", data := .dict #[] } } : Shared) = s3
  have h3 : s3.heap = s2.heap.push { cls := .type "dict", data := .dict #[] } := by rw [← hs3]
  have I3 : Inv X pins σ (upd H2 D (.dT [])) s3 := by
    rw [← hs3]
    refine I2.laid (t' := s2.toks) (fun b o e => Heap.get?_push_of_some _ e) (Nat.le_of_eq hD) ?_
    rw [← hD]
    exact dt_empty s2.heap I2.big
  have old : ∀ b ∈ fp, b < s2.heap.objs.size := fun b hb =>
    let ⟨_, e, _⟩ := T.obj _ _ st2 b hb
    Heap.lt_size e
  have f3 : ∀ b ∈ fp, FpOk X pins (upd H2 D (.dT [])) b ∧ b < s3.heap.objs.size := fun b hb => by
    refine ⟨⟨?_, (f2 b hb).2⟩, by rw [h3, Heap.size_push]; exact Nat.lt_succ_of_lt (old b hb)⟩
    rw [upd_ne (by rw [← hD]; exact Nat.ne_of_lt (old b hb))]
    exact (f2 b hb).1
  have st3 : tn 0 s3.heap := T.keep _ _ _ st2 fun b _ o e => by rw [h3]; exact Heap.get?_push_of_some _ e
  have I4 := block_start I3 ok hN f3
  -- what is read within the block
  have pg := hg s3 (upd H2 D (.dT [])) s3.heap.objs.size (cellsFrom (s3.heap.objs.size + 1) scope.names (cloFrom X.env.cells scope.names [])) fp
  have pt := ht s3 (upd H2 D (.dT [])) s3.heap.objs.size (cellsFrom (s3.heap.objs.size + 1) scope.names (cloFrom X.env.cells scope.names [])) fp
  have pk := hk s3 (upd H2 D (.dT [])) s3.heap.objs.size (cellsFrom (s3.heap.objs.size + 1) scope.names (cloFrom X.env.cells scope.names [])) fp
  have pv := he s3 (upd H2 D (.dT [])) s3.heap.objs.size (cellsFrom (s3.heap.objs.size + 1) scope.names (cloFrom X.env.cells scope.names [])) fp
  show codeAny _ _ (.compStart (.DictComp kx vx [⟨tg, iter, ifs, 0⟩] scope pos) 0 (.ref it) (.ref D) (compEnvC scope (cellsFrom (s3.heap.objs.size + 1) scope.names (cloFrom X.env.cells scope.names [])) s3.heap.objs.size X.env)) (compPost (model X.prog X.w) X.A X.xe none (EP X pins σ Q) (.ref D) s3.heap.objs.size) { s3 with heap := pushCells (s3.heap.push { cls := .type "dict", data := .dict #[] }) scope.names }
  have nfp : ∀ b ∈ fp, (upd H2 D (.dT [])) b = none := fun b hb => (f3 b hb).1.1
  generalize hce : compEnvC scope (cellsFrom (s3.heap.objs.size + 1) scope.names (cloFrom X.env.cells scope.names [])) s3.heap.objs.size X.env = ce at I4 pg pt pk pv ⊢
  have cL : ce.locals = s3.heap.objs.size := by subst hce; rfl
  generalize hH3 : upd H2 D (.dT []) = H3 at I3 I4 pg pt pk pv w0 nfp f3
  generalize hs4 : ({ s3 with heap := pushCells (s3.heap.push { cls := .type "dict", data := .dict #[] }) scope.names } : Shared) = s4 at I4 ⊢
  have st4 : tn 0 s4.heap := T.keep _ _ _ st3 fun b _ o e => by rw [← hs4]; exact pushCells_keeps _ _ _ _ (Heap.get?_push_of_some _ e)
  have stat : ∀ {σ' : L2.St} {H' : Hp} {s' : Shared}, Inv (X.blk s3 H3 scope ce fp) [] σ' H' s' → (∀ b ∈ fp, H' b = none) → ∀ b ∈ fp, FpOk (X.blk s3 H3 scope ce fp) [] H' b := fun {σ' H' s'} I' hn b hb =>
    ⟨hn b hb, (I'.ok.exf b hb).1, I'.ok.exfs b hb, .inl hb, fun x c e => (I'.ok.exf b hb).2 x c e, fun p hp => absurd (show p ∈ ([] : List (Addr × Obj)) ++ [] from hp) (by simp)⟩
  refine codeAny_compStart_dict ?_ (T.self X.A 0 _ _ _ st4 ?_)
  all_goals
    refine compLoop_anyD (fun n s' => ∃ i H', Inv (X.blk s3 H3 scope ce fp) [] (wipe σ (own.map (·.2))) H' s' ∧ tn i s'.heap ∧ (∀ b ∈ fp, H' b = none) ∧ W i n H') ?_ m0 ⟨0, H3, I4, st4, nfp, w0⟩
    rintro n s5 ⟨i, H5, I5, st5, n5, w5⟩
    rcases turn i n H5 w5 with ⟨stop, qq⟩ | ⟨go, Nx, hNx, step⟩
    · refine thnF (T.done (X.blk s3 H3 scope ce fp) rfl rfl rfl hc i [] s5 _ H5 (fun _ _ => False) I5 (stat I5 n5) st5 stop) fun r s6 ⟨hr, I6⟩ => ?_
      subst hr
      have I7 : Inv X pins σ H5 s6 := I3.call' (ch := fp) I6.os I6.base I6.hok I6.bare fun b hb => ⟨(f3 b hb).1.2.2.2.1, (f3 b hb).1.2.1, (f3 b hb).1.2.2.2.2.1, (f3 b hb).1.2.2.2.2.2⟩
      have nC : H5 s3.heap.objs.size = none := by
        have z : H5 ce.locals = none := I6.free
        rw [cL] at z
        exact z
      obtain ⟨m, hn, _⟩ := I6.loc
      have hn : s6.heap.Ns ce.locals m := hn
      rw [cL] at hn
      refine ⟨m, hn, fun h'' sb => ?_⟩
      obtain ⟨g0, g1, g2, g3, g4, g5⟩ := I3.fpOk (Nat.le_refl _) nC
      exact ⟨.ref D, H5, I7.turned (t' := s6.toks) (fun b o hb e => (sb.2 b hb).trans e) g0 g1 g3 g4 g5, rfl, qq⟩
    · refine thnF (T.item (X.blk s3 H3 scope ce fp) rfl rfl rfl hc i [] s5 _ H5 (fun _ _ => False) I5 (stat I5 n5) st5 go) fun r s6 ⟨u, hr, h6⟩ => ?_
      subst hr
      refine thnF h6 fun _ s7 ⟨x, H7, I7, r7, y7, st7, n7⟩ => ?_
      refine thnF (pg.run _ s7 _ H7 x u _ (I7.pinned (stat I7 n7) (T.obj _ _ st7)) r7 (step x H7 y7)) fun _ s8 ⟨σ8, H8, I8, hw8, q8⟩ => ?_
      refine thnF (pt.run _ s8 σ8 H8 _ I8 q8) fun b s9 ⟨H9, I9, q9⟩ => ?_
      have fin : ∀ {s' : Shared} {H' : Hp}, Inv (X.blk s3 H3 scope ce fp) ([] ++ pinsAt fp s7.heap) σ8 H' s' → Nx H' → ∃ m, m < n ∧ ∃ i H', Inv (X.blk s3 H3 scope ce fp) [] (wipe σ (own.map (·.2))) H' s' ∧ tn i s'.heap ∧ (∀ b ∈ fp, H' b = none) ∧ W i m H' := fun {s' H'} I' nx => by
        obtain ⟨m', hm, w'⟩ := hNx H' nx
        have pin' : ∀ b ∈ fp, ∀ o, s7.heap.get? b = some o → s'.heap.get? b = some o ∧ H' b = none := fun b hb o e =>
          let z := I'.pin (b, o) (List.mem_append_right _ (List.mem_append_right _ (mem_pinsAt hb e)))
          ⟨z.1, z.2.1⟩
        refine ⟨m', hm, i + 1, H', (I'.unpinned (pins := [])).weak (by rw [← hw8, wipe_length]) (fun j v e => ?_), T.keep _ _ _ st7 fun b hb o e => (pin' b hb o e).1, fun b hb => ?_, w'⟩
        · rw [← hw8] at e
          exact (wipe_some e).1
        · obtain ⟨o, e, _⟩ := T.obj _ _ st7 b hb
          exact (pin' b hb o e).2
      cases b with
      | false =>
        simp only [Bool.false_eq_true, if_false] at q9 ⊢
        exact fin I9 q9
      | true =>
        simp only [if_true] at q9 ⊢
        refine thnF (pk.run _ s9 σ8 H9 _ I9 q9) fun z s10 ⟨yk, H10, I10, r10, q10⟩ => ?_
        refine thnF (pv.run _ s10 σ8 H10 _ I10 q10) fun z2 s11 ⟨yv, H11, I11, r11, H12, hp, nx⟩ => ?_
        exact c_put (X := X.blk s3 H3 scope ce fp) hu I11 hp r10 r11 fun s12 I12 => fin I12 nx
end
end Rd

set_option maxHeartbeats 4000000
/-! OwnFor: loops and comprehensions over an object whose own __iter__ returns a list's iterator. -/
namespace Rd
open PySem PySem.Spec L2 PyProof.Rows ItX
/-! ### a base as large as is wanted -/
def freedObj : Obj := { cls := .none, data := .freed }
def padB (N : Nat) (b : Heap) : Heap := { b with objs := b.objs ++ Array.replicate (N - b.objs.size) freedObj }
theorem padB_get (N : Nat) (b : Heap) (a : Addr) : (padB N b).get? a = b.get? a := by
  unfold padB Heap.get?
  dsimp only
  rw [Array.getElem?_append]
  by_cases h : a < b.objs.size
  · rw [if_pos h]
  · rw [if_neg h, Array.getElem?_eq_none (Nat.le_of_not_lt h), Array.getElem?_replicate]
    by_cases h2 : a - b.objs.size < N - b.objs.size
    · rw [if_pos h2]
      rfl
    · rw [if_neg h2]
theorem padB_size {N : Nat} {b : Heap} (h : b.objs.size ≤ N) : (padB N b).objs.size = N := by
  show (b.objs ++ Array.replicate (N - b.objs.size) freedObj).size = N
  rw [Array.size_append, Array.size_replicate]
  omega
/-- a def whose results know the base's size -/
def FnY (P : Program) (w : World) (K : PySem.W.Frag) (mg : Str → Option Value) (k : Nat) (f : Addr) (sp : Nat → Sp) : Prop := ∀ base : Heap, K.In base → base.Ns mainGlobals mg → FnR P w K mg base CX0 k f (sp base.objs.size)
theorem env_pad {P : Program} {w : World} {K : PySem.W.Frag} {mg : Str → Option Value} {base : Heap} {A : Around} {outer : List Env} {s : Shared} {H : Hp} {N : Nat} (e : Env0 P w K mg base A outer s H) (hf : ∀ L ∈ frs outer, base.get? L = none) (h : base.objs.size ≤ N) (hN : N ≤ s.heap.objs.size) : Env0 P w K mg (padB N base) A outer s H := by
  have k : ∀ b o, base.get? b = some o → (padB N base).get? b = some o := fun b o q => (padB_get N base b).trans q
  obtain ⟨e1, ⟨m1, m2, ⟨mb, m3, m4⟩, m5⟩, e3, e4, e5, e6, e7, e8⟩ := e
  exact ⟨e1, ⟨m1.keeps k, m2.keeps k, ⟨mb, m3.keeps k, m4⟩, m5.keeps k⟩, fun b o q => e3 b o ((padB_get N base b).symm.trans q), by rw [padB_size h]; exact hN, funFrames_none e5 fun L hL => (padB_get N base L).trans (hf L hL), e6, e7, e8⟩
/-! ### iter(list), young -/
section
variable {X : Cx}
theorem call_iterB : CallR X (.builtin "iter") (rIterN X.K X.base.objs.size) := by
  intro pins s σ H xs us Q I r h
  obtain ⟨l, zs, rfl, hq, q⟩ := h
  obtain ⟨u, rfl, ru⟩ := vals1 r
  cases ru
  obtain ⟨its, rv, pl, hz⟩ := I.list hq
  refine GNX.call_iter pl.isList ?_
  exact ⟨.ref s.heap.objs.size, _, I.laid (t' := s.toks) (fun b u e => Heap.get?_push_of_some _ e) (Nat.le_refl _) (itO_ok (Heap.get?_push_size _ rfl)), rfl, q _ (I.hok.fresh (Nat.le_refl _)) (Nat.le_trans I.ok.bsz I.sz)⟩
theorem K_iterB {K : PySem.W.Frag} {base : Heap} (hK : X.K = K) (hB : X.base = base) : CallR X (.builtin "iter") (rIterN K base.objs.size) := by
  subst hK hB
  exact call_iterB
theorem r_iterB {K : PySem.W.Frag} {H : Hp} {Q : VK} {l : Addr} {zs : List V} {N : Nat} (h : SqL K H l zs) (q : ∀ it, H it = none → N ≤ it → Q (.ref it) (upd H it (ItO l it 0))) : rIterN K N [.ref l] H Q := ⟨l, zs, rfl, h, q⟩
end
/-! ### over an object -/
def kOwn (K : PySem.W.Frag) (C : Addr) (sp : Sp) (N : Nat) (R : It → Hp → Prop) : VK := fun v H1 => ∃ a dx fs l, v = .ref a ∧ H1 a = some (.ins C dx fs) ∧
  sp [.ref a] H1 (fun u H2 => ∃ it, u = .ref it ∧ H1 it = none ∧ N ≤ it ∧ H2 = upd H1 it (ItO l it 0) ∧ R (Itl K l) H1) E0
def iOwn (K : PySem.W.Frag) (C : Addr) (sp : Nat → Sp) (N : Nat) (td : TE) : TI := fun σ H R => td σ H (kOwn K C (sp N) N R)
theorem itlF_0 (K : PySem.W.Frag) (l : Addr) : ItlF K l 0 = Itl K l := by
  unfold ItlF
  simp only [Nat.zero_add]
section
variable {X : Cx}
theorem pi_own {tg e : Expr} {td : TE} {C f : Addr} {sp : Nat → Sp} {n : Nat} (he : PE X e td) (it_ : PySem.W.findIn X.K (.ref C) "__iter__" = some (some (.ref f))) (itF : PySem.W.isFn X.K (.ref f) = true) (FI : FnY X.prog X.w X.K X.mg n f sp) (hr : Room n X.A) :
    PI X tg e (iOwn X.K C sp X.s_0.heap.objs.size td) := by
  refine ⟨fun pins s σ H R I h => ?_⟩
  refine thn (he.run pins s σ H _ I h) fun u s1 ⟨v, H1, I1, rv, a, dx, fs, l, ev, ha, q⟩ => ?_
  subst ev
  cases rv
  obtain ⟨mA, J, _⟩ := ins_get I1.hok ha
  obtain ⟨od, J, _⟩ := J.look
  obtain ⟨m0, hF⟩ := I1.fr
  refine PySem.W.owit_iter hF I1.ok.mod.kin J it_ itF ?_
  have e := I1.env0
  have hfr : ∀ L ∈ frs X.stack, X.base.get? L = none := fun L hL => by
    cases q : X.base.get? L with
    | none => rfl
    | some o => exact absurd hL (fun z => by
        have := I1.stack.mem z
        rw [q] at this
        cases this.1)
  have e' := env_pad (N := X.s_0.heap.objs.size) e hfr I1.ok.bsz I1.sz
  have k : ∀ b o, X.base.get? b = some o → (padB X.s_0.heap.objs.size X.base).get? b = some o := fun b o q => (padB_get _ X.base b).trans q
  have F := FI (padB X.s_0.heap.objs.size X.base) (I1.ok.mod.kin.keeps k) (I1.ok.mod.glob.keeps k)
  rw [padB_size I1.ok.bsz] at F
  refine wpAny_call (codeAny_mono (F X.A X.stack s1 H1 [.ref a] [.ref a] _ E0 hr e' (.cons rfl .nil) q) fun r s' z => ?_)
  cases r with
  | error e => exact False.elim z
  | ok fl =>
    cases fl with
    | next => exact False.elim z
    | brk => exact False.elim z
    | cont => exact False.elim z
    | ret u =>
      obtain ⟨v, H2, I2, rv, it, rfl, hn, hN, rfl, qR⟩ := I1.after z
      cases (show u = Value.ref it from rv)
      have hi : upd H1 it (ItO l it 0) it = some (ItO l it 0) := upd_same
      have eo := itO_get I2 hi
      have st : s'.heap.IsListIter it l (0 + 0) := ⟨_, eo, rfl, rfl⟩
      have hty : s'.TypeIs (.ref it) "list_iterator" := ⟨_, eo, rfl⟩
      have hi' := hi
      unfold ItO at hi'
      have I3 := inv_drop I2 hi'
      have ed : dropH (upd H1 it (ItO l it 0)) it = H1 := dropH_upd hn
      have fp := inv_fp I2 hi hN
      rw [ed] at I3 fp
      unfold PySem.W.OwitIt
      refine wpAny_specialOf hty slot_listiter_next.lookup ?_
      refine ⟨it, [it], (fun i h => h.IsListIter it l (0 + i)), Itl X.K l, H1, rfl, I3, ?_, st, fun b hb => ?_, qR⟩
      · rw [← itlF_0]
        exact turn_listF l it 0
      · have e : b = it := by simpa using hb
        rw [e]
        exact fp
end
end Rd

set_option maxHeartbeats 4000000
/-! Lc2: [e for x in a for y in b]. -/
namespace Rd
open PySem PySem.Spec L2 StX
def kIn2 (g1 : TG) (tt1 : TT) (te : TE) (vs1 : List Nat) (σ2 : St) (D : Addr) (Nx : Hp → Prop) : It → Hp → Prop := fun J1 H4 => ∃ W1 : Nat → Nat → Hp → Prop, (∃ m, W1 0 m H4) ∧ ∀ j k H, W1 j k H →
  (J1.stop j H ∧ Nx H) ∨ (J1.go j H ∧ ∃ Nx1 : Hp → Prop, (∀ H', Nx1 H' → ∃ k', k' < k ∧ W1 (j + 1) k' H') ∧ ∀ x H', J1.yld j H x H' → g1 x (wipe σ2 vs1) H' (kTurn tt1 te (wipe σ2 vs1) vs1 D Nx1))
def kKeep2 (wi1 : TI) (g1 : TG) (tt1 : TT) (te : TE) (vs1 : List Nat) (σ2 : St) (D : Addr) (Nx : Hp → Prop) : Bool → Hp → Prop := fun b H3 => if b = true then wi1 σ2 H3 (kIn2 g1 tt1 te vs1 σ2 D Nx) else Nx H3
def kTurn2 (tt : TT) (wi1 : TI) (g1 : TG) (tt1 : TT) (te : TE) (vs vs1 : List Nat) (σ0 : St) (D : Addr) (Nx : Hp → Prop) : St → Hp → Prop := fun σ2 H2 => wipe σ2 vs = σ0 ∧ tt σ2 H2 (kKeep2 wi1 g1 tt1 te vs1 σ2 D Nx)
def kLc2 (g : TG) (tt : TT) (wi1 : TI) (g1 : TG) (tt1 : TT) (te : TE) (vs vs1 : List Nat) (σ : St) (Q : VK) : It → Hp → Prop := fun J H1 => ∀ D, H1 D = none → ∃ W : Nat → Nat → Hp → Prop, (∃ m, W 0 m (upd H1 D (.lst []))) ∧ ∀ i m H, W i m H →
  (J.stop i H ∧ Q (.ref D) H) ∨ (J.go i H ∧ ∃ Nx : Hp → Prop, (∀ H', Nx H' → ∃ m', m' < m ∧ W (i + 1) m' H') ∧ ∀ x H', J.yld i H x H' → g x (wipe σ vs) H' (kTurn2 tt wi1 g1 tt1 te vs vs1 (wipe σ vs) D Nx))
section
variable {σ : St} {H : Hp} {Q : VK} {wi wi1 : TI} {g g1 : TG} {tt tt1 : TT} {te : TE} {vs vs1 : List Nat} {J J1 : It} {n : Nat} {G : Hp → Prop} {Y : Nat → Hp → V → Hp → Prop} {D p : Addr} {K : PySem.W.Frag} {xs : List V}
theorem r_lc2 (q : wi σ H (kLc2 g tt wi1 g1 tt1 te vs vs1 σ Q)) : tLc2 wi g tt wi1 g1 tt1 te vs vs1 σ H Q := q
theorem r_kTurn2 {σ0 : St} {Nx : Hp → Prop} (h : wipe σ vs = σ0) (q : tt σ H (kKeep2 wi1 g1 tt1 te vs1 σ D Nx)) : kTurn2 tt wi1 g1 tt1 te vs vs1 σ0 D Nx σ H := ⟨h, q⟩
theorem r_kKeep2 {Nx : Hp → Prop} {b : Bool} (h : b = true) (q : wi1 σ H (kIn2 g1 tt1 te vs1 σ D Nx)) : kKeep2 wi1 g1 tt1 te vs1 σ D Nx b H := by
  subst h
  exact q
theorem r_kLc2 (w : Walk J n G Y) (Pv : Addr → Nat → List V → Hp → Prop) (h0 : ∀ D H', H D = none → Kp [] H H' → H' D = some (.lst []) → Pv D 0 [] H') (hG : ∀ D i acc H', i ≤ n → Pv D i acc H' → G H')
    (hs : ∀ D i acc x H' H'', H D = none → i < n → H' D = some (.lst acc) → Pv D i acc H' → Y i H' x H'' → g x (wipe σ vs) H'' (kTurn2 tt wi1 g1 tt1 te vs vs1 (wipe σ vs) D (kN (Pv D (i + 1)) D)))
    (hd : ∀ D acc H', H D = none → H' D = some (.lst acc) → Pv D n acc H' → Q (.ref D) H') : kLc2 g tt wi1 g1 tt1 te vs vs1 σ Q J H := by
  intro D hD
  refine ⟨fun i m H => m = n - i ∧ i ≤ n ∧ kN (Pv D i) D H, ⟨n, by simp, Nat.zero_le _, [], upd_same, h0 D _ hD (Kp.new hD) upd_same⟩, ?_⟩
  rintro i m H' ⟨rfl, hi, acc, e, pv⟩
  have q := hG D i acc H' hi pv
  by_cases hlt : i < n
  · exact .inr ⟨w.goes i H' hlt q, kN (Pv D (i + 1)) D, fun H'' p' => ⟨n - (i + 1), by omega, rfl, hlt, p'⟩, fun x H'' y => hs D i acc x H' H'' hD hlt e pv (w.yields i H' x H'' hlt q y)⟩
  · have ei : i = n := by omega
    subst ei
    exact .inl ⟨w.stops H' q, hd D acc H' hD e pv⟩
theorem r_kIn2 (w : Walk J1 n G Y) (Pv : Nat → List V → Hp → Prop) {PN : List V → Hp → Prop} {acc0 : List V} (e0 : H D = some (.lst acc0)) (h0 : Pv 0 acc0 H) (hG : ∀ i acc H', i ≤ n → Pv i acc H' → G H')
    (hs : ∀ i acc x H' H'', i < n → H' D = some (.lst acc) → Pv i acc H' → Y i H' x H'' → g1 x (wipe σ vs1) H'' (kTurn tt1 te (wipe σ vs1) vs1 D (kN (Pv (i + 1)) D)))
    (hd : ∀ acc H', H' D = some (.lst acc) → Pv n acc H' → PN acc H') : kIn2 g1 tt1 te vs1 σ D (kN PN D) J1 H := by
  refine ⟨fun i m H => m = n - i ∧ i ≤ n ∧ kN (Pv i) D H, ⟨n, by simp, Nat.zero_le _, acc0, e0, h0⟩, ?_⟩
  rintro i m H' ⟨rfl, hi, acc, e, pv⟩
  have q := hG i acc H' hi pv
  by_cases hlt : i < n
  · exact .inr ⟨w.goes i H' hlt q, kN (Pv (i + 1)) D, fun H'' p' => ⟨n - (i + 1), by omega, rfl, hlt, p'⟩, fun x H'' y => hs i acc x H' H'' hlt e pv (w.yields i H' x H'' hlt q y)⟩
  · have ei : i = n := by omega
    subst ei
    exact .inl ⟨w.stops H' q, acc, e, hd acc H' e pv⟩
theorem r_kLc2Q (Pv : Addr → Nat → List V → Hp → Prop) (hq : Sq K H p xs) (h0 : ∀ D H', H D = none → Kp [] H H' → H' D = some (.lst []) → Pv D 0 [] H') (hG : ∀ D i acc H', i ≤ xs.length → Pv D i acc H' → Kp [] H H')
    (hs : ∀ D (i : Nat) acc x H', H D = none → xs[i]? = some x → H' D = some (.lst acc) → Pv D i acc H' → g x (wipe σ vs) H' (kTurn2 tt wi1 g1 tt1 te vs vs1 (wipe σ vs) D (kN (Pv D (i + 1)) D)))
    (hd : ∀ D acc H', H D = none → H' D = some (.lst acc) → Pv D xs.length acc H' → Q (.ref D) H') : cWQ K (kLc2 g tt wi1 g1 tt1 te vs vs1 σ Q) (.ref p) H := by
  rcases hq with h | h
  · refine r_cWQl h (r_kLc2 walk_list Pv h0 (fun D i acc H' hi p => sql_kp h (hG D i acc H' hi p) not_nil) (fun D i acc x H' H'' hD hi e hp y => ?_) hd)
    obtain ⟨rfl, ey⟩ := y
    exact hs D i acc x _ hD ey e hp
  · refine r_cWQt h (r_kLc2 walk_tup Pv h0 (fun D i acc H' hi p => sqt_kp h (hG D i acc H' hi p) not_nil) (fun D i acc x H' H'' hD hi e hp y => ?_) hd)
    obtain ⟨rfl, ey⟩ := y
    exact hs D i acc x _ hD ey e hp
theorem r_kIn2R {m : Nat} (Pv : Nat → List V → Hp → Prop) {PN : List V → Hp → Prop} {acc0 : List V} (e0 : H D = some (.lst acc0)) (h0 : Pv 0 acc0 H)
    (hs : ∀ (i : Nat) acc H', i < m → H' D = some (.lst acc) → Pv i acc H' → g1 (.int (i : Int)) (wipe σ vs1) H' (kTurn tt1 te (wipe σ vs1) vs1 D (kN (Pv (i + 1)) D)))
    (hd : ∀ acc H', H' D = some (.lst acc) → Pv m acc H' → PN acc H') : kIn2 g1 tt1 te vs1 σ D (kN PN D) (Itr 0 m) H := by
  refine r_kIn2 walk_range Pv e0 h0 (fun _ _ _ _ _ => trivial) (fun i acc x H' H'' hi e hp y => ?_) hd
  obtain ⟨rfl, rfl⟩ := y
  have e' : V.int ((0 : Int) + (i : Int)) = V.int (i : Int) := congrArg V.int (by omega)
  show g1 (V.int ((0 : Int) + (i : Int))) (wipe σ vs1) _ _
  rw [e']
  exact hs i acc _ hi e hp
end
end Rd

set_option maxHeartbeats 4000000
/-! SlM: readings for dict comprehensions with tuple keys and d[k]; classmethods; cls(*xs). -/
namespace Rd
open PySem PySem.Spec L2 PyProof.Rows
section
variable {σ : L2.St} {H : Hp} {Q : VK} {wi : TI} {g : TG} {tt : TT} {tk tv : TE} {vs : List Nat} {J : It} {n : Nat} {G : Hp → Prop} {Y : Nat → Hp → V → Hp → Prop} {p : Addr} {K : PySem.W.Frag} {xs : List V} {x y : V}
def kNT (Pv : List (List Key × V) → Hp → Prop) (D : Addr) : Hp → Prop := fun H' => ∃ kvs, H' D = some (.dT kvs) ∧ Pv kvs H'
def kPutT (D : Addr) (N : Hp → Prop) (y : V) : VK := fun z H5 => ∃ H6, DPut H5 D y z H6 ∧ N H6
def kKeepT (tk tv : TE) (σ : L2.St) (D : Addr) (N : Hp → Prop) : Bool → Hp → Prop := fun b H3 => if b = true then tk σ H3 (fun y H4 => tv σ H4 (kPutT D N y)) else N H3
def kTurnT (tt : TT) (tk tv : TE) (σ0 : L2.St) (vs : List Nat) (D : Addr) (N : Hp → Prop) : L2.St → Hp → Prop := fun σ2 H2 => wipe σ2 vs = σ0 ∧ tt σ2 H2 (kKeepT tk tv σ2 D N)
theorem r_dcT (q : wi σ H (kDcT g tt tk tv vs σ Q)) : tDcT wi g tt tk tv vs σ H Q := q
theorem r_kTurnT {σ0 : L2.St} {D : Addr} {N : Hp → Prop} (h : wipe σ vs = σ0) (q : tt σ H (kKeepT tk tv σ D N)) : kTurnT tt tk tv σ0 vs D N σ H := ⟨h, q⟩
theorem r_kKeepT1 {D : Addr} {N : Hp → Prop} {b : Bool} (h : b = true) (q : tk σ H (fun y H4 => tv σ H4 (kPutT D N y))) : kKeepT tk tv σ D N b H := by
  subst h
  exact q
theorem r_kPutT {D b : Addr} {kvs : List (List Key × V)} {k : List Key} {Pv : List (List Key × V) → Hp → Prop} (e : H D = some (.dT kvs)) (eb : H b = some (.tup (k.map kV))) (h : kvs.length < sizeLine) (q : ∀ H5, Kp [D] H H5 → H5 D = some (.dT (putK kvs k y)) → Pv (putK kvs k y) H5) : kPutT D (kNT Pv D) (.ref b) y H :=
  ⟨_, DPut.t e eb h, _, upd_same, q _ (Kp.put (by simp)) upd_same⟩
theorem r_kDcT (w : Walk J n G Y) (Pv : Addr → Nat → List (List Key × V) → Hp → Prop) (h0 : ∀ D H', H D = none → Kp [] H H' → H' D = some (.dT []) → Pv D 0 [] H') (hG : ∀ D i acc H', i ≤ n → Pv D i acc H' → G H')
    (hs : ∀ D i acc x H' H'', H D = none → i < n → H' D = some (.dT acc) → Pv D i acc H' → Y i H' x H'' → g x (wipe σ vs) H'' (kTurnT tt tk tv (wipe σ vs) vs D (kNT (Pv D (i + 1)) D)))
    (hd : ∀ D acc H', H D = none → H' D = some (.dT acc) → Pv D n acc H' → Q (.ref D) H') : kDcT g tt tk tv vs σ Q J H := by
  intro D hD
  refine ⟨fun i m H' => m = n - i ∧ i ≤ n ∧ kNT (Pv D i) D H', ⟨n, by simp, Nat.zero_le _, [], upd_same, h0 D _ hD (Kp.new hD) upd_same⟩, ?_⟩
  rintro i m H' ⟨rfl, hi, acc, e, p⟩
  have q := hG D i acc H' hi p
  by_cases hlt : i < n
  · exact .inr ⟨w.goes i H' hlt q, kNT (Pv D (i + 1)) D, fun H2 p' => ⟨n - (i + 1), by omega, rfl, hlt, p'⟩, fun x H2 y => hs D i acc x H' H2 hD hlt e p (w.yields i H' x H2 hlt q y)⟩
  · have e' : i = n := by omega
    subst e'
    exact .inl ⟨w.stops H' q, hd D acc H' hD e p⟩
theorem r_kDcTT (Pv : Addr → Nat → List (List Key × V) → Hp → Prop) (h0 : ∀ D H', H D = none → Kp [] H H' → H' D = some (.dT []) → Pv D 0 [] H') (hG : ∀ D i acc H', i ≤ xs.length → Pv D i acc H' → SqT K H' p xs)
    (hs : ∀ D (i : Nat) acc x H', H D = none → xs[i]? = some x → H' D = some (.dT acc) → Pv D i acc H' → g x (wipe σ vs) H' (kTurnT tt tk tv (wipe σ vs) vs D (kNT (Pv D (i + 1)) D)))
    (hd : ∀ D acc H', H D = none → H' D = some (.dT acc) → Pv D xs.length acc H' → Q (.ref D) H') : kDcT g tt tk tv vs σ Q (Itt K p) H := by
  refine r_kDcT walk_tup Pv h0 hG (fun D i acc x H' H'' hD hi e hp y => ?_) hd
  obtain ⟨rfl, ey⟩ := y
  exact hs D i acc x _ hD ey e hp
theorem r_kDGT {D b : Addr} {kvs : List (List Key × V)} {k : List Key} {v : V} (e : H D = some (.dT kvs)) (eb : H b = some (.tup (k.map kV))) (hv : valV kvs k = some v) (q : Q v H) : kDG Q (.ref D) (.ref b) H :=
  ⟨D, v, rfl, hv ▸ DGet.t e eb, q⟩
/-- iteration over an object -/
theorem r_own {C : Addr} {sp : Nat → Sp} {N : Nat} {td : TE} {R : It → Hp → Prop} (q : td σ H (kOwn K C (sp N) N R)) : iOwn K C sp N td σ H R := q
theorem r_sortMD {a : Addr} {kvs : List (List Key × V)} (e : H a = some (.dT kvs)) (hg : ∀ q ∈ kvs, goodK q.1 = true) (q : ∀ p H' ts, H p = none → Kp [] H H' → H' p = some (.lst (ts.map V.ref)) → Paired (fun t k => H t = some (.tup (k.map kV))) ts (srtK (kvs.map Prod.fst)) → Q (.ref p) H') : rSortMD [.ref a] H Q :=
  ⟨a, kvs, rfl, .inl e, hg, fun p ts n h => q p _ ts n (Kp.new n) upd_same h⟩
end
/-! ### C.m(e, ..), m a classmethod -/
def kCMeth (C : Addr) (sp : Sp) (E : XK) (t : TA) (σ : L2.St) (Q : VK) : VK := fun x H1 => x = .ref C ∧ t σ H1 fun vs H2 => sp (.ref C :: vs) H2 Q E
def tCMethR (C : Addr) (sp : Sp) (E : XK) (ta : TE) (t : TA) : TE := fun σ H Q => ta σ H (kCMeth C sp E t σ Q)
def UseCM (P : Program) (w : World) (K : PySem.W.Frag) (mg : Str → Option Value) (base : Heap) (n : Nat) (C : Addr) (m : Str) (sp : Sp) : Prop := ∃ mc p g, FnR P w K mg base CX0 n g sp ∧ ClX.CRead K C mc ∧ ClX.CMet K C mc m p g
def UseIt (P : Program) (w : World) (K : PySem.W.Frag) (mg : Str → Option Value) (n : Nat) (C : Addr) (sp : Nat → Sp) : Prop := ∃ f, FnY P w K mg n f sp ∧ PySem.W.findIn K (.ref C) "__iter__" = some (some (.ref f)) ∧ PySem.W.isFn K (.ref f) = true
section
variable {X : Cx} {CX : CXT} {k : Nat} {C p g : Addr} {mc : Value} {sp : Sp} {E : XK} {o e : Expr} {es : List Expr} {m : Str} {pos apos : Pos} {ta : TE} {t : TA} {pl : Sem Bool}
theorem pe_cmethR (he : PE X o ta) (r : ClX.CRead X.K C mc) (c : ClX.CMet X.K C mc m p g) (F : FnR X.prog X.w X.K X.mg X.base CX k g sp) (hr : Room k X.A) (hx : Passes CX X E) (ha : PA X (e :: es) t)
    (hst : starEach (e :: es) X.env = (false, eval e X.env) :: starEach es X.env := by rfl) (hpl : (backTo pos (starEach es X.env)).any (·.1) = false := by rfl)
    (ht : eval (.Call (.Attribute o m apos) (e :: es) [] pos) X.env = (do
      let ov ← eval o X.env
      standAt apos.atName
      let (f, first) ← holding [ov] (getMethod ov m pl)
      callWith pos f first (backTo pos (starEach (e :: es) X.env)) (backToKw pos (keywordEach [] X.env))) := by rfl) :
    PE X (.Call (.Attribute o m apos) (e :: es) [] pos) (tCMethR C sp E ta t) := ClX.pe_cmeth he r c F hr hx ha hst hpl ht
end
section
variable {C : Addr} {sp : Sp} {E : XK} {ta : TE} {t : TA} {σ : L2.St} {H : Hp} {Q : VK}
theorem r_cmeth (q : ta σ H (kCMeth C sp E t σ Q)) : tCMethR C sp E ta t σ H Q := q
theorem r_kCMeth (q : t σ H fun vs H2 => sp (.ref C :: vs) H2 Q E) : kCMeth C sp E t σ Q (.ref C) H := ⟨rfl, q⟩
end
/-! ### X(*xs); cls(*xs), cls a local name that holds a class -/
def kMakeS1 (K : PySem.W.Frag) (C : Addr) (sp : Sp) (E : XK) (Q : VK) : VK := fun y H1 => ∃ a xs, y = V.ref a ∧ (SqT K H1 a xs ∨ SqL K H1 a xs) ∧ ∀ x dx, H1 x = none → H1 dx = none → dx ≠ x → sp (V.ref x :: xs) (upd (upd H1 dx (.own x)) x (.ins C dx [])) (kMade x Q) E
def tMakeS1 (K : PySem.W.Frag) (C : Addr) (sp : Sp) (E : XK) (te : TE) : TE := fun σ H Q => te σ H (kMakeS1 K C sp E Q)
def tMakeV (K : PySem.W.Frag) (i : Nat) (C : Addr) (sp : Sp) (E : XK) (te : TE) : TE := fun σ H Q => σ[i]? = some (some (.ref C)) ∧ te σ H (kMakeS1 K C sp E Q)
section
variable {X : Cx} {CX : CXT} {k i : Nat} {f C : Addr} {sp : Sp} {E : XK} {x : Str} {e : Expr} {te : TE} {p q0 pos : Pos} {K : PySem.W.Frag}
theorem pe_makeVS (hK : X.K = K) (M : Mk K C f) (F : FnR X.prog X.w X.K X.mg X.base CX k f sp) (hr : Room (k + 1) X.A) (hN : X.N[i]? = some x) (hv : Vis X.env.scope x) (hx : Passes CX X E) (he : PE X e te)
    (hd : (x == ("__debug__" : Str)) = false := by decide) (hcd : (x == ("__classdict__" : Str)) = false := by decide)
    (hst : starEach [.Starred e q0] X.env = [(true, eval e X.env)] := by rfl) : PE X (.Call (.Name x p) [.Starred e q0] [] pos) (tMakeV K i C sp E te) := by
  subst hK
  refine ⟨fun pins s σ H Q I h => ?_⟩
  obtain ⟨hs, h⟩ := h
  refine wpAny_Call_Name_kw (thn ((pe_var (pos := p) (i := i) hN hv hd hcd).run pins s σ H (fun v H1 => v = .ref C ∧ H1 = H) I ⟨.ref C, hs, rfl, rfl⟩) fun u s1 ⟨v, H1, I1, r1, ev, eH⟩ => ?_)
  subst ev
  rw [eH] at I1
  cases r1
  refine PySem.W.callWith_S (h₀ := X.base) I1.ok.mod.kin M.kp (thn (he.run pins s1 σ H _ I1 h) fun v s2 ⟨y, H2, I2, ry, a, xs, ey, hxs, q⟩ => ?_) hst
  subst ey
  obtain rfl : v = Value.ref a := ry
  exact StX.star_any I2 hxs fun us s3 I3 rv => ⟨I3.kIn, StX.run_makeR M F hr hx I3 rv q⟩
theorem pe_makeS1 (hK : X.K = K) (M : Mk K C f) (F : FnR X.prog X.w X.K X.mg X.base CX k f sp) (hr : Room (k + 1) X.A) (hg : Gl X x) (hm : X.mg x = some (.ref C)) (hx : Passes CX X E) (he : PE X e te) (hdb : (x == ("__debug__" : Str)) = false := by decide)
    (hst : starEach [.Starred e q0] X.env = [(true, eval e X.env)] := by rfl) : PE X (.Call (.Name x p) [.Starred e q0] [] pos) (tMakeS1 K C sp E te) := by
  subst hK
  refine ⟨fun pins s σ H Q I h => ?_⟩
  refine wpAny_Call_Name_kw (ld_glob I hg hm ?_ hdb)
  refine PySem.W.callWith_S (h₀ := X.base) I.ok.mod.kin M.kp (thn (he.run pins s σ H _ I h) fun v s2 ⟨y, H2, I2, ry, a, xs, ey, hxs, q⟩ => ?_) hst
  subst ey
  obtain rfl : v = Value.ref a := ry
  exact StX.star_any I2 hxs fun us s3 I3 rv => ⟨I3.kIn, StX.run_makeR M F hr hx I3 rv q⟩
end
section
variable {K : PySem.W.Frag} {C a : Addr} {sp : Sp} {E : XK} {te : TE} {σ : L2.St} {H : Hp} {Q : VK} {i : Nat} {xs : List V}
theorem r_makeS1 (q : te σ H (kMakeS1 K C sp E Q)) : tMakeS1 K C sp E te σ H Q := q
theorem r_makeV (h : σ[i]? = some (some (.ref C))) (q : te σ H (kMakeS1 K C sp E Q)) : tMakeV K i C sp E te σ H Q := ⟨h, q⟩
theorem r_kMakeS1 (h : SqL K H a xs) (q : ∀ x dx H', H x = none → Kp [] H H' → H' x = some (.ins C dx []) → sp (V.ref x :: xs) H' (kMade x Q) E) : kMakeS1 K C sp E Q (.ref a) H :=
  ⟨a, xs, rfl, .inr h, fun x dx n1 n2 ne => q x dx _ n1 ((Kp.new (ex := []) n2).trans (Kp.new (by rw [upd_ne (fun e => ne e.symm)]; exact n1))) upd_same⟩
end
/-! ### iteration; is True -/
theorem K_pown {X : Cx} {K : PySem.W.Frag} {tg e : Expr} {td : TE} {C f : Addr} {sp : Nat → Sp} {n : Nat} (hK : X.K = K) (he : PE X e td) (it_ : PySem.W.findIn K (.ref C) "__iter__" = some (some (.ref f))) (itF : PySem.W.isFn K (.ref f) = true) (FI : FnY X.prog X.w K X.mg n f sp) (hr : Room n X.A) :
    PI X tg e (iOwn K C sp X.s_0.heap.objs.size td) := by
  subst hK
  exact pi_own he it_ itF FI hr
def rIsBl : R2 := fun x y H Q => ∃ a b, x = .bl a ∧ y = .bl b ∧ Q (.bl (a == b)) H
theorem op_isBl {X : Cx} : OpR X (compareOp .Is) rIsBl := by
  intro pins s σ H x y v u Q I rx ry h
  obtain ⟨a, b, rfl, rfl, q⟩ := h
  cases rx
  cases ry
  refine wpAny_is_plain rfl ⟨.bl (a == b), H, I, ?_, q⟩
  cases a <;> cases b <;> rfl
theorem r_isBl {a b : Bool} {H : Hp} {Q : VK} (q : Q (.bl (a == b)) H) : rIsBl (.bl a) (.bl b) H Q := ⟨a, b, rfl, rfl, q⟩
theorem r_kOwn {K : PySem.W.Frag} {C : Addr} {sp : Sp} {N : Nat} {R : It → Hp → Prop} {H : Hp} {a dx l : Addr} {fs : List (Str × V)} (e : H a = some (.ins C dx fs)) (q : sp [.ref a] H (fun u H2 => ∃ it, u = .ref it ∧ H it = none ∧ N ≤ it ∧ H2 = upd H it (ItO l it 0) ∧ R (Itl K l) H) E0) : kOwn K C sp N R (.ref a) H :=
  ⟨a, dx, fs, l, rfl, e, q⟩
/-! ### list(range(n)) -/
def kLR1 (Q : VK) : VK := fun x H1 => ∃ n, x = .int n ∧ RgOk 0 n ∧ ∀ q, H1 q = none → Q (.ref q) (upd H1 q (.lst (rgV 0 n)))
def tLR1 (ta : TE) : TE := fun σ H Q => ta σ H (kLR1 Q)
theorem pe_lr1 {X : Cx} {a : Expr} {ta : TE} {p q p2 q2 : Pos} (hc : X.calm = true) (hg : Gl X "list") (hm : X.mg "list" = none) (hg2 : Gl X "range") (hm2 : X.mg "range" = none) (ha : PE X a ta) (na : starEach [a] X.env = (false, eval a X.env) :: starEach [] X.env := by rfl)
    (nb : starEach [Expr.Call (.Name "range" p2) [a] [] q2] X.env = (false, eval (Expr.Call (.Name "range" p2) [a] [] q2) X.env) :: starEach [] X.env := by rfl) : PE X (.Call (.Name "list" p) [.Call (.Name "range" p2) [a] [] q2] [] q) (tLR1 ta) :=
  ⟨fun pins s σ H Q I h => (pe_listRg hc hg hm (prg_1 hg2 hm2 ha na) nb).run pins s σ H Q I h⟩
theorem r_lr1 {ta : TE} {σ : L2.St} {H : Hp} {Q : VK} (q : ta σ H (kLR1 Q)) : tLR1 ta σ H Q := q
theorem r_kLR1 {n : Nat} {H : Hp} {Q : VK} (h : n ≤ 10000) (q : ∀ p H', H p = none → Kp [] H H' → H' p = some (.lst ((List.range n).map fun i => V.int (i : Nat))) → Q (.ref p) H') : kLR1 Q (.int (n : Int)) H := by
  refine ⟨n, rfl, RgOk.of_le (by omega) (by omega) (by omega) (by omega), fun p hn => ?_⟩
  have e : rgV 0 (n : Int) = (List.range n).map fun i => V.int (i : Nat) := by
    unfold rgV
    have : ((n : Int) - 0).toNat = n := by omega
    rw [this]
    refine List.map_congr_left fun i _ => ?_
    exact congrArg V.int (by omega)
  rw [e]
  exact q p _ hn (Kp.new hn) upd_same
/-! ### two fors over lists -/
section
variable {σ : L2.St} {H : Hp} {Q : VK} {wi1 : TI} {g g1 : TG} {tt tt1 : TT} {te : TE} {vs vs1 : List Nat} {D p : Addr} {K : PySem.W.Frag} {xs : List V}
theorem r_kLc2L (Pv : Addr → Nat → List V → Hp → Prop) (h0 : ∀ D H', H D = none → Kp [] H H' → H' D = some (.lst []) → Pv D 0 [] H') (hG : ∀ D i acc H', i ≤ xs.length → Pv D i acc H' → SqL K H' p xs)
    (hs : ∀ D (i : Nat) acc x H', H D = none → xs[i]? = some x → H' D = some (.lst acc) → Pv D i acc H' → g x (wipe σ vs) H' (kTurn2 tt wi1 g1 tt1 te vs vs1 (wipe σ vs) D (kN (Pv D (i + 1)) D)))
    (hd : ∀ D acc H', H D = none → H' D = some (.lst acc) → Pv D xs.length acc H' → Q (.ref D) H') : kLc2 g tt wi1 g1 tt1 te vs vs1 σ Q (Itl K p) H := by
  refine r_kLc2 walk_list Pv h0 hG (fun D i acc x H' H'' hD hi e hp y => ?_) hd
  obtain ⟨rfl, ey⟩ := y
  exact hs D i acc x _ hD ey e hp
theorem r_kIn2L (Pv : Nat → List V → Hp → Prop) {PN : List V → Hp → Prop} {acc0 : List V} (e0 : H D = some (.lst acc0)) (h0 : Pv 0 acc0 H) (hG : ∀ i acc H', i ≤ xs.length → Pv i acc H' → SqL K H' p xs)
    (hs : ∀ (i : Nat) acc x H', xs[i]? = some x → H' D = some (.lst acc) → Pv i acc H' → g1 x (wipe σ vs1) H' (kTurn tt1 te (wipe σ vs1) vs1 D (kN (Pv (i + 1)) D)))
    (hd : ∀ acc H', H' D = some (.lst acc) → Pv xs.length acc H' → PN acc H') : kIn2 g1 tt1 te vs1 σ D (kN PN D) (Itl K p) H := by
  refine r_kIn2 walk_list Pv e0 h0 hG (fun i acc x H' H'' hi e hp y => ?_) hd
  obtain ⟨rfl, ey⟩ := y
  exact hs i acc x _ ey e hp
end
/-! ### l.extend(m); x < y of texts -/
theorem r_extend {K : PySem.W.Frag} {H : Hp} {Q : VK} {p a : Addr} {xs ys : List V} (e : H p = some (.lst xs)) (e' : H a = some (.lst ys)) (h : xs.length + ys.length ≤ sizeLine) (q : ∀ H', Kp [p] H H' → H' p = some (.lst (xs ++ ys)) → Q .non H') : rExtend (.ref p) [.ref a] H Q :=
  ⟨p, a, xs, ys, rfl, rfl, e, e', h, q _ (Kp.put (by simp)) upd_same⟩
def rLtS : R2 := fun x y H Q => ∃ i j, x = .str i ∧ y = .str j ∧ Q (.bl (slt i j)) H
theorem op_ltS {X : Cx} : OpR X (compareOp .Lt) rLtS := fun pins s σ H x y v u Q I rx ry h => op_lt_str pins s σ H x y v u Q I rx ry h
theorem r_ltS {i j : Str} {H : Hp} {Q : VK} (q : Q (.bl (slt i j)) H) : rLtS (.str i) (.str j) H Q := ⟨i, j, rfl, rfl, q⟩
end Rd

set_option maxHeartbeats 4000000
/-! CallKw: an own class made with keywords that its __init__ takes by **d. -/
namespace Rd
open PySem PySem.Spec L2 StX PyProof.Rows
open PySem.W (dictOf kwEs putL putL_new putName_dict)
section
variable {prog : Program} {w : World} {A : Around} {E : Value → Shared → Prop} {d : Addr}
/-- a pair put into a new dict of texts -/
theorem ns_put {s : Shared} {es : List DictEntry} {n : Nat} {k : Str} {v : Value} {Q : Unit → Shared → Prop} (D : s.heap.get? d = some (dictOf es n)) (hs : ∀ e ∈ es, e.key.isStr k = false) (hr : ∀ e ∈ es, e.refKey = false)
    (h : ∀ h', h'.get? d = some (dictOf (es ++ [⟨PyData.keyHash w.params k, .str k s.toks, v⟩]) (n + 1)) → Heap.SameBut d s.heap h' → Q () { s with heap := h', toks := s.toks + 1 }) :
    wpAny (model prog w) A (nsSet d k v) Q E s := by
  have e1 : es.any (·.key.isStr k) = false := by
    cases q : es.any (·.key.isStr k) with
    | false => rfl
    | true =>
      obtain ⟨e, he, z⟩ := List.any_eq_true.mp q
      rw [hs e he] at z
      cases z
  have e2 : es.any (·.refKey) = false := by
    cases q : es.any (·.refKey) with
    | false => rfl
    | true =>
      obtain ⟨e, he, z⟩ := List.any_eq_true.mp q
      rw [hr e he] at z
      cases z
  have e : Obj.putName k (PyData.keyHash w.params k) (.str k s.toks) v (dictOf es n) = dictOf (es ++ [⟨PyData.keyHash w.params k, .str k s.toks, v⟩]) (n + 1) := by
    rw [putName_dict, putL_new hs]
    show dictOf _ (if es.any (·.key.isStr k) then n else n + 1) = _
    rw [e1, if_neg Bool.false_ne_true]
  have c : aRefKeyMayBeTheName k es.toArray = false := by
    rw [aRefKeyMayBeTheName_at, ← Array.any_toList, ← Array.any_toList]
    show (!es.any (·.key.isStr k) && es.any (·.refKey)) = false
    rw [e2, Bool.and_false]
  unfold nsSet
  refine wpAny_bind (wpAny_bind (wpAny_askSetting (wpAny_pure (wpAny_bind (wpAny_mkText (wpAny_bind (wpAny_loadPart D ?_)))))))
  dsimp only
  rw [c]
  have key : (s.heap.update d (Obj.putName k (PyData.keyHash w.params k) (.str k s.toks) v)).get? d = some (dictOf (es ++ [⟨PyData.keyHash w.params k, .str k s.toks, v⟩]) (n + 1)) := by
    have := Heap.get?_update_self (f := Obj.putName k (PyData.keyHash w.params k) (.str k s.toks) v) D (by rw [e]; rfl)
    rw [this, e]
  exact wpAny_updatePart D (h _ key (Heap.SameBut.update ..))
theorem ns_fill {Q : PUnit → Shared → Prop} : ∀ (ex : List (Str × Value)) (s : Shared) (es : List DictEntry) (n : Nat), s.heap.get? d = some (dictOf es n) →
    (∀ e ∈ es, ∀ x ∈ ex, e.key.isStr x.1 = false) → (∀ e ∈ es, e.refKey = false) → (ex.map (·.1)).Nodup →
    (∀ h', h'.get? d = some (dictOf (es ++ kwEs w.params s.toks ex) (n + ex.length)) → Heap.SameBut d s.heap h' → Q ⟨⟩ { s with heap := h', toks := s.toks + ex.length }) →
    wpAny (model prog w) A (forIn ex PUnit.unit fun x _ => (nsSet d x.1 x.2 >>= fun _ => pure (ForInStep.yield PUnit.unit))) Q E s
  | [], s, es, n, D, _, _, _, h => by
    rw [List.forIn_nil]
    refine wpAny_pure (h s.heap ?_ ⟨rfl, fun _ _ => rfl⟩)
    show s.heap.get? d = some (dictOf (es ++ []) n)
    rw [List.append_nil]
    exact D
  | x :: r, s, es, n, D, hs, hr, hn, h => by
    obtain ⟨hn1, hn2⟩ := List.nodup_cons.mp (show (x.1 :: r.map (·.1)).Nodup from hn)
    rw [List.forIn_cons]
    refine wpAny_bind (wpAny_bind (ns_put D (fun e he => hs e he x (.head _)) hr fun h' D' S' => wpAny_pure ?_))
    show wpAny (model prog w) A (forIn r PUnit.unit fun x _ => (nsSet d x.1 x.2 >>= fun _ => pure (ForInStep.yield PUnit.unit))) Q E { s with heap := h', toks := s.toks + 1 }
    refine ns_fill r { s with heap := h', toks := s.toks + 1 } _ _ D' (fun e he y hy => ?_) (fun e he => ?_) hn2 fun h'' D'' S'' => ?_
    · rcases List.mem_append.mp he with he | he
      · exact hs e he y (.tail _ hy)
      · obtain rfl := List.mem_singleton.mp he
        show (x.1 == y.1) = false
        exact beq_eq_false_iff_ne.mpr fun q => hn1 (by rw [q]; exact List.mem_map_of_mem hy)
    · rcases List.mem_append.mp he with he | he
      · exact hr e he
      · obtain rfl := List.mem_singleton.mp he
        rfl
    · have t1 : s.toks + 1 + r.length = s.toks + (r.length + 1) := by omega
      have t2 : n + 1 + r.length = n + (r.length + 1) := by omega
      show Q ⟨⟩ { s with heap := h'', toks := s.toks + 1 + r.length }
      rw [t1]
      refine h h'' ?_ ⟨S''.1.trans S'.1, fun b hb => (S''.2 b hb).trans (S'.2 b hb)⟩
      rw [t2, List.append_assoc] at D''
      exact D''
/-- the dict that is made, as a dict of texts -/
theorem kw_pairs : ∀ (ex : List (Str × Value)) (t : Tok), Pairs (mixKind prog w) (kwEs w.params t ex) (ex.map fun x => ((Sum.inr x.1 : Key), x.2))
  | [], _ => Pairs.nil
  | x :: r, t => Pairs.cons (keyIs_str x.1 t) rfl (kw_pairs r (t + 1))
theorem kw_dict {h : Heap} {ex : List (Str × Value)} {t : Tok} {n : Nat} (D : h.get? d = some (dictOf (kwEs w.params t ex) n)) (hn : (ex.map (·.1)).Nodup) : h.DictOf (mixKind prog w) d (ex.map fun x => ((Sum.inr x.1 : Key), x.2)) := by
  refine ⟨_, (kwEs w.params t ex).toArray, n, D, ⟨rfl, rfl, rfl⟩, rfl, fun e he => ?_, kw_pairs ex t, ?_⟩
  · obtain ⟨k, u, hk, hh⟩ := PySem.W.kwEs_key ex t e (List.mem_toArray.mp he)
    exact ⟨.inr k, by rw [hk]; exact keyIs_str k u, hh.trans rfl⟩
  · rw [List.map_map]
    have e : ex.map ((fun x : Key × Value => x.1) ∘ fun x => ((Sum.inr x.1 : Key), x.2)) = (ex.map (·.1)).map (Sum.inr : Str → Key) := by
      rw [List.map_map]
      rfl
    rw [e]
    exact List.Pairwise.map _ (fun a b n z => n (Sum.inr.inj z)) hn
end
/-! ### a def f(a, .., *v, **d), called with keywords that it takes by **d -/
def FnRW (P : Program) (w : World) (K : PySem.W.Frag) (mg : Str → Option Value) (base : Heap) (CX : CXT) (k : Nat) (f : Addr) (kn : List Str) (sp : List V → Sp) : Prop :=
  ∀ (A : Around) (outer : List Env) (s : Shared) (H : Hp) (us ws : List Value) (vs zs : List V) (Q : VK) (E : XK), Room k A → Env0 P w K mg base A outer s H → Vals vs us → Vals zs ws → sp zs vs H Q E →
    codeAny (model P w) A (.call (.ref f) ⟨us, kn.zip ws⟩) (CR CX outer P w H s Q E) s
def kwK (kn : List Str) (zs : List V) : List (Key × V) := (kn.zip zs).map fun x => ((Sum.inr x.1 : Key), x.2)
theorem kw_kv : ∀ {kn : List Str} {zs : List V} {ws : List Value}, Vals zs ws → zs.length = kn.length → KV (kwK kn zs) ((kn.zip ws).map fun x => ((Sum.inr x.1 : Key), x.2))
  | [], [], _, .nil, _ => .nil
  | k :: kn, z :: zs, _, .cons h t, hl => .cons ⟨rfl, h⟩ (kw_kv (kn := kn) t (by simpa using hl))
theorem env0_put {P : Program} {w : World} {K : PySem.W.Frag} {mg : Str → Option Value} {base : Heap} {A : Around} {outer : List Env} {s : Shared} {H : Hp} {u : HO} {h' : Heap} {t' : Nat} (e0 : Env0 P w K mg base A outer s H) (kp : ∀ b x, s.heap.get? b = some x → h'.get? b = some x) (hz : s.heap.objs.size ≤ h'.objs.size)
    (new : ObjOk P w (upd H s.heap.objs.size u) h' s.heap.objs.size u) : Env0 P w K mg base A outer { s with heap := h', toks := t' } (upd H s.heap.objs.size u) := by
  refine ⟨e0.frames, e0.mod, fun b x e => ⟨kp b x (e0.bs b x e).1, ?_⟩, Nat.le_trans e0.bsz hz, Heap.FunFrames.of_keeps (fun b x e _ => ⟨x, kp b x e, rfl⟩) e0.funs, fun b hb => ?_, e0.hok.laid kp (Nat.le_refl _) new, e0.bare⟩
  · rw [upd_ne (Nat.ne_of_lt (Heap.lt_size (e0.bs b x e).1))]
    exact (e0.bs b x e).2
  · obtain ⟨_, x, hx, _⟩ := e0.funs.mem hb
    rw [upd_ne (Nat.ne_of_lt (Heap.lt_size hx))]
    exact e0.frf b hb
section
variable {CX : CXT} {P : Program} {w : World} {K : PySem.W.Frag} {mg : Str → Option Value} {base : Heap} {k : Nat} {f : Addr} {name qual : Str} {params : Arguments} {body : List Stmt} {scope : Scope} {dV kV doc pm cdv ct oc : Value} {an od : Option Addr}
  {osl : Array (Option Value)} {N ps : List Str} {sp : Sp}
theorem fn_starkwK {pv pd : Str} {kn : List Str} (lk : K.lookup f = some ⟨oc, od, .func (PySem.W.fnOf name qual params body scope dV kV doc pm an cdv ct), osl⟩) (hcd : PySem.W.codeIn K cdv qual = true) (S : FnScope N (ps ++ [pv, pd]) scope) (hCX : CXUp CX) (hkn : kn.Nodup) (hkl : kn.length ≤ sizeLine)
    (hb : ∀ us rest vals : List Value, us.length = ps.length → vals.length = kn.length → bindArgs (PySem.W.fnOf name qual params body scope dV kV doc pm an cdv ct) ⟨us ++ rest, kn.zip vals⟩ =
      (newTuple rest >>= fun t => (alloc ({ cls := .type "dict", data := .dict #[] } : Obj) : Sem Addr) >>= fun d => (forIn (kn.zip vals) PUnit.unit fun x _ => (nsSet d x.1 x.2 >>= fun _ => pure (ForInStep.yield PUnit.unit))) >>= fun _ => pure (ps.zip us ++ [(pv, t), (pd, Value.ref d)])))
    (hbody : ∀ (A : Around) (outer : List Env) (s : Shared) (H : Hp) (vs : List V) (Q : VK) (E : XK), Room k (A.deeper (envOfC qual scope s.heap.objs.size f cdv)) → sp vs H Q E →
      ∃ t, PSs (cxOf CX P w K mg base N qual scope f cdv A outer s H E) body t ∧ t { nx := fun _ H' => Q .non H', rt := Q } (start N vs) H) :
    FnRW P w K mg base CX (k + 1) f kn (fun zs vs H Q E => ∃ ws rest, vs = ws ++ rest ∧ ws.length = ps.length ∧ rest.length ≤ sizeLine ∧ zs.length = kn.length ∧ ∀ p d, H p = Option.none → H d = Option.none → d ≠ p → sp (ws ++ [V.ref p, V.ref d]) (upd (upd H p (.tup rest)) d (.dK (kwK kn zs))) Q E) := by
  intro A outer s H us vals vs zs Q E hr e0 r rz hsp
  obtain ⟨ws, rest, ev, hl, hz, hzl, hq⟩ := hsp
  subst ev
  obtain ⟨u1, u2, eu, r1, r2⟩ := vals_split r
  subst eu
  have hn : H s.heap.objs.size = Option.none := e0.hok.fresh (Nat.le_refl _)
  have hl1 : u1.length = ps.length := by rw [← r1.length]; exact hl
  have hl2 : u2.length ≤ sizeLine := by rw [← r2.length]; exact hz
  have hvl : vals.length = kn.length := by rw [← rz.length]; exact hzl
  refine run_bnd lk hcd S hr e0 (G := fun xs H2 => ∃ p d, H p = Option.none ∧ H d = Option.none ∧ d ≠ p ∧ xs = ws ++ [V.ref p, V.ref d] ∧ H2 = upd (upd H p (.tup rest)) d (.dK (kwK kn zs))) (fun A' Ex Q' h => ?_) fun s2 H2 xs ⟨p, d, hp, hd, hne, ex, eH⟩ hr' => ?_
  · rw [hb u1 u2 vals hl1 hvl]
    refine wpAny_bind (wpAny_newTuple (wpAny_bind (wpAny_alloc ?_)) hl2)
    have new : ObjOk P w (upd H s.heap.objs.size (.tup rest)) (s.heap.push ({ cls := .type "tuple", data := .seq u2.toArray } : Obj)) s.heap.objs.size (.tup rest) := ⟨hz, u2, r2, ⟨_, Heap.get?_push_size _ rfl, rfl, _, rfl⟩⟩
    have e1 := env0_laid e0 new
    have un1 := un_laid (fs := frs outer) (s := s) (o := ({ cls := .type "tuple", data := .seq u2.toArray } : Obj)) (u := .tup rest) hn
    generalize hs1 : ({ s with heap := s.heap.push ({ cls := .type "tuple", data := .seq u2.toArray } : Obj) } : Shared) = s1 at e1
    have hh1 : s1.heap = s.heap.push ({ cls := .type "tuple", data := .seq u2.toArray } : Obj) := by rw [← hs1]
    rw [← hh1] at un1
    have hn2 := e1.hok.fresh (Nat.le_refl _)
    have hb0 : sysModules < s1.heap.objs.size := env0_big e1
    have sz : s1.heap.objs.size = s.heap.objs.size + 1 := by rw [hh1]; exact Heap.size_push _ _
    have ne : s1.heap.objs.size ≠ s.heap.objs.size := by rw [sz]; exact Nat.succ_ne_self _
    have hd : H s1.heap.objs.size = Option.none := e0.hok.fresh (by rw [sz]; exact Nat.le_succ _)
    have hD : (s1.heap.push ({ cls := .type "dict", data := .dict #[] } : Obj)).get? s1.heap.objs.size = some (dictOf [] 0) := Heap.get?_push_size _ rfl
    refine wpAny_bind (ns_fill (w := w) (prog := P) (kn.zip vals) { s1 with heap := s1.heap.push ({ cls := .type "dict", data := .dict #[] } : Obj) } [] 0 hD (fun e m => nomatch m) (fun e m => nomatch m) ?_ fun h' D' S' => ?_)
    · rw [List.map_fst_zip (by omega)]
      exact hkn
    have kp : ∀ b x, s1.heap.get? b = some x → h'.get? b = some x := fun b x e => by
      rw [S'.2 b (Nat.ne_of_lt (Heap.lt_size e))]
      exact Heap.get?_push_of_some _ e
    have hz' : s1.heap.objs.size ≤ h'.objs.size := by
      rw [S'.1]
      show _ ≤ (s1.heap.push _).objs.size
      rw [Heap.size_push]
      exact Nat.le_succ _
    have dd : h'.DictOf (mixKind P w) s1.heap.objs.size ((kn.zip vals).map fun x => ((Sum.inr x.1 : Key), x.2)) := kw_dict (w := w) (prog := P) D' (by
      rw [List.map_fst_zip (by omega)]
      exact hkn)
    have new2 : ObjOk P w (upd (upd H s.heap.objs.size (.tup rest)) s1.heap.objs.size (.dK (kwK kn zs))) h' s1.heap.objs.size (.dK (kwK kn zs)) :=
      ⟨by
        unfold kwK
        rw [List.length_map, List.length_zip]
        omega, beq_eq_false_iff_ne.mpr (Ne.symm (Nat.ne_of_lt hb0)), _, kw_kv rz hzl, dd⟩
    have e2 := env0_put (t' := s1.toks + (kn.zip vals).length) e1 kp hz' new2
    have un2 := un1.trans (Un.laid (fs := frs outer) (ex := []) (o := .dK (kwK kn zs)) kp (Nat.le_refl _) hn2)
    refine wpAny_pure ?_
    have z := h _ _ (ws ++ [V.ref s.heap.objs.size, V.ref s1.heap.objs.size]) (u1 ++ [Value.ref s.heap.objs.size, Value.ref s1.heap.objs.size]) e2 un2 (by rw [← hs1])
      (fun e s' => hCX outer s H _ _ E e s' un2 (fun b o q => kp b o (by rw [hh1]; exact Heap.get?_push_of_some _ q)) (by rw [← hs1])) (r1.append (.cons rfl (.cons rfl .nil))) (by rw [List.length_append, List.length_append, hl] <;> rfl) ⟨_, _, hn, hd, ne, rfl, rfl⟩
    rw [List.zip_append hl1.symm] at z
    exact z
  · subst ex eH
    exact hbody A outer s2 _ _ Q E hr' (hq p d hp hd hne)
end
/-! ### X(e, .., k = v, ..) -/
def kMakeW (C : Addr) (sp : List V → Sp) (E : XK) (Q : VK) (vs : List V) : List V → Hp → Prop := fun zs H2 => ∀ x dx, H2 x = none → H2 dx = none → dx ≠ x → sp zs (.ref x :: vs) (upd (upd H2 dx (.own x)) x (.ins C dx [])) (kMade x Q) E
def kMakeW0 (C : Addr) (sp : List V → Sp) (E : XK) (tk : TA) (σ : L2.St) (Q : VK) : List V → Hp → Prop := fun vs H1 => tk σ H1 (kMakeW C sp E Q vs)
def tMakeW (C : Addr) (sp : List V → Sp) (E : XK) (t tk : TA) : TE := fun σ H Q => t σ H (kMakeW0 C sp E tk σ Q)
def UseCW (P : Program) (w : World) (K : PySem.W.Frag) (mg : Str → Option Value) (base : Heap) (n : Nat) (x : Str) (C : Addr) (kn : List Str) (sp : List V → Sp) : Prop := ∃ f, FnRW P w K mg base CX0 n f kn sp ∧ Mk K C f ∧ mg x = some (.ref C)
section
variable {X : Cx} {CX : CXT} {k : Nat} {f C : Addr} {kn : List Str} {sp : List V → Sp} {E : XK} {x : Str} {p pos : Pos} {e : Expr} {es : List Expr} {kws : List Keyword} {t tk : TA}
theorem run_makeW {pins : List (Addr × Obj)} {σ : L2.St} {H : Hp} {s : Shared} {Q : VK} {us ws : List Value} {vs zs : List V} (M : Mk X.K C f) (F : FnRW X.prog X.w X.K X.mg X.base CX k f kn sp) (hr : Room (k + 1) X.A) (hx : Passes CX X E) (I : Inv X pins σ H s) (r : Vals vs us) (rz : Vals zs ws)
    (h : kMakeW C sp E Q vs zs H) : wpAny (model X.prog X.w) X.A (call (.ref C) us (kn.zip ws)) (EP X pins σ Q) X.xe s := by
  have hq := h (s.heap.objs.size + 1) s.heap.objs.size (I.hok.fresh (Nat.le_succ _)) (I.hok.fresh (Nat.le_refl _)) (Nat.ne_of_lt (Nat.lt_succ_self _))
  have I2 := Inv.made (C := C) I
  have r2 : Vals (V.ref (s.heap.objs.size + 1) :: vs) (Value.ref (s.heap.objs.size + 1) :: us) := .cons rfl r
  refine wpAny_call (make_map (f := f) I.kIn M.makes M.init (beq_iff_eq.mp M.fn) (codeAny_mono (F _ X.stack _ _ (Value.ref (s.heap.objs.size + 1) :: us) ws _ zs _ E (hr.make C us (kn.zip ws)) (I2.env0.make C us (kn.zip ws)) r2 rz hq) fun r s' hq' => ?_))
  cases r with
  | error e => exact hx pins σ _ _ e s' I2 hq'
  | ok fl =>
    cases fl with
    | ret u =>
      obtain ⟨v, H', I3, rv, ev, q3⟩ := I2.after hq'
      subst ev
      exact ⟨rv, ⟨V.ref (s.heap.objs.size + 1), H', I3, rfl, q3⟩⟩
    | next => exact False.elim hq'
    | brk => exact False.elim hq'
    | cont => exact False.elim hq'
theorem pe_makeW (M : Mk X.K C f) (F : FnRW X.prog X.w X.K X.mg X.base CX k f kn sp) (hr : Room (k + 1) X.A) (hg : Gl X x) (hm : X.mg x = some (.ref C)) (hx : Passes CX X E) (ha : PA X (e :: es) t) (hkw : PK X kws tk)
    (hall : (backToKw pos (keywordEach kws X.env)).all (·.1.isSome) = true := by rfl) (hks : (backToKw pos (keywordEach kws X.env)).filterMap (·.1) = kn := by rfl) (hdb : (x == ("__debug__" : Str)) = false := by decide)
    (he : starEach (e :: es) X.env = (false, eval e X.env) :: starEach es X.env := by rfl) (hpl : ((backTo pos (starEach (e :: es) X.env)).any (·.1) || (backToKw pos (keywordEach kws X.env)).any (·.1.isNone)) = false := by rfl) :
    PE X (.Call (.Name x p) (e :: es) kws pos) (tMakeW C sp E t tk) := by
  refine ⟨fun pins s σ H Q I h => ?_⟩
  refine wpAny_Call_Name_kw (ld_glob I hg hm ?_ hdb)
  refine PySem.W.callWith_KW (h₀ := X.base) I.ok.mod.kin M.kp hall (thn (ha.run pos pins s σ H _ I h) fun us s1 ⟨vs, H1, I1, r, q⟩ => ?_) hpl he
  refine thn (hkw.run pos pins s1 σ H1 _ I1 q) fun ws s2 ⟨zs, H2, I2, rz, q2⟩ => ⟨I2.kIn, ?_⟩
  rw [hks]
  exact run_makeW M F hr hx I2 r rz q2
end
section
variable {C : Addr} {sp : List V → Sp} {E : XK} {t tk : TA} {σ : L2.St} {H : Hp} {Q : VK} {vs zs : List V}
theorem r_makeW (q : t σ H (kMakeW0 C sp E tk σ Q)) : tMakeW C sp E t tk σ H Q := q
theorem r_kMakeW0 (q : tk σ H (kMakeW C sp E Q vs)) : kMakeW0 C sp E tk σ Q vs H := q
theorem r_kMakeW (q : ∀ a dx H', H a = none → Kp [] H H' → H' a = some (.ins C dx []) → sp zs (.ref a :: vs) H' (kMade a Q) E) : kMakeW C sp E Q vs zs H :=
  fun x dx n1 n2 ne => q x dx _ n1 ((Kp.new (ex := []) n2).trans (Kp.new (by rw [upd_ne (fun e => ne e.symm)]; exact n1))) upd_same
end
theorem FnRW.imp {P : Program} {w : World} {K : PySem.W.Frag} {mg : Str → Option Value} {base : Heap} {CX : CXT} {k : Nat} {f : Addr} {kn : List Str} {sp sp' : List V → Sp} (F : FnRW P w K mg base CX k f kn sp) (h : ∀ zs vs H Q E, sp' zs vs H Q E → sp zs vs H Q E) : FnRW P w K mg base CX k f kn sp' :=
  fun A outer s H us ws vs zs Q E hr e0 r rz hs => F A outer s H us ws vs zs Q E hr e0 r rz (h _ _ _ _ _ hs)
/-- what a def f(self, a, *v, **d) binds, called with one keyword -/
theorem bind_kw2_1 {B : List Value → List Value → Sem (List (Str × Value))} {p1 p2 pv pd k1 : Str}
    (h0 : ∀ a b v, B [a, b] [v] = (newTuple [] >>= fun t => (alloc ({ cls := .type "dict", data := .dict #[] } : Obj) : Sem Addr) >>= fun d => (forIn [(k1, v)] PUnit.unit fun x _ => (nsSet d x.1 x.2 >>= fun _ => pure (ForInStep.yield PUnit.unit))) >>= fun _ => pure [(p1, a), (p2, b), (pv, t), (pd, Value.ref d)]))
    (h1 : ∀ a b r rs v, B (a :: b :: r :: rs) [v] = (newTuple (r :: rs) >>= fun t => (alloc ({ cls := .type "dict", data := .dict #[] } : Obj) : Sem Addr) >>= fun d => (forIn [(k1, v)] PUnit.unit fun x _ => (nsSet d x.1 x.2 >>= fun _ => pure (ForInStep.yield PUnit.unit))) >>= fun _ => pure [(p1, a), (p2, b), (pv, t), (pd, Value.ref d)])) :
    ∀ us rest vals : List Value, us.length = [p1, p2].length → vals.length = [k1].length → B (us ++ rest) vals = (newTuple rest >>= fun t => (alloc ({ cls := .type "dict", data := .dict #[] } : Obj) : Sem Addr) >>= fun d => (forIn ([k1].zip vals) PUnit.unit fun x _ => (nsSet d x.1 x.2 >>= fun _ => pure (ForInStep.yield PUnit.unit))) >>= fun _ => pure ([p1, p2].zip us ++ [(pv, t), (pd, Value.ref d)]))
  | [a, b], [], [v], _, _ => h0 a b v
  | [a, b], r :: rs, [v], _, _ => h1 a b r rs v
end Rd

set_option maxHeartbeats 4000000
/-! LstEq: == of lists whose items have an own __eq__, whatever it says. -/
namespace GQB
open PySem PySem.SeqAt GQ
open AutoSeq1 (wpAny_loadPart')
open MeetsSeq MeetsSeq2 MeetsSeq3 SeqRoads2
section
variable {prog : Program} {w : World} {A : Around} {R : Result → Shared → Prop}
/-- at each turn the two lists are read anew: N items each; the i-th two are equal or not -/
def ListB (prog : Program) (w : World) (A : Around) (E : Value → Shared → Prop) (l b : Addr) (N : Nat) (I : Nat → Shared → Prop) (Fl : Shared → Prop) : Prop :=
  ∀ i s, I i s → ∃ (items items2 : Array Value) (n n2 : Nat), s.heap.get? l = some { cls := .type "list", data := .seq items n } ∧ s.heap.get? b = some { cls := .type "list", data := .seq items2 n2 } ∧ items.size = N ∧ items2.size = N ∧
    ∀ (h1 : i < items.size) (h2 : i < items2.size), wpAny (model prog w) A.in1 (eqBool items[i] items2[i]) (fun r s' => (r = true ∧ I (i + 1) s') ∨ (r = false ∧ Fl s')) E s
/-- the two lists with N items each -/
def LstsN (l b : Addr) (N : Nat) (s : Shared) : Prop := ∃ (items items2 : Array Value) (n n2 : Nat), s.heap.get? l = some { cls := .type "list", data := .seq items n } ∧ s.heap.get? b = some { cls := .type "list", data := .seq items2 n2 } ∧ items.size = N ∧ items2.size = N
theorem eq_loopB (l b : Addr) (N : Nat) (I : Nat → Shared → Prop) (Fl : Shared → Prop) (hl : ListB prog w A (fun e s' => R (.error e) s') l b N I Fl)
    (fin : ∀ s, I N s → R (.ok (.ret (.bool true))) s) (no : ∀ s, Fl s → LstsN l b N s ∧ R (.ok (.ret (.bool false))) s) (k : Nat) :
    ∀ i : Nat, N - i = k → i ≤ N → ∀ s, I i s →
      wpAny (model prog w) A.in1 (Builtin.«list.__eq__.loop» ⟨[.ref l, .ref b, rawInt i, rawInt 2], []⟩) (FinOf prog w A R) (fun e s' => R (.error e) s') s := by
  induction k with
  | zero =>
    intro i hk hi s h
    obtain ⟨items, items2, n, n2, hl1, hb1, hs1, hs2, _⟩ := hl _ _ h
    have hi' : i = N := by omega
    have hR : R (.ok (.ret (.bool true))) s := fin s (hi' ▸ h)
    obtain ⟨hp, g, d, tk, os⟩ := s
    wp_walk using wpAny_loadPart' hl1, wpAny_loadPart' hb1
    have hi1 : items[((i : Nat) : Int).toNat]? = none := by simp; omega
    have hi2 : items2[((i : Nat) : Int).toNat]? = none := by simp; omega
    rw [hi1, hi2]
    wp_walk using wpAny_loadPart' hl1, wpAny_loadPart' hb1
    show R (.ok (.ret (.bool (items.size == items2.size)))) _
    rw [hs1, hs2]
    simpa using hR
  | succ k ih =>
    intro i hk hi s h
    obtain ⟨items, items2, n, n2, hl1, hb1, hs1, hs2, turn⟩ := hl _ _ h
    have hlt : i < items.size := by omega
    have hlt2 : i < items2.size := by omega
    have ht := turn hlt hlt2
    obtain ⟨hp, g, d, tk, os⟩ := s
    wp_walk using wpAny_loadPart' hl1, wpAny_loadPart' hb1
    have hi1 : items[((i : Nat) : Int).toNat]? = some items[i] := by simp [hlt]
    have hi2 : items2[((i : Nat) : Int).toNat]? = some items2[i] := by simp [hlt2]
    have hc : ((i : Int) + 1) = ((i + 1 : Nat) : Int) := by omega
    rw [hi1, hi2]
    refine wpAny_bind (wpAny_mono ht (fun r s2 h2 => ?_) fun _ _ x => x)
    rcases h2 with ⟨hr, h2⟩ | ⟨hr, h2⟩
    · subst hr
      have hrec := ih (i + 1) (by omega) (by omega) s2 h2
      obtain ⟨hp2, g2, d2, tk2, os2⟩ := s2
      wp_walk
      rw [hc]
      exact ⟨plainId_quiet plain_eq_loop _, codeAny_builtin entry_eq_loop (by
        rw [Around.under_plainId plain_eq_loop _]
        exact hrec)⟩
    · subst hr
      obtain ⟨⟨is1, is2, m1, m2, g1, g2', z1, z2⟩, hR⟩ := no s2 h2
      have j1 : is1[((i : Nat) : Int).toNat]? = some (is1[i]'(by omega)) := by
        rw [Int.toNat_natCast]
        exact Array.getElem?_eq_getElem _
      have j2 : is2[((i : Nat) : Int).toNat]? = some (is2[i]'(by omega)) := by
        rw [Int.toNat_natCast]
        exact Array.getElem?_eq_getElem _
      obtain ⟨hp2, g2, d2, tk2, os2⟩ := s2
      wp_walk using wpAny_loadPart' g1, wpAny_loadPart' g2'
      rw [j1, j2]
      wp_walk
      exact hR
theorem list_eqB (l b : Addr) (N : Nat) (I : Nat → Shared → Prop) (Fl : Shared → Prop) (hl : ListB prog w A (fun e s' => R (.error e) s') l b N I Fl)
    (fin : ∀ s, I N s → R (.ok (.ret (.bool true))) s) (no : ∀ s, Fl s → LstsN l b N s ∧ R (.ok (.ret (.bool false))) s) {s : Shared} (h : I 0 s) :
    wpAny (model prog w) A.in1 (Builtin.«list.__eq__» ⟨[.ref l, .ref b], []⟩) (FinOf prog w A R) (fun e s' => R (.error e) s') s := by
  obtain ⟨items, items2, n, n2, hl1, hb1, hs1, hs2, _⟩ := hl _ _ h
  have hrec := eq_loopB (A := A) (R := R) l b N I Fl hl fin no _ 0 rfl (Nat.zero_le _) s h
  obtain ⟨hp, g, d, tk, os⟩ := s
  have f3 := AutoSeq1.sub_list_list
  have hne : ¬ (items.size != items2.size) = true := by simp [hs1, hs2]
  wp_walk using wpAny_loadPart' hl1, wpAny_loadPart' hb1
  exact ⟨plainId_quiet plain_eq_loop _, codeAny_builtin entry_eq_loop (by
    rw [Around.under_plainId plain_eq_loop _]
    exact hrec)⟩
/-- lists of different lengths -/
theorem list_eqN (l b : Addr) (items items2 : Array Value) (n n2 : Nat) {s : Shared} (hl1 : s.heap.get? l = some { cls := .type "list", data := .seq items n }) (hb1 : s.heap.get? b = some { cls := .type "list", data := .seq items2 n2 }) (hne : (items.size != items2.size) = true)
    (no : R (.ok (.ret (.bool false))) s) : wpAny (model prog w) A.in1 (Builtin.«list.__eq__» ⟨[.ref l, .ref b], []⟩) (FinOf prog w A R) (fun e s' => R (.error e) s') s := by
  obtain ⟨hp, g, d, tk, os⟩ := s
  have f3 := AutoSeq1.sub_list_list
  wp_walk using wpAny_loadPart' hl1, wpAny_loadPart' hb1
  exact no
end
section
variable {prog : Program} {w : World} {A : Around} {E : Value → Shared → Prop} {s : Shared}
theorem rc_listB {l b : Addr} {N : Nat} {Q : Value → Shared → Prop} (hu : A.units < cLine) (I : Nat → Shared → Prop) (Fl : Shared → Prop) (hl : ListB prog w A E l b N I Fl)
    (fin : ∀ s, I N s → Q (.bool true) s) (no : ∀ s, Fl s → LstsN l b N s ∧ Q (.bool false) s) (h : I 0 s) : wpAny (model prog w) A (richCompare .Eq (.ref l) (.ref b)) Q E s := by
  obtain ⟨items, items2, n, n2, hl1, hb1, _, _, _⟩ := hl _ _ h
  refine wpAny_richCompare_same_room (op := .Eq) ⟨_, hl1, rfl⟩ ⟨_, hb1, rfl⟩ F.slot_list_eq (call_here F.slot_list_eq ⟨_, hl1, rfl⟩ F.entry_list_eq (F.args_list_eq_2 _ _) ?_) hu
  exact list_eqB (R := wants (fun v s' => v ≠ .notImplemented ∧ Q v s') E) l b N I Fl hl (fun s' q => ⟨(fun x => nomatch x), fin s' q⟩) (fun s' q => ⟨(no s' q).1, (fun x => nomatch x), (no s' q).2⟩) h
theorem rc_listN {l b : Addr} {items items2 : Array Value} {n n2 : Nat} {Q : Value → Shared → Prop} (hu : A.units < cLine) (hl1 : s.heap.get? l = some { cls := .type "list", data := .seq items n }) (hb1 : s.heap.get? b = some { cls := .type "list", data := .seq items2 n2 }) (hne : (items.size != items2.size) = true)
    (no : Q (.bool false) s) : wpAny (model prog w) A (richCompare .Eq (.ref l) (.ref b)) Q E s := by
  refine wpAny_richCompare_same_room (op := .Eq) ⟨_, hl1, rfl⟩ ⟨_, hb1, rfl⟩ F.slot_list_eq (call_here F.slot_list_eq ⟨_, hl1, rfl⟩ F.entry_list_eq (F.args_list_eq_2 _ _) ?_) hu
  exact list_eqN (R := wants (fun v s' => v ≠ .notImplemented ∧ Q v s') E) l b items items2 n n2 hl1 hb1 hne ⟨(fun x => nomatch x), no⟩
end
section
variable {prog : Program} {w : World} {A : Around} {R : Result → Shared → Prop}
/-- at each turn the list is read anew: the i-th item is the one sought, or not -/
def ListC (prog : Program) (w : World) (A : Around) (E : Value → Shared → Prop) (l : Addr) (x : Value) (N : Nat) (I : Nat → Shared → Prop) (Fl : Shared → Prop) : Prop :=
  ∀ i s, I i s → ∃ (items : Array Value) (n : Nat), s.heap.get? l = some { cls := .type "list", data := .seq items n } ∧ items.size = N ∧
    ∀ (h1 : i < items.size), wpAny (model prog w) A.in1 (eqBool items[i] x) (fun r s' => (r = false ∧ I (i + 1) s') ∨ (r = true ∧ Fl s')) E s
theorem contains_loopB (l : Addr) (x : Value) (N : Nat) (I : Nat → Shared → Prop) (Fl : Shared → Prop) (hl : ListC prog w A (fun e s' => R (.error e) s') l x N I Fl)
    (fin : ∀ s, I N s → R (.ok (.ret (.bool false))) s) (yes : ∀ s, Fl s → R (.ok (.ret (.bool true))) s) (k : Nat) :
    ∀ i : Nat, N - i = k → i ≤ N → ∀ s, I i s →
      wpAny (model prog w) A.in1 (Builtin.«list.__contains__.loop» ⟨[.ref l, x, rawInt i], []⟩) (FinOf prog w A R) (fun e s' => R (.error e) s') s := by
  induction k with
  | zero =>
    intro i hk hi s h
    obtain ⟨items, n, hl1, hs1, _⟩ := hl _ _ h
    have hi' : i = N := by omega
    have hR : R (.ok (.ret (.bool false))) s := fin s (hi' ▸ h)
    obtain ⟨hp, g, d, tk, os⟩ := s
    wp_walk using wpAny_loadPart' hl1
    have hi1 : items[((i : Nat) : Int).toNat]? = none := by simp; omega
    rw [hi1]
    wp_walk
    exact hR
  | succ k ih =>
    intro i hk hi s h
    obtain ⟨items, n, hl1, hs1, turn⟩ := hl _ _ h
    have hlt : i < items.size := by omega
    have ht := turn hlt
    obtain ⟨hp, g, d, tk, os⟩ := s
    wp_walk using wpAny_loadPart' hl1
    have hi1 : items[((i : Nat) : Int).toNat]? = some items[i] := by simp [hlt]
    have hc : ((i : Int) + 1) = ((i + 1 : Nat) : Int) := by omega
    rw [hi1]
    refine wpAny_bind (wpAny_mono ht (fun r s2 h2 => ?_) fun _ _ x => x)
    rcases h2 with ⟨hr, h2⟩ | ⟨hr, h2⟩
    · subst hr
      have hrec := ih (i + 1) (by omega) (by omega) s2 h2
      obtain ⟨hp2, g2, d2, tk2, os2⟩ := s2
      wp_walk
      rw [hc]
      exact ⟨plainId_quiet plain_contains_loop _, codeAny_builtin entry_contains_loop (by
        rw [Around.under_plainId plain_contains_loop _]
        exact hrec)⟩
    · subst hr
      have hR := yes s2 h2
      obtain ⟨hp2, g2, d2, tk2, os2⟩ := s2
      wp_walk
      exact hR
theorem list_containsB (l : Addr) (x : Value) (N : Nat) (I : Nat → Shared → Prop) (Fl : Shared → Prop) (hl : ListC prog w A (fun e s' => R (.error e) s') l x N I Fl)
    (fin : ∀ s, I N s → R (.ok (.ret (.bool false))) s) (yes : ∀ s, Fl s → R (.ok (.ret (.bool true))) s) {s : Shared} (h : I 0 s) :
    wpAny (model prog w) A.in1 (Builtin.«list.__contains__» ⟨[.ref l, x], []⟩) (FinOf prog w A R) (fun e s' => R (.error e) s') s := by
  obtain ⟨items, n, hl1, hs1, _⟩ := hl _ _ h
  have hrec := contains_loopB (A := A) (R := R) l x N I Fl hl fin yes _ 0 rfl (Nat.zero_le _) s h
  obtain ⟨hp, g, d, tk, os⟩ := s
  wp_walk using wpAny_loadPart' hl1
  exact ⟨plainId_quiet plain_contains_loop _, codeAny_builtin entry_contains_loop (by
    rw [Around.under_plainId plain_contains_loop _]
    exact hrec)⟩
end
section
variable {prog : Program} {w : World} {A : Around} {E : Value → Shared → Prop} {s : Shared}
theorem in_listB {l : Addr} {x : Value} {N : Nat} {Q : Value → Shared → Prop} (I : Nat → Shared → Prop) (Fl : Shared → Prop) (hl : ListC prog w A E l x N I Fl)
    (fin : ∀ s, I N s → Q (.bool false) s) (yes : ∀ s, Fl s → Q (.bool true) s) (h : I 0 s) : wpAny (model prog w) A (compareOp .In x (.ref l)) Q E s := by
  obtain ⟨items, n, hl1, _, _⟩ := hl _ _ h
  show wpAny _ A (do return .bool (← contains (.ref l) x)) Q E s
  refine wpAny_bind (wpAny_contains_slot ⟨_, hl1, rfl⟩ F.slot_list_contains (call_here F.slot_list_contains ⟨_, hl1, rfl⟩ F.entry_list_contains (F.args_list_contains_2 _ _) ?_))
  exact list_containsB (R := wants _ E) l x N I Fl hl (fun s' q => wpAny_truthy_bool (wpAny_pure (fin s' q))) (fun s' q => wpAny_truthy_bool (wpAny_pure (yes s' q))) h
theorem notIn_listB {l : Addr} {x : Value} {N : Nat} {Q : Value → Shared → Prop} (I : Nat → Shared → Prop) (Fl : Shared → Prop) (hl : ListC prog w A E l x N I Fl)
    (fin : ∀ s, I N s → Q (.bool true) s) (yes : ∀ s, Fl s → Q (.bool false) s) (h : I 0 s) : wpAny (model prog w) A (compareOp .NotIn x (.ref l)) Q E s := by
  obtain ⟨items, n, hl1, _, _⟩ := hl _ _ h
  show wpAny _ A (do return .bool (!(← contains (.ref l) x))) Q E s
  refine wpAny_bind (wpAny_contains_slot ⟨_, hl1, rfl⟩ F.slot_list_contains (call_here F.slot_list_contains ⟨_, hl1, rfl⟩ F.entry_list_contains (F.args_list_contains_2 _ _) ?_))
  exact list_containsB (R := wants _ E) l x N I Fl hl (fun s' q => wpAny_truthy_bool (wpAny_pure (fin s' q))) (fun s' q => wpAny_truthy_bool (wpAny_pure (yes s' q))) h
end
end GQB
namespace Rd
open PySem PySem.Spec L2
/-- how two values compare, by the abstract heap, which stays -/
abbrev EqvB := V → V → Hp → Bool → Prop
def EqB (X : Cx) (n : Nat) (D : EqvB) : Prop :=
  ∀ (A : Around) (pins : List (Addr × Obj)) (s : Shared) (σ : St) (H : Hp) (x y : V) (u v : Value) (b : Bool), Sub X n A → Inv X pins σ H s → RelV x u → RelV y v → D x y H b →
    wpAny (model X.prog X.w) A (eqBool u v) (fun r s' => r = b ∧ Inv X pins σ H s') X.xe s
/-- objects of a family, by their own == -/
def DFam (K : PySem.W.Frag) (S : Addr → Prop) (sp : Sp) : EqvB := fun x y H b => ∃ a C dx fs a' C' dx' fs', x = .ref a ∧ y = .ref a' ∧ H a = some (.ins C dx fs) ∧ S C ∧ H a' = some (.ins C' dx' fs') ∧ PySem.W.notFirst K C (.ref C') = true ∧
  (a = a' → b = true) ∧ sp [.ref a, .ref a'] H (fun v H' => v = .bl b ∧ H' = H) E0
/-- item by item: how each two compare -/
def PrsB (D : EqvB) (xs ys : List V) (bs : List Bool) (H : Hp) : Prop := xs.length = ys.length ∧ bs.length = xs.length ∧ ∀ (i : Nat) x y b, xs[i]? = some x → ys[i]? = some y → bs[i]? = some b → D x y H b
/-- list == list -/
def rEqLB (D : EqvB) : R2 := fun x y H Q => ∃ p q xs ys, x = .ref p ∧ y = .ref q ∧ H p = some (.lst xs) ∧ H q = some (.lst ys) ∧ ((xs.length ≠ ys.length ∧ Q (.bl false) H) ∨ ∃ bs : List Bool, PrsB D xs ys bs H ∧ Q (.bl (bs.all id)) H)
/-- x in list, x not in list -/
def rInLB (D : EqvB) (neg : Bool) : R2 := fun x y H Q => ∃ (q : Addr) (ys : List V) (bs : List Bool), y = .ref q ∧ H q = some (.lst ys) ∧ bs.length = ys.length ∧ (∀ (i : Nat) z b, ys[i]? = some z → bs[i]? = some b → D z x H b) ∧ Q (.bl (bs.any id != neg)) H
section
variable {X : Cx} {n : Nat} {f : Addr} {sp : Sp} {S : Addr → Prop} {D : EqvB}
theorem eqB_fam (hm : ∀ C, S C → Meth X.K C "__eq__" f) (F : FnR X.prog X.w X.K X.mg X.base CX0 n f sp) : EqB X n (DFam X.K S sp) := by
  intro A pins s σ H x y u v b sb I rx ry d
  obtain ⟨a, C, dx, fs, a', C', dx', fs', rfl, rfl, ea, hS, ea', nf, hab, q⟩ := d
  cases (show u = Value.ref a from rx)
  cases (show v = Value.ref a' from ry)
  by_cases e : a = a'
  · subst e
    rw [hab rfl]
    exact SeqAt.EqAt.same (A := A) (s := s) (.ref a) X.prog X.w X.xe _ ⟨rfl, I⟩
  · refine GQ.eqBool_refG e ?_
    obtain ⟨mA, O, _⟩ := ins_get I.hok ea
    obtain ⟨od, J, _⟩ := O.look
    obtain ⟨mB, O', _⟩ := ins_get I.hok ea'
    obtain ⟨od', J', _⟩ := O'.look
    obtain ⟨m, hF⟩ := I.fr
    have M := hm C hS
    have e0 : Env0 X.prog X.w X.K X.mg X.base A X.stack s H := by
      have e := I.env0
      exact ⟨by rw [sb.fr]; exact e.frames, e.mod, e.bs, e.bsz, e.funs, e.frf, e.hok, e.bare⟩
    refine PySem.W.cmp_K (op := .Eq) (tb := .ref C') sb.room.units0 hF I.ok.mod.kin J J'.type nf M.at_ M.fn ?_
    refine wpAny_call (codeAny_mono (F A X.stack s H [.ref a, .ref a'] [.ref a, .ref a'] _ E0 sb.room e0 (.cons rfl (.cons rfl .nil)) q) fun r s' z => ?_)
    cases r with
    | error e => exact False.elim z
    | ok fl =>
      cases fl with
      | ret u =>
        obtain ⟨z', H', I', rz, ez, eH⟩ := I.after z
        subst ez
        subst eH
        cases (show u = Value.bool b from rz)
        exact ⟨b, rfl, rfl, I'⟩
      | next => exact False.elim z
      | brk => exact False.elim z
      | cont => exact False.elim z
theorem vals_at {xs : List V} {its : List Value} (r : Vals xs its) {i : Nat} (h : i < its.toArray.size) : ∃ x, xs[i]? = some x ∧ RelV x its.toArray[i] := by
  have h' : i < its.length := by simpa using h
  have k : i < xs.length := by rw [r.length]; exact h'
  obtain ⟨u, hu, ru⟩ := r.get (List.getElem?_eq_getElem k)
  have g : its[i]? = some its.toArray[i] := by
    rw [List.getElem?_eq_getElem h'] <;> simp
  rw [g] at hu
  rw [Option.some.inj hu]
  exact ⟨_, List.getElem?_eq_getElem k, ru⟩
theorem take_allB {bs : List Bool} {i : Nat} {b : Bool} (h : bs[i]? = some b) (a : (bs.take i).all id = true) (hb : b = true) : (bs.take (i + 1)).all id = true := by
  rw [List.take_add_one, h, List.all_append, a, hb]
  rfl
theorem op_eqLB (h : EqB X n D) (hr : Room (n + 1) X.A) : OpR X (compareOp .Eq) (rEqLB D) := by
  intro pins s σ H x y v u Q I rx ry hq
  obtain ⟨p, q, xs, ys, rfl, rfl, hp, hq', c⟩ := hq
  cases (show v = Value.ref p from rx)
  cases (show u = Value.ref q from ry)
  show wpAny (model X.prog X.w) X.A (richCompare .Eq (.ref p) (.ref q)) (EP X pins σ Q) X.xe s
  rcases c with ⟨ne, qf⟩ | ⟨bs, ⟨h1, h2, h3⟩, qt⟩
  · obtain ⟨z, its, k, r, e⟩ := I.hok p _ hp
    obtain ⟨z2, its2, k2, r2, e2⟩ := I.hok q _ hq'
    refine GQB.rc_listN hr.units0 e e2 ?_ ⟨.bl false, H, I, rfl, qf⟩
    rw [List.size_toArray, List.size_toArray, ← r.length, ← r2.length]
    simpa using ne
  · refine GQB.rc_listB (N := xs.length) hr.units0 (fun i s' => Inv X pins σ H s' ∧ (bs.take i).all id = true) (fun s' => Inv X pins σ H s' ∧ bs.all id = false) (fun i s' ⟨I1, ha⟩ => ?_) (fun s' ⟨I1, ha⟩ => ?_) (fun s' ⟨I1, ha⟩ => ?_) ⟨I, rfl⟩
    · obtain ⟨z, its, k, r, e⟩ := I1.hok p _ hp
      obtain ⟨z2, its2, k2, r2, e2⟩ := I1.hok q _ hq'
      refine ⟨its.toArray, its2.toArray, k, k2, e, e2, by rw [List.size_toArray, ← r.length], by rw [List.size_toArray, ← r2.length, ← h1], fun l1 l2 => ?_⟩
      obtain ⟨x, hx, rx⟩ := vals_at r l1
      obtain ⟨y, hy, ry⟩ := vals_at r2 l2
      have li : i < bs.length := by
        have := (List.getElem?_eq_some_iff.mp hx).1
        omega
      have hb : bs[i]? = some bs[i] := List.getElem?_eq_getElem li
      refine wpAny_mono (h X.A.in1 pins s' σ H x y _ _ bs[i] ⟨hr.in1, rfl⟩ I1 rx ry (h3 i x y _ hx hy hb)) (fun r s2 z => ?_) fun _ _ x => x
      obtain ⟨rfl, I2⟩ := z
      cases hc : bs[i] with
      | true => exact .inl ⟨rfl, I2, take_allB hb ha hc⟩
      | false =>
        refine .inr ⟨rfl, I2, ?_⟩
        rw [List.all_eq_false]
        exact ⟨bs[i], List.getElem_mem li, by rw [hc]; decide⟩
    · rw [← h2, List.take_length] at ha
      rw [ha] at qt
      exact ⟨.bl true, H, I1, rfl, qt⟩
    · rw [ha] at qt
      obtain ⟨z, its, k, r, e⟩ := I1.hok p _ hp
      obtain ⟨z2, its2, k2, r2, e2⟩ := I1.hok q _ hq'
      exact ⟨⟨its.toArray, its2.toArray, k, k2, e, e2, by rw [List.size_toArray, ← r.length], by rw [List.size_toArray, ← r2.length, ← h1]⟩, .bl false, H, I1, rfl, qt⟩
theorem take_anyB {bs : List Bool} {i : Nat} {b : Bool} (h : bs[i]? = some b) (a : (bs.take i).any id = false) (hb : b = false) : (bs.take (i + 1)).any id = false := by
  rw [List.take_add_one, h, List.any_append, a, hb]
  rfl
theorem lc_of (h : EqB X n D) (hr : Room (n + 1) X.A) {pins : List (Addr × Obj)} {σ : St} {H : Hp} {x : V} {v : Value} {q : Addr} {ys : List V} {bs : List Bool} (rx : RelV x v) (hq : H q = some (.lst ys)) (hl : bs.length = ys.length)
    (hD : ∀ (i : Nat) z b, ys[i]? = some z → bs[i]? = some b → D z x H b) : GQB.ListC X.prog X.w X.A X.xe q v ys.length (fun i s' => Inv X pins σ H s' ∧ (bs.take i).any id = false) (fun s' => Inv X pins σ H s' ∧ bs.any id = true) := by
  rintro i s' ⟨I1, ha⟩
  obtain ⟨z, its, k, r, e⟩ := I1.hok q _ hq
  refine ⟨its.toArray, k, e, by rw [List.size_toArray, ← r.length], fun l1 => ?_⟩
  obtain ⟨y, hy, ry⟩ := vals_at r l1
  have li : i < bs.length := by
    have := (List.getElem?_eq_some_iff.mp hy).1
    omega
  have hb : bs[i]? = some bs[i] := List.getElem?_eq_getElem li
  refine wpAny_mono (h X.A.in1 pins s' σ H y x _ _ bs[i] ⟨hr.in1, rfl⟩ I1 ry rx (hD i y _ hy hb)) (fun r s2 z => ?_) fun _ _ x => x
  obtain ⟨rfl, I2⟩ := z
  cases hc : bs[i] with
  | false => exact .inl ⟨rfl, I2, take_anyB hb ha hc⟩
  | true =>
    refine .inr ⟨rfl, I2, ?_⟩
    rw [List.any_eq_true]
    exact ⟨bs[i], List.getElem_mem li, by rw [hc]; rfl⟩
theorem op_inLB (h : EqB X n D) (hr : Room (n + 1) X.A) : OpR X (compareOp .In) (rInLB D false) := by
  intro pins s σ H x y v u Q I rx ry hq
  obtain ⟨q, ys, bs, rfl, hq', hl, hD, qt⟩ := hq
  cases (show u = Value.ref q from ry)
  refine GQB.in_listB _ _ (lc_of h hr rx hq' hl hD) (fun s' ⟨I1, ha⟩ => ?_) (fun s' ⟨I1, ha⟩ => ?_) ⟨I, rfl⟩
  · rw [← hl, List.take_length] at ha
    rw [ha] at qt
    exact ⟨.bl false, H, I1, rfl, qt⟩
  · rw [ha] at qt
    exact ⟨.bl true, H, I1, rfl, qt⟩
theorem op_ninLB (h : EqB X n D) (hr : Room (n + 1) X.A) : OpR X (compareOp .NotIn) (rInLB D true) := by
  intro pins s σ H x y v u Q I rx ry hq
  obtain ⟨q, ys, bs, rfl, hq', hl, hD, qt⟩ := hq
  cases (show u = Value.ref q from ry)
  refine GQB.notIn_listB _ _ (lc_of h hr rx hq' hl hD) (fun s' ⟨I1, ha⟩ => ?_) (fun s' ⟨I1, ha⟩ => ?_) ⟨I, rfl⟩
  · rw [← hl, List.take_length] at ha
    rw [ha] at qt
    exact ⟨.bl true, H, I1, rfl, qt⟩
  · rw [ha] at qt
    exact ⟨.bl false, H, I1, rfl, qt⟩
variable {K : PySem.W.Frag}
theorem K_eqLF (hK : X.K = K) (hm : ∀ C, S C → Meth K C "__eq__" f) (F : FnR X.prog X.w K X.mg X.base CX0 n f sp) (hr : Room (n + 1) X.A) : OpR X (compareOp .Eq) (rEqLB (DFam K S sp)) := by
  subst hK
  exact op_eqLB (eqB_fam hm F) hr
theorem K_inLF (hK : X.K = K) (hm : ∀ C, S C → Meth K C "__eq__" f) (F : FnR X.prog X.w K X.mg X.base CX0 n f sp) (hr : Room (n + 1) X.A) : OpR X (compareOp .In) (rInLB (DFam K S sp) false) := by
  subst hK
  exact op_inLB (eqB_fam hm F) hr
theorem K_ninLF (hK : X.K = K) (hm : ∀ C, S C → Meth K C "__eq__" f) (F : FnR X.prog X.w K X.mg X.base CX0 n f sp) (hr : Room (n + 1) X.A) : OpR X (compareOp .NotIn) (rInLB (DFam K S sp) true) := by
  subst hK
  exact op_ninLB (eqB_fam hm F) hr
end
section
variable {H : Hp} {Q : VK} {D : EqvB} {x : V} {p q : Addr} {xs ys : List V} {bs : List Bool} {neg : Bool}
theorem r_eqLN (hp : H p = some (.lst xs)) (hq : H q = some (.lst ys)) (ne : xs.length ≠ ys.length) (h : Q (.bl false) H) : rEqLB D (.ref p) (.ref q) H Q := ⟨p, q, xs, ys, rfl, rfl, hp, hq, .inl ⟨ne, h⟩⟩
theorem r_eqLB (hp : H p = some (.lst xs)) (hq : H q = some (.lst ys)) (hb : PrsB D xs ys bs H) (h : Q (.bl (bs.all id)) H) : rEqLB D (.ref p) (.ref q) H Q := ⟨p, q, xs, ys, rfl, rfl, hp, hq, .inr ⟨bs, hb, h⟩⟩
theorem r_inLB (hq : H q = some (.lst ys)) (hl : bs.length = ys.length) (hD : ∀ (i : Nat) z b, ys[i]? = some z → bs[i]? = some b → D z x H b) (h : Q (.bl (bs.any id != neg)) H) : rInLB D neg x (.ref q) H Q := ⟨q, ys, bs, rfl, hq, hl, hD, h⟩
end
/-! for k in range(m, n) -/
section
variable {σ : St} {H : Hp} {g : TG} {tb : TS} {nx bk ct : St → Hp → Prop} {rt : VK}
theorem r_kForR2 {a : Int} {m : Nat} (Pv : Nat → St → Hp → Prop) (h0 : Pv 0 σ H)
    (hs : ∀ (i : Nat) σ H, i < m → Pv i σ H → g (.int (a + (i : Int))) σ H fun σ2 H2 => tb ⟨Pv (i + 1), rt, nx, Pv (i + 1)⟩ σ2 H2) (hd : ∀ σ H, Pv m σ H → nx σ H) : kFor g tb ⟨nx, rt, bk, ct⟩ σ (Itr a m) H := by
  refine r_kFor walk_range Pv h0 (fun _ _ _ _ _ => trivial) (fun i x σ H H' hi hp y => ?_) hd
  obtain ⟨rfl, rfl⟩ := y
  exact hs i σ _ hi hp
end
end Rd

set_option maxHeartbeats 4000000
/-! OpOwn: x & y .. by an own method; the truth of an object by an own __len__; x in list, by data; x == y, y of any type, of a family. -/
namespace PySem.W
open PySem PySem.Calls PyProof.Rows Builtin
section
variable {prog : Program} {w : World} {A : Around} {E : Value → Shared → Prop} {s : Shared} {K : Frag} {x C L f : Addr} {h₀ : Heap} {m : Str → Option Value} {ox : Obj} {od : Option Obj}
theorem truthy_len {Q : Bool → Shared → Prop} (F : Fr h₀ L s.heap m) (X₀ : K.In h₀) (I : InstAt s.heap x ox C od) (hs : findIn K (.ref C) "__bool__" = some none) (hl : findIn K (.ref C) "__len__" = some (some (.ref f))) (hf : isFn K (.ref f) = true)
    (h : wpAny (model prog w) A.in1 (call (.ref f) [.ref x]) (LenBack (fun v s' => ∃ n t, v = .int n t ∧ Q (n != 0) s')) E s) : wpAny (model prog w) A (truthy (.ref x)) Q E s := by
  have X := X₀.keeps F.keep
  unfold truthy
  refine wpAny_bind (m := callSpecial? (.ref x) (Str.ofString "__bool__")) (wpAny_bind (wpAny_bind (I.type.here ((looks_findIn X hs).here (wpAny_pure ?_)))))
  refine wpAny_bind (wpAny_bind (I.type.here ((looks_findIn X hl).here ?_)))
  refine wpAny_bind (wpAny_runValue (codeAny_builtin entry_len ?_))
  unfold Builtin.«len»
  refine wpAny_bind (m := oneArg "len" _) (wpAny_pure ?_)
  refine wpAny_bind (m := callSpecial? (.ref x) (Str.ofString "__len__")) (special_fn X I hl (beq_iff_eq.mp hf) (wpAny_mono h (fun r s' hr => ?_) fun _ _ y => y))
  cases r <;> first | exact hr.elim | skip
  rename_i n u
  obtain ⟨⟨h0, h1⟩, n', t', e, hq⟩ := hr
  refine wpAny_bind (wpAny_holding (wpAny_pure ?_))
  refine wpAny_bind (wpAny_letGo ?_)
  show wpAny _ _ (if n < 0 then _ else _) _ _ _
  rw [if_neg (by omega)]
  show wpAny _ _ (if n ≥ 2 ^ 63 then _ else _) _ _ _
  rw [if_neg (by omega)]
  cases e
  exact wpAny_bind (wpAny_mkInt (wpAny_pure (wpAny_pure hq)))
end
end PySem.W
namespace Rd
open PySem PySem.Spec L2 StX
/-! ### x & y .. -/
def rBinOwn (S : Addr → Prop) (sp : Sp) : R2 := fun x y H Q => ∃ a C dx fs b dy gs, x = .ref a ∧ y = .ref b ∧ S C ∧ H a = some (.ins C dx fs) ∧ H b = some (.ins C dy gs) ∧ sp [.ref a, .ref b] H (fun v H' => (∃ p, v = .ref p) ∧ Q v H') E0
/-! ### truth by __len__ -/
def rTruOwn (S : Addr → Prop) (sp : Sp) : V → Hp → (Bool → Hp → Prop) → Prop := fun x H Q => ∃ a C dx fs, x = .ref a ∧ S C ∧ H a = some (.ins C dx fs) ∧ sp [.ref a] H (fun z H' => ∃ k : Int, z = .int k ∧ 0 ≤ k ∧ k < 9223372036854775808 ∧ Q (k != 0) H') E0
def tTruOwn (S : Addr → Prop) (sp : Sp) (ta : TE) : TT := fun σ H Q => ta σ H fun x H' => rTruOwn S sp x H' Q
def tNotOwn (S : Addr → Prop) (sp : Sp) (ta : TE) : TE := fun σ H Q => ta σ H fun x H' => rTruOwn S sp x H' fun b H2 => Q (.bl (!b)) H2
/-! ### x in list, by data -/
def DData (K : PySem.W.Frag) : EqvB := fun x y H b => ∃ d e, Dp K H x d ∧ Dp K H y e ∧ SeqAt.shaped d = true ∧ SeqAt.shaped e = true ∧ PyData.eqv d e = b
section
variable {X : Cx} {n : Nat} {f : Addr} {sp : Sp} {S : Addr → Prop} {K : PySem.W.Frag}
theorem K_binFam (hK : X.K = K) {op : Operator} {nm : Str} (hn : PySem.dunder op.info.2 = nm) (hm : ∀ C, S C → Meth K C nm f) (hc : ∀ C, S C → PySem.W.selfFirst K C = true) (F : FnR X.prog X.w K X.mg X.base CX0 n f sp) (hr : Room n X.A) : OpR X (binaryOp op) (rBinOwn S sp) := by
  subst hK
  intro pins s σ H x y v u Q I rx ry h
  obtain ⟨a, C, dx, fs, b, dy, gs, rfl, rfl, hS, ea, eb, q⟩ := h
  cases (show v = Value.ref a from rx)
  cases (show u = Value.ref b from ry)
  obtain ⟨mA, O, _⟩ := ins_get I.hok ea
  obtain ⟨od, J, _⟩ := O.look
  obtain ⟨mB, O', _⟩ := ins_get I.hok eb
  obtain ⟨od', J', _⟩ := O'.look
  obtain ⟨m, hF⟩ := I.fr
  have M := hm C hS
  refine PySem.W.binop_K hF I.ok.mod.kin J J'.type (hc C hS) (hn ▸ M.at_) M.fn ?_
  refine wpAny_mono (wpAny_call (run_fnR (us := [.ref a, .ref b]) (vs := [.ref a, .ref b]) F hr pass0 I (.cons rfl (.cons rfl .nil)) q)) (fun r s' z => ?_) fun _ _ x => x
  obtain ⟨z', H', I', rz, ⟨p, rfl⟩, qz⟩ := z
  cases (show r = Value.ref p from rz)
  exact ⟨.ref p, H', I', rfl, qz⟩
theorem tru_own (hK : X.K = K) (hb : ∀ C, S C → PySem.W.findIn K (.ref C) "__bool__" = some none) (hm : ∀ C, S C → Meth K C "__len__" f) (F : FnR X.prog X.w K X.mg X.base CX0 n f sp) (hr : Room (n + 1) X.A) : TruR X (rTruOwn S sp) := by
  subst hK
  intro pins s σ H x v Q I rx h
  obtain ⟨a, C, dx, fs, rfl, hS, ea, q⟩ := h
  cases (show v = Value.ref a from rx)
  obtain ⟨mA, O, _⟩ := ins_get I.hok ea
  obtain ⟨od, J, _⟩ := O.look
  obtain ⟨m, hF⟩ := I.fr
  have M := hm C hS
  refine PySem.W.truthy_len hF I.ok.mod.kin J (hb C hS) M.at_ M.fn ?_
  refine wpAny_call (codeAny_mono (F X.A.in1 X.stack s H [.ref a] [.ref a] _ E0 hr.in1 I.env0.in1 (.cons rfl .nil) q) fun r s' z => ?_)
  cases r with
  | error e => exact False.elim z
  | ok fl =>
    cases fl with
    | ret u =>
      obtain ⟨z', H', I', rz, k, rfl, k0, k1, qz⟩ := I.after z
      obtain ⟨t, e⟩ := (show ∃ t, u = Value.int k t from rz)
      cases e
      exact ⟨⟨k0, k1⟩, k, _, rfl, H', I'.tok _, qz⟩
    | next => exact False.elim z
    | brk => exact False.elim z
    | cont => exact False.elim z
theorem eqB_data (hK : X.K = K) : EqB X 0 (DData K) := by
  subst hK
  intro A pins s σ H x y u v b sb I rx ry h
  obtain ⟨d, e, hd, he, sd, se, rfl⟩ := h
  obtain ⟨as, r1⟩ := Dp.reads I d x u hd rx
  obtain ⟨bs, r2⟩ := Dp.reads I e y v he ry
  exact SeqAt.eqAt_reads d e A s u v as bs r1 r2 (SeqAt.canLay_of_shaped sd) (SeqAt.canLay_of_shaped se) (SeqAt.room_of_shaped sd sb.room.units) X.prog X.w X.xe _ ⟨rfl, I⟩
theorem K_inD (hK : X.K = K) (hr : Room 1 X.A) : OpR X (compareOp .In) (rInLB (DData K) false) := op_inLB (eqB_data hK) hr
theorem K_ninD (hK : X.K = K) (hr : Room 1 X.A) : OpR X (compareOp .NotIn) (rInLB (DData K) true) := op_ninLB (eqB_data hK) hr
/-! not e, e an object with an own __len__ -/
open PyProof.Rows in
theorem pe_notOwn {a : Expr} {ta : TE} {pos : Pos} (hK : X.K = K) (hb : ∀ C, S C → PySem.W.findIn K (.ref C) "__bool__" = some none) (hm : ∀ C, S C → Meth K C "__len__" f) (F : FnR X.prog X.w K X.mg X.base CX0 n f sp) (hr : Room (n + 1) X.A) (ha : PE X a ta) : PE X (.UnaryOp .Not a pos) (tNotOwn S sp ta) := by
  refine ⟨fun pins s σ H Q I h => ?_⟩
  refine UnaryOp_ (thn (ha.run pins s σ H _ I h) fun v s1 ⟨x, H1, I1, r1, q1⟩ => ?_)
  refine not_of (wpAny_mono (tru_own hK hb hm F hr pins s1 σ H1 x v _ I1 r1 q1) (fun b s2 z => ?_) fun _ _ z => z)
  obtain ⟨H2, I2, q2⟩ := z
  exact ⟨.bl (!b), H2, I2, rfl, q2⟩
theorem pt_truOwn {a : Expr} {ta : TE} (hK : X.K = K) (hb : ∀ C, S C → PySem.W.findIn K (.ref C) "__bool__" = some none) (hm : ∀ C, S C → Meth K C "__len__" f) (F : FnR X.prog X.w K X.mg X.base CX0 n f sp) (hr : Room (n + 1) X.A) (ha : PE X a ta) (he : ∀ whole, isTrue a X.env whole = (do let v ← whole; standAt a.pos; holding [v] (truthy v)) := by intro _; rfl) :
    PT X a (tTruOwn S sp ta) := pt_truthR ha (tru_own hK hb hm F hr) he
end
/-! a, b, c = x, y, z -/
theorem r_par3 {i j l : Nat} {ta : TA} {σ : L2.St} {H : Hp} {nx bk ct : L2.St → Hp → Prop} {rt : VK} (q : ta σ H fun vs H1 => ∃ u v w, vs = [u, v, w] ∧ nx (((σ.set i (some u)).set j (some v)).set l (some w)) H1) : tPar3 i j l ta ⟨nx, rt, bk, ct⟩ σ H := q
/-! X() -/
theorem pe_makeR0 {X : Cx} {CX : CXT} {k : Nat} {f C : Addr} {sp : Sp} {E : XK} {x : Str} {p pos : Pos} (M : Mk X.K C f) (F : FnR X.prog X.w X.K X.mg X.base CX k f sp) (hr : Room (k + 1) X.A) (hg : Gl X x) (hm : X.mg x = some (.ref C)) (hx : Passes CX X E)
    (hdb : (x == ("__debug__" : Str)) = false := by decide) : PE X (.Call (.Name x p) [] [] pos) (tMakeR C sp E tNil) := by
  refine ⟨fun pins s σ H Q I h => ?_⟩
  refine wpAny_Call_Name_kw (ld_glob I hg hm ?_ hdb)
  exact PySem.W.callWith_K0 I.kIn M.kp (run_makeR (us := []) M F hr hx I .nil h)
section
variable {H : Hp} {Q : VK} {QB : Bool → Hp → Prop} {S : Addr → Prop} {sp : Sp} {C C' a b dx dy : Addr} {fs gs : List (Str × V)} {K : PySem.W.Frag} {ex ex' : List Addr} {x y : V} {d e : PyData} {n : Nat} {σ : L2.St} {ta : TE}
def kObj (Q : VK) : VK := fun v H' => (∃ p, v = .ref p) ∧ Q v H'
def kNum (QB : Bool → Hp → Prop) : VK := fun z H' => ∃ k : Int, z = .int k ∧ 0 ≤ k ∧ k < 9223372036854775808 ∧ QB (k != 0) H'
theorem r_binOwn (hS : S C) (e : H a = some (.ins C dx fs)) (e' : H b = some (.ins C dy gs)) (q : sp [.ref a, .ref b] H (kObj Q) E0) : rBinOwn S sp (.ref a) (.ref b) H Q := ⟨a, C, dx, fs, b, dy, gs, rfl, rfl, hS, e, e', q⟩
theorem r_kObj {p : Addr} (q : Q (.ref p) H) : kObj Q (.ref p) H := ⟨⟨p, rfl⟩, q⟩
theorem r_truOwn (hS : S C) (e : H a = some (.ins C dx fs)) (q : sp [.ref a] H (kNum QB) E0) : rTruOwn S sp (.ref a) H QB := ⟨a, C, dx, fs, rfl, hS, e, q⟩
theorem r_tTruOwn (q : ta σ H fun x H' => rTruOwn S sp x H' QB) : tTruOwn S sp ta σ H QB := q
theorem r_notOwn (q : ta σ H fun x H' => rTruOwn S sp x H' fun b H2 => Q (.bl (!b)) H2) : tNotOwn S sp ta σ H Q := q
theorem r_kNum {k : Int} (h0 : 0 ≤ k) (h1 : k < 9223372036854775808) (q : QB (k != 0) H) : kNum QB (.int k) H := ⟨k, rfl, h0, h1, q⟩
theorem ddata (hx : Dt ex H x d) (hy : Dt ex' H y e) (sx : Shp n d) (sy : Shp n e) (hn : n ≤ 64) : DData K x y H (PyData.eqv d e) := ⟨d, e, hx.dp, hy.dp, sx.ok hn, sy.ok hn, rfl⟩
end
end Rd

set_option maxHeartbeats 4000000
/-! Gd: defs that are called where no repr is under way: what they promise holds just there; repr of data; the law's end for such a law. -/
namespace Rd
open PySem PySem.Spec L2 StX PyProof.Rows
/-- nothing is being shown -/
abbrev Bare (A : Around) : Prop := A.guards = some []
structure FnG (P : Program) (w : World) (K : PySem.W.Frag) (mg : Str → Option Value) (base : Heap) (CX : CXT) (k : Nat) (f : Addr) (fd : FuncData) (ps : List Str) (sp : Sp) : Prop where
  long : ∀ vs H Q E, sp vs H Q E → vs.length = ps.length
  go : ∀ (A : Around) (outer : List Env) (s : Shared) (H : Hp) (args : Args) (us : List Value) (vs : List V) (Q : VK) (E : XK), Bare A → Room k A → Env0 P w K mg base A outer s H → BindsTo s fd args (ps.zip us) → Vals vs us → sp vs H Q E →
    codeAny (model P w) A (.call (.ref f) args) (CR CX outer P w H s Q E) s
section
variable {P : Program} {w : World} {K : PySem.W.Frag} {mg : Str → Option Value} {base : Heap} {CX : CXT} {k : Nat} {f : Addr} {fd : FuncData} {ps : List Str} {sp : Sp}
theorem FnG.of (F : FnOk P w K mg base CX k f fd ps sp) : FnG P w K mg base CX k f fd ps sp := ⟨F.len, fun A outer s H args us vs Q E _ => F.run A outer s H args us vs Q E⟩
/-- a def from its body's reading -/
theorem fn_ofG {name qual : Str} {params : Arguments} {body : List Stmt} {scope : Scope} {dV kV doc pm cdv ct oc : Value} {an od : Option Addr} {osl : Array (Option Value)} {N : List Str}
    (lk : K.lookup f = some ⟨oc, od, .func (PySem.W.fnOf name qual params body scope dV kV doc pm an cdv ct), osl⟩) (hcd : PySem.W.codeIn K cdv qual = true) (S : FnScope N ps scope) (long : ∀ vs H Q E, sp vs H Q E → vs.length = ps.length)
    (read : ∀ (A : Around) (outer : List Env) (s : Shared) (H : Hp) (vs : List V) (Q : VK) (E : XK), Bare (A.deeper (envOfC qual scope s.heap.objs.size f cdv)) → Room k (A.deeper (envOfC qual scope s.heap.objs.size f cdv)) → sp vs H Q E →
      ∃ t, PSs (cxOf CX P w K mg base N qual scope f cdv A outer s H E) body t ∧ t { nx := fun _ H' => Q .non H', rt := Q } (start N vs) H) :
    FnG P w K mg base CX (k + 1) f (PySem.W.fnOf name qual params body scope dV kV doc pm an cdv ct) ps sp := by
  constructor
  · exact long
  intro A outer s H args us vs Q E bare hr e0 hb r hsp
  have kin : K.In s.heap := e0.mod.kin.keeps fun b o e => (e0.bs b o e).1
  have unlim : s.heap.NoLimit := e0.mod.nolimit.keeps fun b o e => (e0.bs b o e).1
  have pars : ∀ y ∈ ps.zip us, scope.names.lookup y.1 = some .local ∨ (scope.names.lookup y.1 = some .cell ∧ ((cellsFrom (s.heap.objs.size + 1) scope.names []).lookup y.1).isSome = true) := by
    intro y hy
    cases S.par y.1 (List.of_mem_zip hy).1 with
    | inl q => exact .inl q
    | inr q => exact .inr ⟨q, PySem.W.cellsFrom_some _ _ _ (.inl q)⟩
  refine codeAny_call_function hr.depth (kin _ _ lk) rfl S.co S.gen rfl (PySem.W.codeRec_of kin hcd) (hb _ _ _ _ ?_)
  refine wpAny_newFunctionEnv_cells S.kind pars fun env he s1 x => ?_
  subst he
  refine ⟨unlim.keeps x.toInCall.keep, codeAny_func ?_⟩
  obtain ⟨t, ht, hq⟩ := read A outer s H vs Q E bare (hr.deeper _) hsp
  have I0 : Inv (cxOf CX P w K mg base N qual scope f cdv A outer s H E) [] (start N vs) H s1 := inv_start S hr.hd e0 (long _ _ _ _ hsp) r x
  refine wpAny_mono (ht.run [] s1 (start N vs) H _ I0 hq) (fun fl s' hs => ?_) fun _ _ hs => hs
  match fl, hs with
  | .ret u, ⟨v, _, H', J, rv, q⟩ => exact ⟨v, H', J.os, J.bare, J.base, J.hok, rv, q⟩
  | .next, ⟨_, H', J, q⟩ => exact ⟨V.non, H', J.os, J.bare, J.base, J.hok, rfl, q⟩
  | .brk, ⟨_, _, _, q⟩ => exact False.elim q
  | .cont, ⟨_, _, _, q⟩ => exact False.elim q
end
/-- a def of this sort, as its callers use it -/
def UseGd (P : Program) (w : World) (K : PySem.W.Frag) (mg : Str → Option Value) (base : Heap) (n : Nat) (x : Str) (ps : List Str) (sp : Sp) : Prop :=
  ∃ f fd, FnG P w K mg base CX0 n f fd ps sp ∧ mg x = some (.ref f) ∧ PySem.W.keepIn K (.ref f) = true ∧ Binds K fd ps []
theorem pe_useGd {X : Cx} {n : Nat} {x : Str} {ps : List Str} {sp : Sp} {e : Expr} {es : List Expr} {t : TA} {p pos : Pos} (U : UseGd X.prog X.w X.K X.mg X.base n x ps sp) (bare : Bare X.A) (hr : Room n X.A) (hg : Gl X x) (ha : PA X (e :: es) t)
    (hdb : (x == ("__debug__" : Str)) = false := by decide) (he : starEach (e :: es) X.env = (false, eval e X.env) :: starEach es X.env := by rfl) (hpl : (backTo pos (starEach es X.env)).any (·.1) = false := by rfl) :
    PE X (.Call (.Name x p) (e :: es) [] pos) (tUse sp t) := by
  obtain ⟨f, fd, F, hm, hk, hb⟩ := U
  refine ⟨fun pins s σ H Q I h => ?_⟩
  refine wpAny_Call_Name_kw (ld_glob I hg hm ?_ hdb)
  refine PySem.W.callWith_K (h₀ := X.base) I.ok.mod.kin hk (thn (ha.run pos pins s σ H _ I h) fun us s1 ⟨vs, H1, I1, r, q⟩ => ⟨I1.kIn, ?_⟩) he hpl
  have hl : (us ++ []).length = ps.length := by
    rw [List.append_nil, ← r.length]
    exact F.long _ _ _ _ q
  have hbd := hb s1 us I1.kIn hl
  rw [List.append_nil] at hbd
  refine wpAny_call (codeAny_mono (F.go X.A X.stack s1 H1 ⟨us, []⟩ us vs Q E0 bare hr I1.env0 hbd r q) fun r s' z => ?_)
  match r, z with
  | .error _, z => exact False.elim z
  | .ok (.ret _), z => exact I1.after z
  | .ok .next, z => exact False.elim z
  | .ok .brk, z => exact False.elim z
  | .ok .cont, z => exact False.elim z
/-! ### repr of data -/
def cReprD (K : PySem.W.Frag) : R1 := fun xs H Q => ∃ (a : Addr) (d : PyData), xs = [.ref a] ∧ Dp K H (.ref a) d ∧ d.showable = true ∧ d.hasDict = false ∧ d.depth ≤ 60 ∧ d.shown.length ≤ sizeLine ∧ Q (.str d.shown) H
theorem K_reprD {X : Cx} {K : PySem.W.Frag} (hK : X.K = K) (bare : Bare X.A) (hu : X.A.units + 64 < cLine) : CallR X (.builtin "repr") (cReprD K) := by
  subst hK
  intro pins s σ H xs us Q I r h
  obtain ⟨a, d, rfl, hd, hs, hn, hdp, hz, q⟩ := h
  obtain ⟨u, rfl, ru⟩ := r.one
  cases (show u = Value.ref a from ru)
  obtain ⟨as, rd⟩ := Dp.reads I d (.ref a) (.ref a) hd rfl
  refine repr_of_reads' rd hs (fun z => by rw [hn] at z; cases z) bare (by omega) (fun _ _ e => e) (fun h' u tk hk => ?_) hz
  exact ⟨.str d.shown, H, I.kept (t' := tk) hk, ⟨_, rfl⟩, q⟩
theorem r_reprD {K : PySem.W.Frag} {H : Hp} {Q : VK} {ex : List Addr} {a : Addr} {d : PyData} (h : Dt ex H (.ref a) d) (hs : d.showable = true) (hn : d.hasDict = false) (hdp : d.depth ≤ 60) (hz : d.shown.length ≤ sizeLine) (q : Q (.str d.shown) H) : cReprD K [.ref a] H Q := ⟨a, d, rfl, h.dp, hs, hn, hdp, hz, q⟩
end Rd

set_option maxHeartbeats 4000000
/-! Gd2: the law's end where the law's def promises just where nothing is being shown (FnG). -/
namespace Rd
open PySem PySem.Spec L2 PyProof.Rows
/-- how the call of the law ends -/
abbrev EndsTrue (s₁ : Shared) : Result → Shared → Prop := fun r s' => r = .ok (.ret (.bool true)) ∧ OldK s₁.heap s'.heap ∧ s'.os = s₁.os ∧ AllBare s'.gens
section
variable {P : Program} {w : World} {K : PySem.W.Frag} {mg mb : Str → Option Value} {CX : CXT} {k : Nat} {fa a : Addr} {fd : FuncData} {x : Str} {sp : Sp} {s₁ : Shared} {vs : List Value} {ns : List Int}
/-- from any abstract heap that tracks nothing but the script -/
theorem law_fromG (KX : K.In s₁.heap) (hns : s₁.heap.Ns mainGlobals mg) (hb : s₁.heap.Ns builtinsNs mb) (hbb : ∀ x : Str, x ≠ "__name__" → mb x = bootBuiltins x) (hlim : s₁.heap.NoLimit) (hg : s₁.gens = #[])
    (ha : s₁.heap.get? a = some { cls := .type "list", data := .seq vs.toArray }) (hr : Room k callerA)
    (F : ∀ base : Heap, K.In base → base.Ns mainGlobals mg → FnG P w K mg base CX k fa fd [x] sp) (hbind : ∀ (s : Shared) (u : Value), BindsTo s fd ⟨[u], []⟩ [(x, u)])
    (hCX : ∀ H e s', CX [] H s₁ (fun _ _ _ => False) e s' → False) (H : Hp) (hO : Only H) (q : sp [.ref a] H (fun v _ => v = .bl true) fun _ _ _ => False) (hok : HOk P w H s₁.heap) (one : ∀ b, H b ≠ none → b = a) (own : H a ≠ none → K.lookup a = none) :
    codeAny (model P w) callerA (.call (.ref fa) ⟨[.ref a], []⟩) (EndsTrue s₁) s₁ := by
  -- what the abstract heap does not track stands in the base
  have low : ∀ {b : Addr} {o : Obj}, s₁.heap.get? b = some o → H b = none → (hidT s₁.heap H).get? b = some o := fun e n => hidT_get e n
  have dicts : ∀ {b : Addr} {o : Obj} {es : Array DictEntry} {ep : Nat}, s₁.heap.get? b = some o → o.data = .dict es ep → H b = none := by
    intro b o es ep e d
    by_cases z : H b = none
    · exact z
    · have := one b z
      subst this
      rw [ha] at e
      cases e
      cases d
  have names : ∀ {b : Addr} {m : Str → Option Value}, s₁.heap.Ns b m → (hidT s₁.heap H).Ns b m := by
    rintro b m ⟨o, es, ep, e, d, r⟩
    exact ⟨o, es, ep, low e (dicts e d), d, r⟩
  have kin : K.In (hidT s₁.heap H) := by
    intro b o e
    refine low (KX b o e) ?_
    by_cases z : H b = none
    · exact z
    · have := one b z
      subst this
      rw [own z] at e
      cases e
  obtain ⟨mc, l1, l2⟩ := hlim
  have e0 : Env0 P w K mg (hidT s₁.heap H) callerA [] s₁ H :=
    ⟨rfl, ⟨kin, names hns, ⟨mb, names hb, hbb⟩, ⟨mc, names l1, l2⟩⟩, fun b o e => of_hidT e, Nat.le_of_eq (hidT_size _ _), trivial, (fun b z => nomatch (show b ∈ ([] : List Addr) from z)), hok, AllBare.of_eq hg⟩
  refine codeAny_mono ((F _ kin (names hns)).go callerA [] s₁ H ⟨[.ref a], []⟩ [.ref a] [.ref a] _ _ rfl hr e0 (hbind s₁ (.ref a)) (.cons rfl .nil) q) fun r s' h => ?_
  match r, h with
  | .error e, h => exact (hCX H e s' h).elim
  | .ok .next, h => exact h.elim
  | .ok .brk, h => exact h.elim
  | .ok .cont, h => exact h.elim
  | .ok (.ret u), ⟨v, H', os, bare, un, hok', ru, qv⟩ =>
    cases (show v = .bl true from qv)
    cases (show u = Value.bool true from ru)
    refine ⟨rfl, OldK.of_keep fun b o e => ?_, os, bare⟩
    by_cases z : H b = none
    · exact un.keep b o e z (fun w => nomatch (show b ∈ ([] : List Addr) from w)) (by simp)
    · rcases hO b with n | ⟨ob, xs, t⟩
      · exact absurd n z
      · have t' := un.frzs b ob _ t
        have e1 := (hok b _ t).1
        have e2 := (hok' b _ t').1
        rw [e] at e1
        cases e1
        exact e2
theorem law_callG (KX : K.In s₁.heap) (hns : s₁.heap.Ns mainGlobals mg) (hb : s₁.heap.Ns builtinsNs mb) (hbb : ∀ x : Str, x ≠ "__name__" → mb x = bootBuiltins x) (hlim : s₁.heap.NoLimit) (hg : s₁.gens = #[])
    (ha : s₁.heap.get? a = some { cls := .type "list", data := .seq vs.toArray }) (hi : IntsAre vs ns) (hl : ns.length ≤ sizeLine) (hr : Room k callerA)
    (F : ∀ base : Heap, K.In base → base.Ns mainGlobals mg → FnG P w K mg base CX k fa fd [x] sp) (hbind : ∀ (s : Shared) (u : Value), BindsTo s fd ⟨[u], []⟩ [(x, u)])
    (hsp : ∀ H : Hp, Only H → SqL K H a (ns.map V.int) → sp [.ref a] H (fun v _ => v = .bl true) fun _ _ _ => False) (hCX : ∀ H e s', CX [] H s₁ (fun _ _ _ => False) e s' → False) :
    codeAny (model P w) callerA (.call (.ref fa) ⟨[.ref a], []⟩) (EndsTrue s₁) s₁ := by
  have rv := vals_ints hi
  have lv := hi.length
  by_cases c : ∃ o, K.lookup a = some o
  · obtain ⟨o, hk⟩ := c
    have e := KX a o hk
    rw [ha] at e
    cases e
    have hO : Only (fun _ => none) := fun _ => .inl rfl
    refine law_fromG KX hns hb hbb hlim hg ha hr F hbind hCX (fun _ => none) hO (hsp _ hO ?_) (fun b u z => nomatch z) (fun b z => absurd rfl z) fun z => absurd rfl z
    exact .inr ⟨_, vs.toArray, _, hk, rfl, rfl, rfl, by rw [List.size_toArray, lv]; exact hl, by simpa using rv⟩
  · have hk : K.lookup a = none := by
      cases z : K.lookup a with
      | none => rfl
      | some o => exact absurd ⟨o, z⟩ c
    have h1 : ∀ b, (fun b : Addr => if b = a then some (HO.frz { cls := .type "list", data := .seq vs.toArray } (.lst (ns.map V.int))) else none) b ≠ none → b = a := fun b z => by
      by_cases h : b = a
      · exact h
      · exact absurd (if_neg h) z
    have hO : Only (fun b : Addr => if b = a then some (HO.frz { cls := .type "list", data := .seq vs.toArray } (.lst (ns.map V.int))) else none) := fun b => by
      by_cases h : b = a
      · exact .inr ⟨_, _, if_pos h⟩
      · exact .inl (if_neg h)
    refine law_fromG KX hns hb hbb hlim hg ha hr F hbind hCX _ hO (hsp _ hO (.inl (.inr ⟨_, if_pos rfl⟩))) (fun b u z => ?_) h1 fun _ => hk
    have hba : b = a := h1 b (fun w => by have w2 := z.symm.trans w; cases w2)
    subst hba
    have z' := (if_pos (c := b = b) rfl).symm.trans z
    cases z'
    exact ⟨ha, by rw [List.length_map]; exact hl, vs, _, rv, ha⟩
end
theorem walk_ofG {l : PySem.W.OpenLaw} {n k : Nat} {q : Program} {loose : List Str} {XP : (Str → Option Value) → Heap → Prop} {YP : World → Heap → Prop} {d : DefRec} {K : Params → PySem.W.Frag} {CX : World → CXT} {sp : World → Sp} {x : Str}
    (hn : l.most = some n) (hn2 : n ≤ sizeLine) (hdf : d.params.defaults = []) (hr : Room k callerA) (hY : ∀ (w : World) (h : Heap), YP w h → (K w.params).In h)
    (F : ∀ (w : World) (mg : Str → Option Value) (fa : Addr) (h : Heap), (K w.params).In h → h.Ns mainGlobals mg → mg d.name = some (.ref fa) →
      ∃ fd : FuncData, (∀ (s : Shared) (u : Value), BindsTo s fd ⟨[u], []⟩ [(x, u)]) ∧ ∀ base : Heap, (K w.params).In base → base.Ns mainGlobals mg → FnG l.prog w (K w.params) mg base (CX w) k fa fd [x] (sp w))
    (hsp : ∀ (w : World) (H : Hp) (a : Addr) (ns : List Int), ns.length ≤ n → Only H → SqL (K w.params) H a (ns.map V.int) → sp w [.ref a] H (fun v _ => v = .bl true) fun _ _ _ => False)
    (hCX : ∀ (w : World) (H : Hp) (s : Shared) (e : Value) (s' : Shared), CX w [] H s (fun _ _ _ => False) e s' → False) :
    PySem.W.WalkO q loose XP YP l.row.toRowW d [] (fun f vs => PySem.call f vs) := by
  refine Att.attach_call hn hdf fun w s₀ s₁ mg mb fa o pm cd doc a vs ns G Y ho hd hcd hmg hobj hints hlen hg => ?_
  obtain ⟨fd, hbd, hF⟩ := F w mg fa _ (hY w _ Y) G.T.g hmg
  exact law_callG (hY w _ Y) G.T.g G.T.b G.T.builtins G.T.nolimit hg hobj hints (Nat.le_trans hlen hn2) hr hF hbd (fun H hO hS => hsp w H a ns hlen hO hS) fun H e s' => hCX w H s₁ e s'
end Rd

set_option maxHeartbeats 4000000
/-! Dv: f-strings, list(d.items()), list(d.keys()), for x in d within a comprehension, dict(d), d != {}, xs[::-1]; three keywords. -/
namespace Rd
open PySem PySem.Spec L2 PyProof.Rows
section
variable {X : Cx} {σ : L2.St} {H : Hp} {Q : VK} {te : TE} {K : PySem.W.Frag}
/-! ### f-strings -/
def tJoin (ts : List TE) : TE := fun σ H Q => tJs ts Str.empty σ H fun out H1 => Q (.str out) H1
theorem pe_joinN {v1 v2 : Expr} {rest : List Expr} {ts : List TE} {pos : Pos} (h : PJ X (v1 :: v2 :: rest) ts) : PE X (.JoinedStr (v1 :: v2 :: rest) pos) (tJoin ts) := pe_joined h
def kJoin (Q : VK) : Str → Hp → Prop := fun out H1 => Q (.str out) H1
theorem r_join {ts : List TE} (q : tJs ts Str.empty σ H (kJoin Q)) : tJoin ts σ H Q := q
def kJs (ts : List TE) (acc : Str) (σ : L2.St) (Q : Str → Hp → Prop) : VK := fun x H1 => ∃ y : Str, x = .str y ∧ (acc ++ y).length ≤ sizeLine ∧ tJs ts (acc ++ y) σ H1 Q
theorem r_jCons {t : TE} {ts : List TE} {acc : Str} {R : Str → Hp → Prop} (q : t σ H (kJs ts acc σ R)) : tJs (t :: ts) acc σ H R := q
theorem r_kJs {ts : List TE} {acc y : Str} {R : Str → Hp → Prop} (h : (acc ++ y).length ≤ sizeLine) (q : tJs ts (acc ++ y) σ H R) : kJs ts acc σ R (.str y) H := ⟨y, rfl, h, q⟩
theorem r_jNil {acc : Str} (q : Q (.str acc) H) : tJs [] acc σ H (kJoin Q) := q
def kFmt (Q : VK) : VK := fun x H1 => (∃ y : Str, x = .str y ∧ y.length ≤ sizeLine ∧ Q (.str y) H1) ∨ ∃ i : Int, x = .int i ∧ i.natAbs.log2 < 1920 ∧ Q (.str (toString i)) H1
theorem r_fmt (q : te σ H (kFmt Q)) : tFmt te σ H Q := q
theorem r_kFmtS {y : Str} (h : y.length ≤ sizeLine) (q : Q (.str y) H) : kFmt Q (.str y) H := .inl ⟨y, rfl, h, q⟩
theorem r_kFmtI {i : Int} (h : i.natAbs.log2 < 1920) (q : Q (.str (toString i)) H) : kFmt Q (.int i) H := .inr ⟨i, rfl, h, q⟩
/-! ### dicts -/
def cDictD : R1 := fun xs H Q => ∃ (a : Addr) (kvs : List (Key × V)), xs = [.ref a] ∧ L2.Rd H a (.dK kvs) ∧ ∀ p, H p = none → Q (.ref p) (upd H p (.dK kvs))
theorem cr_dictD : CallR X (.type "dict") cDictD := call_dictD
theorem r_dictD {a : Addr} {kvs : List (Key × V)} (e : H a = some (.dK kvs)) (q : ∀ p H', H p = none → Kp [] H H' → H' p = some (.dK kvs) → Q (.ref p) H') : cDictD [.ref a] H Q :=
  ⟨a, kvs, rfl, .inl e, fun p n => q p _ n (Kp.new n) upd_same⟩
def kItemsL (Q : VK) : VK := fun x H1 => LiI.rItemsL x H1 Q
theorem r_lsItems (q : te σ H (kItemsL Q)) : LiI.tListItems te σ H Q := q
theorem paired_nd {H : Hp} : ∀ {ts : List Addr} {nds : List (Str × Int)}, Paired (fun (t : Addr) (q : Key × V) => H t = some (.tup [kV q.1, q.2])) ts (ndK nds) → Paired (fun t q => H t = some (.tup [.str q.1, .int q.2])) ts nds
  | [], [], _ => .nil
  | [], _ :: _, h => nomatch h
  | _ :: _, [], h => nomatch h
  | _ :: _, _ :: _, .cons h t => .cons h (paired_nd t)
theorem r_kItemsL {d : Addr} {nds : List (Str × Int)} (e : H d = some (.dK (ndK nds))) (q : ∀ p H' xs, H p = none → Kp [] H H' → H' p = some (.lst xs) → DtAll [p] H' xs (nds.map ndD) → Q (.ref p) H') : kItemsL Q (.ref d) H := by
  refine ⟨d, ndK nds, rfl, e, fun H' p ts kp np nt hp ep pr => q p H' _ np (fun b o h _ => kp b o h) ep (paired_dt (fun t o ht z => ?_) (paired_nd pr))⟩
  rw [z, ep] at ht
  cases ht
def rNeE : R2 := fun x y H Q => ∃ a b ks, x = .ref a ∧ y = .ref b ∧ H a = some (.dK ks) ∧ H b = some (.dK []) ∧ Q (.bl (!(ks.length == 0))) H
theorem op_neE (hu : X.A.units < cLine) : OpR X (compareOp .NotEq) rNeE := by
  intro pins s σ H x y v u Q I rx ry h
  obtain ⟨a, b, ks, rfl, rfl, ea, eb, q⟩ := h
  obtain rfl : v = Value.ref a := rx
  obtain rfl : u = Value.ref b := ry
  obtain ⟨_, ya, va, ra, da⟩ := (show ObjOk X.prog X.w H s.heap a (.dK ks) from I.hok a _ ea)
  obtain ⟨_, yb, vb, rb, db⟩ := (show ObjOk X.prog X.w H s.heap b (.dK []) from I.hok b _ eb)
  have hl : ks.length = va.length := ra.length
  have hb : vb = [] := by
    cases rb
    rfl
  subst hb
  refine PySem.W.keq_ne (knd := mixKind X.prog X.w) (r := true) ya yb da db hu (fun z => ?_) (fin_bl I q (by rw [hl]; simp))
  have : va = [] := List.eq_nil_of_length_eq_zero z
  subst this
  exact .nil
theorem r_neE {a b : Addr} {ks : List (Key × V)} (ea : H a = some (.dK ks)) (eb : H b = some (.dK [])) (q : Q (.bl (!(ks.length == 0))) H) : rNeE (.ref a) (.ref b) H Q := ⟨a, b, ks, rfl, rfl, ea, eb, q⟩
/-! ### for x in d, within a comprehension -/
def kUn (d : Addr) (od : Obj) (u : HO) (Q : VK) : VK := fun v H' => H' d = some (.frz od u) ∧ Q v (upd H' d u)
theorem r_lockE {t : TE} {d : Addr} {kvs : List (Key × V)} (e : H d = some (.dK kvs)) (q : ∀ od H', Kp [d] H H' → H' d = some (.frz od (.dK kvs)) → t σ H' (kUn d od (.dK kvs) Q)) : tLockE t σ H Q :=
  ⟨d, .dK kvs, e, by trivial, fun od => q od _ (Kp.put (by simp)) upd_same⟩
theorem r_kUn {d : Addr} {od : Obj} {u : HO} {v : V} (e : H d = some (.frz od u)) (q : ∀ H', Kp [d] H H' → H' d = some u → Q v H') : kUn d od u Q v H := ⟨e, q _ (Kp.put (by simp)) upd_same⟩
/-- locked and free again: all stays -/
theorem Kp.relock {H H1 H2 H3 : Hp} {d : Addr} {u : HO} (k1 : Kp [d] H H1) (k2 : Kp [d] H1 H2) (k3 : Kp [d] H2 H3) (e : H d = some u) (e3 : H3 d = some u) : Kp [] H H3 := fun b o h _ => by
  by_cases z : b = d
  · subst z
    rw [e] at h
    cases h
    exact e3
  · exact k3 b o (k2 b o (k1 b o h (not_one z)) (not_one z)) (not_one z)
def kIK (R : It → Hp → Prop) : VK := fun x H1 => ∃ d o, x = .ref d ∧ ((∃ kvs, H1 d = some (.frz o (.dK kvs)) ∧ R (Itk d o kvs) H1) ∨ ∃ kvs, H1 d = some (.frz o (.dT kvs)) ∧ R (Itkt d o kvs) H1)
theorem r_iKeys {R : It → Hp → Prop} {td : TE} (q : td σ H (kIK R)) : iKeys td σ H R := q
theorem r_kIK {R : It → Hp → Prop} {d : Addr} {o : Obj} {kvs : List (Key × V)} (e : H d = some (.frz o (.dK kvs))) (q : R (Itk d o kvs) H) : kIK R (.ref d) H := ⟨d, o, rfl, .inl ⟨kvs, e, q⟩⟩
theorem r_kLcK {g : TG} {tt : TT} {te : TE} {vs : List Nat} {d : Addr} {o : Obj} {kvs : List (Key × V)} (Pv : Addr → Nat → List V → Hp → Prop) (h0 : ∀ D H', H D = none → Kp [] H H' → H' D = some (.lst []) → Pv D 0 [] H') (hG : ∀ D i acc H', i ≤ kvs.length → Pv D i acc H' → H' d = some (.frz o (.dK kvs)))
    (hs : ∀ D (i : Nat) acc k v H', H D = none → kvs[i]? = some (k, v) → H' D = some (.lst acc) → Pv D i acc H' → g (kV k) (wipe σ vs) H' (kTurn tt te (wipe σ vs) vs D (kN (Pv D (i + 1)) D)))
    (hd : ∀ D acc H', H D = none → H' D = some (.lst acc) → Pv D kvs.length acc H' → Q (.ref D) H') : kLc g tt te vs σ Q (Itk d o kvs) H := by
  refine r_kLc walk_keys Pv h0 hG (fun D i acc x H' H'' hD hi e hp y => ?_) hd
  obtain ⟨rfl, k, v, e', rfl⟩ := y
  exact hs D i acc k v _ hD e' e hp
theorem r_kDGf {a : Addr} {od : Obj} {kvs : List (Key × V)} {z : Str} {v : V} (e : H a = some (.frz od (.dK kvs))) (h : valV kvs (Sum.inr z) = some v) (q : Q v H) : kDG Q (.ref a) (.str z) H :=
  ⟨a, v, rfl, .inl ⟨kvs, Sum.inr z, .inr ⟨od, e⟩, rfl, h.symm⟩, q⟩
/-! ### xs[::-1] -/
theorem K_revL {e : Expr} {k : Nat} {p1 p2 p3 pos : Pos} (hK : X.K = K) (he : PE X e te) : PE X (.Subscript e (.Slice none none (some (.UnaryOp .USub (.Constant (.int 1) k p1) p2)) p3) pos) (tRevL K te) := by
  subst hK
  exact pe_revL he
def kRev (K : PySem.W.Frag) (Q : VK) : VK := fun x H1 => ∃ a xs, x = .ref a ∧ SqL K H1 a xs ∧ ∀ p, H1 p = none → Q (.ref p) (upd H1 p (.lst xs.reverse))
theorem r_revL (q : te σ H (kRev K Q)) : tRevL K te σ H Q := q
theorem r_kRev {a : Addr} {xs : List V} (h : SqL K H a xs) (q : ∀ p H', H p = none → Kp [] H H' → H' p = some (.lst xs.reverse) → Q (.ref p) H') : kRev K Q (.ref a) H := ⟨a, xs, rfl, h, fun p n => q p _ n (Kp.new n) upd_same⟩
/-! ### list(d.keys()) -/
def rKeysL : V → Hp → VK → Prop := fun x H Q => ∃ (d : Addr) (kvs : List (Key × V)), x = .ref d ∧ H d = some (.dK kvs) ∧ ∀ p, H p = none → Q (.ref p) (upd H p (.lst (kvs.map fun kv => kV kv.1)))
def tListKeys (te : TE) : TE := fun σ H Q => te σ H fun x H1 => rKeysL x H1 Q
def kKeysL (Q : VK) : VK := fun x H1 => rKeysL x H1 Q
theorem r_lsKeys (q : te σ H (kKeysL Q)) : tListKeys te σ H Q := q
theorem r_kKeysL {d : Addr} {kvs : List (Key × V)} (e : H d = some (.dK kvs)) (q : ∀ p H', H p = none → Kp [] H H' → H' p = some (.lst (kvs.map fun kv => kV kv.1)) → Q (.ref p) H') : kKeysL Q (.ref d) H := ⟨d, kvs, rfl, e, fun p n => q p _ n (Kp.new n) upd_same⟩
/-- list(e.keys()) -/
theorem pe_listKeys {e : Expr} {p apos cpos pos : Pos} (hc : X.calm = true) (he : PE X e te) (hg : Gl X "list") (hm : X.mg "list" = none) (hv : bootBuiltins "list" = some (.type "list")) (hbase : attributeBase e "keys" X.env (eval e X.env) = eval e X.env := by rfl) (hline : (apos.endLine == cpos.line) = true := by rfl)
    (hs : starEach [.Call (.Attribute e "keys" apos) [] [] cpos] X.env = (false, eval (.Call (.Attribute e "keys" apos) [] [] cpos) X.env) :: starEach [] X.env := by rfl) :
    PE X (.Call (.Name "list" p) [.Call (.Attribute e "keys" apos) [] [] cpos] [] pos) (tListKeys te) := by
  refine ⟨fun pins s σ H Q I hq => ?_⟩
  refine wpAny_Call_Name_kw (ld_blt I hg hm hv ?_)
  refine PyProof.Rows.callWith_type1 ?_ hs rfl
  rw [hs]
  show wpAny _ _ (spliced ((false, eval (.Call (.Attribute e "keys" apos) [] [] cpos) X.env) :: backTo pos (starEach [] X.env))) _ _ s
  refine Calls.spliced_cons ?_
  refine wpAny_Call_method (T := "dict") (id := "dict.keys") hbase rfl hline F.plainAttrs_dict F.slot_dict_keys F.type_dict_keys (thn (he.run pins s σ H _ I hq) fun u s1 ⟨x, H1, I1, rx, d, kvs, ex, hd, q⟩ => ?_)
  subst ex
  obtain rfl : u = Value.ref d := rx
  obtain ⟨hz, hs0, vs, kv, hdo⟩ := I1.hok d _ hd
  obtain ⟨ep, hat⟩ := hdo.dictAt
  have lk : kvs.length = vs.length := Paired.length kv
  have I2 : Inv X pins σ H1 { s1 with heap := s1.heap.push { cls := .type "dict_keys", data := .fields #[.ref d] } } := I1.kept (t' := s1.toks) fun b ob q => Heap.get?_push_of_some _ q
  refine ⟨hdo.typeIs, hdo.mapOf.noDict, ?_⟩
  show wpAny _ _ (callWith cpos (.builtin "dict.keys") [.ref d] [] []) _ X.xe s1
  refine method_meetsIn F.slot_dict_keys F.entry_dict_keys rfl (PySem.evalArgs_none ⟨rfl, hdo.typeIs, F.args_dict_keys_1 _, _, PySem.W.kdl_meets_keys (mixKind X.prog X.w) d hs0, ⟨vs, hdo⟩, ?_⟩)
  refine Calls.spliced_nil ?_
  have ek : (kvs.map fun kv => kV kv.1) = vs.map fun p => kV p.1 := by
    have e := congrArg (List.map kV) kv.keys
    rw [List.map_map, List.map_map] at e
    exact e
  refine PySem.W.kdl_call (PySem.W.kdl_keys (knd := mixKind X.prog X.w) (kvs := vs) (ep := ep)) (I1.ok.hd hc) ⟨⟨_, Heap.get?_push_size _ rfl, rfl, rfl⟩, hat.push _⟩ (by rw [← lk]; exact hz) fun h' tk acc c' hk hD hacc => ?_
  have hv : Vals (vs.map fun p => kV p.1) acc.toList := keys_at (by rw [Array.length_toList]; exact hacc.1) fun j v e => hacc.2 j v (by rw [← Array.getElem?_toList]; exact e)
  have hn : H1 (s1.heap.objs.size + 1) = none := I1.hok.fresh (Nat.le_succ _)
  have sz : (s1.heap.push { cls := .type "dict_keys", data := .fields #[.ref d] }).objs.size = s1.heap.objs.size + 1 := Heap.size_push _ _
  refine ⟨.ref _, upd H1 (s1.heap.push { cls := .type "dict_keys", data := .fields #[.ref d] }).objs.size (.lst (kvs.map fun kv => kV kv.1)), I2.laid (t' := tk) hk (Nat.le_refl _)
    (show ObjOk X.prog X.w _ _ _ (.lst (kvs.map fun kv => kV kv.1)) from ⟨by rw [List.length_map]; exact hz, acc.toList, c', by rw [ek]; exact hv, by rw [Array.toArray_toList]; exact hD⟩), rfl, q _ (by rw [sz]; exact hn)⟩
end
/-- what a def f(self, a, *v, **d) binds, called with three keywords -/
theorem bind_kw2_3 {B : List Value → List Value → Sem (List (Str × Value))} {p1 p2 pv pd k1 k2 k3 : Str}
    (h0 : ∀ a b v1 v2 v3, B [a, b] [v1, v2, v3] = (newTuple [] >>= fun t => (alloc ({ cls := .type "dict", data := .dict #[] } : Obj) : Sem Addr) >>= fun d => (forIn [(k1, v1), (k2, v2), (k3, v3)] PUnit.unit fun x _ => (nsSet d x.1 x.2 >>= fun _ => pure (ForInStep.yield PUnit.unit))) >>= fun _ => pure [(p1, a), (p2, b), (pv, t), (pd, Value.ref d)]))
    (h1 : ∀ a b r rs v1 v2 v3, B (a :: b :: r :: rs) [v1, v2, v3] = (newTuple (r :: rs) >>= fun t => (alloc ({ cls := .type "dict", data := .dict #[] } : Obj) : Sem Addr) >>= fun d => (forIn [(k1, v1), (k2, v2), (k3, v3)] PUnit.unit fun x _ => (nsSet d x.1 x.2 >>= fun _ => pure (ForInStep.yield PUnit.unit))) >>= fun _ => pure [(p1, a), (p2, b), (pv, t), (pd, Value.ref d)])) :
    ∀ us rest vals : List Value, us.length = [p1, p2].length → vals.length = [k1, k2, k3].length → B (us ++ rest) vals = (newTuple rest >>= fun t => (alloc ({ cls := .type "dict", data := .dict #[] } : Obj) : Sem Addr) >>= fun d => (forIn ([k1, k2, k3].zip vals) PUnit.unit fun x _ => (nsSet d x.1 x.2 >>= fun _ => pure (ForInStep.yield PUnit.unit))) >>= fun _ => pure ([p1, p2].zip us ++ [(pv, t), (pd, Value.ref d)]))
  | [a, b], [], [v1, v2, v3], _, _ => h0 a b v1 v2 v3
  | [a, b], r :: rs, [v1, v2, v3], _, _ => h1 a b r rs v1 v2 v3
/-! ### defs whose promise holds where nothing is being shown -/
theorem Fun.okG {P : Program} {w : World} {K : PySem.W.Frag} {mg : Str → Option Value} {base : Heap} {x qual : Str} {st : Stmt} {f : Addr} {fd : FuncData} {N ps : List Str} {k : Nat} {sp : Sp} (F : Fun K x qual st f fd) (S : FnScope N ps (defScope st)) (len : ∀ vs H Q E, sp vs H Q E → vs.length = ps.length)
    (hbody : ∀ (cdv : Value) (A : Around) (outer : List Env) (s : Shared) (H : Hp) (vs : List V) (Q : VK) (E : XK), Bare (A.deeper (envOfC qual (defScope st) s.heap.objs.size f cdv)) → Room k (A.deeper (envOfC qual (defScope st) s.heap.objs.size f cdv)) → sp vs H Q E →
      ∃ t, PSs (cxOf CX0 P w K mg base N qual (defScope st) f cdv A outer s H E).nox (defBody st) t ∧ t { nx := fun _ H' => Q .non H', rt := Q } (start N vs) H) : FnG P w K mg base CX0 (k + 1) f fd ps sp := by
  obtain ⟨oc, od, kV, doc, pm, an, cdv, ct, osl, rfl, lk, hcd⟩ := F.ex
  refine fn_ofG lk hcd S len fun A outer s H vs Q E bare hr hsp => ?_
  obtain ⟨t, h, q⟩ := hbody cdv A outer s H vs Q E bare hr hsp
  exact ⟨t, h.nox, q⟩
/-! ### len and items of a list or a text -/
def cLenA (K : PySem.W.Frag) : R1 := fun xs H Q => cLen K xs H Q ∨ cLenS xs H Q
theorem K_lenA {X : Cx} {K : PySem.W.Frag} (hK : X.K = K) : CallR X (.builtin "len") (cLenA K) := by
  subst hK
  intro pins s σ H xs us Q I r h
  rcases h with h | h
  · exact cr_len pins s σ H xs us Q I r h
  · exact cr_lenS pins s σ H xs us Q I r h
def rIxA (K : PySem.W.Frag) : R2 := fun x y H Q => rIxL K x y H Q ∨ rIxS x y H Q
theorem K_ixA {X : Cx} {K : PySem.W.Frag} (hK : X.K = K) : IxR X (rIxA K) := by
  subst hK
  exact ix_list.or ix_str
/-! ### repr of a number -/
def cReprI : R1 := fun xs H Q => ∃ i, xs = [.int i] ∧ i.natAbs.log2 < 1920 ∧ Q (.str (toString i)) H
theorem cr_reprI {X : Cx} : CallR X (.builtin "repr") cReprI := SkE.call_repr_int
theorem r_reprI {H : Hp} {Q : VK} {i : Int} (h : i.natAbs.log2 < 1920) (q : Q (.str (toString i)) H) : cReprI [.int i] H Q := ⟨i, rfl, h, q⟩
/-! ### an assignment of a comprehension over a dict -/
def kUnN (d : Addr) (od : Obj) (u : HO) (nx : L2.St → Hp → Prop) : L2.St → Hp → Prop := fun σ' H' => H' d = some (.frz od u) ∧ nx σ' (upd H' d u)
theorem r_kUnN {d : Addr} {od : Obj} {u : HO} {nx : L2.St → Hp → Prop} {σ : L2.St} {H : Hp} (e : H d = some (.frz od u)) (q : ∀ H', Kp [d] H H' → H' d = some u → nx σ H') : kUnN d od u nx σ H := ⟨e, q _ (Kp.put (by simp)) upd_same⟩
theorem r_lockS {t : TS} {nx bk ct : L2.St → Hp → Prop} {rt : VK} {σ : L2.St} {H : Hp} {d : Addr} {kvs : List (Key × V)} (e : H d = some (.dK kvs))
    (q : ∀ od H', Kp [d] H H' → H' d = some (.frz od (.dK kvs)) → t ⟨kUnN d od (.dK kvs) nx, kUn d od (.dK kvs) rt, kUnN d od (.dK kvs) bk, kUnN d od (.dK kvs) ct⟩ σ H') : tLock t ⟨nx, rt, bk, ct⟩ σ H :=
  ⟨d, .dK kvs, e, by trivial, fun od => q od _ (Kp.put (by simp)) upd_same⟩
theorem r_sortedS {K : PySem.W.Frag} {H : Hp} {Q : VK} {a : Addr} {xs : List Str} (h : SqL K H a (xs.map V.str)) (hl : xs.length < 64) (q : ∀ (ys : List Str) p H', ys.Perm xs → H p = none → Kp [] H H' → H' p = some (.lst (ys.map V.str)) → Q (.ref p) H') : rSortedS K [.ref a] H Q :=
  ⟨a, xs, rfl, h, hl, fun ys p pm _ n => q ys p _ pm n (Kp.new n) upd_same⟩
end Rd

namespace My
open PySem L2 Rd StX
def top (i : Nat) : Stmt := PySem.Challenge.pw_silentswaps_k25_calls_made.main.body.getD i (.Pass ⟨0, 0, 0, 0⟩)
local macro_rules | `(tactic| walk_at "s") => `(tactic| (first
  | (with_reducible refine r_seq ?_)
  | (with_reducible refine r_asg ?_)
  | ((with_reducible refine' r_var (v := ?v) ?hv ?_); (case hv => exact rfl))
  | (with_reducible refine r_c ?_)
  | (with_reducible refine r_name ?_)
  | (with_reducible refine r_op ?_)
  | (with_reducible refine r_un ?_)
  | (with_reducible refine r_consA ?_)
  | (with_reducible refine r_nilA ?_)
  | (with_reducible refine r_I0 ?_)
  | (with_reducible refine r_U ?_)
  | (with_reducible refine r_eqI ?_)
  | (with_reducible refine r_neI ?_)
  | (with_reducible refine r_test ?_)
  | (with_reducible refine r_tB ?_)
  | (with_reducible refine r_kB ?_)
  | (with_reducible refine r_ifS ?_)
  | (with_reducible refine r_if ?_)
  | (with_reducible refine r_and ?_)
  | (with_reducible refine r_or ?_)
  | (with_reducible refine r_not ?_)
  | (with_reducible refine r_ret ?_)
  | (with_reducible refine r_retN ?_)
  | (with_reducible refine r_next ?_)
  | (with_reducible refine r_drop ?_)
  | (with_reducible refine r_brk ?_)
  | (with_reducible refine r_cont ?_)
  | (with_reducible refine r_andV ?_)
  | (with_reducible refine r_orV ?_)
  | (with_reducible refine r_notV ?_)
  | (with_reducible refine r_kNotV ?_)
  | (with_reducible refine r_lst ?_)
  | (with_reducible refine r_tup ?_)
  | (with_reducible refine r_dget ?_)
  | (with_reducible refine r_dput ?_)
  | (with_reducible refine r_use ?_)
  | (with_reducible refine r_cb ?_)
  | (with_reducible refine r_par ?_)
  | (with_reducible refine r_int ?_)
  | (with_reducible refine r_abs ?_)
  | (with_reducible refine r_max2 ?_)
  | (with_reducible refine r_min2 ?_)
  | (with_reducible refine r_pnil ?_)
  | (with_reducible refine r_pcons ?_)
  | (with_reducible refine r_eqS ?_)
  | (with_reducible refine r_neS ?_)
  | (with_reducible refine r_for ?_)
  | (with_reducible refine r_rng1 ?_)
  | (with_reducible refine r_rng2 ?_)
  | (with_reducible refine r_wl ?_)
  | (with_reducible refine r_wt ?_)
  | (with_reducible refine r_wq ?_)
  | (with_reducible refine r_ws ?_)
  | (with_reducible refine r_cWS ?_)
  | (with_reducible refine r_enum ?_)
  | (with_reducible refine r_zip ?_)
  | (with_reducible refine r_lc ?_)
  | (with_reducible refine r_dc ?_)
  | ((with_reducible refine r_kTurn ?ht ?_); (case ht => rfl))
  | ((with_reducible refine r_kTurnD ?ht ?_); (case ht => rfl))
  | (with_reducible refine r_yes ?_)
  | ((with_reducible refine r_kKeep1 ?hk ?_); (case hk => rfl))
  | ((with_reducible refine r_kKeepD1 ?hk ?_); (case hk => rfl))
  | (with_reducible refine r_gcons ?_)
  | (with_reducible refine r_gnil ?_)
  | (with_reducible refine r_bm ?_)
  | (with_reducible refine r_bm0 ?_)
  | (with_reducible refine r_fld ?_)
  | (with_reducible refine r_sfld ?_)
  | (with_reducible refine r_methR ?_)
  | (with_reducible refine r_makeR ?_)
  | (with_reducible refine r_chain ?_)))
local macro_rules | `(tactic| walk_at "S") => `(tactic| repeat walk_at "s")
local macro_rules | `(tactic| walk_at "D") => `(tactic| repeat' (first
  | exact AD_nil
  | refine AD_cons ?_ (fun _ _ => ?_)
  | refine ED_tup ?_ (Nat.le_trans (m := 100) (Nat.le_of_ble_eq_true rfl) (by decide))
  | refine ED_lst ?_ (Nat.le_trans (m := 100) (Nat.le_of_ble_eq_true rfl) (by decide))
  | exact ED_c (by constructor)
  | exact ED_var rfl (by constructor)))
local macro_rules | `(tactic| walk_at "N") => `(tactic| repeat' (first
  | exact AN_nil
  | refine AN_cons ?_ (fun _ _ => ?_)
  | refine EN_tup ?_ (Nat.le_trans (m := 100) (Nat.le_of_ble_eq_true rfl) (by decide))
  | refine EN_lst ?_ (Nat.le_trans (m := 100) (Nat.le_of_ble_eq_true rfl) (by decide))
  | exact EN_c (fun _ => by constructor)
  | exact EN_var rfl (fun _ => by constructor)))

/-- what the walk asks of the module's names -/
structure Txt (K : PySem.W.Frag) (mg : Str → Option Value) (C_Call : Addr) : Prop where
  z_range : mg "range" = none
  z_sorted : mg "sorted" = none
  z_max : mg "max" = none
  z_dict : mg "dict" = none
  z_zip : mg "zip" = none
  z_tuple : mg "tuple" = none
  z_int : mg "int" = none
  z_list : mg "list" = none
  z_repr : mg "repr" = none
  z_str : mg "str" = none
  z_len : mg "len" = none
  z_any : mg "any" = none
  z_isinstance : mg "isinstance" = none
  z_abs : mg "abs" = none
  z_min : mg "min" = none
  c_Call : Cls K C_Call
  v_Call : ∃ u, mg "Call" = some u ∧ RelV (.ref C_Call) u
  na_Call_name : NoAttr K C_Call "name"
  na_Call_indexes : NoAttr K C_Call "indexes"
  na_Call_named : NoAttr K C_Call "named"
  fc_Call : ∀ C, (FamS [C_Call]) C → Cls K C
  fn_Call_name : ∀ C, (FamS [C_Call]) C → NoAttr K C "name"
  fn_Call_indexes : ∀ C, (FamS [C_Call]) C → NoAttr K C "indexes"
  fn_Call_named : ∀ C, (FamS [C_Call]) C → NoAttr K C "named"
  cl_Call : ∀ C, (FamS [C_Call]) C → PySem.W.findIn K (.ref C) "__class__" = some (some (.builtin "object.__class__"))
  ob_Call : ∀ C, (FamS [C_Call]) C → PySem.W.mroIn K C (.type "object") = some true
  ki_Call : ∀ C, (FamS [C_Call]) C → PySem.W.kitOne K (.ref C) (.ref C_Call) = some true
  nNoneType_Call : ∀ C, (FamS [C_Call]) C → PySem.W.notFirst K C (.type "NoneType") = true
  nstr_Call : ∀ C, (FamS [C_Call]) C → PySem.W.notFirst K C (.type "str") = true
  ntuple_Call : ∀ C, (FamS [C_Call]) C → PySem.W.notFirst K C (.type "tuple") = true
  nint_Call : ∀ C, (FamS [C_Call]) C → PySem.W.notFirst K C (.type "int") = true
  kNoneType_Call : PySem.W.kitOne K (.type "NoneType") (.ref C_Call) = some false
  kstr_Call : PySem.W.kitOne K (.type "str") (.ref C_Call) = some false
  ktuple_Call : PySem.W.kitOne K (.type "tuple") (.ref C_Call) = some false
  kint_Call : PySem.W.kitOne K (.type "int") (.ref C_Call) = some false
  gt_Call : PySem.W.specialIn K (.builtin "object.__class__") "__get__" = some (some (.builtin "getset_descriptor.__get__"))
  tk_Call : PySem.W.takesIn K (.builtin "object.__class__") = some true
  nf_Call : ∀ C, (FamS [C_Call]) C → ∀ D, (FamS [C_Call]) D → PySem.W.notFirst K C (.ref D) = true
  k_ne : PySem.W.findIn K (.ref C_Call) "__ne__" = some (some (.builtin "object.__ne__"))
  k_ob : PySem.W.mroIn K C_Call (.type "object") = some true
section
variable {P : Program} {w : World} {K : PySem.W.Frag} {mg : Str → Option Value} {base : Heap}
variable {C_Call : Addr}

open NdefX
local macro_rules | `(tactic| walk_at "s") => `(tactic| (first
  | (with_reducible refine r_sl ?_)
  | (with_reducible refine r_kS1 ?_)
  | (with_reducible refine r_kS2 ?_)
  | (with_reducible refine r_kS3 ?_)
  | (with_reducible refine r_noPart ?_)
  | (with_reducible refine r_part ?_)
  | (with_reducible refine r_kPart ?_)
  | (with_reducible refine r_gsub ?_)
  | (with_reducible refine r_m1 ?_)
  | (with_reducible refine r_kM1 ?_)
  | (with_reducible refine r_propF ?_)
  | (with_reducible refine r_drp ?_)
  | (with_reducible refine r_min2S ?_)
  | (with_reducible refine r_max2S ?_)
  | (with_reducible refine r_enumS ?_)
  | (with_reducible refine r_cEnumS ?_)
  | (with_reducible refine r_makeKS ?_)
  | (with_reducible refine r_makeS ?_)))

local macro_rules | `(tactic| walk_at "s") => `(tactic| (first
  | (with_reducible refine r_mkV ?_)
  | (with_reducible refine r_ofl ?_)
  | (with_reducible refine r_methF ?_)
  | (with_reducible refine r_callF ?_)
  | (with_reducible refine r_star ?_)
  | (with_reducible refine r_smeth ?_)
  | (with_reducible refine r_kSMeth ?_)))

local macro_rules | `(tactic| walk_at "s") => `(tactic| (first
  | (with_reducible refine r_dcT ?_)
  | ((with_reducible refine r_kTurnT ?ht ?_); (case ht => rfl))
  | ((with_reducible refine r_kKeepT1 ?hk ?_); (case hk => rfl))
  | (with_reducible refine r_own ?_)
  | (with_reducible refine r_cmeth ?_)
  | (with_reducible refine r_kCMeth ?_)
  | (with_reducible refine r_makeS1 ?_)
  | ((with_reducible refine r_makeV ?hv ?_); (case hv => rfl))
  | (with_reducible refine r_isBl ?_)
  | (with_reducible refine r_ltS ?_)
  | (with_reducible refine r_makeW ?_)
  | (with_reducible refine r_kMakeW0 ?_)
  | (with_reducible refine r_lr1 ?_)
  | (with_reducible refine r_lc2 ?_)
  | ((with_reducible refine r_kTurn2 ?ht ?_); (case ht => rfl))
  | ((with_reducible refine r_kKeep2 ?hk ?_); (case hk => rfl))))

local macro_rules | `(tactic| walk_at "s") => `(tactic| (first
  | (with_reducible refine r_tTruOwn ?_)
  | (with_reducible refine r_notOwn ?_)
  | (with_reducible refine r_par3 ?_)))

local macro_rules | `(tactic| walk_at "s") => `(tactic| (first
  | (with_reducible refine Rd.r_join ?_)
  | (with_reducible refine r_jCons ?_)
  | (with_reducible refine r_jNil ?_)
  | (with_reducible refine r_fmt ?_)
  | (with_reducible refine r_lsItems ?_)
  | (with_reducible refine r_lsKeys ?_)
  | (with_reducible refine r_iKeys ?_)
  | (with_reducible refine r_revL ?_)))

/-! ### calls: objects of one class with a name, indexes by position, pairs of names and indexes -/
def CallAt (C : Addr) (H : Hp) (a : Addr) (nm : Str) (ixs : List Int) (nds : List (Str × Int)) : Prop := ∃ dx p q fs, H a = some (.ins C dx fs) ∧ fs.length ≤ 900 ∧
  fs.lookup ("name" : Str) = some (.str nm) ∧ fs.lookup ("indexes" : Str) = some (.ref p) ∧ fs.lookup ("named" : Str) = some (.ref q) ∧ (∀ m : Str, m ≠ "name" → m ≠ "indexes" → m ≠ "named" → fs.lookup m = none) ∧ H p = some (.tup (ixs.map V.int)) ∧ Dt [] H (.ref q) (.tuple (nds.map ndD))
theorem CallAt.kp {C : Addr} {H H' : Hp} {a : Addr} {nm : Str} {ixs : List Int} {nds : List (Str × Int)} (h : CallAt C H a nm ixs nds) (k : Kp [] H H') : CallAt C H' a nm ixs nds := by
  obtain ⟨dx, p, q, fs, e, hl, h1, h2, h3, h4, ep, d⟩ := h
  exact ⟨dx, p, q, fs, k _ _ e not_nil, hl, h1, h2, h3, h4, k _ _ ep not_nil, d.mono k⟩
theorem srtN_nil : srtN [] = [] := List.eq_nil_of_length_eq_zero (by rw [(srtN_perm []).length_eq]; rfl)
theorem n_ni : ¬ (("name" : Str) = "indexes") := by decide +kernel
theorem n_nn : ¬ (("name" : Str) = "named") := by decide +kernel
theorem n_in : ¬ (("indexes" : Str) = "named") := by decide +kernel
/-- the three fields, stored one behind the other -/
def callF (nm : Str) (p q : Addr) : List (Str × V) := putF "named" (.ref q) (putF "indexes" (.ref p) (putF "name" (.str nm) []))
theorem callF_len (nm : Str) (p q : Addr) : (callF nm p q).length ≤ 900 := by
  have h1 := length_putF "name" (.str nm) []
  have h2 := length_putF "indexes" (.ref p) (putF "name" (.str nm) [])
  have h3 := length_putF "named" (.ref q) (putF "indexes" (.ref p) (putF "name" (.str nm) []))
  unfold callF
  rw [List.length_nil] at h1
  omega
theorem callF_at {C H} {a dx p q : Addr} {nm : Str} {ixs : List Int} {nds : List (Str × Int)} (e : H a = some (.ins C dx (callF nm p q))) (ep : H p = some (.tup (ixs.map V.int))) (d : Dt [] H (.ref q) (.tuple (nds.map ndD))) : CallAt C H a nm ixs nds := by
  refine ⟨dx, p, q, _, e, callF_len nm p q, ?_, ?_, ?_, fun m h1 h2 h3 => ?_, ep, d⟩
  · unfold callF
    rw [lookup_putF, if_neg n_nn, lookup_putF, if_neg n_ni, lookup_putF, if_pos rfl]
  · unfold callF
    rw [lookup_putF, if_neg n_in, lookup_putF, if_pos rfl]
  · unfold callF
    rw [lookup_putF, if_pos rfl]
  · unfold callF
    rw [lookup_putF, if_neg h3, lookup_putF, if_neg h2, lookup_putF, if_neg h1]
    rfl
/-- another dict's pairs are stored -/
theorem CallAt.put {C : Addr} {H H' : Hp} {a : Addr} {nm : Str} {ixs : List Int} {nds nds' : List (Str × Int)} {dx q' : Addr} {fs : List (Str × V)} (h : CallAt C H a nm ixs nds) (e : H a = some (.ins C dx fs)) (k : Kp [a] H H') (e' : H' a = some (.ins C dx (putF "named" (.ref q') fs))) (d : Dt [] H' (.ref q') (.tuple (nds'.map ndD))) : CallAt C H' a nm ixs nds' := by
  obtain ⟨dx0, p, q, fs0, e0, hl, h1, h2, h3, h4, ep, _⟩ := h
  rw [e] at e0
  cases e0
  have pa : p ≠ a := fun z => by
    rw [z, e] at ep
    cases ep
  have hlen : (putF "named" (.ref q') fs).length ≤ 900 := by
    have key : ∀ fs : List (Str × V), fs.lookup ("named" : Str) ≠ none → (putF "named" (.ref q') fs).length = fs.length := by
      intro fs
      induction fs with
      | nil => intro h; exact absurd rfl h
      | cons g r ih =>
        intro h
        obtain ⟨g, x⟩ := g
        show (if g = "named" then (g, V.ref q') :: r else (g, x) :: putF "named" (.ref q') r).length = _
        by_cases c : g = "named"
        · rw [if_pos c]
          rfl
        · rw [if_neg c, List.length_cons, List.length_cons, ih]
          intro z
          apply h
          rw [List.lookup_cons, beq_eq_false_iff_ne.mpr (fun w => c w.symm)]
          exact z
    rw [key fs (by rw [h3]; exact fun z => nomatch z)]
    exact hl
  refine ⟨dx, p, q', _, e', hlen, ?_, ?_, ?_, fun m m1 m2 m3 => ?_, k _ _ ep (not_one pa), d⟩
  · rw [lookup_putF, if_neg n_nn]
    exact h1
  · rw [lookup_putF, if_neg n_in]
    exact h2
  · rw [lookup_putF, if_pos rfl]
  · rw [lookup_putF, if_neg m3]
    exact h4 m m1 m2 m3
def spb_Call___init__ (C : Addr) : Sp := fun vs H Q _ => ∃ (a dx p d : Addr) (nm : Str) (ixs : List Int), vs = [.ref a, .str nm, .ref p, .ref d] ∧ H a = some (.ins C dx []) ∧ H p = some (.tup (ixs.map V.int)) ∧ H d = some (.dK []) ∧
  ∀ H', Kp [a] H H' → CallAt C H' a nm ixs [] → Q .non H'
def sp_Call___init__ (C : Addr) : Sp := fun vs H Q _ => ∃ (a dx : Addr) (nm : Str) (ixs : List Int), vs = .ref a :: .str nm :: ixs.map V.int ∧ H a = some (.ins C dx []) ∧ ixs.length ≤ 1000 ∧ ∀ H', Kp [a] H H' → CallAt C H' a nm ixs [] → Q .non H'
abbrev s_Call___init__ : Stmt := inClass (top 2) 0
theorem sc_Call___init__ : FnScope ["self", "function_name", "indexes", "named"] ["self", "function_name", "indexes", "named"] (defScope s_Call___init__) :=
  ⟨rfl, rfl, rfl, by decide +kernel, rfl, by decide +kernel, by decide +kernel⟩
theorem ok_Call___init__ {f : Addr} {fd : FuncData} (F : Fun K "__init__" "Call.__init__" s_Call___init__ f fd) (T : Txt K mg C_Call) :
    FnR P w K mg base CX0 2 f (sp_Call___init__ C_Call) := by
  obtain ⟨oc, od, kV, doc, pm, an, cdv, ct, osl, rfl, lk, hcd⟩ := F.ex
  refine FnR.imp (fn_starkw (ps := ["self", "function_name"]) (pv := "indexes") (pd := "named") lk hcd sc_Call___init__ cxUp_none (bind_starkw2 (B := fun us => bindArgs (PySem.W.fnOf "__init__" "Call.__init__" (defArgs s_Call___init__) (defBody s_Call___init__) (defScope s_Call___init__) .none kV doc pm an cdv ct) ⟨us, []⟩) (fun _ _ => rfl) (fun _ _ _ _ => rfl)) (sp := spb_Call___init__ C_Call) (fun A outer s H vs Q E hr h => ?_)) (fun vs H Q E h => ?_)
  · obtain ⟨a, dx, p, d, nm, ixs, rfl, ha, hp, hd, q⟩ := h
    have hu := hu_of hr
    have hu64 := hr.units
    refine ⟨_, (pss_cons (ps_fld (pv 0) (pv 1) rfl)
        (pss_cons (ps_fld (pv 0) (pv 2) rfl)
        (pss_one (ps_fld (pv 0) (pe_callTy (K_tuple (K := K) rfl) (by rfl) T.z_tuple (by decide +kernel) (pa_cons (pe_callB (cr_sortN rfl hu64) (by rfl) T.z_sorted (by decide +kernel) (pa_cons (K_bm0 (K := K) rfl PySem.F.plainAttrs_dict PySem.F.slot_dict_items PySem.F.type_dict_items mt_itemsK (pv 3)) pa_nil)) pa_nil)) rfl)))), ?_⟩
    have hC := T.c_Call
    walk_at "S"
    refine r_kSF ha hC T.na_Call_name (by decide : 0 < 1000) fun H1 k1 e1 => ?_
    walk_at "S"
    refine r_kSF e1 hC T.na_Call_indexes (by
      have := length_putF "name" (.str nm) []
      rw [List.length_nil] at this
      omega) fun H2 k2 e2 => ?_
    have pa : p ≠ a := fun z => by
      rw [z, ha] at hp
      cases hp
    have da : d ≠ a := fun z => by
      rw [z, ha] at hd
      cases hd
    have k12 := k1.trans k2
    walk_at "S"
    refine r_kItems (kvs := []) (k12 _ _ hd (not_one da)) fun v H3 nv k3 ev => ?_
    walk_at "S"
    refine r_sortN (nds := []) ev (k3 _ _ (k12 _ _ hd (not_one da)) not_nil) fun l H4 xs nl k4 el hx => ?_
    walk_at "S"
    refine r_tupleL (SqL.of el) fun t H5 nt k5 et => ?_
    walk_at "S"
    have k25 := k3.trans (k4.trans k5)
    refine r_kSF (k25 _ _ e2 not_nil) hC T.na_Call_named (by
      have h1 := length_putF "name" (.str nm) []
      have h2 := length_putF "indexes" (.ref p) (putF "name" (.str nm) [])
      rw [List.length_nil] at h1
      omega) fun H6 k6 e6 => ?_
    have ta : t ≠ a := ne_none ((k3.trans k4) _ _ e2 not_nil) nt
    rw [srtN_nil] at hx
    cases hx
    exact q H6 (k12.trans (k25.nil.trans k6)) (callF_at e6 (k6 _ _ (k25 _ _ (k12 _ _ hp (not_one pa)) not_nil) (not_one pa)) (.tup not_nil (k6 _ _ et (not_one ta)) .nil))
  · obtain ⟨a, dx, nm, ixs, rfl, ha, hl, q⟩ := h
    refine ⟨[.ref a, .str nm], ixs.map V.int, rfl, rfl, by rw [List.length_map]; exact Nat.le_trans hl (by decide), fun p d np nd ne => ⟨a, dx, p, d, nm, ixs, rfl, ?_, ?_, upd_same, fun H' k h => ?_⟩⟩
    · exact (Kp.new (ex := []) (by rw [upd_ne ne]; exact nd)) _ _ ((Kp.new (ex := []) np) _ _ ha not_nil) not_nil
    · rw [upd_ne ne.symm]
      exact upd_same
    · exact q H' (((Kp.new np).trans (Kp.new (by rw [upd_ne ne]; exact nd))).trans k) h
def sp_Call_of (C : Addr) : Sp := fun vs H Q _ => ∃ (l d : Addr) (nm : Str) (ixs : List Int) (nds : List (Str × Int)), vs = [.str nm, .ref l, .ref d] ∧ (H l = some (.lst (ixs.map V.int)) ∨ H l = some (.tup (ixs.map V.int))) ∧ H d = some (.dK (ndK nds)) ∧ ixs.length ≤ 1000 ∧
  ∀ a H', Kp [] H H' → H a = none → CallAt C H' a nm ixs (srtN nds) → Q (.ref a) H'
abbrev s_Call_of : Stmt := inClass (top 2) 1
theorem sc_Call_of : FnScope ["function_name", "indexes", "named", "made"] ["function_name", "indexes", "named"] (defScope s_Call_of) :=
  ⟨rfl, rfl, rfl, by decide +kernel, rfl, by decide +kernel, by decide +kernel⟩
theorem ok_Call_of {f : Addr} {fd : FuncData} (F : Fun K "of" "Call.of" s_Call_of f fd) (T : Txt K mg C_Call) (U_Call___init__ : UseC P w K mg base 2 "Call" C_Call (sp_Call___init__ C_Call)) :
    FnOk P w K mg base (L2.CX P w) 4 f fd ["function_name", "indexes", "named"] (sp_Call_of C_Call) := by
  refine F.okX sc_Call_of (fun vs H Q E h => ?_) (fun cdv A outer s H vs Q E hr h => ?_)
  · obtain ⟨l, d, nm, ixs, nds, rfl, _⟩ := h
    rfl
  · obtain ⟨l, d, nm, ixs, nds, rfl, hl, hd, hlen, q⟩ := h
    obtain ⟨f_Call___init__, R_Call___init__, M_Call___init__, g_Call___init__⟩ := U_Call___init__
    have hu := hu_of hr
    have hu64 := hr.units
    refine ⟨_, (pss_cons (ps_set (i := 3) sc_Call_of.nd rfl (by first | exact Or.inl rfl | exact Or.inr rfl) (pe_makeRS M_Call___init__ R_Call___init__ (hr.mono (by first | decide | omega)) (by rfl) g_Call___init__ pass0 (pa_cons (pv 0) (pa_star (pv 1) pa_nil))))
        (pss_cons (ps_fld (pv 3) (pe_callTy (K_tuple (K := K) rfl) (by rfl) T.z_tuple (by decide +kernel) (pa_cons (pe_callB (cr_sortN rfl hu64) (by rfl) T.z_sorted (by decide +kernel) (pa_cons (K_bm0 (K := K) rfl PySem.F.plainAttrs_dict PySem.F.slot_dict_items PySem.F.type_dict_items mt_itemsK (pv 2)) pa_nil)) pa_nil)) rfl)
        (pss_one (ps_ret (pv 3))))), ?_⟩
    have hC := T.c_Call
    walk_at "S"
    have star : ∀ {t : TA} {σ : L2.St} {QA : List V → Hp → Prop}, t σ H (fun ys H2 => QA (ixs.map V.int ++ ys) H2) → kStar K t σ QA (.ref l) H := fun q => hl.elim (fun z => r_kStarL (SqL.of z) q) fun z => r_kStarT (SqT.of z) q
    refine star ?_
    walk_at "S"
    refine r_kMake fun a dx H1 na k1 e1 => ⟨a, dx, nm, ixs, by simp, e1, hlen, fun H2 k2 hc => r_kMade ?_⟩
    have k02 : Kp [] H H2 := (k1.nil.trans k2).drop na
    walk_at "S"
    refine r_kItems (k02 _ _ hd not_nil) fun v H3 nv k3 ev => ?_
    walk_at "S"
    refine r_sortN (nds := nds) ev (k3 _ _ (k02 _ _ hd not_nil) not_nil) fun l2 H4 xs nl k4 el hx => ?_
    walk_at "S"
    refine r_tupleL (SqL.of el) fun t H5 nt k5 et => ?_
    walk_at "S"
    have k25 := k3.trans (k4.trans k5)
    obtain ⟨dx', p, q0, fs, ea, hfl, _⟩ := id hc
    refine r_kSF (k25 _ _ ea not_nil) hC T.na_Call_named (by omega) fun H6 k6 e6 => ?_
    walk_at "S"
    have ta : t ≠ a := ne_none ((k3.trans k4) _ _ ea not_nil) nt
    have hx6 : DtAll [] H6 xs ((srtN nds).map ndD) := (((hx.less (ex' := []) fun _ m => absurd m not_nil).mono k5).skip (k25 _ _ ea not_nil) (fun _ z => nomatch z) (fun _ z => nomatch z)).mono k6 |>.less fun _ m => absurd m not_nil
    exact q a H6 ((k02.trans k25).trans' k6 na) na ((hc.kp k25).put (k25 _ _ ea not_nil) k6 e6 (.tup not_nil (k6 _ _ et (not_one ta)) hx6))

def sizeL (ixs : List Int) (nds : List (Str × Int)) : List Int := -1 :: (ixs ++ nds.map Prod.snd)
def sp_Call_size (C : Addr) : Sp := fun vs H Q _ => ∃ (a : Addr) (nm : Str) (ixs : List Int) (nds : List (Str × Int)), vs = [.ref a] ∧ CallAt C H a nm ixs nds ∧ ixs.length ≤ 1000 ∧ nds.length ≤ 1000 ∧ ∀ m H', Kp [] H H' → m ∈ sizeL ixs nds → (∀ y ∈ sizeL ixs nds, y ≤ m) → Q (.int (1 + m)) H'
abbrev s_Call_size : Stmt := inClass (top 2) 3
theorem sc_Call_size : FnScope ["self", "word", "index"] ["self"] (defScope s_Call_size) :=
  ⟨rfl, rfl, rfl, by decide +kernel, rfl, by decide +kernel, by decide +kernel⟩
theorem ok_Call_size {f : Addr} {fd : FuncData} (F : Fun K "size" "Call.size" s_Call_size f fd) (T : Txt K mg C_Call) :
    FnOk P w K mg base CX0 2 f fd ["self"] (sp_Call_size C_Call) := by
  refine F.ok sc_Call_size (fun vs H Q E h => ?_) (fun cdv A outer s H vs Q E hr h => ?_)
  · obtain ⟨a, nm, ixs, nds, rfl, _⟩ := h
    rfl
  · obtain ⟨a, nm, ixs, nds, rfl, hc, hl1, hl2, q⟩ := h
    have hu := hu_of hr
    have hu64 := hr.units
    refine ⟨_, (pss_one (ps_ret (pe_op op_add pe_int (pe_callB (K_max (K := K) rfl rfl) (by rfl) T.z_max (by decide +kernel) (pa_cons (pe_lst (pa_cons (pe_un un_neg pe_int) (pa_star (K_fld (K := K) rfl (pv 0) rfl) (pa_star (pe_lc (own := [("word", 1), ("index", 2)]) (by rfl) sc_Call_size.nd (K_pit (K := K) rfl (K_fld (K := K) rfl (pv 0) rfl)) (blkOk_by (own := [("word", 1), ("index", 2)]) (N := ["self", "word", "index"]) (sc := defScope s_Call_size) (by decide +kernel)) (fun _ _ _ _ _ => (K_gtup (K := K) (n := 2) rfl (by rfl) (pgs_cons (pg_name (i := 1) sc_Call_size.nd rfl (by first | exact Or.inl rfl | exact Or.inr rfl)) (pgs_cons (pg_name (i := 2) sc_Call_size.nd rfl (by first | exact Or.inl rfl | exact Or.inr rfl)) pgs_nil)))) (fun _ _ _ _ _ => pts_nil) (fun _ _ _ _ _ => (pv 2))) pa_nil)))) pa_nil))))), ?_⟩
    obtain ⟨dx, p, q0, fs, ea, hfl, h1, h2, h3, h4, ep, d⟩ := hc
    have hC := T.c_Call
    obtain ⟨q1, xs, eq, _, eqt, al⟩ := d.tuple
    cases eq
    have hxl : xs.length = nds.length := by rw [al.length, List.length_map]
    walk_at "S"
    refine r_kFld ea hC T.na_Call_indexes h2 ?_
    refine r_kStarT (SqT.of ep) ?_
    walk_at "S"
    refine r_kFld ea hC T.na_Call_named h3 ?_
    refine r_cWT (SqT.of eqt) ?_
    refine r_kLcT (fun D i acc H' => Kp [] H H' ∧ acc = ((nds.take i).map Prod.snd).map V.int) (fun D H' nD k e => ⟨k, rfl⟩) (fun D i acc H' _ h => SqT.of (h.1 _ _ eqt not_nil)) ?_ ?_
    · rintro D i acc x H2 nD hx eD ⟨k2, rfl⟩
      obtain ⟨d', hd', hxd⟩ := al.at hx
      obtain ⟨nd, hnd, rfl⟩ := map_at hd'
      obtain ⟨t, rfl, _, et⟩ := Dt.pair hxd
      refine r_gtup (SqT.of (k2 _ _ et not_nil)) rfl ?_
      walk_at "S"
      refine r_kApp eD ?_ fun H3 k3 e3 => ⟨k2.step nD k3, ?_⟩
      · rw [List.length_map, List.length_map, List.length_take]
        have : 2000 < sizeLine := by decide
        omega
      · rw [take_map _ hnd, List.map_append]
        rfl
    rintro D acc H2 nD eD ⟨k2, rfl⟩
    rw [hxl, List.take_length] at eD
    refine r_kStarL (SqL.of eD) ?_
    walk_at "S"
    refine r_kLst ?_ fun l H3 nl k3 el => ?_
    · simp only [List.length_cons, List.length_append, List.length_map, List.length_nil]
      have : 3000 ≤ sizeLine := by decide
      omega
    have el : H3 l = some (.lst ((sizeL ixs nds).map V.int)) := by
      rw [el]
      unfold sizeL
      simp
    walk_at "S"
    refine ⟨l, sizeL ixs nds, rfl, SqL.of el, by unfold sizeL; simp, fun m hm hmx => ?_⟩
    walk_at "S"
    exact q m H3 (k2.trans k3) hm hmx

theorem shp_nds {nds : List (Str × Int)} (h : ∀ q ∈ nds, PyData.strOk q.1 = true) : Shp 2 (.tuple (nds.map ndD)) := Shp.tuple (n := 1) fun d hd => by
  obtain ⟨q, hq, rfl⟩ := List.mem_map.mp hd
  refine Shp.tuple (n := 0) fun d hd => ?_
  rcases List.mem_cons.mp hd with rfl | hd
  · exact Shp.str (h q hq) 0
  · rcases List.mem_cons.mp hd with rfl | hd
    · exact Shp.int _ 0
    · cases hd
theorem shp_ints (ixs : List Int) : Shp 1 (.tuple (ixs.map PyData.int)) := Shp.tuple (n := 0) fun d hd => by
  obtain ⟨q, hq, rfl⟩ := List.mem_map.mp hd
  exact Shp.int _ 0
theorem dt_ints {H : Hp} {p : Addr} {ixs : List Int} (e : H p = some (.tup (ixs.map V.int))) : Dt [] H (.ref p) (.tuple (ixs.map PyData.int)) := .tup not_nil e (DtAll.of_ints ixs)

theorem eqvAll_ints : ∀ a b : List Int, PyData.eqvAll (a.map .int) (b.map .int) = decide (a = b)
  | [], [] => by rw [decide_eq_true rfl]; rfl
  | [], _ :: _ => by rw [decide_eq_false (fun z => nomatch z)]; rfl
  | _ :: _, [] => by rw [decide_eq_false (fun z => nomatch z)]; rfl
  | x :: a, y :: b => by
    have e : PyData.eqvAll ((x :: a).map .int) ((y :: b).map .int) = (x == y && PyData.eqvAll (a.map .int) (b.map .int)) := rfl
    rw [e, eqvAll_ints a b]
    by_cases c : x = y
    · by_cases d : a = b
      · rw [decide_eq_true d, decide_eq_true (by rw [c, d]), beq_iff_eq.mpr c]; rfl
      · rw [decide_eq_false d, decide_eq_false (fun z => d (List.cons.inj z).2), Bool.and_false]
    · rw [beq_eq_false_iff_ne.mpr c, decide_eq_false (fun z => c (List.cons.inj z).1), Bool.false_and]
theorem eqvAll_nds : ∀ a b : List (Str × Int), PyData.eqvAll (a.map ndD) (b.map ndD) = decide (a = b)
  | [], [] => by rw [decide_eq_true rfl]; rfl
  | [], _ :: _ => by rw [decide_eq_false (fun z => nomatch z)]; rfl
  | _ :: _, [] => by rw [decide_eq_false (fun z => nomatch z)]; rfl
  | x :: a, y :: b => by
    have e : PyData.eqvAll ((x :: a).map ndD) ((y :: b).map ndD) = ((x.1 == y.1 && (x.2 == y.2 && true)) && PyData.eqvAll (a.map ndD) (b.map ndD)) := rfl
    rw [e, eqvAll_nds a b, Bool.and_true]
    by_cases c : x = y
    · by_cases d : a = b
      · rw [decide_eq_true d, decide_eq_true (by rw [c, d]), c]; simp
      · rw [decide_eq_false d, decide_eq_false (fun z => d (List.cons.inj z).2), Bool.and_false]
    · have : (x.1 == y.1 && x.2 == y.2) = false := by
        cases h : (x.1 == y.1 && x.2 == y.2) with
        | false => rfl
        | true =>
          simp only [Bool.and_eq_true, beq_iff_eq] at h
          exact absurd (Prod.ext h.1 h.2) c
      rw [this, decide_eq_false (fun z => c (List.cons.inj z).1), Bool.false_and]
theorem eqv_tints (a b : List Int) : PyData.eqv (.tuple (a.map .int)) (.tuple (b.map .int)) = decide (a = b) := by
  have e : PyData.eqv (.tuple (a.map .int)) (.tuple (b.map .int)) = PyData.eqvAll (a.map .int) (b.map .int) := rfl
  rw [e, eqvAll_ints]
theorem eqv_tnds (a b : List (Str × Int)) : PyData.eqv (.tuple (a.map ndD)) (.tuple (b.map ndD)) = decide (a = b) := by
  have e : PyData.eqv (.tuple (a.map ndD)) (.tuple (b.map ndD)) = PyData.eqvAll (a.map ndD) (b.map ndD) := rfl
  rw [e, eqvAll_nds]
def sp_Call___eq__ (K : PySem.W.Frag) (C : Addr) : Sp := fun vs H Q _ => ∃ (a : Addr) (nm : Str) (ixs : List Int) (nds : List (Str × Int)) (y : V), vs = [.ref a, y] ∧ CallAt C H a nm ixs nds ∧ (∀ q ∈ nds, PyData.strOk q.1 = true) ∧
  ((∃ (b : Addr) (nm' : Str) (ixs' : List Int) (nds' : List (Str × Int)), y = .ref b ∧ CallAt C H b nm' ixs' nds' ∧ (∀ q ∈ nds', PyData.strOk q.1 = true) ∧ Q (.bl (decide (nm = nm' ∧ ixs = ixs' ∧ nds = nds'))) H) ∨ (∃ t, TyX K H y t ∧ PySem.W.kitOne K t (.ref C) = some false ∧ Q (.bl false) H))
abbrev s_Call___eq__ : Stmt := inClass (top 2) 4
theorem sc_Call___eq__ : FnScope ["self", "other"] ["self", "other"] (defScope s_Call___eq__) :=
  ⟨rfl, rfl, rfl, by decide +kernel, rfl, by decide +kernel, by decide +kernel⟩
theorem ok_Call___eq__ {f : Addr} {fd : FuncData} (F : Fun K "__eq__" "Call.__eq__" s_Call___eq__ f fd) (T : Txt K mg C_Call) :
    FnOk P w K mg base CX0 2 f fd ["self", "other"] (sp_Call___eq__ K C_Call) := by
  refine F.ok sc_Call___eq__ (fun vs H Q E h => ?_) (fun cdv A outer s H vs Q E hr h => ?_)
  · obtain ⟨a, nm, ixs, nds, y, rfl, _⟩ := h
    rfl
  · obtain ⟨a, nm, ixs, nds, y, rfl, hc, so, h⟩ := h
    have hu := hu_of hr
    have hu64 := hr.units
    refine ⟨_, (pss_cons (ps_if (pt_not (pt_val (pe_callB (K_isi (K := K) rfl) (by rfl) T.z_isinstance (by decide +kernel) (pa_cons (pv 1) (pa_cons (pe_globE T.v_Call (by rfl)) pa_nil)))))
          (pss_one (ps_ret pe_bl))
          pss_nil)
        (pss_one (ps_ret (pe_and (pe_cmpR op_eq (K_fld (K := K) rfl (pv 0) rfl) (K_fld (K := K) rfl (pv 1) rfl) (nomark _)) (pe_and (pe_cmpR (K_eqD (K := K) rfl hu64) (K_fld (K := K) rfl (pv 0) rfl) (K_fld (K := K) rfl (pv 1) rfl) (nomark _)) (pe_one (pe_cmpR (K_eqD (K := K) rfl hu64) (K_fld (K := K) rfl (pv 0) rfl) (K_fld (K := K) rfl (pv 1) rfl) (nomark _)))))))), ?_⟩
    have hC := T.c_Call
    have hM : FamS [C_Call] C_Call := .hd
    rcases h with ⟨b, nm', ixs', nds', rfl, hc', so', q⟩ | ⟨t, ty, kf, q⟩
    all_goals walk_at "S"
    · obtain ⟨dx, p, q0, fs, ea, hfl, h1, h2, h3, h4, ep, d⟩ := hc
      obtain ⟨dx', p', q0', fs', ea', hfl', h1', h2', h3', h4', ep', d'⟩ := hc'
      refine ⟨.ref b, .ref C_Call, .ref C_Call, .ref C_Call, true, rfl, .own _, .base (.ins ea' hC (T.cl_Call _ hM) T.gt_Call T.tk_Call (T.ob_Call _ hM)), T.ki_Call _ hM, ?_⟩
      walk_at "S"
      refine r_kIfS0 rfl ?_
      walk_at "S"
      refine r_kFld ea hC T.na_Call_name h1 ?_
      walk_at "S"
      refine r_kFld ea' hC T.na_Call_name h1' ?_
      walk_at "S"
      refine r_kAndV (fun c => ?_) (fun c => ?_)
      · have c0 : nm = nm' := of_decide_eq_true c
        walk_at "S"
        refine r_kFld ea hC T.na_Call_indexes h2 ?_
        walk_at "S"
        refine r_kFld ea' hC T.na_Call_indexes h2' ?_
        refine r_eqD (dt_ints ep) (dt_ints ep') (shp_ints _) (shp_ints _) (by decide) ?_
        rw [eqv_tints]
        refine r_kAndV (fun c2 => ?_) (fun c2 => ?_)
        · have c2 : ixs = ixs' := of_decide_eq_true c2
          walk_at "S"
          refine r_kFld ea hC T.na_Call_named h3 ?_
          walk_at "S"
          refine r_kFld ea' hC T.na_Call_named h3' ?_
          refine r_eqD d d' (shp_nds so) (shp_nds so') (by decide) ?_
          rw [eqv_tnds]
          rw [show decide (nm = nm' ∧ ixs = ixs' ∧ nds = nds') = decide (nds = nds') from decide_eq_decide.mpr ⟨fun z => z.2.2, fun z => ⟨c0, c2, z⟩⟩] at q
          exact q
        · rw [decide_eq_false (fun z => (of_decide_eq_false c2) z.2.1)] at q
          exact q
      · rw [decide_eq_false (fun z => (of_decide_eq_false c) z.1)] at q
        exact q
    · refine ⟨y, .ref C_Call, t, .ref C_Call, false, rfl, .own _, ty, kf, ?_⟩
      walk_at "S"
      refine r_kIfS1 rfl ?_
      walk_at "S"
      exact q

/-! ### str of a call -/
def ndText (q : Str × Int) : Str := q.1 ++ (" = " : Str) ++ (toString q.2 : String)
def ixText (i : Int) : Str := (toString i : String)
def callText (nm : Str) (ixs : List Int) (nds : List (Str × Int)) : Str := nm ++ ("(" : Str) ++ Txt.join (", " : Str) (ixs.map ixText ++ nds.map ndText) ++ (")" : Str)
theorem empty_app (x : Str) : Str.empty ++ x = x := by
  obtain ⟨a⟩ := x
  show (⟨(#[] : Array Nat) ++ a⟩ : Str) = ⟨a⟩
  simp
theorem app_len (x y : Str) : (x ++ y).length = x.length + y.length := by
  show (x.cps ++ y.cps).size = _
  rw [Array.size_append]
  rfl
theorem ixText_len {i : Int} (h : i.natAbs < 10 ^ 12) : (ixText i).length ≤ 13 := PyData.shown_int_le h
theorem log2_small {i : Int} (h : i.natAbs < 10 ^ 12) : i.natAbs.log2 < 1920 := by
  by_cases z : i.natAbs = 0
  · rw [z]; decide
  · rw [Nat.log2_lt z]
    exact Nat.lt_of_lt_of_le h (by decide)
theorem ndText_len {q : Str × Int} (h : q.1.length ≤ 100) (h2 : q.2.natAbs < 10 ^ 12) : (ndText q).length ≤ 120 := by
  have h3 := ixText_len h2
  unfold ndText
  rw [app_len, app_len]
  have : (" = " : Str).length = 3 := rfl
  have e : (ixText q.2).length = (Str.ofString (toString q.2)).length := rfl
  have e2 : ((toString q.2 : String) : Str).length = (Str.ofString (toString q.2)).length := rfl
  omega
theorem join_len {ys : List Str} {m : Nat} (h : ∀ y ∈ ys, y.length ≤ m) : (Txt.join (", " : Str) ys).length ≤ ys.length * (m + 2) := by
  rw [TL.join_eq]
  have h1 := StrLaws.join_length_le (Str.ofString ", ") ys
  have h2 := sum_le h
  have h3 : (Str.ofString ", ").length = 2 := rfl
  rw [h3] at h1
  rw [Nat.mul_add]
  omega
def sp_Call___str__ (C : Addr) : Sp := fun vs H Q _ => ∃ (a : Addr) (nm : Str) (ixs : List Int) (nds : List (Str × Int)), vs = [.ref a] ∧ CallAt C H a nm ixs nds ∧ nm.length ≤ 100 ∧ ixs.length ≤ 1000 ∧ nds.length ≤ 1000 ∧ (∀ i ∈ ixs, i.natAbs < 10 ^ 12) ∧ (∀ q ∈ nds, q.1.length ≤ 100 ∧ q.2.natAbs < 10 ^ 12) ∧
  ∀ H', Kp [] H H' → Q (.str (callText nm ixs nds)) H'
abbrev s_Call___str__ : Stmt := inClass (top 2) 5
theorem sc_Call___str__ : FnScope ["self", "index", "parts", "word"] ["self"] (defScope s_Call___str__) :=
  ⟨rfl, rfl, rfl, by decide +kernel, rfl, by decide +kernel, by decide +kernel⟩
theorem ok_Call___str__ {f : Addr} {fd : FuncData} (F : Fun K "__str__" "Call.__str__" s_Call___str__ f fd) (T : Txt K mg C_Call) :
    FnOk P w K mg base CX0 2 f fd ["self"] (sp_Call___str__ C_Call) := by
  refine F.ok sc_Call___str__ (fun vs H Q E h => ?_) (fun cdv A outer s H vs Q E hr h => ?_)
  · obtain ⟨a, nm, ixs, nds, rfl, _⟩ := h
    rfl
  · obtain ⟨a, nm, ixs, nds, rfl, hc, hnm, hl1, hl2, hix, hnd, q⟩ := h
    have hu := hu_of hr
    have hu64 := hr.units
    refine ⟨_, (pss_cons (ps_setLc (i := 2) (own := [("index", 1)]) (by rfl) sc_Call___str__.nd rfl rfl (sw_true rfl rfl rfl (by decide +kernel)) (K_pit (K := K) rfl (K_fld (K := K) rfl (pv 0) rfl)) (blkOk_by (own := [("index", 1)]) (N := ["self", "index", "parts", "word"]) (sc := defScope s_Call___str__) (by decide +kernel)) (fun _ _ _ _ _ => (pg_name (i := 1) sc_Call___str__.nd rfl (by first | exact Or.inl rfl | exact Or.inr rfl))) (fun _ _ _ _ _ => pts_nil) (fun _ _ _ _ _ => (pe_callTy cr_strI (by rfl) T.z_str (by decide +kernel) (pa_cons (pv 1) pa_nil))))
        (pss_cons (ps_set (i := 2) sc_Call___str__.nd rfl (by first | exact Or.inl rfl | exact Or.inr rfl) (pe_op op_cat (pv 2) (pe_lc (own := [("word", 3), ("index", 1)]) (by rfl) sc_Call___str__.nd (K_pit (K := K) rfl (K_fld (K := K) rfl (pv 0) rfl)) (blkOk_by (own := [("word", 3), ("index", 1)]) (N := ["self", "index", "parts", "word"]) (sc := defScope s_Call___str__) (by decide +kernel)) (fun _ _ _ _ _ => (K_gtup (K := K) (n := 2) rfl (by rfl) (pgs_cons (pg_name (i := 3) sc_Call___str__.nd rfl (by first | exact Or.inl rfl | exact Or.inr rfl)) (pgs_cons (pg_name (i := 1) sc_Call___str__.nd rfl (by first | exact Or.inl rfl | exact Or.inr rfl)) pgs_nil)))) (fun _ _ _ _ _ => pts_nil) (fun _ _ _ _ _ => (pe_joinN (PJ.cons (pe_fmt (pv 3)) (PJ.cons pe_str (PJ.cons (pe_fmt (pv 1)) PJ.nil))))))))
        (pss_one (ps_ret (pe_joinN (PJ.cons (pe_fmt (K_fld (K := K) rfl (pv 0) rfl)) (PJ.cons pe_str (PJ.cons (pe_fmt (K_join (K := K) rfl pe_str (pv 2))) (PJ.cons pe_str PJ.nil))))))))), ?_⟩
    obtain ⟨dx, p, q0, fs, ea, hfl, h1, h2, h3, h4, ep, d⟩ := hc
    have hC := T.c_Call
    obtain ⟨q1, xs, eq, _, eqt, al⟩ := d.tuple
    cases eq
    have hxl : xs.length = nds.length := by rw [al.length, List.length_map]
    have big : 1000000 ≤ sizeLine := by decide
    walk_at "S"
    refine r_kFld ea hC T.na_Call_indexes h2 ?_
    refine r_cWT (SqT.of ep) ?_
    refine r_kLcT (fun D i acc H' => Kp [] H H' ∧ acc = ((ixs.take i).map ixText).map V.str) (fun D H' nD k e => ⟨k, rfl⟩) (fun D i acc H' _ h => SqT.of (h.1 _ _ ep not_nil)) ?_ ?_
    · rintro D i acc x H2 nD hx eD ⟨k2, rfl⟩
      obtain ⟨j, hj, rfl⟩ := map_at hx
      walk_at "S"
      refine r_strI (log2_small (hix j (mem_at hj))) ?_
      refine r_kApp eD ?_ fun H3 k3 e3 => ⟨k2.step nD k3, ?_⟩
      · rw [List.length_map, List.length_map, List.length_take]
        omega
      · rw [take_map _ hj, List.map_append]
        rfl
    rintro D acc H2 nD eD ⟨k2, rfl⟩
    rw [List.length_map, List.take_length] at eD
    walk_at "S"
    refine r_kFld (k2 _ _ ea not_nil) hC T.na_Call_named h3 ?_
    refine r_cWT (SqT.of (k2 _ _ eqt not_nil)) ?_
    refine r_kLcT (fun D i acc H' => Kp [] H2 H' ∧ acc = ((nds.take i).map ndText).map V.str) (fun D H' nD k e => ⟨k, rfl⟩) (fun D i acc H' _ h => SqT.of (h.1 _ _ (k2 _ _ eqt not_nil) not_nil)) ?_ ?_
    · rintro E i acc x H3 nE hx eE ⟨k3, rfl⟩
      obtain ⟨d', hd', hxd⟩ := al.at hx
      obtain ⟨nd, hnd', rfl⟩ := map_at hd'
      obtain ⟨t, rfl, _, et⟩ := Dt.pair hxd
      have hq := hnd nd (mem_at hnd')
      have hlen := ndText_len hq.1 hq.2
      refine r_gtup (SqT.of (k3 _ _ (k2 _ _ et not_nil) not_nil)) rfl ?_
      walk_at "S"
      refine r_kFmtS (by omega) ?_
      refine r_kJs (by rw [empty_app]; omega) ?_
      walk_at "S"
      have e3 : (" = " : Str).length = 3 := rfl
      refine r_kJs (by rw [empty_app, app_len]; omega) ?_
      walk_at "S"
      refine r_kFmtI (log2_small hq.2) ?_
      refine r_kJs (by rw [empty_app]; exact Nat.le_trans hlen (by omega)) ?_
      walk_at "S"
      rw [empty_app]
      refine r_kApp eE ?_ fun H4 k4 e4 => ⟨k3.step nE k4, ?_⟩
      · rw [List.length_map, List.length_map, List.length_take]
        omega
      · rw [take_map _ hnd', List.map_append]
        rfl
    rintro E acc H3 nE eE ⟨k3, rfl⟩
    rw [hxl, List.take_length] at eE
    walk_at "S"
    refine r_cat (k3 _ _ eD not_nil) eE (by rw [List.length_map, List.length_map, List.length_map, List.length_map]; omega) fun l H4 nl k4 el => ?_
    have el : H4 l = some (.lst ((ixs.map ixText ++ nds.map ndText).map V.str)) := by rw [el, List.map_append]
    have hys : ∀ y ∈ ixs.map ixText ++ nds.map ndText, y.length ≤ 120 := by
      intro y hy
      rcases List.mem_append.mp hy with m | m
      · obtain ⟨i, hi, rfl⟩ := List.mem_map.mp m
        exact Nat.le_trans (ixText_len (hix i hi)) (by decide)
      · obtain ⟨n, hn, rfl⟩ := List.mem_map.mp m
        exact ndText_len (hnd n hn).1 (hnd n hn).2
    have hysl : (ixs.map ixText ++ nds.map ndText).length ≤ 2000 := by
      rw [List.length_append, List.length_map, List.length_map]
      omega
    have hj := join_len hys
    have hj2 : (ixs.map ixText ++ nds.map ndText).length * 122 ≤ 2000 * 122 := Nat.mul_le_mul_right _ hysl
    walk_at "S"
    refine r_kFld (k4 _ _ (k3 _ _ (k2 _ _ ea not_nil) not_nil) not_nil) hC T.na_Call_name h1 ?_
    refine r_kFmtS (by omega) ?_
    refine r_kJs (by rw [empty_app]; omega) ?_
    walk_at "S"
    have e1 : ("(" : Str).length = 1 := rfl
    have e1' : (")" : Str).length = 1 := rfl
    refine r_kJs (by rw [empty_app, app_len]; omega) ?_
    walk_at "S"
    refine r_joinL (SqL.of el) (by
      have := sum_le hys
      have e2 : (", " : Str).length = 2 := rfl
      rw [e2]
      omega) ?_
    refine r_kFmtS (by omega) ?_
    refine r_kJs (by rw [empty_app, app_len, app_len]; omega) ?_
    walk_at "S"
    refine r_kJs (by rw [empty_app, app_len, app_len, app_len]; omega) ?_
    walk_at "S"
    rw [empty_app]
    exact q H4 (k2.trans (k3.trans k4))

end
section
variable {P : Program} {w : World} {K : PySem.W.Frag} {mg : Str → Option Value} {base : Heap}
variable {C_Call : Addr}
local macro_rules | `(tactic| walk_at "s") => `(tactic| (first
  | (with_reducible refine r_seq ?_)
  | (with_reducible refine r_asg ?_)
  | ((with_reducible refine' r_var (v := ?v) ?hv ?_); (case hv => exact rfl))
  | (with_reducible refine r_c ?_)
  | (with_reducible refine r_name ?_)
  | (with_reducible refine r_op ?_)
  | (with_reducible refine r_un ?_)
  | (with_reducible refine r_consA ?_)
  | (with_reducible refine r_nilA ?_)
  | (with_reducible refine r_I0 ?_)
  | (with_reducible refine r_U ?_)
  | (with_reducible refine r_eqI ?_)
  | (with_reducible refine r_neI ?_)
  | (with_reducible refine r_test ?_)
  | (with_reducible refine r_tB ?_)
  | (with_reducible refine r_kB ?_)
  | (with_reducible refine r_ifS ?_)
  | (with_reducible refine r_if ?_)
  | (with_reducible refine r_and ?_)
  | (with_reducible refine r_or ?_)
  | (with_reducible refine r_not ?_)
  | (with_reducible refine r_ret ?_)
  | (with_reducible refine r_retN ?_)
  | (with_reducible refine r_next ?_)
  | (with_reducible refine r_drop ?_)
  | (with_reducible refine r_brk ?_)
  | (with_reducible refine r_cont ?_)
  | (with_reducible refine r_andV ?_)
  | (with_reducible refine r_orV ?_)
  | (with_reducible refine r_notV ?_)
  | (with_reducible refine r_kNotV ?_)
  | (with_reducible refine r_lst ?_)
  | (with_reducible refine r_tup ?_)
  | (with_reducible refine r_dget ?_)
  | (with_reducible refine r_dput ?_)
  | (with_reducible refine r_use ?_)
  | (with_reducible refine r_cb ?_)
  | (with_reducible refine r_par ?_)
  | (with_reducible refine r_int ?_)
  | (with_reducible refine r_abs ?_)
  | (with_reducible refine r_max2 ?_)
  | (with_reducible refine r_min2 ?_)
  | (with_reducible refine r_pnil ?_)
  | (with_reducible refine r_pcons ?_)
  | (with_reducible refine r_eqS ?_)
  | (with_reducible refine r_neS ?_)
  | (with_reducible refine r_for ?_)
  | (with_reducible refine r_rng1 ?_)
  | (with_reducible refine r_rng2 ?_)
  | (with_reducible refine r_wl ?_)
  | (with_reducible refine r_wt ?_)
  | (with_reducible refine r_wq ?_)
  | (with_reducible refine r_ws ?_)
  | (with_reducible refine r_cWS ?_)
  | (with_reducible refine r_enum ?_)
  | (with_reducible refine r_zip ?_)
  | (with_reducible refine r_lc ?_)
  | (with_reducible refine r_dc ?_)
  | ((with_reducible refine r_kTurn ?ht ?_); (case ht => rfl))
  | ((with_reducible refine r_kTurnD ?ht ?_); (case ht => rfl))
  | (with_reducible refine r_yes ?_)
  | ((with_reducible refine r_kKeep1 ?hk ?_); (case hk => rfl))
  | ((with_reducible refine r_kKeepD1 ?hk ?_); (case hk => rfl))
  | (with_reducible refine r_gcons ?_)
  | (with_reducible refine r_gnil ?_)
  | (with_reducible refine r_bm ?_)
  | (with_reducible refine r_bm0 ?_)
  | (with_reducible refine r_fld ?_)
  | (with_reducible refine r_sfld ?_)
  | (with_reducible refine r_methR ?_)
  | (with_reducible refine r_makeR ?_)
  | (with_reducible refine r_chain ?_)))
local macro_rules | `(tactic| walk_at "S") => `(tactic| repeat walk_at "s")
local macro_rules | `(tactic| walk_at "D") => `(tactic| repeat' (first
  | exact AD_nil
  | refine AD_cons ?_ (fun _ _ => ?_)
  | refine ED_tup ?_ (Nat.le_trans (m := 100) (Nat.le_of_ble_eq_true rfl) (by decide))
  | refine ED_lst ?_ (Nat.le_trans (m := 100) (Nat.le_of_ble_eq_true rfl) (by decide))
  | exact ED_c (by constructor)
  | exact ED_var rfl (by constructor)))
local macro_rules | `(tactic| walk_at "N") => `(tactic| repeat' (first
  | exact AN_nil
  | refine AN_cons ?_ (fun _ _ => ?_)
  | refine EN_tup ?_ (Nat.le_trans (m := 100) (Nat.le_of_ble_eq_true rfl) (by decide))
  | refine EN_lst ?_ (Nat.le_trans (m := 100) (Nat.le_of_ble_eq_true rfl) (by decide))
  | exact EN_c (fun _ => by constructor)
  | exact EN_var rfl (fun _ => by constructor)))

local macro_rules | `(tactic| walk_at "s") => `(tactic| (first
  | (with_reducible refine r_sl ?_)
  | (with_reducible refine r_kS1 ?_)
  | (with_reducible refine r_kS2 ?_)
  | (with_reducible refine r_kS3 ?_)
  | (with_reducible refine r_noPart ?_)
  | (with_reducible refine r_part ?_)
  | (with_reducible refine r_kPart ?_)
  | (with_reducible refine r_gsub ?_)
  | (with_reducible refine r_m1 ?_)
  | (with_reducible refine r_kM1 ?_)
  | (with_reducible refine r_propF ?_)
  | (with_reducible refine r_drp ?_)
  | (with_reducible refine r_min2S ?_)
  | (with_reducible refine r_max2S ?_)
  | (with_reducible refine r_enumS ?_)
  | (with_reducible refine r_cEnumS ?_)
  | (with_reducible refine r_makeKS ?_)
  | (with_reducible refine r_makeS ?_)))

local macro_rules | `(tactic| walk_at "s") => `(tactic| (first
  | (with_reducible refine r_mkV ?_)
  | (with_reducible refine r_ofl ?_)
  | (with_reducible refine r_methF ?_)
  | (with_reducible refine r_callF ?_)
  | (with_reducible refine r_star ?_)
  | (with_reducible refine r_smeth ?_)
  | (with_reducible refine r_kSMeth ?_)))

local macro_rules | `(tactic| walk_at "s") => `(tactic| (first
  | (with_reducible refine r_dcT ?_)
  | ((with_reducible refine r_kTurnT ?ht ?_); (case ht => rfl))
  | ((with_reducible refine r_kKeepT1 ?hk ?_); (case hk => rfl))
  | (with_reducible refine r_own ?_)
  | (with_reducible refine r_cmeth ?_)
  | (with_reducible refine r_kCMeth ?_)
  | (with_reducible refine r_makeS1 ?_)
  | ((with_reducible refine r_makeV ?hv ?_); (case hv => rfl))
  | (with_reducible refine r_isBl ?_)
  | (with_reducible refine r_ltS ?_)
  | (with_reducible refine r_makeW ?_)
  | (with_reducible refine r_kMakeW0 ?_)
  | (with_reducible refine r_lr1 ?_)
  | (with_reducible refine r_lc2 ?_)
  | ((with_reducible refine r_kTurn2 ?ht ?_); (case ht => rfl))
  | ((with_reducible refine r_kKeep2 ?hk ?_); (case hk => rfl))))

local macro_rules | `(tactic| walk_at "s") => `(tactic| (first
  | (with_reducible refine r_tTruOwn ?_)
  | (with_reducible refine r_notOwn ?_)
  | (with_reducible refine r_par3 ?_)))

local macro_rules | `(tactic| walk_at "s") => `(tactic| (first
  | (with_reducible refine Rd.r_join ?_)
  | (with_reducible refine r_jCons ?_)
  | (with_reducible refine r_jNil ?_)
  | (with_reducible refine r_fmt ?_)
  | (with_reducible refine r_lsItems ?_)
  | (with_reducible refine r_lsKeys ?_)
  | (with_reducible refine r_iKeys ?_)
  | (with_reducible refine r_revL ?_)))

/-! ### the draws: a list of three numbers; at least n of them are left -/
def BagD (H : Hp) (p : Addr) (n : Nat) : Prop := ∃ d s t : Int, H p = some (.lst [.int d, .int s, .int t]) ∧ 0 ≤ s ∧ s < 2000000000000000000 ∧ 0 ≤ t ∧ t + n ≤ 100000000
theorem BagD.mono {H : Hp} {p : Addr} {n m : Nat} (b : BagD H p n) (h : m ≤ n) : BagD H p m := by
  obtain ⟨d, s, t, e, h1, h2, h3, h4⟩ := b
  exact ⟨d, s, t, e, h1, h2, h3, by omega⟩
theorem BagD.kp {H H' : Hp} {p : Addr} {n : Nat} {ex : List Addr} (b : BagD H p n) (k : Kp ex H H') (m : p ∉ ex) : BagD H' p n := by
  obtain ⟨d, s, t, e, h⟩ := b
  exact ⟨d, s, t, k _ _ e m, h⟩
theorem BagD.ne {H : Hp} {p D : Addr} {n : Nat} (b : BagD H p n) (h : H D = none) : D ≠ p := by
  obtain ⟨d, s, t, e, _⟩ := b
  exact ne_none e h |>.symm.symm
theorem cdivw {i j : Int} (h : 0 < j) (h2 : j < 2 ^ 200) : CDivW i j := wide_div h (by omega : j.natAbs < 2 ^ 200) (by decide) (by decide)
/-- _law_draws(script, at): new draws -/
def sp__law_draws (K : PySem.W.Frag) : Sp := fun vs H Q _ => ∃ (a : Addr) (ns : List Int) (k : Nat), vs = [.ref a, .int (k : Int)] ∧ SqL K H a (ns.map V.int) ∧ ns.length ≤ 63 ∧ k ≤ 1000 ∧
  ∀ p H', H p = none → Kp [] H H' → BagD H' p 90000000 → Q (.ref p) H'
/-- _law_pick(draws, many): some number from 0 to below many; nothing but the draws changes -/
def sp__law_pick : Sp := fun vs H Q _ => ∃ (p : Addr) (n : Nat) (m : Int), vs = [.ref p, .int m] ∧ BagD H p (n + 1) ∧ 0 < m ∧ m < 2 ^ 200 ∧
  ∀ (r : Int) H', 0 ≤ r → r < m → Kp [p] H H' → BagD H' p n → Q (.int r) H'
abbrev s__law_pick : Stmt := top 5
theorem sc__law_pick : FnScope ["_law_draws_here", "_law_many", "_law_part", "_law_first", "_law_second"] ["_law_draws_here", "_law_many"] (defScope s__law_pick) :=
  ⟨rfl, rfl, rfl, by decide +kernel, rfl, by decide +kernel, by decide +kernel⟩
theorem ok__law_pick {f : Addr} {fd : FuncData} (F : Fun K "_law_pick" "_law_pick" s__law_pick f fd) (T : Txt K mg C_Call) :
    FnOk P w K mg base CX0 2 f fd ["_law_draws_here", "_law_many"] (sp__law_pick) := by
  refine F.ok sc__law_pick (fun vs H Q E h => ?_) (fun cdv A outer s H vs Q E hr h => ?_)
  · obtain ⟨p, n, m, rfl, _⟩ := h
    rfl
  · obtain ⟨p, n, m, rfl, hb, h0, h1, q⟩ := h
    obtain ⟨d, s, t, e, s0, s1, t0, t1⟩ := hb
    have hu := hu_of hr
    have hu64 := hr.units
    refine ⟨_, (pss_cons (ps_if (pt_cmpR op_gt (pe_ix (K_ixL (K := K) rfl) (pv 0) pe_int (fun _ _ => rfl)) pe_int (nomark _))
          (pss_cons (ps_set (i := 2) sc__law_pick.nd rfl (by first | exact Or.inl rfl | exact Or.inr rfl) (pe_op op_modN (pe_callTy cr_int (by rfl) T.z_int (by decide +kernel) (pa_cons (pe_ix (K_ixL (K := K) rfl) (pv 0) pe_int (fun _ _ => rfl)) pa_nil)) (pv 1)))
          (pss_cons (ps_asg (pe_op op_fdivW (pe_ix (K_ixL (K := K) rfl) (pv 0) pe_int (fun _ _ => rfl)) (pv 1)) (pg_sub (pv 0) pe_int set_list))
          (pss_one (ps_ret (pv 2)))))
          pss_nil)
        (pss_cons (ps_asg (pe_op op_add (pe_ix (K_ixL (K := K) rfl) (pv 0) pe_int (fun _ _ => rfl)) pe_int) (pg_sub (pv 0) pe_int set_list))
        (pss_cons (ps_set (i := 3) sc__law_pick.nd rfl (by first | exact Or.inl rfl | exact Or.inr rfl) (pe_op op_modN (pe_callTy cr_int (by rfl) T.z_int (by decide +kernel) (pa_cons (pe_op op_pow (pe_op op_add (pe_op op_add (pe_ix (K_ixL (K := K) rfl) (pv 0) pe_int (fun _ _ => rfl)) (pe_op op_mul pe_int (pe_ix (K_ixL (K := K) rfl) (pv 0) pe_int (fun _ _ => rfl)))) pe_int) pe_int) pa_nil)) pe_int))
        (pss_cons (ps_set (i := 4) sc__law_pick.nd rfl (by first | exact Or.inl rfl | exact Or.inr rfl) (pe_op op_modN (pe_callTy cr_int (by rfl) T.z_int (by decide +kernel) (pa_cons (pe_op op_pow (pe_op op_add (pv 3) (pe_op op_mul pe_int (pe_ix (K_ixL (K := K) rfl) (pv 0) pe_int (fun _ _ => rfl)))) pe_int) pa_nil)) pe_int))
        (pss_one (ps_ret (pe_op op_modN (pe_callTy cr_int (by rfl) T.z_int (by decide +kernel) (pa_cons (pe_op op_fdivW (pv 4) pe_int) pa_nil)) (pv 1)))))))), ?_⟩
    walk_at "S"
    refine r_ixL (SqL.of e) (atI_nat (j := 0) rfl) ?_
    walk_at "S"
    refine r_kIfS (fun c => ?_) (fun c => ?_)
    · walk_at "S"
      refine r_ixL (SqL.of e) (atI_nat (j := 0) rfl) ?_
      walk_at "S"
      refine r_I (by omega) ?_
      walk_at "S"
      refine r_ixL (SqL.of e) (atI_nat (j := 0) rfl) ?_
      walk_at "S"
      refine r_I (cdivw h0 h1) ?_
      walk_at "S"
      refine r_setL e rfl fun H1 k1 e1 => ?_
      walk_at "S"
      exact q _ _ (Int.fmod_nonneg_of_pos _ h0) (Int.fmod_lt_of_pos _ h0) k1 ⟨_, _, _, e1, s0, s1, t0, by omega⟩
    · walk_at "S"
      refine r_ixL (SqL.of e) (atI_nat (j := 2) rfl) ?_
      walk_at "S"
      refine r_setL e rfl fun H1 k1 e1 => ?_
      walk_at "S"
      refine r_ixL (SqL.of e1) (atI_nat (j := 1) rfl) ?_
      walk_at "S"
      refine r_ixL (SqL.of e1) (atI_nat (j := 2) rfl) ?_
      walk_at "S"
      refine r_I (.inl (by decide)) ?_
      walk_at "S"
      refine r_I ⟨by decide, by decide, by omega⟩ ?_
      walk_at "S"
      refine r_I (by decide) ?_
      generalize hx : Int.fmod _ 1000000000039 = x
      have x0 : 0 ≤ x := hx ▸ Int.fmod_nonneg_of_pos _ (by decide)
      have x1 : x < 1000000000039 := hx ▸ Int.fmod_lt_of_pos _ (by decide)
      walk_at "S"
      refine r_ixL (SqL.of e1) (atI_nat (j := 2) rfl) ?_
      walk_at "S"
      refine r_I (.inl (by decide)) ?_
      walk_at "S"
      refine r_I ⟨by decide, by decide, by omega⟩ ?_
      walk_at "S"
      refine r_I (by decide) ?_
      walk_at "S"
      refine r_I (cdivw (by decide) (by decide)) ?_
      walk_at "S"
      refine r_I (by omega) ?_
      exact q _ _ (Int.fmod_nonneg_of_pos _ h0) (Int.fmod_lt_of_pos _ h0) k1 ⟨_, _, _, e1, s0, s1, by omega, by omega⟩
abbrev s__law_draws : Stmt := top 4
theorem sc__law_draws : FnScope ["_law_script", "_law_at", "_law_cell"] ["_law_script", "_law_at"] (defScope s__law_draws) :=
  ⟨rfl, rfl, rfl, by decide +kernel, rfl, by decide +kernel, by decide +kernel⟩
theorem ok__law_draws {f : Addr} {fd : FuncData} (F : Fun K "_law_draws" "_law_draws" s__law_draws f fd) (T : Txt K mg C_Call) :
    FnOk P w K mg base CX0 2 f fd ["_law_script", "_law_at"] (sp__law_draws K) := by
  refine F.ok sc__law_draws (fun vs H Q E h => ?_) (fun cdv A outer s H vs Q E hr h => ?_)
  · obtain ⟨a, ns, k, rfl, _⟩ := h
    rfl
  · obtain ⟨a, ns, k, rfl, hS, hn, hk, q⟩ := h
    have hu := hu_of hr
    have hu64 := hr.units
    refine ⟨_, (pss_cons (ps_set (i := 2) sc__law_draws.nd rfl (by first | exact Or.inl rfl | exact Or.inr rfl) (pe_cutE (pe_ifExp (pt_cmpR op_lt (pv 1) (pe_callB (K_len (K := K) rfl) (by rfl) T.z_len (by decide +kernel) (pa_cons (pv 0) pa_nil)) (nomark _)) (pe_ix (K_ixL (K := K) rfl) (pv 0) (pv 1) (fun _ _ => rfl)) pe_int)))
        (pss_one (ps_ret (pe_lst (pa_cons (pe_ifExp (pt_cmpR op_ge (pe_callB cr_abs (by rfl) T.z_abs (by decide +kernel) (pa_cons (pv 2) pa_nil)) (pe_op op_pow pe_int pe_int) (nomark _)) (pe_callB cr_abs (by rfl) T.z_abs (by decide +kernel) (pa_cons (pv 2) pa_nil)) pe_int) (pa_cons (pe_op op_add (pe_op op_modN (pe_callTy cr_int (by rfl) T.z_int (by decide +kernel) (pa_cons (pv 2) pa_nil)) pe_int) (pe_op op_mul pe_int (pv 1))) (pa_cons pe_int pa_nil))))))), ?_⟩
    have rest : ∀ (c d : Int), ∀ (p : Addr) (H1 : Hp), H p = none → Kp [] H H1 → H1 p = some (.lst [.int d, .int (Int.fmod c 1000000000000000003 + 977 * (k : Int)), .int 0]) → Q (.ref p) H1 := fun c d p H1 np k1 e1 => by
      refine q p H1 np k1 ⟨_, _, _, e1, ?_, ?_, by decide, by decide⟩
      · have := Int.fmod_nonneg_of_pos c (b := 1000000000000000003) (by decide)
        omega
      · have := Int.fmod_lt_of_pos c (b := 1000000000000000003) (by decide)
        omega
    walk_at "S"
    refine r_cutE (fun x H' => H = H' ∧ ∃ z, x = V.int z) ?_ ?_
    · walk_at "S"
      refine r_lenL hS ?_
      walk_at "S"
      refine r_kIf (fun c => ?_) (fun c => ?_)
      all_goals walk_at "S"
      · have c' : (k : Int) < ((ns.map V.int).length : Nat) := of_decide_eq_true c
        obtain ⟨v, hv, hm, _⟩ := atI_in (l := ns.map V.int) (i := (k : Int)) (by omega) c'
        obtain ⟨z, _, rfl⟩ := List.mem_map.mp hm
        exact r_ixL hS hv ⟨rfl, z, rfl⟩
      · exact ⟨rfl, 0, rfl⟩
    rintro x H' ⟨rfl, z, rfl⟩
    walk_at "S"
    refine r_I ⟨by decide, by decide, by decide⟩ ?_
    walk_at "S"
    refine r_kIf (fun c => ?_) (fun c => ?_)
    all_goals
      walk_at "S"
      refine r_I (by decide) ?_
      walk_at "S"
      refine r_I (.inl (by decide)) ?_
      walk_at "S"
      exact r_kLst (xs := [V.int _, V.int _, V.int _]) (by show 3 ≤ sizeLine; decide) fun p H3 np k3 e3 => rest z _ p H3 np k3 e3
/-- _law_one(draws, some): one of its items -/
def sp__law_one (K : PySem.W.Frag) : Sp := fun vs H Q _ => ∃ (p : Addr) (n : Nat) (y : V), vs = [.ref p, y] ∧ BagD H p (n + 1) ∧
  ((∃ (a : Addr) (xs : List V), y = .ref a ∧ SqL K H a xs ∧ a ≠ p ∧ 0 < xs.length ∧ xs.length ≤ 1000000 ∧ ∀ (v : V) H', v ∈ xs → Kp [p] H H' → BagD H' p n → Q v H') ∨
   (∃ z : Str, y = .str z ∧ 0 < z.cps.toList.length ∧ z.cps.toList.length ≤ 1000000 ∧ ∀ (c : Nat) H', c ∈ z.cps.toList → Kp [p] H H' → BagD H' p n → Q (.str ⟨#[c]⟩) H'))
abbrev s__law_one : Stmt := top 6
theorem sc__law_one : FnScope ["_law_draws_here", "_law_some"] ["_law_draws_here", "_law_some"] (defScope s__law_one) :=
  ⟨rfl, rfl, rfl, by decide +kernel, rfl, by decide +kernel, by decide +kernel⟩
theorem ok__law_one {f : Addr} {fd : FuncData} (F : Fun K "_law_one" "_law_one" s__law_one f fd) (T : Txt K mg C_Call) (U__law_pick : Use P w K mg base 2 "_law_pick" ["_law_draws_here", "_law_many"] (sp__law_pick)) :
    FnOk P w K mg base CX0 4 f fd ["_law_draws_here", "_law_some"] (sp__law_one K) := by
  refine F.ok sc__law_one (fun vs H Q E h => ?_) (fun cdv A outer s H vs Q E hr h => ?_)
  · obtain ⟨p, n, y, rfl, _⟩ := h
    rfl
  · obtain ⟨p, n, y, rfl, hb, h⟩ := h
    have hu := hu_of hr
    have hu64 := hr.units
    refine ⟨_, (pss_one (ps_ret (pe_ix (K_ixA (K := K) rfl) (pv 1) (pe_use U__law_pick (hr.mono (by first | decide | omega)) (by rfl) (pa_cons (pv 0) (pa_cons (pe_callB (K_lenA (K := K) rfl) (by rfl) T.z_len (by decide +kernel) (pa_cons (pv 1) pa_nil)) pa_nil))) (fun _ _ => rfl)))), ?_⟩
    rcases h with ⟨a, xs, rfl, hS, hap, h0, h1, q⟩ | ⟨z, rfl, h0, h1, q⟩
    all_goals walk_at "S"
    · refine .inl (r_lenL hS ?_)
      walk_at "S"
      refine ⟨p, n, _, rfl, hb, by omega, by omega, fun r H1 r0 r1 k1 b1 => ?_⟩
      obtain ⟨v, hv, hm, _⟩ := atI_in (l := xs) r0 r1
      refine .inl (r_ixL (sql_kp hS k1 (not_one hap)) hv ?_)
      exact q v H1 hm k1 b1
    · have zl := Rd.str_length z
      have big : 1000000 ≤ sizeLine := by decide
      refine .inr (r_lenS (by omega) ?_)
      walk_at "S"
      refine ⟨p, n, _, rfl, hb, by omega, by omega, fun r H1 r0 r1 k1 b1 => ?_⟩
      obtain ⟨v, hv, hm, _⟩ := atI_in (l := z.cps.toList) (i := r) r0 (by omega)
      refine .inr (r_ixS (by omega) hv ?_)
      exact q v H1 hm k1 b1

/-! ### drawn words: at most eight signs a to z -/
def reserved : List Str := ["kind", "def", "set", "ask", "call", "again", "check", "mean", "if", "else", "end", "return", "refuse", "is", "self", "cls"]
def letters : Str := "abcdefghijklmnopqrstuvwxyz"
def WordOk (w : Str) : Prop := w.cps.toList.length ≤ 8 ∧ ∀ c ∈ w.cps.toList, 97 ≤ c ∧ c ≤ 122
theorem letters_len : letters.cps.toList.length = 26 := by decide +kernel
theorem letters_in : ∀ c ∈ letters.cps.toList, 97 ≤ c ∧ c ≤ 122 := by decide +kernel
theorem app_list (a b : Str) : (a ++ b).cps.toList = a.cps.toList ++ b.cps.toList := Array.toList_append
theorem empty_list : (Str.ofString "").cps.toList = [] := by decide +kernel
theorem join_empty' : ∀ ys : List Str, (Str.join (Str.ofString "") ys).cps.toList = (ys.map fun y => y.cps.toList).flatten
  | [] => rfl
  | [y] => by
    show y.cps.toList = _
    simp
  | y :: z :: ys => by
    have ih := join_empty' (z :: ys)
    show ((y ++ Str.ofString "") ++ Str.join (Str.ofString "") (z :: ys)).cps.toList = _
    rw [app_list, app_list, ih, empty_list, List.append_nil]
    simp
theorem join_empty (ys : List Str) : (Txt.join (Str.ofString "") ys).cps.toList = (ys.map fun y => y.cps.toList).flatten := by
  rw [TL.join_eq]
  exact join_empty' ys
theorem cut_mem {z : Str} {lo hi : Option Int} : ∀ c ∈ (cutS z lo hi).cps.toList, c ∈ z.cps.toList := fun c h => by
  have h' : c ∈ ((z.cps.toList.drop (HT.sIx z.length 0 lo)).take (HT.sIx z.length z.length hi - HT.sIx z.length 0 lo)) := h
  exact List.mem_of_mem_drop (List.mem_of_mem_take h')
theorem cut_le {z : Str} {lo hi : Option Int} : (cutS z lo hi).cps.toList.length ≤ z.cps.toList.length := by
  show ((z.cps.toList.drop (HT.sIx z.length 0 lo)).take (HT.sIx z.length z.length hi - HT.sIx z.length 0 lo)).length ≤ _
  rw [List.length_take, List.length_drop]
  omega
theorem reserved_short : ∀ w ∈ reserved, w.cps.toList.length ≤ 6 ∧ ∀ c ∈ w.cps.toList, 97 ≤ c ∧ c ≤ 122 := by decide +kernel
def sp__law_word : Sp := fun vs H Q _ => ∃ (p : Addr) (n : Nat), vs = [.ref p] ∧ BagD H p (n + 9) ∧ ∀ (w : Str) H', WordOk w → Kp [p] H H' → BagD H' p n → Q (.str w) H'
abbrev s__law_word : Stmt := top 7
theorem sc__law_word : FnScope ["_law_draws_here", "_law_letters", "_law_turn", "_law_word_here", "_law_kept"] ["_law_draws_here"] (defScope s__law_word) :=
  ⟨rfl, rfl, rfl, by decide +kernel, rfl, by decide +kernel, by decide +kernel⟩
theorem ok__law_word {f : Addr} {fd : FuncData} (F : Fun K "_law_word" "_law_word" s__law_word f fd) (T : Txt K mg C_Call) (U__law_pick : Use P w K mg base 2 "_law_pick" ["_law_draws_here", "_law_many"] (sp__law_pick)) (U__law_one : Use P w K mg base 4 "_law_one" ["_law_draws_here", "_law_some"] (sp__law_one K)) :
    FnOk P w K mg base CX0 6 f fd ["_law_draws_here"] (sp__law_word) := by
  refine F.ok sc__law_word (fun vs H Q E h => ?_) (fun cdv A outer s H vs Q E hr h => ?_)
  · obtain ⟨p, n, rfl, _⟩ := h
    rfl
  · obtain ⟨p, n, rfl, hb, q⟩ := h
    have hu := hu_of hr
    have hu64 := hr.units
    refine ⟨_, (pss_cons (ps_set (i := 1) sc__law_word.nd rfl (by first | exact Or.inl rfl | exact Or.inr rfl) pe_str)
        (pss_cons (ps_set (i := 3) sc__law_word.nd rfl (by first | exact Or.inl rfl | exact Or.inr rfl) (K_join (K := K) rfl pe_str (pe_lc (own := [("_law_turn", 2)]) (by rfl) sc__law_word.nd (pi_range1 (by rfl) T.z_range (pa_cons (pe_op op_add pe_int (pe_use U__law_pick (hr.mono (by first | decide | omega)) (by rfl) (pa_cons (pv 0) (pa_cons pe_int pa_nil)))) pa_nil)) (blkOk_by (own := [("_law_turn", 2)]) (N := ["_law_draws_here", "_law_letters", "_law_turn", "_law_word_here", "_law_kept"]) (sc := defScope s__law_word) (by decide +kernel)) (fun _ _ _ _ _ => (pg_name (i := 2) sc__law_word.nd rfl (by first | exact Or.inl rfl | exact Or.inr rfl))) (fun _ _ _ _ _ => pts_nil) (fun _ _ _ _ _ => (pe_use U__law_one (hr.mono (by first | decide | omega)) (by rfl) (pa_cons (pv 0) (pa_cons (pv 1) pa_nil)))))))
        (pss_cons (ps_set (i := 4) sc__law_word.nd rfl (by first | exact Or.inl rfl | exact Or.inr rfl) (pe_lst (pa_cons pe_str (pa_cons pe_str (pa_cons pe_str (pa_cons pe_str (pa_cons pe_str (pa_cons pe_str (pa_cons pe_str (pa_cons pe_str (pa_cons pe_str (pa_cons pe_str (pa_cons pe_str (pa_cons pe_str (pa_cons pe_str pa_nil)))))))))))))))
        (pss_one (ps_ret (pe_ifExp (pt_cmpR (K_in (K := K) rfl) (pv 3) (pe_op op_cat (pv 4) (pe_lst (pa_cons pe_str (pa_cons pe_str (pa_cons pe_str pa_nil))))) (by with_unfolding_all rfl)) (pe_op op_addT pe_str (pe_slice sl_str (pv 3) (po_some pe_int) po_none)) (pv 3))))))), ?_⟩
    have big : 1000 ≤ sizeLine := by decide
    walk_at "S"
    refine ⟨p, n + 8, _, rfl, hb, by decide, by decide, fun r H1 r0 r1 k1 b1 => ?_⟩
    walk_at "S"
    refine r_cRng1 (by omega) ?_
    refine r_kLcR (fun D i acc H' => ∃ ys : List Str, acc = ys.map V.str ∧ Kp [p] H1 H' ∧ BagD H' p (n + (8 - i)) ∧ ys.length = i ∧ ∀ y ∈ ys, (∀ c ∈ y.cps.toList, 97 ≤ c ∧ c ≤ 122) ∧ y.length ≤ 1) (fun D H' nD k e => ⟨[], rfl, k.nil, b1.kp k not_nil, rfl, fun y m => nomatch m⟩) ?_ ?_
    · rintro D i acc H2 nD hi eD ⟨ys, rfl, k2, b2, hy, hys⟩
      have Dp := b1.ne nD
      walk_at "S"
      refine ⟨p, n + (8 - (i + 1)), _, rfl, b2.mono (by omega), .inr ⟨letters, rfl, by rw [letters_len]; decide, by rw [letters_len]; decide, fun c H3 hm k3 b3 => ?_⟩⟩
      refine r_kApp (k3 _ _ eD (not_one Dp)) ?_ fun H4 k4 e4 => ⟨ys ++ [⟨#[c]⟩], by rw [List.map_append]; rfl, (k2.trans k3).step nD k4, b3.kp k4 (not_one Dp.symm), by rw [List.length_append, hy]; rfl, fun y hm' => ?_⟩
      · rw [List.length_map]
        omega
      · rcases List.mem_append.mp hm' with h | h
        · exact hys y h
        · rw [List.mem_singleton.mp h]
          refine ⟨fun c' hc' => ?_, Nat.le_refl 1⟩
          have hc' : c' ∈ [c] := hc'
          rw [List.mem_singleton.mp hc']
          exact letters_in c hm
    rintro D acc H2 nD eD ⟨ys, rfl, k2, b2, hy, hys⟩
    have Dp := b1.ne nD
    have hs := sum_le (ys := ys) (m := 1) fun y hy => (hys y hy).2
    have e0 : (Str.ofString "").length = 0 := rfl
    refine ⟨"", D, ys, rfl, rfl, .inl (SqL.of eD), ?_, ?_⟩
    · rw [e0]
      omega
    generalize hB : Txt.join (Str.ofString "") ys = B
    have hBl : B.cps.toList = (ys.map fun y => y.cps.toList).flatten := hB ▸ join_empty ys
    have hBok : ∀ c ∈ B.cps.toList, 97 ≤ c ∧ c ≤ 122 := fun c hc => by
      rw [hBl] at hc
      obtain ⟨l, hl, hcl⟩ := List.mem_flatten.mp hc
      obtain ⟨y, my, rfl⟩ := List.mem_map.mp hl
      exact (hys y my).1 c hcl
    have hBlen : B.cps.toList.length ≤ 8 := by
      rw [hBl, List.length_flatten, List.map_map]
      have : (ys.map (List.length ∘ fun y : Str => y.cps.toList)) = ys.map (·.length) := List.map_congr_left fun y _ => (Rd.str_length y).symm
      rw [this]
      omega
    have k02 : Kp [p] H H2 := k1.trans k2
    walk_at "S"
    refine r_kLst (by show 13 ≤ sizeLine; decide) fun l2 H5 n5 k5 e5 => ?_
    walk_at "S"
    refine r_kLst (by show 3 ≤ sizeLine; decide) fun l3 H6 n6 k6 e6 => ?_
    walk_at "S"
    refine r_cat (k6 _ _ e5 not_nil) e6 (by show 16 ≤ sizeLine; decide) fun l4 H7 n7 k7 e7 => ?_
    walk_at "S"
    have k07 : Kp [p] H H7 := k02.trans ((k5.trans (k6.trans k7)).nil)
    have b7 : BagD H7 p n := ((b2.mono (by omega)).kp (k5.trans (k6.trans k7)) not_nil)
    refine r_inL (ws := reserved) (SqL.of e7) ?_
    walk_at "S"
    refine r_kIf (fun c => ?_) (fun c => ?_)
    all_goals walk_at "S"
    · have c' : B ∈ reserved := of_decide_eq_true c
      have hr := reserved_short B c'
      have hl := Rd.str_length B
      refine r_slS (by omega) ?_
      refine r_addT ?_ ?_
      · have h1 := cut_le (z := B) (lo := some 1) (hi := none)
        rw [Rd.str_length, Rd.str_length]
        show 1 + _ ≤ sizeLine
        omega
      walk_at "S"
      refine q _ H7 ⟨?_, fun c hc => ?_⟩ k07 b7
      · rw [app_list, List.length_append]
        have h1 := cut_le (z := B) (lo := some 1) (hi := none)
        show 1 + _ ≤ 8
        omega
      · rw [app_list] at hc
        rcases List.mem_append.mp hc with h | h
        · have h : c ∈ [113] := h
          rw [List.mem_singleton.mp h]
          decide
        · exact hBok c (cut_mem c h)
    · exact q B H7 ⟨hBlen, hBok⟩ k07 b7
/-- _law_names(draws, many): different words -/
def sp__law_names : Sp := fun vs H Q _ => ∃ (p : Addr) (n : Nat) (m : Nat), vs = [.ref p, .int (m : Int)] ∧ BagD H p (n + 100) ∧ m ≤ 8 ∧
  ∀ (l : Addr) (ws : List Str) H', H l = none → Kp [p] H H' → BagD H' p n → H' l = some (.lst (ws.map V.str)) → ws.length ≤ 8 → ws.Nodup → (∀ w ∈ ws, WordOk w) → Q (.ref l) H'
abbrev s__law_names : Stmt := top 8
theorem sc__law_names : FnScope ["_law_draws_here", "_law_many", "_law_found", "_law_turn", "_law_word_here"] ["_law_draws_here", "_law_many"] (defScope s__law_names) :=
  ⟨rfl, rfl, rfl, by decide +kernel, rfl, by decide +kernel, by decide +kernel⟩
theorem ok__law_names {f : Addr} {fd : FuncData} (F : Fun K "_law_names" "_law_names" s__law_names f fd) (T : Txt K mg C_Call) (U__law_word : Use P w K mg base 6 "_law_word" ["_law_draws_here"] (sp__law_word)) :
    FnOk P w K mg base CX0 8 f fd ["_law_draws_here", "_law_many"] (sp__law_names) := by
  refine F.ok sc__law_names (fun vs H Q E h => ?_) (fun cdv A outer s H vs Q E hr h => ?_)
  · obtain ⟨p, n, m, rfl, _⟩ := h
    rfl
  · obtain ⟨p, n, m, rfl, hb, hm, q⟩ := h
    have hu := hu_of hr
    have hu64 := hr.units
    refine ⟨_, (pss_cons (ps_set (i := 2) sc__law_names.nd rfl (by first | exact Or.inl rfl | exact Or.inr rfl) (pe_lst pa_nil))
        (pss_cons (ps_for PassesOwn.never (by rfl) (pi_range1 (by rfl) T.z_range (pa_cons (pv 1) pa_nil)) (pg_name (i := 3) sc__law_names.nd rfl (by first | exact Or.inl rfl | exact Or.inr rfl))
          (pss_cons (ps_set (i := 4) sc__law_names.nd rfl (by first | exact Or.inl rfl | exact Or.inr rfl) (pe_use U__law_word (hr.mono (by first | decide | omega)) (by rfl) (pa_cons (pv 0) pa_nil)))
          (pss_one (ps_if (pt_cmpR (K_notIn (K := K) rfl) (pv 4) (pv 2) (by with_unfolding_all rfl))
            (pss_one (ps_expr (K_bm (K := K) rfl PySem.F.plainAttrs_list PySem.F.slot_list_append PySem.F.type_list_append mt_append (pv 2) (pa_cons (pv 4) pa_nil))))
            pss_nil))))
        (pss_one (ps_ret (pv 2))))), ?_⟩
    have big : 1000 ≤ sizeLine := by decide
    walk_at "S"
    refine r_kLst (by show 0 ≤ sizeLine; decide) fun l H1 nl k1 el => ?_
    have lp : l ≠ p := hb.ne nl
    walk_at "S"
    refine r_cRng1 (by omega) ?_
    refine r_kForR (fun i σ' H' => ∃ (ws : List Str) (v3 v4 : Option V), σ' = [some (.ref p), some (.int (m : Int)), some (.ref l), v3, v4] ∧ Kp [p, l] H1 H' ∧ BagD H' p (n + 9 * (8 - i)) ∧ H' l = some (.lst (ws.map V.str)) ∧ ws.length ≤ i ∧ ws.Nodup ∧ ∀ w ∈ ws, WordOk w)
      ⟨[], none, none, rfl, Kp.refl _ _, (hb.kp k1 not_nil).mono (by omega), el, Nat.le_refl _, List.nodup_nil, fun w m => nomatch m⟩ ?_ ?_
    · rintro i σ' H2 hi ⟨ws, v3, v4, rfl, k2, b2, e2, hl, hnd, hok⟩
      have hi8 : i < 8 := by omega
      walk_at "S"
      refine ⟨p, n + 9 * (8 - (i + 1)), rfl, b2.mono (by omega), fun w H3 hw k3 b3 => ?_⟩
      have e3 := k3 _ _ e2 (not_one lp)
      have k23 : Kp [p, l] H1 H3 := k2.trans (Kp.mono (ex := [p]) k3 (by simp))
      walk_at "S"
      refine r_notInL (SqL.of e3) ?_
      walk_at "S"
      refine r_kIfS (fun c => ?_) (fun c => ?_)
      all_goals walk_at "S"
      · have c' : w ∉ ws := by simpa using c
        refine r_kBMl (SqL.of e3) ?_
        walk_at "S"
        refine r_append e3 (by rw [List.length_map]; omega) fun H4 k4 e4 => ?_
        walk_at "S"
        refine ⟨ws ++ [w], _, _, rfl, k23.trans (Kp.mono (ex := [l]) k4 (by simp)), b3.kp k4 (not_one lp.symm), by rw [e4, List.map_append]; rfl, by rw [List.length_append]; show _ + 1 ≤ _; omega, ?_, fun x hx => ?_⟩
        · rw [List.nodup_append]
          exact ⟨hnd, by simp, fun x hx y hy e => by
            rw [List.mem_singleton.mp hy] at e
            exact c' (e ▸ hx)⟩
        · rcases List.mem_append.mp hx with h | h
          · exact hok x h
          · rw [List.mem_singleton.mp h]
            exact hw
      · exact ⟨ws, _, _, rfl, k23, b3, e3, by omega, hnd, hok⟩
    · rintro σ' H2 ⟨ws, v3, v4, rfl, k2, b2, e2, hl, hnd, hok⟩
      walk_at "S"
      exact q l ws H2 nl (by
        have : Kp [p] H H2 := fun b o e hb => k2 b o (k1 b o e not_nil) (fun z => by
          rcases List.mem_cons.mp z with z | z
          · exact hb (by rw [z]; exact List.mem_cons_self)
          · rw [List.mem_singleton.mp z] at e
            rw [nl] at e
            cases e)
        exact this) (b2.mono (by omega)) e2 (by omega) hnd hok

end
section
variable {P : Program} {w : World} {K : PySem.W.Frag} {mg : Str → Option Value} {base : Heap}
variable {C_Call : Addr}
local macro_rules | `(tactic| walk_at "s") => `(tactic| (first
  | (with_reducible refine r_seq ?_)
  | (with_reducible refine r_asg ?_)
  | ((with_reducible refine' r_var (v := ?v) ?hv ?_); (case hv => exact rfl))
  | (with_reducible refine r_c ?_)
  | (with_reducible refine r_name ?_)
  | (with_reducible refine r_op ?_)
  | (with_reducible refine r_un ?_)
  | (with_reducible refine r_consA ?_)
  | (with_reducible refine r_nilA ?_)
  | (with_reducible refine r_I0 ?_)
  | (with_reducible refine r_U ?_)
  | (with_reducible refine r_eqI ?_)
  | (with_reducible refine r_neI ?_)
  | (with_reducible refine r_test ?_)
  | (with_reducible refine r_tB ?_)
  | (with_reducible refine r_kB ?_)
  | (with_reducible refine r_ifS ?_)
  | (with_reducible refine r_if ?_)
  | (with_reducible refine r_and ?_)
  | (with_reducible refine r_or ?_)
  | (with_reducible refine r_not ?_)
  | (with_reducible refine r_ret ?_)
  | (with_reducible refine r_retN ?_)
  | (with_reducible refine r_next ?_)
  | (with_reducible refine r_drop ?_)
  | (with_reducible refine r_brk ?_)
  | (with_reducible refine r_cont ?_)
  | (with_reducible refine r_andV ?_)
  | (with_reducible refine r_orV ?_)
  | (with_reducible refine r_notV ?_)
  | (with_reducible refine r_kNotV ?_)
  | (with_reducible refine r_lst ?_)
  | (with_reducible refine r_tup ?_)
  | (with_reducible refine r_dget ?_)
  | (with_reducible refine r_dput ?_)
  | (with_reducible refine r_use ?_)
  | (with_reducible refine r_cb ?_)
  | (with_reducible refine r_par ?_)
  | (with_reducible refine r_int ?_)
  | (with_reducible refine r_abs ?_)
  | (with_reducible refine r_max2 ?_)
  | (with_reducible refine r_min2 ?_)
  | (with_reducible refine r_pnil ?_)
  | (with_reducible refine r_pcons ?_)
  | (with_reducible refine r_eqS ?_)
  | (with_reducible refine r_neS ?_)
  | (with_reducible refine r_for ?_)
  | (with_reducible refine r_rng1 ?_)
  | (with_reducible refine r_rng2 ?_)
  | (with_reducible refine r_wl ?_)
  | (with_reducible refine r_wt ?_)
  | (with_reducible refine r_wq ?_)
  | (with_reducible refine r_ws ?_)
  | (with_reducible refine r_cWS ?_)
  | (with_reducible refine r_enum ?_)
  | (with_reducible refine r_zip ?_)
  | (with_reducible refine r_lc ?_)
  | (with_reducible refine r_dc ?_)
  | ((with_reducible refine r_kTurn ?ht ?_); (case ht => rfl))
  | ((with_reducible refine r_kTurnD ?ht ?_); (case ht => rfl))
  | (with_reducible refine r_yes ?_)
  | ((with_reducible refine r_kKeep1 ?hk ?_); (case hk => rfl))
  | ((with_reducible refine r_kKeepD1 ?hk ?_); (case hk => rfl))
  | (with_reducible refine r_gcons ?_)
  | (with_reducible refine r_gnil ?_)
  | (with_reducible refine r_bm ?_)
  | (with_reducible refine r_bm0 ?_)
  | (with_reducible refine r_fld ?_)
  | (with_reducible refine r_sfld ?_)
  | (with_reducible refine r_methR ?_)
  | (with_reducible refine r_makeR ?_)
  | (with_reducible refine r_chain ?_)))
local macro_rules | `(tactic| walk_at "S") => `(tactic| repeat walk_at "s")
local macro_rules | `(tactic| walk_at "D") => `(tactic| repeat' (first
  | exact AD_nil
  | refine AD_cons ?_ (fun _ _ => ?_)
  | refine ED_tup ?_ (Nat.le_trans (m := 100) (Nat.le_of_ble_eq_true rfl) (by decide))
  | refine ED_lst ?_ (Nat.le_trans (m := 100) (Nat.le_of_ble_eq_true rfl) (by decide))
  | exact ED_c (by constructor)
  | exact ED_var rfl (by constructor)))
local macro_rules | `(tactic| walk_at "N") => `(tactic| repeat' (first
  | exact AN_nil
  | refine AN_cons ?_ (fun _ _ => ?_)
  | refine EN_tup ?_ (Nat.le_trans (m := 100) (Nat.le_of_ble_eq_true rfl) (by decide))
  | refine EN_lst ?_ (Nat.le_trans (m := 100) (Nat.le_of_ble_eq_true rfl) (by decide))
  | exact EN_c (fun _ => by constructor)
  | exact EN_var rfl (fun _ => by constructor)))

local macro_rules | `(tactic| walk_at "s") => `(tactic| (first
  | (with_reducible refine r_sl ?_)
  | (with_reducible refine r_kS1 ?_)
  | (with_reducible refine r_kS2 ?_)
  | (with_reducible refine r_kS3 ?_)
  | (with_reducible refine r_noPart ?_)
  | (with_reducible refine r_part ?_)
  | (with_reducible refine r_kPart ?_)
  | (with_reducible refine r_gsub ?_)
  | (with_reducible refine r_m1 ?_)
  | (with_reducible refine r_kM1 ?_)
  | (with_reducible refine r_propF ?_)
  | (with_reducible refine r_drp ?_)
  | (with_reducible refine r_min2S ?_)
  | (with_reducible refine r_max2S ?_)
  | (with_reducible refine r_enumS ?_)
  | (with_reducible refine r_cEnumS ?_)
  | (with_reducible refine r_makeKS ?_)
  | (with_reducible refine r_makeS ?_)))

local macro_rules | `(tactic| walk_at "s") => `(tactic| (first
  | (with_reducible refine r_mkV ?_)
  | (with_reducible refine r_ofl ?_)
  | (with_reducible refine r_methF ?_)
  | (with_reducible refine r_callF ?_)
  | (with_reducible refine r_star ?_)
  | (with_reducible refine r_smeth ?_)
  | (with_reducible refine r_kSMeth ?_)))

local macro_rules | `(tactic| walk_at "s") => `(tactic| (first
  | (with_reducible refine r_dcT ?_)
  | ((with_reducible refine r_kTurnT ?ht ?_); (case ht => rfl))
  | ((with_reducible refine r_kKeepT1 ?hk ?_); (case hk => rfl))
  | (with_reducible refine r_own ?_)
  | (with_reducible refine r_cmeth ?_)
  | (with_reducible refine r_kCMeth ?_)
  | (with_reducible refine r_makeS1 ?_)
  | ((with_reducible refine r_makeV ?hv ?_); (case hv => rfl))
  | (with_reducible refine r_isBl ?_)
  | (with_reducible refine r_ltS ?_)
  | (with_reducible refine r_makeW ?_)
  | (with_reducible refine r_kMakeW0 ?_)
  | (with_reducible refine r_lr1 ?_)
  | (with_reducible refine r_lc2 ?_)
  | ((with_reducible refine r_kTurn2 ?ht ?_); (case ht => rfl))
  | ((with_reducible refine r_kKeep2 ?hk ?_); (case hk => rfl))))

local macro_rules | `(tactic| walk_at "s") => `(tactic| (first
  | (with_reducible refine r_tTruOwn ?_)
  | (with_reducible refine r_notOwn ?_)
  | (with_reducible refine r_par3 ?_)))

local macro_rules | `(tactic| walk_at "s") => `(tactic| (first
  | (with_reducible refine Rd.r_join ?_)
  | (with_reducible refine r_jCons ?_)
  | (with_reducible refine r_jNil ?_)
  | (with_reducible refine r_fmt ?_)
  | (with_reducible refine r_lsItems ?_)
  | (with_reducible refine r_lsKeys ?_)
  | (with_reducible refine r_iKeys ?_)
  | (with_reducible refine r_revL ?_)))

/-! ### what is shown of a call -/
def SmallI (i : Int) : Prop := i.natAbs < 10 ^ 12
def NdOk (nds : List (Str × Int)) : Prop := ∀ q ∈ nds, WordOk q.1 ∧ SmallI q.2
theorem NdOk.perm {a b : List (Str × Int)} (h : NdOk a) (p : b.Perm a) : NdOk b := fun q m => h q (p.mem_iff.mp m)
theorem WordOk.len {w : Str} (h : WordOk w) : w.length ≤ 8 := by
  rw [Rd.str_length]
  exact h.1
theorem WordOk.ok {w : Str} (h : WordOk w) : PyData.strOk w = true := by
  show w.cps.all _ = true
  rw [Array.all_eq_true_iff_forall_mem]
  intro c hc
  have := h.2 c (Array.mem_toList_iff.mpr hc)
  exact decide_eq_true (by omega)
theorem WordOk.leaf {w : Str} (h : WordOk w) : PyData.leavesShort 13 (.str w) = true := by
  show w.cps.toList.all _ = true
  rw [List.all_eq_true]
  intro c hc
  have h1 := h.2 c hc
  have e : (16 : Nat) ^ 8 = 4294967296 := by decide
  exact decide_eq_true (by omega)
theorem SmallI.log {i : Int} (h : SmallI i) : i.natAbs.log2 < 1920 := log2_small h
theorem SmallI.leaf {i : Int} (h : SmallI i) : PyData.leavesShort 13 (.int i) = true := decide_eq_true (PyData.shown_int_le h)
theorem SmallI.weight {i : Int} (h : SmallI i) : PyData.weight (.int i) ≤ 40 := by
  show (if i == 0 then 0 else i.natAbs.log2 + 1) ≤ 40
  split
  · omega
  · rename_i c
    have z : i.natAbs ≠ 0 := fun e => c (by rw [Int.natAbs_eq_zero.mp e]; rfl)
    have : i.natAbs.log2 < 40 := (Nat.log2_lt z).mpr (Nat.lt_of_lt_of_le h (by decide))
    omega
structure Shows (n : Nat) (ds : List PyData) : Prop where
  s : PyData.showableAll ds = true
  d : PyData.hasDictAll ds = false
  t : PyData.depthAll ds ≤ 3
  l : PyData.leavesShortAll 13 ds = true
  w : PyData.weightAll ds ≤ n
theorem Shows.nil : Shows 0 [] := ⟨rfl, rfl, by decide, rfl, by decide⟩
theorem Shows.cons {n m : Nat} {d : PyData} {ds : List PyData} (h1 : d.showable = true) (h2 : d.hasDict = false) (h3 : d.depth ≤ 3) (h4 : d.leavesShort 13 = true) (h5 : d.weight ≤ m) (h : Shows n ds) : Shows (m + 1 + n) (d :: ds) :=
  ⟨by simp only [PyData.showableAll, h1, h.s, Bool.and_self], by simp only [PyData.hasDictAll, h2, h.d, Bool.or_self], by
    have := h.t
    simp only [PyData.depthAll]
    omega, by simp only [PyData.leavesShortAll, h4, h.l, Bool.and_self], by
    have := h.w
    simp only [PyData.weightAll]
    omega⟩
theorem shows_ints : ∀ {ixs : List Int}, (∀ i ∈ ixs, SmallI i) → Shows (41 * ixs.length) (ixs.map PyData.int)
  | [], _ => Shows.nil
  | i :: ixs, h => by
    have hi := h i List.mem_cons_self
    have := Shows.cons (m := 40) (d := .int i) (decide_eq_true hi.log) rfl (by show 0 ≤ 3; decide) hi.leaf hi.weight (shows_ints fun j m => h j (List.mem_cons_of_mem _ m))
    rw [List.length_cons, Nat.mul_add, Nat.add_comm]
    exact this
theorem shows_nds : ∀ {nds : List (Str × Int)}, NdOk nds → Shows (51 * nds.length) (nds.map ndD)
  | [], _ => Shows.nil
  | q :: nds, h => by
    obtain ⟨hw, hi⟩ := h q List.mem_cons_self
    have hin : Shows 50 [.str q.1, .int q.2] := Shows.cons (m := 8) (n := 41) rfl rfl (by show 0 ≤ 3; decide) hw.leaf hw.len (Shows.cons (m := 40) (n := 0) (decide_eq_true hi.log) rfl (by show 0 ≤ 3; decide) hi.leaf hi.weight Shows.nil)
    have := Shows.cons (m := 50) (d := ndD q) hin.s hin.d (by show 1 ≤ 3; decide) hin.l hin.w (shows_nds fun j m => h j (List.mem_cons_of_mem _ m))
    rw [List.length_cons, Nat.mul_add, Nat.add_comm]
    exact this
/-- the three parts of a call -/
def callD (nm : Str) (ixs : List Int) (nds : List (Str × Int)) : PyData := .tuple [.str nm, .tuple (ixs.map .int), .tuple (nds.map ndD)]
theorem depth_ints : ∀ ixs : List Int, PyData.depthAll (ixs.map PyData.int) = 0
  | [] => rfl
  | i :: ixs => by
    have := depth_ints ixs
    simp only [List.map_cons, PyData.depthAll, PyData.depth, this]
    rfl
theorem depth_nds : ∀ nds : List (Str × Int), PyData.depthAll (nds.map ndD) ≤ 1
  | [] => by decide
  | q :: nds => by
    have := depth_nds nds
    have h : (ndD q).depth = 1 := rfl
    simp only [List.map_cons, PyData.depthAll, h]
    omega
theorem callD_shows {nm : Str} {ixs : List Int} {nds : List (Str × Int)} (hw : WordOk nm) (hi : ∀ i ∈ ixs, SmallI i) (hn : NdOk nds) (li : ixs.length ≤ 1000) (ln : nds.length ≤ 1000) : (callD nm ixs nds).showable = true ∧ (callD nm ixs nds).hasDict = false ∧ (callD nm ixs nds).depth ≤ 60 ∧ (callD nm ixs nds).shown.length ≤ sizeLine := by
  have h1 := shows_ints hi
  have h2 := shows_nds hn
  have d1 := depth_ints ixs
  have d2 := depth_nds nds
  have h := Shows.cons (d := .str nm) (m := 8) rfl rfl (by show 0 ≤ 3; decide) hw.leaf hw.len (Shows.cons (d := .tuple (ixs.map .int)) h1.s h1.d (by simp only [PyData.depth, d1]; decide) h1.l h1.w (Shows.cons (d := .tuple (nds.map ndD)) h2.s h2.d (by simp only [PyData.depth]; omega) h2.l h2.w Shows.nil))
  refine ⟨h.s, h.d, ?_, ?_⟩
  · have := h.t
    show PyData.depthAll _ + 1 ≤ 60
    omega
  · refine PyData.shown_fits (B := 13) (by decide) (by decide) h.l ?_
    have := h.w
    show PyData.weightAll _ ≤ _
    have e : (2 : Nat) ^ 20 = 1048576 := by decide
    omega
def sp__law_is (C : Addr) : Sp := fun vs H Q _ => ∃ (a l d : Addr) (nm : Str) (ixs : List Int) (nds : List (Str × Int)), vs = [.ref a, .str nm, .ref l, .ref d] ∧ CallAt C H a nm ixs (srtN nds) ∧ H l = some (.lst (ixs.map V.int)) ∧ H d = some (.dK (ndK nds)) ∧
  WordOk nm ∧ ixs.length ≤ 1000 ∧ nds.length ≤ 1000 ∧ (∀ i ∈ ixs, SmallI i) ∧ NdOk nds ∧ ∀ H', Kp [] H H' → Q (.bl true) H'
abbrev s__law_is : Stmt := top 9
theorem sc__law_is : FnScope ["_law_call", "_law_name", "_law_indexes", "_law_named", "_law_pairs", "_law_index", "_law_word_here", "_law_parts", "_law_size"] ["_law_call", "_law_name", "_law_indexes", "_law_named"] (defScope s__law_is) :=
  ⟨rfl, rfl, rfl, by decide +kernel, rfl, by decide +kernel, by decide +kernel⟩
theorem ok__law_is {f : Addr} {fd : FuncData} (F : Fun K "_law_is" "_law_is" s__law_is f fd) (T : Txt K mg C_Call) (U_Call_size : UseP P w K mg base 2 (FamS [C_Call]) "size" ["self"] (sp_Call_size C_Call)) (U_Call___str__ : UseMF P w K mg base 2 (FamS [C_Call]) "__str__" (sp_Call___str__ C_Call)) :
    FnG P w K mg base CX0 6 f fd ["_law_call", "_law_name", "_law_indexes", "_law_named"] (sp__law_is C_Call) := by
  refine Rd.Fun.okG F sc__law_is (fun vs H Q E h => ?_) (fun cdv A outer s H vs Q E bare hr h => ?_)
  · obtain ⟨a, l, d, nm, ixs, nds, rfl, _⟩ := h
    rfl
  · obtain ⟨a, l, d, nm, ixs, nds, rfl, hc, el, ed, hw, li, ln, hi, hn, q⟩ := h
    obtain ⟨p_Call_size, g_Call_size, fd_Call_size, F_Call_size, B_Call_size, C_Call_size⟩ := U_Call_size
    obtain ⟨f_Call___str__, R_Call___str__, M_Call___str__⟩ := U_Call___str__
    have hu := hu_of hr
    have hu64 := hr.units
    refine ⟨_, (pss_cons (ps_set (i := 4) sc__law_is.nd rfl (by first | exact Or.inl rfl | exact Or.inr rfl) (pe_callB (K_sortedD (K := K) rfl hu64) (by rfl) T.z_sorted (by decide +kernel) (pa_cons (LiI.pe_listItems rfl (pv 3) (by rfl) T.z_list (by decide +kernel)) pa_nil)))
        (pss_cons (ps_if (pt_cmpR op_ne (pe_callB (K_reprD (K := K) rfl bare hu64) (by rfl) T.z_repr (by decide +kernel) (pa_cons (pe_tup (pa_cons (K_fld (K := K) rfl (pv 0) rfl) (pa_cons (K_fld (K := K) rfl (pv 0) rfl) (pa_cons (K_fld (K := K) rfl (pv 0) rfl) pa_nil)))) pa_nil)) (pe_callB (K_reprD (K := K) rfl bare hu64) (by rfl) T.z_repr (by decide +kernel) (pa_cons (pe_tup (pa_cons (pv 1) (pa_cons (pe_callTy (K_tuple (K := K) rfl) (by rfl) T.z_tuple (by decide +kernel) (pa_cons (pv 2) pa_nil)) (pa_cons (pe_callTy (K_tuple (K := K) rfl) (by rfl) T.z_tuple (by decide +kernel) (pa_cons (pv 4) pa_nil)) pa_nil)))) pa_nil)) (nomark _))
          (pss_one (ps_ret pe_bl))
          pss_nil)
        (pss_cons (ps_set (i := 7) sc__law_is.nd rfl (by first | exact Or.inl rfl | exact Or.inr rfl) (pe_op op_cat (pe_lc (own := [("_law_index", 5)]) (by rfl) sc__law_is.nd (K_pil (K := K) rfl (pv 2)) (blkOk_by (own := [("_law_index", 5)]) (N := ["_law_call", "_law_name", "_law_indexes", "_law_named", "_law_pairs", "_law_index", "_law_word_here", "_law_parts", "_law_size"]) (sc := defScope s__law_is) (by decide +kernel)) (fun _ _ _ _ _ => (pg_name (i := 5) sc__law_is.nd rfl (by first | exact Or.inl rfl | exact Or.inr rfl))) (fun _ _ _ _ _ => pts_nil) (fun _ _ _ _ _ => (pe_callTy cr_strI (by rfl) T.z_str (by decide +kernel) (pa_cons (pv 5) pa_nil)))) (pe_lc (own := [("_law_word_here", 6), ("_law_index", 5)]) (by rfl) sc__law_is.nd (K_pil (K := K) rfl (pv 4)) (blkOk_by (own := [("_law_word_here", 6), ("_law_index", 5)]) (N := ["_law_call", "_law_name", "_law_indexes", "_law_named", "_law_pairs", "_law_index", "_law_word_here", "_law_parts", "_law_size"]) (sc := defScope s__law_is) (by decide +kernel)) (fun _ _ _ _ _ => (K_gtup (K := K) (n := 2) rfl (by rfl) (pgs_cons (pg_name (i := 6) sc__law_is.nd rfl (by first | exact Or.inl rfl | exact Or.inr rfl)) (pgs_cons (pg_name (i := 5) sc__law_is.nd rfl (by first | exact Or.inl rfl | exact Or.inr rfl)) pgs_nil)))) (fun _ _ _ _ _ => pts_nil) (fun _ _ _ _ _ => (pe_op op_addT (pe_op op_addT (pv 6) pe_str) (pe_callTy cr_strI (by rfl) T.z_str (by decide +kernel) (pa_cons (pv 5) pa_nil)))))))
        (pss_cons (ps_if (pt_cmpR op_ne (pe_callTy (cr_strFam (S := (FamS [C_Call])) M_Call___str__ R_Call___str__ (hr.mono (by first | decide | omega))) (by rfl) T.z_str (by decide +kernel) (pa_cons (pv 0) pa_nil)) (pe_op op_addT (pe_op op_addT (pe_op op_addT (pv 1) pe_str) (K_join (K := K) rfl pe_str (pv 7))) pe_str) (nomark _))
          (pss_one (ps_ret pe_bl))
          pss_nil)
        (pss_cons (ps_set (i := 8) sc__law_is.nd rfl (by first | exact Or.inl rfl | exact Or.inr rfl) (pe_callB (K_max (K := K) rfl rfl) (by rfl) T.z_max (by decide +kernel) (pa_cons (pe_op op_cat (pe_op op_cat (pe_lst (pa_cons pe_int pa_nil)) (pe_lc (own := [("_law_index", 5)]) (by rfl) sc__law_is.nd (K_pil (K := K) rfl (pv 2)) (blkOk_by (own := [("_law_index", 5)]) (N := ["_law_call", "_law_name", "_law_indexes", "_law_named", "_law_pairs", "_law_index", "_law_word_here", "_law_parts", "_law_size"]) (sc := defScope s__law_is) (by decide +kernel)) (fun _ _ _ _ _ => (pg_name (i := 5) sc__law_is.nd rfl (by first | exact Or.inl rfl | exact Or.inr rfl))) (fun _ _ _ _ _ => pts_nil) (fun _ _ _ _ _ => (pe_op op_add (pv 5) pe_int)))) (pe_lc (own := [("_law_word_here", 6), ("_law_index", 5)]) (by rfl) sc__law_is.nd (K_pil (K := K) rfl (pv 4)) (blkOk_by (own := [("_law_word_here", 6), ("_law_index", 5)]) (N := ["_law_call", "_law_name", "_law_indexes", "_law_named", "_law_pairs", "_law_index", "_law_word_here", "_law_parts", "_law_size"]) (sc := defScope s__law_is) (by decide +kernel)) (fun _ _ _ _ _ => (K_gtup (K := K) (n := 2) rfl (by rfl) (pgs_cons (pg_name (i := 6) sc__law_is.nd rfl (by first | exact Or.inl rfl | exact Or.inr rfl)) (pgs_cons (pg_name (i := 5) sc__law_is.nd rfl (by first | exact Or.inl rfl | exact Or.inr rfl)) pgs_nil)))) (fun _ _ _ _ _ => pts_nil) (fun _ _ _ _ _ => (pe_op op_add (pv 5) pe_int)))) pa_nil)))
        (pss_one (ps_ret (pe_cmpR op_eq (pe_callB cr_reprI (by rfl) T.z_repr (by decide +kernel) (pa_cons (pe_propF (S := (FamS [C_Call])) (pv 0) C_Call_size F_Call_size (hr.mono (by first | decide | omega)) B_Call_size rfl) pa_nil)) (pe_callB cr_reprI (by rfl) T.z_repr (by decide +kernel) (pa_cons (pv 8) pa_nil)) (nomark _))))))))), ?_⟩
    have hC := T.c_Call
    have hM : FamS [C_Call] C_Call := .hd
    have big : 1000000 ≤ sizeLine := by decide
    have hln : (srtN nds).length = nds.length := (srtN_perm nds).length_eq
    have hns : NdOk (srtN nds) := hn.perm (srtN_perm nds)
    have sh := callD_shows hw hi hns li (by omega)
    have hcall := hc
    obtain ⟨dx, p, q0, fs, ea, hfl, h1, h2, h3, h4, ep, dd⟩ := hc
    walk_at "S"
    refine r_kItemsL ed fun p1 H1 xs n1 k1 e1 dx1 => ?_
    walk_at "S"
    refine r_sortedD (SqL.of e1) dx1 (by have := ndD_all id nds; exact this) (by have := ndD_sortable id nds; exact this) (by rw [List.length_map]; omega) (fun d' hd' => by
      obtain ⟨q1, _, rfl⟩ := List.mem_map.mp hd'
      show 1 ≤ 60
      decide) fun p2 ys H2 n2 k2 e2 dy => ?_
    rw [srtD_nds] at dy
    have k02 := k1.trans k2
    walk_at "S"
    refine r_kFld (k02 _ _ ea not_nil) hC T.na_Call_name h1 ?_
    walk_at "S"
    refine r_kFld (k02 _ _ ea not_nil) hC T.na_Call_indexes h2 ?_
    walk_at "S"
    refine r_kFld (k02 _ _ ea not_nil) hC T.na_Call_named h3 ?_
    walk_at "S"
    refine r_kTup (xs := [V.str nm, V.ref p, V.ref q0]) (by show 3 ≤ sizeLine; omega) fun t1 H3 nt1 k3 et1 => ?_
    have k03 := k02.trans k3
    have dt1 : Dt [] H3 (.ref t1) (callD nm ixs (srtN nds)) := .tup not_nil et1 (.cons (.str _) (.cons (dt_ints (k03 _ _ ep not_nil)) (.cons (dd.mono k03) .nil)))
    walk_at "S"
    refine r_reprD dt1 sh.1 sh.2.1 sh.2.2.1 sh.2.2.2 ?_
    walk_at "S"
    refine r_tupleL (SqL.of (k03 _ _ el not_nil)) fun t2 H4 nt2 k4 et2 => ?_
    walk_at "S"
    refine r_tupleL (SqL.of ((k3.trans k4) _ _ e2 not_nil)) fun t3 H5 nt3 k5 et3 => ?_
    walk_at "S"
    refine r_kTup (xs := [V.str nm, V.ref t2, V.ref t3]) (by show 3 ≤ sizeLine; omega) fun t4 H6 nt4 k6 et4 => ?_
    have k26 := k3.trans (k4.trans (k5.trans k6))
    have k06 := k02.trans k26
    have k56 := k5.trans k6
    have dy6 : DtAll [] H6 ys ((srtN nds).map ndD) := (dy.mono (k2.trans k26).nil).less fun _ m => nomatch m
    have dt4 : Dt [] H6 (.ref t4) (callD nm ixs (srtN nds)) := .tup not_nil et4 (.cons (.str _) (.cons (dt_ints (k56 _ _ et2 not_nil)) (.cons (.tup not_nil (k6 _ _ et3 not_nil) dy6) .nil)))
    walk_at "S"
    refine r_reprD dt4 sh.1 sh.2.1 sh.2.2.1 sh.2.2.2 ?_
    walk_at "S"
    refine r_kIfS0 (by simp) ?_
    walk_at "S"
    have lg : ∀ i ∈ ixs, i.natAbs.log2 < 1920 := fun i m => (hi i m).log
    refine r_cWL (SqL.of (k06 _ _ el not_nil)) ?_
    refine r_kLcL (fun D i acc H' => Kp [] H6 H' ∧ acc = ((ixs.take i).map ixText).map V.str) (fun D H' nD k e => ⟨k, rfl⟩) (fun D i acc H' _ h => SqL.of ((k06.trans h.1) _ _ el not_nil)) ?_ ?_
    · rintro D i acc x H7 nD hx eD ⟨k7, rfl⟩
      obtain ⟨j, hj, rfl⟩ := map_at hx
      walk_at "S"
      refine r_strI (lg j (mem_at hj)) ?_
      refine r_kApp eD ?_ fun H8 k8 e8 => ⟨k7.step nD k8, ?_⟩
      · rw [List.length_map, List.length_map, List.length_take]
        omega
      · rw [take_map _ hj, List.map_append]
        rfl
    rintro D acc H7 nD eD ⟨k7, rfl⟩
    rw [List.length_map, List.take_length] at eD
    walk_at "S"
    have dy7 := dy6.mono k7
    have e27 : H7 p2 = some (.lst ys) := (k26.trans k7) _ _ e2 not_nil
    have hyl : ys.length = nds.length := by rw [dy7.length, List.length_map, hln]
    refine r_cWL (SqL.of e27) ?_
    refine r_kLcL (fun E i acc H' => Kp [] H7 H' ∧ acc = (((srtN nds).take i).map ndText).map V.str) (fun D H' nD k e => ⟨k, rfl⟩) (fun D i acc H' _ h => SqL.of (h.1 _ _ e27 not_nil)) ?_ ?_
    · rintro E i acc x H8 nE hx eE ⟨k8, rfl⟩
      obtain ⟨d', hd', hxd⟩ := dy7.at hx
      obtain ⟨nd, hnd', rfl⟩ := map_at hd'
      obtain ⟨t, rfl, _, et⟩ := Dt.pair hxd
      have hq := hns nd (mem_at hnd')
      have hql := hq.1.len
      have e3 : (" = " : Str).length = 3 := rfl
      have hxt := ixText_len hq.2
      refine r_gtup (SqT.of (k8 _ _ et not_nil)) rfl ?_
      walk_at "S"
      refine r_addT (by omega) ?_
      walk_at "S"
      refine r_strI hq.2.log ?_
      refine r_addT (by rw [app_len]; exact Nat.le_trans (Nat.add_le_add_left hxt _) (by omega)) ?_
      refine r_kApp eE ?_ fun H9 k9 e9 => ⟨k8.step nE k9, ?_⟩
      · rw [List.length_map, List.length_map, List.length_take]
        omega
      · rw [take_map _ hnd', List.map_append]
        rfl
    rintro E acc H8 nE eE ⟨k8, rfl⟩
    rw [hyl, ← hln, List.take_length] at eE
    walk_at "S"
    refine r_cat (k8 _ _ eD not_nil) eE (by rw [List.length_map, List.length_map, List.length_map, List.length_map]; omega) fun l5 H9 nl5 k9 el5 => ?_
    have el5 : H9 l5 = some (.lst ((ixs.map ixText ++ (srtN nds).map ndText).map V.str)) := by rw [el5, List.map_append]
    have k69 := k7.trans (k8.trans k9)
    have k09 := k06.trans k69
    have hys : ∀ y ∈ ixs.map ixText ++ (srtN nds).map ndText, y.length ≤ 120 := by
      intro y hy
      rcases List.mem_append.mp hy with m | m
      · obtain ⟨i, hi', rfl⟩ := List.mem_map.mp m
        exact Nat.le_trans (ixText_len (hi i hi')) (by decide)
      · obtain ⟨n, hn', rfl⟩ := List.mem_map.mp m
        exact ndText_len (Nat.le_trans (hns n hn').1.len (by decide)) (hns n hn').2
    have hysl : (ixs.map ixText ++ (srtN nds).map ndText).length ≤ 2000 := by
      rw [List.length_append, List.length_map, List.length_map]
      omega
    have hj := join_len hys
    have hj2 : (ixs.map ixText ++ (srtN nds).map ndText).length * 122 ≤ 2000 * 122 := Nat.mul_le_mul_right _ hysl
    have hwl := hw.len
    walk_at "S"
    refine r_strFam (k09 _ _ ea not_nil) .hd ⟨a, nm, ixs, srtN nds, rfl, hcall.kp k09, by omega, li, by omega, hi, fun q m => ⟨Nat.le_trans (hns q m).1.len (by decide), (hns q m).2⟩, fun H10 k10 => ?_⟩
    refine ⟨_, rfl, ?_⟩
    walk_at "S"
    have e1l : ("(" : Str).length = 1 := rfl
    have e1r : (")" : Str).length = 1 := rfl
    refine r_addT (by omega) ?_
    walk_at "S"
    refine ⟨", ", l5, _, rfl, rfl, .inl (SqL.of (k10 _ _ el5 not_nil)), by
      have := sum_le hys
      have e2 : (", " : Str).length = 2 := rfl
      rw [e2]
      omega, ?_⟩
    refine r_addT (by rw [app_len]; omega) ?_
    walk_at "S"
    refine r_addT (by rw [app_len, app_len]; omega) ?_
    walk_at "S"
    refine r_kIfS0 (by simp [callText]) ?_
    walk_at "S"
    have k010 := k09.trans k10
    refine r_kLst (xs := [V.int 0]) (by show 1 ≤ sizeLine; omega) fun l6 H11 nl6 k11 el6 => ?_
    walk_at "S"
    have k011 := k010.trans k11
    have el11 := k011 _ _ el not_nil
    refine r_cWL (SqL.of el11) ?_
    refine r_kLcL (fun D i acc H' => Kp [] H11 H' ∧ acc = ((ixs.take i).map (· + 1)).map V.int) (fun D H' nD k e => ⟨k, rfl⟩) (fun D i acc H' _ h => SqL.of (h.1 _ _ el11 not_nil)) ?_ ?_
    · rintro D i acc x H12 nD hx eD ⟨k12, rfl⟩
      obtain ⟨j, hj, rfl⟩ := map_at hx
      walk_at "S"
      refine r_kApp eD ?_ fun H13 k13 e13 => ⟨k12.step nD k13, ?_⟩
      · rw [List.length_map, List.length_map, List.length_take]
        omega
      · rw [take_map _ hj, List.map_append]
        rfl
    rintro F acc H12 nF eF ⟨k12, rfl⟩
    rw [List.length_map, List.take_length] at eF
    walk_at "S"
    refine r_cat (k12 _ _ el6 not_nil) eF (by rw [List.length_map, List.length_map]; show 1 + _ ≤ _; omega) fun l7 H13 nl7 k13 el7 => ?_
    walk_at "S"
    have k613 := k69.trans (k10.trans (k11.trans (k12.trans k13)))
    have e213 : H13 p2 = some (.lst ys) := (k26.trans k613) _ _ e2 not_nil
    have dy13 := dy6.mono k613
    refine r_cWL (SqL.of e213) ?_
    refine r_kLcL (fun E i acc H' => Kp [] H13 H' ∧ acc = (((srtN nds).take i).map (fun q => q.2 + 1)).map V.int) (fun D H' nD k e => ⟨k, rfl⟩) (fun D i acc H' _ h => SqL.of (h.1 _ _ e213 not_nil)) ?_ ?_
    · rintro E i acc x H14 nE hx eE ⟨k14, rfl⟩
      obtain ⟨d', hd', hxd⟩ := dy13.at hx
      obtain ⟨nd, hnd', rfl⟩ := map_at hd'
      obtain ⟨t, rfl, _, et⟩ := Dt.pair hxd
      refine r_gtup (SqT.of (k14 _ _ et not_nil)) rfl ?_
      walk_at "S"
      refine r_kApp eE ?_ fun H15 k15 e15 => ⟨k14.step nE k15, ?_⟩
      · rw [List.length_map, List.length_map, List.length_take]
        omega
      · rw [take_map _ hnd', List.map_append]
        rfl
    rintro G acc H14 nG eG ⟨k14, rfl⟩
    rw [hyl, ← hln, List.take_length] at eG
    walk_at "S"
    refine r_cat (k14 _ _ el7 not_nil) eG (by rw [List.length_append, List.length_map, List.length_map, List.length_map, List.length_map]; show 1 + _ + _ ≤ _; omega) fun l8 H15 nl8 k15 el8 => ?_
    have el8 : H15 l8 = some (.lst ((0 :: (ixs.map (· + 1) ++ (srtN nds).map (fun q => q.2 + 1))).map V.int)) := by
      rw [el8]
      simp
    walk_at "S"
    refine ⟨l8, 0 :: (ixs.map (· + 1) ++ (srtN nds).map (fun q => q.2 + 1)), rfl, SqL.of el8, by simp, fun m hm hmx => ?_⟩
    walk_at "S"
    have k015 := k06.trans (k613.trans (k14.trans k15))
    refine r_kPropF (k015 _ _ ea not_nil) .hd ⟨a, nm, ixs, srtN nds, rfl, hcall.kp k015, li, by omega, fun m' H16 k16 hm' hmx' => ?_⟩
    have em : 1 + m' = m := by
      have h1 : m ≤ 1 + m' := by
        rcases List.mem_cons.mp hm with e | e
        · have := hmx' (-1) List.mem_cons_self
          omega
        · rcases List.mem_append.mp e with e | e
          · obtain ⟨i, hi', rfl⟩ := List.mem_map.mp e
            have := hmx' i (List.mem_cons_of_mem _ (List.mem_append_left _ hi'))
            omega
          · obtain ⟨q, hq', rfl⟩ := List.mem_map.mp e
            have := hmx' q.2 (List.mem_cons_of_mem _ (List.mem_append_right _ (List.mem_map_of_mem hq')))
            omega
      have h2 : 1 + m' ≤ m := by
        rcases List.mem_cons.mp hm' with e | e
        · have := hmx 0 List.mem_cons_self
          omega
        · rcases List.mem_append.mp e with e | e
          · have := hmx (m' + 1) (List.mem_cons_of_mem _ (List.mem_append_left _ (List.mem_map_of_mem e)))
            omega
          · obtain ⟨q, hq', rfl⟩ := List.mem_map.mp e
            have := hmx (q.2 + 1) (List.mem_cons_of_mem _ (List.mem_append_right _ (List.mem_map_of_mem hq')))
            omega
      omega
    have hms : m.natAbs.log2 < 1920 := by
      have small : ∀ i : Int, SmallI i → (i + 1).natAbs.log2 < 1920 := fun i h => by
        by_cases z : (i + 1).natAbs = 0
        · rw [z]; decide
        · rw [Nat.log2_lt z]
          have h : i.natAbs < 10 ^ 12 := h
          exact Nat.lt_of_lt_of_le (show (i + 1).natAbs < 10 ^ 13 by omega) (by decide)
      rcases List.mem_cons.mp hm with e | e
      · rw [e]; decide
      · rcases List.mem_append.mp e with e | e
        · obtain ⟨i, hi', rfl⟩ := List.mem_map.mp e
          exact small i (hi i hi')
        · obtain ⟨q, hq', rfl⟩ := List.mem_map.mp e
          exact small q.2 (hns q hq').2
    rw [em]
    walk_at "S"
    refine r_reprI hms ?_
    walk_at "S"
    refine r_reprI hms ?_
    walk_at "S"
    have := q H16 (k015.trans k16)
    simpa using this

end
section
variable {P : Program} {w : World} {K : PySem.W.Frag} {mg : Str → Option Value} {base : Heap}
variable {C_Call : Addr}
local macro_rules | `(tactic| walk_at "s") => `(tactic| (first
  | (with_reducible refine r_seq ?_)
  | (with_reducible refine r_asg ?_)
  | ((with_reducible refine' r_var (v := ?v) ?hv ?_); (case hv => exact rfl))
  | (with_reducible refine r_c ?_)
  | (with_reducible refine r_name ?_)
  | (with_reducible refine r_op ?_)
  | (with_reducible refine r_un ?_)
  | (with_reducible refine r_consA ?_)
  | (with_reducible refine r_nilA ?_)
  | (with_reducible refine r_I0 ?_)
  | (with_reducible refine r_U ?_)
  | (with_reducible refine r_eqI ?_)
  | (with_reducible refine r_neI ?_)
  | (with_reducible refine r_test ?_)
  | (with_reducible refine r_tB ?_)
  | (with_reducible refine r_kB ?_)
  | (with_reducible refine r_ifS ?_)
  | (with_reducible refine r_if ?_)
  | (with_reducible refine r_and ?_)
  | (with_reducible refine r_or ?_)
  | (with_reducible refine r_not ?_)
  | (with_reducible refine r_ret ?_)
  | (with_reducible refine r_retN ?_)
  | (with_reducible refine r_next ?_)
  | (with_reducible refine r_drop ?_)
  | (with_reducible refine r_brk ?_)
  | (with_reducible refine r_cont ?_)
  | (with_reducible refine r_andV ?_)
  | (with_reducible refine r_orV ?_)
  | (with_reducible refine r_notV ?_)
  | (with_reducible refine r_kNotV ?_)
  | (with_reducible refine r_lst ?_)
  | (with_reducible refine r_tup ?_)
  | (with_reducible refine r_dget ?_)
  | (with_reducible refine r_dput ?_)
  | (with_reducible refine r_use ?_)
  | (with_reducible refine r_cb ?_)
  | (with_reducible refine r_par ?_)
  | (with_reducible refine r_int ?_)
  | (with_reducible refine r_abs ?_)
  | (with_reducible refine r_max2 ?_)
  | (with_reducible refine r_min2 ?_)
  | (with_reducible refine r_pnil ?_)
  | (with_reducible refine r_pcons ?_)
  | (with_reducible refine r_eqS ?_)
  | (with_reducible refine r_neS ?_)
  | (with_reducible refine r_for ?_)
  | (with_reducible refine r_rng1 ?_)
  | (with_reducible refine r_rng2 ?_)
  | (with_reducible refine r_wl ?_)
  | (with_reducible refine r_wt ?_)
  | (with_reducible refine r_wq ?_)
  | (with_reducible refine r_ws ?_)
  | (with_reducible refine r_cWS ?_)
  | (with_reducible refine r_enum ?_)
  | (with_reducible refine r_zip ?_)
  | (with_reducible refine r_lc ?_)
  | (with_reducible refine r_dc ?_)
  | ((with_reducible refine r_kTurn ?ht ?_); (case ht => rfl))
  | ((with_reducible refine r_kTurnD ?ht ?_); (case ht => rfl))
  | (with_reducible refine r_yes ?_)
  | ((with_reducible refine r_kKeep1 ?hk ?_); (case hk => rfl))
  | ((with_reducible refine r_kKeepD1 ?hk ?_); (case hk => rfl))
  | (with_reducible refine r_gcons ?_)
  | (with_reducible refine r_gnil ?_)
  | (with_reducible refine r_bm ?_)
  | (with_reducible refine r_bm0 ?_)
  | (with_reducible refine r_fld ?_)
  | (with_reducible refine r_sfld ?_)
  | (with_reducible refine r_methR ?_)
  | (with_reducible refine r_makeR ?_)
  | (with_reducible refine r_chain ?_)))
local macro_rules | `(tactic| walk_at "S") => `(tactic| repeat walk_at "s")
local macro_rules | `(tactic| walk_at "D") => `(tactic| repeat' (first
  | exact AD_nil
  | refine AD_cons ?_ (fun _ _ => ?_)
  | refine ED_tup ?_ (Nat.le_trans (m := 100) (Nat.le_of_ble_eq_true rfl) (by decide))
  | refine ED_lst ?_ (Nat.le_trans (m := 100) (Nat.le_of_ble_eq_true rfl) (by decide))
  | exact ED_c (by constructor)
  | exact ED_var rfl (by constructor)))
local macro_rules | `(tactic| walk_at "N") => `(tactic| repeat' (first
  | exact AN_nil
  | refine AN_cons ?_ (fun _ _ => ?_)
  | refine EN_tup ?_ (Nat.le_trans (m := 100) (Nat.le_of_ble_eq_true rfl) (by decide))
  | refine EN_lst ?_ (Nat.le_trans (m := 100) (Nat.le_of_ble_eq_true rfl) (by decide))
  | exact EN_c (fun _ => by constructor)
  | exact EN_var rfl (fun _ => by constructor)))

local macro_rules | `(tactic| walk_at "s") => `(tactic| (first
  | (with_reducible refine r_sl ?_)
  | (with_reducible refine r_kS1 ?_)
  | (with_reducible refine r_kS2 ?_)
  | (with_reducible refine r_kS3 ?_)
  | (with_reducible refine r_noPart ?_)
  | (with_reducible refine r_part ?_)
  | (with_reducible refine r_kPart ?_)
  | (with_reducible refine r_gsub ?_)
  | (with_reducible refine r_m1 ?_)
  | (with_reducible refine r_kM1 ?_)
  | (with_reducible refine r_propF ?_)
  | (with_reducible refine r_drp ?_)
  | (with_reducible refine r_min2S ?_)
  | (with_reducible refine r_max2S ?_)
  | (with_reducible refine r_enumS ?_)
  | (with_reducible refine r_cEnumS ?_)
  | (with_reducible refine r_makeKS ?_)
  | (with_reducible refine r_makeS ?_)))

local macro_rules | `(tactic| walk_at "s") => `(tactic| (first
  | (with_reducible refine r_mkV ?_)
  | (with_reducible refine r_ofl ?_)
  | (with_reducible refine r_methF ?_)
  | (with_reducible refine r_callF ?_)
  | (with_reducible refine r_star ?_)
  | (with_reducible refine r_smeth ?_)
  | (with_reducible refine r_kSMeth ?_)))

local macro_rules | `(tactic| walk_at "s") => `(tactic| (first
  | (with_reducible refine r_dcT ?_)
  | ((with_reducible refine r_kTurnT ?ht ?_); (case ht => rfl))
  | ((with_reducible refine r_kKeepT1 ?hk ?_); (case hk => rfl))
  | (with_reducible refine r_own ?_)
  | (with_reducible refine r_cmeth ?_)
  | (with_reducible refine r_kCMeth ?_)
  | (with_reducible refine r_makeS1 ?_)
  | ((with_reducible refine r_makeV ?hv ?_); (case hv => rfl))
  | (with_reducible refine r_isBl ?_)
  | (with_reducible refine r_ltS ?_)
  | (with_reducible refine r_makeW ?_)
  | (with_reducible refine r_kMakeW0 ?_)
  | (with_reducible refine r_lr1 ?_)
  | (with_reducible refine r_lc2 ?_)
  | ((with_reducible refine r_kTurn2 ?ht ?_); (case ht => rfl))
  | ((with_reducible refine r_kKeep2 ?hk ?_); (case hk => rfl))))

local macro_rules | `(tactic| walk_at "s") => `(tactic| (first
  | (with_reducible refine r_tTruOwn ?_)
  | (with_reducible refine r_notOwn ?_)
  | (with_reducible refine r_par3 ?_)))

local macro_rules | `(tactic| walk_at "s") => `(tactic| (first
  | (with_reducible refine Rd.r_join ?_)
  | (with_reducible refine r_jCons ?_)
  | (with_reducible refine r_jNil ?_)
  | (with_reducible refine r_fmt ?_)
  | (with_reducible refine r_lsItems ?_)
  | (with_reducible refine r_lsKeys ?_)
  | (with_reducible refine r_iKeys ?_)
  | (with_reducible refine r_revL ?_)))

/-! ### calls that differ in one part -/
theorem nds_skip {H : Hp} {L : Addr} {xs : List V} (e : H L = some (.lst xs)) : ∀ {nds : List (Str × Int)} {vs : List V}, DtAll [] H vs (nds.map ndD) → DtAll [L] H vs (nds.map ndD)
  | [], _, h => by cases h; exact .nil
  | q :: nds, _, h => by
    cases h with
    | cons h t =>
      obtain ⟨a, rfl, _, ea⟩ := Dt.pair h
      exact .cons (.tup (not_one fun z => by rw [z, e] at ea; cases ea) ea (.cons (.str _) (.cons (.int _) .nil))) (nds_skip e t)
theorem CallAt.skip {C : Addr} {H H' : Hp} {a L : Addr} {nm : Str} {ixs : List Int} {nds : List (Str × Int)} {xs : List V} (h : CallAt C H a nm ixs nds) (e : H L = some (.lst xs)) (k : Kp [L] H H') : CallAt C H' a nm ixs nds := by
  obtain ⟨dx, p, q, fs, ea, hl, h1, h2, h3, h4, ep, d⟩ := h
  have na : a ≠ L := fun z => by rw [z, e] at ea; cases ea
  have np : p ≠ L := fun z => by rw [z, e] at ep; cases ep
  obtain ⟨q', ys, eq, _, eq', al⟩ := d.tuple
  cases eq
  have nq : q ≠ L := fun z => by rw [z, e] at eq'; cases eq'
  exact ⟨dx, p, q, fs, k _ _ ea (not_one na), hl, h1, h2, h3, h4, k _ _ ep (not_one np), .tup not_nil (k _ _ eq' (not_one nq)) (((nds_skip e al).mono k).less fun _ m => nomatch m)⟩
theorem nds_but {H : Hp} {L : Addr} {o : HO} {ex : List Addr} (e : H L = some o) (no : ∀ ys, o ≠ .tup ys) : ∀ {nds : List (Str × Int)} {vs : List V}, DtAll ex H vs (nds.map ndD) → DtAll (L :: ex) H vs (nds.map ndD)
  | [], _, h => by cases h; exact .nil
  | q :: nds, _, h => by
    cases h with
    | cons h t =>
      obtain ⟨a, rfl, m, ea⟩ := Dt.pair h
      refine .cons (.tup (fun z => ?_) ea (.cons (.str _) (.cons (.int _) .nil))) (nds_but e no t)
      rcases List.mem_cons.mp z with z | z
      · rw [z, e] at ea
        exact no _ (Option.some.inj ea)
      · exact m z
def Other (C : Addr) (H : Hp) (nm : Str) (ixs : List Int) (nds : List (Str × Int)) (c : Addr) : Prop := ∃ nm' ixs' nds', CallAt C H c nm' ixs' nds' ∧ (∀ q ∈ nds', PyData.strOk q.1 = true) ∧ ¬ (nm = nm' ∧ ixs = ixs' ∧ nds = nds')
theorem Other.kp {C : Addr} {H H' : Hp} {nm : Str} {ixs : List Int} {nds : List (Str × Int)} {c : Addr} (h : Other C H nm ixs nds c) (k : Kp [] H H') : Other C H' nm ixs nds c := by
  obtain ⟨a, b, d, h1, h2⟩ := h
  exact ⟨a, b, d, h1.kp k, h2⟩
theorem Other.skip {C : Addr} {H H' : Hp} {nm : Str} {ixs : List Int} {nds : List (Str × Int)} {c L : Addr} {xs : List V} (h : Other C H nm ixs nds c) (e : H L = some (.lst xs)) (k : Kp [L] H H') : Other C H' nm ixs nds c := by
  obtain ⟨a, b, d, h1, h2⟩ := h
  exact ⟨a, b, d, h1.skip e k, h2⟩
/-- a list of such calls -/
structure OthersAt (C : Addr) (H : Hp) (nm : Str) (ixs : List Int) (nds : List (Str × Int)) (L : Addr) (m : Nat) : Prop where
  ex : ∃ cs : List Addr, H L = some (.lst (cs.map V.ref)) ∧ cs.length ≤ m ∧ ∀ c ∈ cs, Other C H nm ixs nds c
theorem OthersAt.kp {C : Addr} {H H' : Hp} {nm : Str} {ixs : List Int} {nds : List (Str × Int)} {L : Addr} {m : Nat} (h : OthersAt C H nm ixs nds L m) (k : Kp [] H H') : OthersAt C H' nm ixs nds L m := by
  obtain ⟨cs, e, hl, h⟩ := h.ex
  exact ⟨cs, k _ _ e not_nil, hl, fun c hc => (h c hc).kp k⟩
theorem OthersAt.skip {C : Addr} {H H' : Hp} {nm : Str} {ixs : List Int} {nds : List (Str × Int)} {L p : Addr} {xs : List V} {m : Nat} (h : OthersAt C H nm ixs nds L m) (e : H p = some (.lst xs)) (k : Kp [p] H H') (n : L ≠ p) : OthersAt C H' nm ixs nds L m := by
  obtain ⟨cs, e', hl, h⟩ := h.ex
  exact ⟨cs, k _ _ e' (not_one n), hl, fun c hc => (h c hc).skip e k⟩
theorem OthersAt.mono {C : Addr} {H : Hp} {nm : Str} {ixs : List Int} {nds : List (Str × Int)} {L : Addr} {m m' : Nat} (h : OthersAt C H nm ixs nds L m) (l : m ≤ m') : OthersAt C H nm ixs nds L m' := by
  obtain ⟨cs, e', hl, h⟩ := h.ex
  exact ⟨cs, e', Nat.le_trans hl l, h⟩
/-- one is appended -/
theorem r_appO {C : Addr} {H : Hp} {Q : VK} {nm : Str} {ixs : List Int} {nds : List (Str × Int)} {L c : Addr} {m : Nat} (h : OthersAt C H nm ixs nds L m) (hm : m ≤ 100) (hc : Other C H nm ixs nds c)
    (q : ∀ H', Kp [L] H H' → OthersAt C H' nm ixs nds L (m + 1) → Q .non H') : rAppend (.ref L) [.ref c] H Q := by
  obtain ⟨cs, e, hl, h⟩ := h.ex
  have big : 1000 ≤ sizeLine := by decide
  refine r_append e (by rw [List.length_map]; omega) fun H' k e' => q H' k ⟨cs ++ [c], by rw [e', List.map_append]; rfl, by rw [List.length_append]; show _ + 1 ≤ _; omega, fun x hx => ?_⟩
  rcases List.mem_append.mp hx with z | z
  · exact (h x z).skip e k
  · rw [List.mem_singleton.mp z]
    exact hc.skip e k
theorem turn8 {v : Int} (h0 : 0 ≤ v) (h1 : v < 8) : Int.fmod (v + 1) 8 ≠ v := by
  have h := Int.fmod_eq_emod_of_nonneg (v + 1) (b := 8) (by decide)
  omega
theorem srtN_mem {nds : List (Str × Int)} {q : Str × Int} : q ∈ srtN nds ↔ q ∈ nds := (srtN_perm nds).mem_iff
theorem srtN_len (nds : List (Str × Int)) : (srtN nds).length = nds.length := (srtN_perm nds).length_eq
theorem ndK_pair {nds : List (Str × Int)} (hn : (nds.map Prod.fst).Nodup) {q : Str × Int} (h : q ∈ nds) : valV (ndK nds) (Sum.inr q.1) = some (.int q.2) :=
  val_nodup (ndK_keys hn) (Sum.inr q.1, V.int q.2) (List.mem_map_of_mem (f := fun q : Str × Int => ((Sum.inr q.1 : Key), V.int q.2)) h)
theorem nd_eq {nds : List (Str × Int)} (hn : (nds.map Prod.fst).Nodup) {w : Str} {i j : Int} (h1 : (w, i) ∈ nds) (h2 : (w, j) ∈ nds) : i = j := by
  have e1 := ndK_pair hn h1
  have e2 := ndK_pair hn h2
  rw [e1] at e2
  exact V.int.inj (Option.some.inj e2)
theorem eqv_none {ixs : List Int} : PyData.eqv (.list (ixs.map PyData.int)) (.list []) = decide (ixs = []) := by
  cases ixs with
  | nil => rfl
  | cons x l => rw [decide_eq_false (fun z => nomatch z)]; rfl
theorem shpl_nil : Shp 1 (.list []) := Shp.list (n := 0) fun d m => nomatch m
theorem shpl_ints (ixs : List Int) : Shp 1 (.list (ixs.map PyData.int)) := Shp.list (n := 0) fun d hd => by
  obtain ⟨q, hq, rfl⟩ := List.mem_map.mp hd
  exact Shp.int _ 0
theorem r_dnewK {σ : L2.St} {H : Hp} {Q : VK} (q : ∀ p H1, H p = none → Kp [] H H1 → H1 p = some (.dK []) → Q (.ref p) H1) : tDNewK σ H Q := fun p n => q p _ n (Kp.new n) upd_same
def withN (nds : List (Str × Int)) (w : Str) : List (Str × Int) := nds.filter fun q => decide (q.1 ≠ w)
theorem withN_keys {nds : List (Str × Int)} (w : Str) (hn : (nds.map Prod.fst).Nodup) : ((withN nds w).map Prod.fst).Nodup ∧ w ∉ (withN nds w).map Prod.fst := by
  refine ⟨List.Nodup.sublist ((List.filter_sublist).map _) hn, fun h => ?_⟩
  obtain ⟨q, hq, e⟩ := List.mem_map.mp h
  have := of_decide_eq_true (List.mem_filter.mp hq).2
  exact this e
def sp__law_others (C : Addr) : Sp := fun vs H Q _ => ∃ (p l d : Addr) (n : Nat) (nm : Str) (ixs : List Int) (nds : List (Str × Int)), vs = [.ref p, .str nm, .ref l, .ref d] ∧ BagD H p (n + 10) ∧ H l = some (.lst (ixs.map V.int)) ∧ l ≠ p ∧ H d = some (.dK (ndK nds)) ∧
  WordOk nm ∧ ixs.length ≤ 8 ∧ nds.length ≤ 8 ∧ (∀ i ∈ ixs, 0 ≤ i ∧ i < 8) ∧ (∀ q ∈ nds, WordOk q.1 ∧ 0 ≤ q.2 ∧ q.2 < 8) ∧ (nds.map Prod.fst).Nodup ∧
  ∀ (L : Addr) H', H L = none → Kp [p] H H' → BagD H' p n → OthersAt C H' nm ixs (srtN nds) L 20 → Q (.ref L) H'
abbrev s__law_others : Stmt := top 10
theorem sc__law_others : FnScope ["_law_draws_here", "_law_name", "_law_indexes", "_law_named", "_law_found", "_law_at", "_law_word_here", "_law_other", "_law_rest"] ["_law_draws_here", "_law_name", "_law_indexes", "_law_named"] (defScope s__law_others) :=
  ⟨rfl, rfl, rfl, by decide +kernel, rfl, by decide +kernel, by decide +kernel⟩
theorem ok__law_others {f : Addr} {fd : FuncData} (F : Fun K "_law_others" "_law_others" s__law_others f fd) (T : Txt K mg C_Call) (U_Call_of : UseSM P w K mg base 4 C_Call "of" (sp_Call_of C_Call)) (U__law_pick : Use P w K mg base 2 "_law_pick" ["_law_draws_here", "_law_many"] (sp__law_pick)) (U__law_one : Use P w K mg base 4 "_law_one" ["_law_draws_here", "_law_some"] (sp__law_one K)) :
    FnOk P w K mg base CX0 6 f fd ["_law_draws_here", "_law_name", "_law_indexes", "_law_named"] (sp__law_others C_Call) := by
  refine F.ok sc__law_others (fun vs H Q E h => ?_) (fun cdv A outer s H vs Q E hr h => ?_)
  · obtain ⟨p, l, d, n, nm, ixs, nds, rfl, _⟩ := h
    rfl
  · obtain ⟨p, l, d, n, nm, ixs, nds, rfl, hb, el, lp, ed, hw, li, ln, hi, hn, hnd, q⟩ := h
    obtain ⟨mc_Call_of, p_Call_of, g_Call_of, R_Call_of, Q_Call_of, S_Call_of⟩ := U_Call_of
    have hu := hu_of hr
    have hu64 := hr.units
    refine ⟨_, (pss_cons (ps_set (i := 4) sc__law_others.nd rfl (by first | exact Or.inl rfl | exact Or.inr rfl) (pe_lst (pa_cons (pe_smeth (pe_globE T.v_Call (by rfl)) Q_Call_of S_Call_of R_Call_of (hr.mono (by first | decide | omega)) (fun σ => passAtL σ) (pa_cons (pe_cutE (pe_ifExp (pt_cmpR op_lt (pe_callB cr_lenS (by rfl) T.z_len (by decide +kernel) (pa_cons (pv 1) pa_nil)) pe_int (nomark _)) (pe_op op_addT (pv 1) pe_str) pe_str)) (pa_cons (pv 2) (pa_cons (pv 3) pa_nil)))) pa_nil)))
        (pss_cutS (ps_if (pt_cmpR op_lt (pe_callB (K_len (K := K) rfl) (by rfl) T.z_len (by decide +kernel) (pa_cons (pv 2) pa_nil)) pe_int (nomark _))
          (pss_one (ps_expr (K_bm (K := K) rfl PySem.F.plainAttrs_list PySem.F.slot_list_append PySem.F.type_list_append mt_append (pv 4) (pa_cons (pe_smeth (pe_globE T.v_Call (by rfl)) Q_Call_of S_Call_of R_Call_of (hr.mono (by first | decide | omega)) (fun σ => passAtL σ) (pa_cons (pv 1) (pa_cons (pe_op op_cat (pv 2) (pe_lst (pa_cons pe_int pa_nil))) (pa_cons (pv 3) pa_nil)))) pa_nil))))
          pss_nil)
        (pss_cutS (ps_if (pt_cmpR (K_neD (K := K) rfl hu64) (pv 2) (pe_lst pa_nil) (nomark _))
          (pss_cons (ps_set (i := 5) sc__law_others.nd rfl (by first | exact Or.inl rfl | exact Or.inr rfl) (pe_use U__law_pick (hr.mono (by first | decide | omega)) (by rfl) (pa_cons (pv 0) (pa_cons (pe_callB (K_len (K := K) rfl) (by rfl) T.z_len (by decide +kernel) (pa_cons (pv 2) pa_nil)) pa_nil))))
          (pss_cons (ps_expr (K_bm (K := K) rfl PySem.F.plainAttrs_list PySem.F.slot_list_append PySem.F.type_list_append mt_append (pv 4) (pa_cons (pe_smeth (pe_globE T.v_Call (by rfl)) Q_Call_of S_Call_of R_Call_of (hr.mono (by first | decide | omega)) (fun σ => passAtL σ) (pa_cons (pv 1) (pa_cons (pe_op op_cat (pe_op op_cat (pe_slice (K_slL (K := K) rfl) (pv 2) po_none (po_some (pv 5))) (pe_lst (pa_cons (pe_op op_modN (pe_op op_add (pe_ix (K_ixL (K := K) rfl) (pv 2) (pv 5) (fun _ _ => rfl)) pe_int) pe_int) pa_nil))) (pe_slice (K_slL (K := K) rfl) (pv 2) (po_some (pe_op op_add (pv 5) pe_int)) po_none)) (pa_cons (pv 3) pa_nil)))) pa_nil)))
          (pss_one (ps_expr (K_bm (K := K) rfl PySem.F.plainAttrs_list PySem.F.slot_list_append PySem.F.type_list_append mt_append (pv 4) (pa_cons (pe_smeth (pe_globE T.v_Call (by rfl)) Q_Call_of S_Call_of R_Call_of (hr.mono (by first | decide | omega)) (fun σ => passAtL σ) (pa_cons (pv 1) (pa_cons (pe_slice (K_slL (K := K) rfl) (pv 2) (po_some pe_int) po_none) (pa_cons (pv 3) pa_nil)))) pa_nil))))))
          pss_nil)
        (pss_cutS (ps_if (pt_cmpR (op_neE (Nat.lt_of_succ_lt hu)) (pv 3) pe_dnewK (nomark _))
          (pss_cons (ps_set (i := 6) sc__law_others.nd rfl (by first | exact Or.inl rfl | exact Or.inr rfl) (pe_use U__law_one (hr.mono (by first | decide | omega)) (by rfl) (pa_cons (pv 0) (pa_cons (pe_callB (K_sortedS (K := K) rfl) (by rfl) T.z_sorted (by decide +kernel) (pa_cons (pe_listKeys rfl (pv 3) (by rfl) T.z_list (by decide +kernel)) pa_nil)) pa_nil))))
          (pss_cons (ps_lock (ps_setLc (i := 8) (own := [("_law_other", 7)]) (by rfl) sc__law_others.nd rfl rfl (sw_true rfl rfl rfl (by decide +kernel)) (pi_keys (pv 3)) (blkOk_by (own := [("_law_other", 7)]) (N := ["_law_draws_here", "_law_name", "_law_indexes", "_law_named", "_law_found", "_law_at", "_law_word_here", "_law_other", "_law_rest"]) (sc := defScope s__law_others) (by decide +kernel)) (fun _ _ _ _ _ => (pg_name (i := 7) sc__law_others.nd rfl (by first | exact Or.inl rfl | exact Or.inr rfl))) (fun _ _ _ _ _ => pts_one (pt_cmpR op_ne (pv 7) (pv 6) (nomark _))) (fun _ _ _ _ _ => (pe_tup (pa_cons (pv 7) (pa_cons (pe_dget hu (pv 3) (pv 7) (fun _ _ => rfl)) pa_nil))))))
          (pss_cons (ps_expr (K_bm (K := K) rfl PySem.F.plainAttrs_list PySem.F.slot_list_append PySem.F.type_list_append mt_append (pv 4) (pa_cons (pe_smeth (pe_globE T.v_Call (by rfl)) Q_Call_of S_Call_of R_Call_of (hr.mono (by first | decide | omega)) (fun σ => passAtL σ) (pa_cons (pv 1) (pa_cons (pv 2) (pa_cons (pe_callTy (K_dictP (K := K) rfl rfl) (by rfl) T.z_dict (by decide +kernel) (pa_cons (pv 8) pa_nil)) pa_nil)))) pa_nil)))
          (pss_one (ps_expr (K_bm (K := K) rfl PySem.F.plainAttrs_list PySem.F.slot_list_append PySem.F.type_list_append mt_append (pv 4) (pa_cons (pe_smeth (pe_globE T.v_Call (by rfl)) Q_Call_of S_Call_of R_Call_of (hr.mono (by first | decide | omega)) (fun σ => passAtL σ) (pa_cons (pv 1) (pa_cons (pv 2) (pa_cons (pe_callTy (K_dictP (K := K) rfl rfl) (by rfl) T.z_dict (by decide +kernel) (pa_cons (pe_op op_cat (pv 8) (pe_lst (pa_cons (pe_tup (pa_cons (pv 6) (pa_cons (pe_op op_modN (pe_op op_add (pe_dget hu (pv 3) (pv 6) (fun _ _ => rfl)) pe_int) pe_int) pa_nil))) pa_nil))) pa_nil)) pa_nil)))) pa_nil)))))))
          pss_nil)
        (pss_one (ps_ret (pv 4))))))), ?_⟩
    have big : 1000000 ≤ sizeLine := by decide
    have hnl := hw.len
    have dp : d ≠ p := fun z => by
      obtain ⟨_, _, _, e, _⟩ := hb
      rw [z, e] at ed
      cases ed
    have oks : ∀ q ∈ srtN nds, PyData.strOk q.1 = true := fun q m => (hn q (srtN_mem.mp m)).1.ok
    walk_at "S"
    refine r_cutE (fun x H' => H = H' ∧ ∃ nm', x = V.str nm' ∧ nm ≠ nm') ?_ ?_
    · walk_at "S"
      refine r_lenS (by omega) ?_
      walk_at "S"
      refine r_kIf (fun c => ?_) (fun c => ?_)
      all_goals walk_at "S"
      · refine r_addT ?_ ?_
        · show _ + 1 ≤ _
          omega
        refine ⟨rfl, _, rfl, fun z => ?_⟩
        have h1 := congrArg Str.length z
        rw [app_len] at h1
        have h2 : ("z" : Str).length = 1 := rfl
        omega
      · refine ⟨rfl, _, rfl, fun z => ?_⟩
        have c' : ¬ ((nm.length : Nat) : Int) < 8 := of_decide_eq_false c
        rw [z] at c'
        exact c' (by decide)
    rintro x H' ⟨rfl, nm', rfl, hne⟩
    walk_at "S"
    refine ⟨l, d, nm', ixs, nds, rfl, .inl el, ed, by omega, fun c0 H1 k1 nc0 hc0 => ?_⟩
    walk_at "S"
    refine r_kLst (xs := [V.ref c0]) (by show 1 ≤ sizeLine; omega) fun L H2 nL k2 eL => ?_
    have nL0 : H L = none := k1.free nL not_nil
    have Lp : L ≠ p := hb.ne nL0
    have k02 : Kp [p] H H2 := (k1.trans k2).nil
    have o2 : OthersAt C_Call H2 nm ixs (srtN nds) L 1 := ⟨[c0], eL, Nat.le_refl 1, fun x hx => by
      rw [List.mem_singleton.mp hx]
      exact ⟨nm', ixs, srtN nds, hc0.kp k2, oks, fun z => hne z.1⟩⟩
    have b2 := hb.kp (k1.trans k2) not_nil
    walk_at "S"
    refine r_cutS (fun σ' H' => σ' = [some (.ref p), some (.str nm), some (.ref l), some (.ref d), some (.ref L), none, none, none, none] ∧ Kp [p] H H' ∧ BagD H' p (n + 10) ∧ OthersAt C_Call H' nm ixs (srtN nds) L 2) ?_ ?_
    · walk_at "S"
      refine r_lenL (SqL.of (k02 _ _ el (not_one lp))) ?_
      walk_at "S"
      refine r_kIfS (fun c => ?_) (fun c => ?_)
      all_goals walk_at "S"
      · refine r_kBMl (SqL.of eL) ?_
        walk_at "S"
        refine r_kLst (xs := [V.int 3]) (by show 1 ≤ sizeLine; omega) fun l3 H3 nl3 k3 el3 => ?_
        walk_at "S"
        refine r_cat (k3 _ _ (k02 _ _ el (not_one lp)) not_nil) el3 (by rw [List.length_map]; show _ + 1 ≤ _; omega) fun l4 H4 nl4 k4 el4 => ?_
        walk_at "S"
        have k34 := k3.trans k4
        refine ⟨l4, d, nm, ixs ++ [3], nds, rfl, .inl (by rw [el4, List.map_append]; rfl), k34 _ _ (k02 _ _ ed (not_one dp)) not_nil, by rw [List.length_append]; show _ + 1 ≤ _; omega, fun c5 H5 k5 nc5 hc5 => ?_⟩
        walk_at "S"
        have k25 := k34.trans k5
        refine r_appO (o2.kp k25) (by decide) ⟨nm, _, _, hc5, oks, fun z => ?_⟩ fun H6 k6 o6 => ?_
        · have h1 := congrArg List.length z.2.1
          rw [List.length_append] at h1
          have h2 : ([3] : List Int).length = 1 := rfl
          omega
        walk_at "S"
        exact ⟨rfl, (k02.trans k25.nil).step nL0 k6, (b2.kp k25 not_nil).kp k6 (not_one Lp.symm), o6⟩
      · exact ⟨rfl, k02, b2, o2.mono (by decide)⟩
    rintro σ' H3 ⟨rfl, k3, b3, o3⟩
    clear k02 b2 o2
    have el3 := k3 _ _ el (not_one lp)
    have ed3 := k3 _ _ ed (not_one dp)
    walk_at "S"
    refine r_cutS (fun σ' H' => ∃ v5, σ' = [some (.ref p), some (.str nm), some (.ref l), some (.ref d), some (.ref L), v5, none, none, none] ∧ Kp [p] H H' ∧ BagD H' p (n + 9) ∧ OthersAt C_Call H' nm ixs (srtN nds) L 4) ?_ ?_
    · walk_at "S"
      refine r_kLst (by show 0 ≤ sizeLine; omega) fun z0 H4 nz0 k4 ez0 => ?_
      have el4 := k4 _ _ el3 not_nil
      refine r_neD (ex := []) (ex' := []) (.lst not_nil el4 (DtAll.of_ints ixs)) (.lst not_nil ez0 .nil) (shpl_ints ixs) shpl_nil (by decide) ?_
      rw [eqv_none]
      walk_at "S"
      refine r_kIfS (fun c => ?_) (fun c => ?_)
      all_goals walk_at "S"
      · have hne0 : ixs ≠ [] := fun z => by
          rw [decide_eq_true z] at c
          cases c
        have hpos : 0 < ixs.length := List.length_pos_iff.mpr hne0
        refine r_lenL (SqL.of el4) ?_
        walk_at "S"
        refine ⟨p, n + 9, _, rfl, b3.kp k4 not_nil, by rw [List.length_map]; omega, by rw [List.length_map]; omega, fun r H5 r0 r1 k5 b5 => ?_⟩
        rw [List.length_map] at r1
        obtain ⟨j, rfl⟩ : ∃ j : Nat, r = (j : Int) := ⟨r.toNat, by omega⟩
        have hj : j < ixs.length := by omega
        have k35 : Kp [p] H H5 := (k3.trans k4.nil).trans k5
        have el5 := k35 _ _ el (not_one lp)
        have ed5 := k35 _ _ ed (not_one dp)
        obtain ⟨_, _, _, ep4, _⟩ := b3.kp k4 not_nil
        have o5 := (o3.kp k4).skip ep4 k5 Lp
        obtain ⟨cs, eLc, _, _⟩ := o5.ex
        walk_at "S"
        refine r_kBMl (SqL.of eLc) ?_
        walk_at "S"
        refine r_slL (SqL.of el5) fun s1 H6 ns1 k6 es1 => ?_
        rw [cut_to] at es1
        walk_at "S"
        have hat : (ixs.map V.int)[j]? = some (V.int ixs[j]) := by
          rw [List.getElem?_map, List.getElem?_eq_getElem hj]
          rfl
        refine r_ixL (SqL.of (k6 _ _ el5 not_nil)) (atI_nat hat) ?_
        walk_at "S"
        refine r_I (by decide) ?_
        walk_at "S"
        refine r_kLst (xs := [V.int _]) (by show 1 ≤ sizeLine; omega) fun s2 H7 ns2 k7 es2 => ?_
        walk_at "S"
        refine r_cat (k7 _ _ es1 not_nil) es2 (by rw [List.length_take]; show _ + 1 ≤ _; omega) fun s3 H8 ns3 k8 es3 => ?_
        walk_at "S"
        have k68 := k6.trans (k7.trans k8)
        refine r_slL (SqL.of (k68 _ _ el5 not_nil)) fun s4 H9 ns4 k9 es4 => ?_
        rw [show ((j : Int) + 1) = ((j + 1 : Nat) : Int) from by omega, cut_from] at es4
        refine r_cat (k9 _ _ es3 not_nil) es4 (by rw [List.length_append, List.length_take, List.length_drop, List.length_map]; show _ + 1 + _ ≤ _; omega) fun s5 H10 ns5 k10 es5 => ?_
        walk_at "S"
        have k510 := k68.trans (k9.trans k10)
        refine ⟨s5, d, nm, ixs.take j ++ [Int.fmod (ixs[j] + 1) 8] ++ ixs.drop (j + 1), nds, rfl, .inl (by rw [es5, List.map_append, List.map_append, List.map_take, List.map_drop]; rfl), k510 _ _ ed5 not_nil, by rw [List.length_append, List.length_append, List.length_take, List.length_drop]; show _ + 1 + _ ≤ _; omega, fun c11 H11 k11 nc11 hc11 => ?_⟩
        walk_at "S"
        have k511 := k510.trans k11
        refine r_appO (o5.kp k511) (by decide) ⟨nm, _, _, hc11, oks, fun z => ?_⟩ fun H12 k12 o12 => ?_
        · have h1 := congrArg (fun l : List Int => l[j]?) z.2.1
          have hjt : (ixs.take j).length = j := by rw [List.length_take]; omega
          simp only [List.append_assoc] at h1
          rw [List.getElem?_eq_getElem hj, List.getElem?_append_right (by omega), hjt, Nat.sub_self] at h1
          have h2 := Option.some.inj h1
          obtain ⟨i0, i1⟩ := hi ixs[j] (List.getElem_mem hj)
          exact turn8 i0 i1 h2.symm
        walk_at "S"
        have k12' : Kp [p] H H12 := (k35.trans k511.nil).step nL0 k12
        have b12 := (b5.kp k511 not_nil).kp k12 (not_one Lp.symm)
        obtain ⟨cs2, eLc2, _, _⟩ := o12.ex
        refine r_kBMl (SqL.of eLc2) ?_
        walk_at "S"
        refine r_slL (SqL.of (k12' _ _ el (not_one lp))) fun s6 H13 ns6 k13 es6 => ?_
        rw [show (some (1 : Int)) = some ((1 : Nat) : Int) from rfl, cut_from] at es6
        walk_at "S"
        refine ⟨s6, d, nm, ixs.drop 1, nds, rfl, .inl (by rw [es6, List.map_drop]), k13 _ _ (k12' _ _ ed (not_one dp)) not_nil, by rw [List.length_drop]; omega, fun c14 H14 k14 nc14 hc14 => ?_⟩
        walk_at "S"
        refine r_appO (o12.kp (k13.trans k14)) (by decide) ⟨nm, _, _, hc14, oks, fun z => ?_⟩ fun H15 k15 o15 => ?_
        · have h1 := congrArg List.length z.2.1
          rw [List.length_drop] at h1
          omega
        walk_at "S"
        exact ⟨_, rfl, (k12'.trans (k13.trans k14).nil).step nL0 k15, (b12.kp (k13.trans k14) not_nil).kp k15 (not_one Lp.symm), o15⟩
      · exact ⟨none, rfl, k3.trans k4.nil, (b3.kp k4 not_nil).mono (by omega), (o3.kp k4).mono (by decide)⟩
    rintro σ' H4 ⟨v5, rfl, k4, b4, o4⟩
    have el4 := k4 _ _ el (not_one lp)
    have ed4 := k4 _ _ ed (not_one dp)
    walk_at "S"
    refine r_cutS (fun σ' H' => ∃ v5 v6 v7 v8, σ' = [some (.ref p), some (.str nm), some (.ref l), some (.ref d), some (.ref L), v5, v6, v7, v8] ∧ Kp [p] H H' ∧ BagD H' p n ∧ OthersAt C_Call H' nm ixs (srtN nds) L 6) ?_ ?_
    · walk_at "S"
      refine r_dnewK fun z1 H5 nz1 k5 ez1 => ?_
      refine r_neE (k5 _ _ ed4 not_nil) ez1 ?_
      walk_at "S"
      refine r_kIfS (fun c => ?_) (fun c => ?_)
      all_goals walk_at "S"
      · have hpos : 0 < nds.length := by
          have hz : ((ndK nds).length == 0) = false := by simpa using c
          have : (ndK nds).length = nds.length := by
            unfold ndK
            rw [List.length_map]
          rw [this] at hz
          have := beq_eq_false_iff_ne.mp hz
          omega
        have ed5 := k5 _ _ ed4 not_nil
        refine r_kKeysL ed5 fun y1 H6 ny1 k6 ey1 => ?_
        have ey1 : H6 y1 = some (.lst ((nds.map Prod.fst).map V.str)) := by
          rw [ey1]
          unfold ndK
          rw [List.map_map, List.map_map]
          rfl
        walk_at "S"
        refine r_sortedS (SqL.of ey1) (by rw [List.length_map]; omega) fun ws y2 H7 pm ny2 k7 ey2 => ?_
        have hwl : ws.length = nds.length := by rw [pm.length_eq, List.length_map]
        walk_at "S"
        have k57 := k5.trans (k6.trans k7)
        have b7 := b4.kp k57 not_nil
        refine ⟨p, n + 8, _, rfl, b7, .inl ⟨y2, _, rfl, SqL.of ey2, (b4.kp (k5.trans k6) not_nil).ne ny2, by rw [List.length_map]; omega, by rw [List.length_map]; omega, fun v H8 hv k8 b8 => ?_⟩⟩
        obtain ⟨w, hwm, rfl⟩ := List.mem_map.mp hv
        have hwk : w ∈ nds.map Prod.fst := pm.mem_iff.mp hwm
        obtain ⟨⟨w', vi⟩, hwv, rfl⟩ := List.mem_map.mp hwk
        have k08 : Kp [p] H H8 := (k4.trans k57.nil).trans k8
        obtain ⟨_, _, _, ep7, _⟩ := b7
        have o8 := (o4.kp k57).skip ep7 k8 Lp
        have ed8 := k08 _ _ ed (not_one dp)
        walk_at "S"
        refine r_lockS ed8 fun od H9 k9 ed9 => ?_
        walk_at "S"
        refine r_kIK ed9 ?_
        refine r_kLcK (fun D i acc H' => Kp [] H9 H' ∧ DtAll [D] H' acc (((nds.take i).filter fun q => decide (q.1 ≠ w')).map ndD)) (fun D H' nD k e => ⟨k, .nil⟩) (fun D i acc H' _ h => h.1 _ _ ed9 not_nil) ?_ ?_
        · rintro D i acc kk vv H10 nD hkv eD ⟨k10, al⟩
          obtain ⟨nd, hnd', enq⟩ := map_at (f := fun q : Str × Int => ((Sum.inr q.1 : Key), V.int q.2)) hkv
          cases enq
          have ht := take_filter (fun q : Str × Int => decide (q.1 ≠ w')) hnd'
          have halen : acc.length ≤ 8 := by
            rw [al.length, List.length_map]
            refine Nat.le_trans (List.length_filter_le _ _) ?_
            rw [List.length_take]
            omega
          show gName 7 (V.str nd.1) _ H10 _
          walk_at "S"
          refine r_kKeep (fun c => ?_) (fun c => ?_)
          · have c' : nd.1 ≠ w' := by simpa using c
            walk_at "S"
            refine r_kDGf (k10 _ _ ed9 not_nil) (ndK_pair hnd (mem_at hnd')) ?_
            walk_at "S"
            refine r_kTup (xs := [V.str nd.1, V.int nd.2]) (by show 2 ≤ sizeLine; omega) fun t H11 nt k11 et => ?_
            have tD : t ≠ D := ne_none eD nt
            refine r_kApp (k11 _ _ eD not_nil) (by omega) fun H12 k12 e12 => ⟨(k10.trans k11).step nD k12, ?_⟩
            rw [ht, if_pos (decide_eq_true c'), List.map_append]
            exact ((al.mono k11.nil).mono k12).append (.cons (.tup (not_one tD) (k12 _ _ et (not_one tD)) (.cons (.str _) (.cons (.int _) .nil))) .nil)
          · have c' : nd.1 = w' := by simpa using c
            exact ⟨_, eD, k10, by
              rw [ht, if_neg (by rw [decide_eq_true_eq]; exact fun z => z c'), List.append_nil]
              exact al⟩
        rintro D acc H10 nD eD ⟨k10, al⟩
        have hlen : (ndK nds).length = nds.length := by
          unfold ndK
          rw [List.length_map]
        rw [hlen, List.take_length] at al
        have al : DtAll [D] H10 acc ((withN nds w').map ndD) := al
        walk_at "S"
        have ed10 := k10 _ _ ed9 not_nil
        refine r_kUnN ed10 fun H11 k11 ed11 => ?_
        have k811 : Kp [] H8 H11 := Kp.relock k9 k10.nil k11 ed8 ed11
        have Dd : D ≠ d := ne_none ed9 nD
        have eD11 := k11 _ _ eD (not_one Dd)
        have al11 : DtAll [] H11 acc ((withN nds w').map ndD) := ((nds_but ed10 (fun _ z => nomatch z) al).mono (Kp.mono (ex := [d]) k11 fun b m => by
          rw [List.mem_singleton.mp m]
          exact List.mem_cons_self)).less fun _ m => nomatch m
        have k011 := k08.trans k811.nil
        have o11 := o8.kp k811
        have b11 := b8.kp k811 not_nil
        obtain ⟨cs, eLc, _, _⟩ := o11.ex
        obtain ⟨wk1, wk2⟩ := withN_keys w' hnd
        have hwl8 : (withN nds w').length ≤ 8 := Nat.le_trans (List.length_filter_le _ _) ln
        have hal : acc.length ≤ 8 := by rw [al.length, List.length_map]; exact hwl8
        have okw : ∀ q ∈ withN nds w', PyData.strOk q.1 = true := fun q m => (hn q (List.mem_filter.mp m).1).1.ok
        walk_at "S"
        refine r_kBMl (SqL.of eLc) ?_
        walk_at "S"
        refine r_dictP (SqL.of eD11) al11 wk1 fun D1 H12 nD1 k12 eD1 => ?_
        walk_at "S"
        refine ⟨l, D1, nm, ixs, withN nds w', rfl, .inl (k12 _ _ (k011 _ _ el (not_one lp)) not_nil), eD1, by omega, fun c13 H13 k13 nc13 hc13 => ?_⟩
        walk_at "S"
        refine r_appO (o11.kp (k12.trans k13)) (by decide) ⟨nm, _, _, hc13, fun q m => okw q (srtN_mem.mp m), fun z => ?_⟩ fun H14 k14 o14 => ?_
        · have h1 : ((w', vi) : Str × Int) ∈ srtN nds := srtN_mem.mpr hwv
          rw [z.2.2] at h1
          exact wk2 (List.mem_map_of_mem (f := Prod.fst) (srtN_mem.mp h1))
        walk_at "S"
        have k014 := (k011.trans (k12.trans k13).nil).step nL0 k14
        have b14 := (b11.kp (k12.trans k13) not_nil).kp k14 (not_one Lp.symm)
        have ed14 := k014 _ _ ed (not_one dp)
        have DL : D ≠ L := by
          obtain ⟨cs0, e0, _, _⟩ := o8.ex
          have dL : L ≠ d := fun z => by
            rw [z] at e0
            rw [e0] at ed8
            cases ed8
          exact ne_none (k9 _ _ e0 (not_one dL)) nD
        have eD14 : H14 D = some (.lst acc) := k14 _ _ ((k12.trans k13) _ _ eD11 not_nil) (not_one DL)
        have al14 : DtAll [] H14 acc ((withN nds w').map ndD) := by
          have h1 := al11.mono (k12.trans k13)
          obtain ⟨cs1, e1, _, _⟩ := (o11.kp (k12.trans k13)).ex
          exact ((nds_skip e1 h1).mono k14).less fun _ m => nomatch m
        obtain ⟨cs2, eLc2, _, _⟩ := o14.ex
        refine r_kBMl (SqL.of eLc2) ?_
        walk_at "S"
        refine r_kDGs ed14 (ndK_pair hnd hwv) ?_
        walk_at "S"
        refine r_I (by decide) ?_
        walk_at "S"
        refine r_kTup (xs := [V.str w', V.int _]) (by show 2 ≤ sizeLine; omega) fun t H15 nt k15 et => ?_
        walk_at "S"
        refine r_kLst (xs := [V.ref t]) (by show 1 ≤ sizeLine; omega) fun l1 H16 nl1 k16 el1 => ?_
        walk_at "S"
        have k1416 := k15.trans k16
        refine r_cat (k1416 _ _ eD14 not_nil) el1 (by show _ + 1 ≤ _; omega) fun l2 H17 nl2 k17 el2 => ?_
        walk_at "S"
        have k1417 := k1416.trans k17
        have al17 : DtAll [] H17 (acc ++ [V.ref t]) ((withN nds w' ++ [(w', Int.fmod (vi + 1) 8)]).map ndD) := by
          rw [List.map_append]
          exact (al14.mono k1417).append (.cons (.tup not_nil ((k16.trans k17) _ _ et not_nil) (.cons (.str _) (.cons (.int _) .nil))) .nil)
        refine r_dictP (SqL.of el2) al17 (by
          rw [List.map_append, List.nodup_append]
          exact ⟨wk1, by simp, fun x hx y hy e => by
            rw [List.mem_singleton.mp hy] at e
            have e : x = w' := e
            exact wk2 (by have hx := hx; rw [e] at hx; exact hx)⟩) fun D2 H18 nD2 k18 eD2 => ?_
        walk_at "S"
        have k1418 := k1417.trans k18
        refine ⟨l, D2, nm, ixs, _, rfl, .inl (k1418 _ _ (k014 _ _ el (not_one lp)) not_nil), eD2, by omega, fun c19 H19 k19 nc19 hc19 => ?_⟩
        walk_at "S"
        refine r_appO (o14.kp (k1418.trans k19)) (by decide) ⟨nm, _, _, hc19, fun q m => ?_, fun z => ?_⟩ fun H20 k20 o20 => ?_
        · rcases List.mem_append.mp (srtN_mem.mp m) with h | h
          · exact okw q h
          · rw [List.mem_singleton.mp h]
            exact (hn _ hwv).1.ok
        · have h1 : ((w', Int.fmod (vi + 1) 8) : Str × Int) ∈ srtN (withN nds w' ++ [(w', Int.fmod (vi + 1) 8)]) := srtN_mem.mpr (List.mem_append_right _ (List.mem_singleton_self _))
          rw [← z.2.2] at h1
          have h2 := nd_eq hnd (srtN_mem.mp h1) hwv
          exact turn8 (hn _ hwv).2.1 (hn _ hwv).2.2 h2
        walk_at "S"
        exact ⟨_, _, _, _, rfl, (k014.trans (k1418.trans k19).nil).step nL0 k20, ((b14.kp (k1418.trans k19) not_nil).kp k20 (not_one Lp.symm)).mono (by omega), o20⟩
      · exact ⟨_, _, _, _, rfl, k4.trans k5.nil, (b4.kp k5 not_nil).mono (by omega), (o4.kp k5).mono (by decide)⟩
    rintro σ' H5 ⟨v5, v6, v7, v8, rfl, k5, b5, o5⟩
    walk_at "S"
    exact q L H5 nL0 k5 b5 (o5.mono (by decide))

end
/-! ### pairs in the order of their names: whatever order they were put in -/
open PySem.W (dataLe dataLt alike)
def kLe (x y : Str) : Prop := x ≠ y ∧ dataLt (.str y) (.str x) = false
theorem ndD_lt {a b : Str × Int} (h : a.1 ≠ b.1) : dataLt (ndD b) (ndD a) = dataLt (.str b.1) (.str a.1) := by
  unfold ndD
  rw [PySem.W.dataLt_pair rfl rfl, if_neg]
  intro z
  have z' : (b.1 == a.1) = true := z
  exact h (beq_iff_eq.mp z').symm
theorem ndD_le (a b : Str × Int) : dataLe false ndD a b = !dataLt (ndD b) (ndD a) := rfl
theorem srt_keys {nds : List (Str × Int)} (hn : (nds.map Prod.fst).Nodup) : ((srtN nds).map Prod.fst).Pairwise kLe := by
  have h1 : ((srtN nds).map Prod.fst).Nodup := (((srtN_perm nds).map Prod.fst).nodup_iff).mpr hn
  have h2 : (srtN nds).Pairwise fun a b => dataLe false ndD a b = true := PySem.W.sort_pairwise (PySem.W.sortLe_total (PyProof.Rows.listOrd PyProof.Rows.itemOrd) false fun b : Str × Int => PySem.W.keyToks (ndD b)) nds
  rw [List.pairwise_map]
  have h1' := List.pairwise_map.mp h1
  refine (h1'.and h2).imp fun {a b} ⟨x, y⟩ => ⟨x, ?_⟩
  rw [ndD_le, Bool.not_eq_true', ndD_lt x] at y
  exact y
theorem srtN_eq {a b : List (Str × Int)} (hn : (a.map Prod.fst).Nodup) (p : a.Perm b) : srtN a = srtN b := by
  have hb : (b.map Prod.fst).Nodup := ((p.map Prod.fst).nodup_iff).mp hn
  have s1 := List.pairwise_map.mp (srt_keys hn)
  have s2 := List.pairwise_map.mp (srt_keys hb)
  refine List.Perm.eq_of_pairwise (le := fun x y : Str × Int => kLe x.1 y.1) (fun x y hx hy h1 h2 => ?_) s1 s2 ((srtN_perm a).trans (p.trans (srtN_perm b).symm))
  exfalso
  have e1 := h1.2
  have e2 := h2.2
  rw [PySem.W.dataLt_str] at e1 e2
  have e1 := of_decide_eq_false e1
  have e2 := of_decide_eq_false e2
  have e : x.1.cps.toList = y.1.cps.toList := List.le_antisymm e1 e2
  have e' : x.1 = y.1 := by
    obtain ⟨⟨u⟩, _⟩ := x
    obtain ⟨⟨v⟩, _⟩ := y
    have e : u.toList = v.toList := e
    show (⟨u⟩ : Str) = ⟨v⟩
    rw [Array.toList_inj.mp e]
  exact h1.1 e'

section
variable {P : Program} {w : World} {K : PySem.W.Frag} {mg : Str → Option Value} {base : Heap}
variable {C_Call : Addr}
local macro_rules | `(tactic| walk_at "s") => `(tactic| (first
  | (with_reducible refine r_seq ?_)
  | (with_reducible refine r_asg ?_)
  | ((with_reducible refine' r_var (v := ?v) ?hv ?_); (case hv => exact rfl))
  | (with_reducible refine r_c ?_)
  | (with_reducible refine r_name ?_)
  | (with_reducible refine r_op ?_)
  | (with_reducible refine r_un ?_)
  | (with_reducible refine r_consA ?_)
  | (with_reducible refine r_nilA ?_)
  | (with_reducible refine r_I0 ?_)
  | (with_reducible refine r_U ?_)
  | (with_reducible refine r_eqI ?_)
  | (with_reducible refine r_neI ?_)
  | (with_reducible refine r_test ?_)
  | (with_reducible refine r_tB ?_)
  | (with_reducible refine r_kB ?_)
  | (with_reducible refine r_ifS ?_)
  | (with_reducible refine r_if ?_)
  | (with_reducible refine r_and ?_)
  | (with_reducible refine r_or ?_)
  | (with_reducible refine r_not ?_)
  | (with_reducible refine r_ret ?_)
  | (with_reducible refine r_retN ?_)
  | (with_reducible refine r_next ?_)
  | (with_reducible refine r_drop ?_)
  | (with_reducible refine r_brk ?_)
  | (with_reducible refine r_cont ?_)
  | (with_reducible refine r_andV ?_)
  | (with_reducible refine r_orV ?_)
  | (with_reducible refine r_notV ?_)
  | (with_reducible refine r_kNotV ?_)
  | (with_reducible refine r_lst ?_)
  | (with_reducible refine r_tup ?_)
  | (with_reducible refine r_dget ?_)
  | (with_reducible refine r_dput ?_)
  | (with_reducible refine r_use ?_)
  | (with_reducible refine r_cb ?_)
  | (with_reducible refine r_par ?_)
  | (with_reducible refine r_int ?_)
  | (with_reducible refine r_abs ?_)
  | (with_reducible refine r_max2 ?_)
  | (with_reducible refine r_min2 ?_)
  | (with_reducible refine r_pnil ?_)
  | (with_reducible refine r_pcons ?_)
  | (with_reducible refine r_eqS ?_)
  | (with_reducible refine r_neS ?_)
  | (with_reducible refine r_for ?_)
  | (with_reducible refine r_rng1 ?_)
  | (with_reducible refine r_rng2 ?_)
  | (with_reducible refine r_wl ?_)
  | (with_reducible refine r_wt ?_)
  | (with_reducible refine r_wq ?_)
  | (with_reducible refine r_ws ?_)
  | (with_reducible refine r_cWS ?_)
  | (with_reducible refine r_enum ?_)
  | (with_reducible refine r_zip ?_)
  | (with_reducible refine r_lc ?_)
  | (with_reducible refine r_dc ?_)
  | ((with_reducible refine r_kTurn ?ht ?_); (case ht => rfl))
  | ((with_reducible refine r_kTurnD ?ht ?_); (case ht => rfl))
  | (with_reducible refine r_yes ?_)
  | ((with_reducible refine r_kKeep1 ?hk ?_); (case hk => rfl))
  | ((with_reducible refine r_kKeepD1 ?hk ?_); (case hk => rfl))
  | (with_reducible refine r_gcons ?_)
  | (with_reducible refine r_gnil ?_)
  | (with_reducible refine r_bm ?_)
  | (with_reducible refine r_bm0 ?_)
  | (with_reducible refine r_fld ?_)
  | (with_reducible refine r_sfld ?_)
  | (with_reducible refine r_methR ?_)
  | (with_reducible refine r_makeR ?_)
  | (with_reducible refine r_chain ?_)))
local macro_rules | `(tactic| walk_at "S") => `(tactic| repeat walk_at "s")
local macro_rules | `(tactic| walk_at "D") => `(tactic| repeat' (first
  | exact AD_nil
  | refine AD_cons ?_ (fun _ _ => ?_)
  | refine ED_tup ?_ (Nat.le_trans (m := 100) (Nat.le_of_ble_eq_true rfl) (by decide))
  | refine ED_lst ?_ (Nat.le_trans (m := 100) (Nat.le_of_ble_eq_true rfl) (by decide))
  | exact ED_c (by constructor)
  | exact ED_var rfl (by constructor)))
local macro_rules | `(tactic| walk_at "N") => `(tactic| repeat' (first
  | exact AN_nil
  | refine AN_cons ?_ (fun _ _ => ?_)
  | refine EN_tup ?_ (Nat.le_trans (m := 100) (Nat.le_of_ble_eq_true rfl) (by decide))
  | refine EN_lst ?_ (Nat.le_trans (m := 100) (Nat.le_of_ble_eq_true rfl) (by decide))
  | exact EN_c (fun _ => by constructor)
  | exact EN_var rfl (fun _ => by constructor)))

local macro_rules | `(tactic| walk_at "s") => `(tactic| (first
  | (with_reducible refine r_sl ?_)
  | (with_reducible refine r_kS1 ?_)
  | (with_reducible refine r_kS2 ?_)
  | (with_reducible refine r_kS3 ?_)
  | (with_reducible refine r_noPart ?_)
  | (with_reducible refine r_part ?_)
  | (with_reducible refine r_kPart ?_)
  | (with_reducible refine r_gsub ?_)
  | (with_reducible refine r_m1 ?_)
  | (with_reducible refine r_kM1 ?_)
  | (with_reducible refine r_propF ?_)
  | (with_reducible refine r_drp ?_)
  | (with_reducible refine r_min2S ?_)
  | (with_reducible refine r_max2S ?_)
  | (with_reducible refine r_enumS ?_)
  | (with_reducible refine r_cEnumS ?_)
  | (with_reducible refine r_makeKS ?_)
  | (with_reducible refine r_makeS ?_)))

local macro_rules | `(tactic| walk_at "s") => `(tactic| (first
  | (with_reducible refine r_mkV ?_)
  | (with_reducible refine r_ofl ?_)
  | (with_reducible refine r_methF ?_)
  | (with_reducible refine r_callF ?_)
  | (with_reducible refine r_star ?_)
  | (with_reducible refine r_smeth ?_)
  | (with_reducible refine r_kSMeth ?_)))

local macro_rules | `(tactic| walk_at "s") => `(tactic| (first
  | (with_reducible refine r_dcT ?_)
  | ((with_reducible refine r_kTurnT ?ht ?_); (case ht => rfl))
  | ((with_reducible refine r_kKeepT1 ?hk ?_); (case hk => rfl))
  | (with_reducible refine r_own ?_)
  | (with_reducible refine r_cmeth ?_)
  | (with_reducible refine r_kCMeth ?_)
  | (with_reducible refine r_makeS1 ?_)
  | ((with_reducible refine r_makeV ?hv ?_); (case hv => rfl))
  | (with_reducible refine r_isBl ?_)
  | (with_reducible refine r_ltS ?_)
  | (with_reducible refine r_makeW ?_)
  | (with_reducible refine r_kMakeW0 ?_)
  | (with_reducible refine r_lr1 ?_)
  | (with_reducible refine r_lc2 ?_)
  | ((with_reducible refine r_kTurn2 ?ht ?_); (case ht => rfl))
  | ((with_reducible refine r_kKeep2 ?hk ?_); (case hk => rfl))))

local macro_rules | `(tactic| walk_at "s") => `(tactic| (first
  | (with_reducible refine r_tTruOwn ?_)
  | (with_reducible refine r_notOwn ?_)
  | (with_reducible refine r_par3 ?_)))

local macro_rules | `(tactic| walk_at "s") => `(tactic| (first
  | (with_reducible refine Rd.r_join ?_)
  | (with_reducible refine r_jCons ?_)
  | (with_reducible refine r_jNil ?_)
  | (with_reducible refine r_fmt ?_)
  | (with_reducible refine r_lsItems ?_)
  | (with_reducible refine r_lsKeys ?_)
  | (with_reducible refine r_iKeys ?_)
  | (with_reducible refine r_revL ?_)))

/-! ### Call(name, i, .., line = j) and the like -/
def spc_Call___init__ (C : Addr) : Sp := fun vs H Q _ => ∃ (a dx p d : Addr) (nm : Str) (ixs : List Int) (nds : List (Str × Int)), vs = [.ref a, .str nm, .ref p, .ref d] ∧ H a = some (.ins C dx []) ∧ H p = some (.tup (ixs.map V.int)) ∧ H d = some (.dK (ndK nds)) ∧ nds.length ≤ 1000 ∧
  ∀ H', Kp [a] H H' → CallAt C H' a nm ixs (srtN nds) → Q .non H'
def spw_Call___init___1 (C : Addr) : List V → Sp := fun zs vs H Q _ => ∃ (a dx : Addr) (nm : Str) (ixs : List Int) (j : Int), zs = [.int j] ∧ vs = .ref a :: .str nm :: ixs.map V.int ∧ H a = some (.ins C dx []) ∧ ixs.length ≤ 1000 ∧ ∀ H', Kp [a] H H' → CallAt C H' a nm ixs [("line", j)] → Q .non H'
theorem okw_Call___init___1 {f : Addr} {fd : FuncData} (F : Fun K "__init__" "Call.__init__" s_Call___init__ f fd) (T : Txt K mg C_Call) :
    FnRW P w K mg base CX0 2 f ["line"] (spw_Call___init___1 C_Call) := by
  obtain ⟨oc, od, kV, doc, pm, an, cdv, ct, osl, rfl, lk, hcd⟩ := F.ex
  refine FnRW.imp (fn_starkwK (ps := ["self", "function_name"]) (pv := "indexes") (pd := "named") (kn := ["line"]) lk hcd sc_Call___init__ cxUp_none (by decide) (by show 1 ≤ sizeLine; decide) (bind_kw2_1 (B := fun us vals => bindArgs (PySem.W.fnOf "__init__" "Call.__init__" (defArgs s_Call___init__) (defBody s_Call___init__) (defScope s_Call___init__) .none kV doc pm an cdv ct) ⟨us, (["line"] : List Str).zip vals⟩) (fun _ _ _ => rfl) (fun _ _ _ _ _ => rfl)) (sp := spc_Call___init__ C_Call) (fun A outer s H vs Q E hr h => ?_)) (fun zs vs H Q E h => ?_)
  · obtain ⟨a, dx, p, d, nm, ixs, nds, rfl, ha, hp, hd, hnl, q⟩ := h
    have hu := hu_of hr
    have hu64 := hr.units
    refine ⟨_, (pss_cons (ps_fld (pv 0) (pv 1) rfl)
        (pss_cons (ps_fld (pv 0) (pv 2) rfl)
        (pss_one (ps_fld (pv 0) (pe_callTy (K_tuple (K := K) rfl) (by rfl) T.z_tuple (by decide +kernel) (pa_cons (pe_callB (cr_sortN rfl hu64) (by rfl) T.z_sorted (by decide +kernel) (pa_cons (K_bm0 (K := K) rfl PySem.F.plainAttrs_dict PySem.F.slot_dict_items PySem.F.type_dict_items mt_itemsK (pv 3)) pa_nil)) pa_nil)) rfl)))), ?_⟩
    have hC := T.c_Call
    have big : 5000 ≤ sizeLine := by decide
    walk_at "S"
    refine r_kSF ha hC T.na_Call_name (by decide : 0 < 1000) fun H1 k1 e1 => ?_
    walk_at "S"
    refine r_kSF e1 hC T.na_Call_indexes (by
      have := length_putF "name" (.str nm) []
      rw [List.length_nil] at this
      omega) fun H2 k2 e2 => ?_
    have pa : p ≠ a := fun z => by
      rw [z, ha] at hp
      cases hp
    have da : d ≠ a := fun z => by
      rw [z, ha] at hd
      cases hd
    have k12 := k1.trans k2
    walk_at "S"
    refine r_kItems (kvs := ndK nds) (k12 _ _ hd (not_one da)) fun v H3 nv k3 ev => ?_
    walk_at "S"
    refine r_sortN (nds := nds) ev (k3 _ _ (k12 _ _ hd (not_one da)) not_nil) fun l H4 xs nl k4 el hx => ?_
    walk_at "S"
    refine r_tupleL (SqL.of el) fun t H5 nt k5 et => ?_
    walk_at "S"
    have k25 := k3.trans (k4.trans k5)
    refine r_kSF (k25 _ _ e2 not_nil) hC T.na_Call_named (by
      have h1 := length_putF "name" (.str nm) []
      have h2 := length_putF "indexes" (.ref p) (putF "name" (.str nm) [])
      rw [List.length_nil] at h1
      omega) fun H6 k6 e6 => ?_
    have ta : t ≠ a := ne_none ((k3.trans k4) _ _ e2 not_nil) nt
    have hx6 : DtAll [] H6 xs ((srtN nds).map ndD) := ((((hx.less (ex' := []) fun _ m => absurd m not_nil).mono k5).skip (k25 _ _ e2 not_nil) (fun _ z => nomatch z) (fun _ z => nomatch z)).mono k6).less fun _ m => absurd m not_nil
    exact q H6 (k12.trans (k25.nil.trans k6)) (callF_at e6 (k6 _ _ (k25 _ _ (k12 _ _ hp (not_one pa)) not_nil) (not_one pa)) (.tup not_nil (k6 _ _ et (not_one ta)) hx6))
  · obtain ⟨a, dx, nm, ixs, j, rfl, rfl, ha, hl, q⟩ := h
    refine ⟨[.ref a, .str nm], ixs.map V.int, rfl, rfl, by rw [List.length_map]; exact Nat.le_trans hl (by decide), rfl, fun p d np nd ne => ⟨a, dx, p, d, nm, ixs, [("line", j)], rfl, ?_, ?_, upd_same, by show 1 ≤ 1000; decide, fun H' k h => ?_⟩⟩
    · exact (Kp.new (ex := []) (by rw [upd_ne ne]; exact nd)) _ _ ((Kp.new (ex := []) np) _ _ ha not_nil) not_nil
    · rw [upd_ne ne.symm]
      exact upd_same
    · exact q H' (((Kp.new np).trans (Kp.new (by rw [upd_ne ne]; exact nd))).trans k) (by
        have e : srtN [(Str.ofString "line", j)] = [(Str.ofString "line", j)] := List.mergeSort_singleton _
        rw [e] at h
        exact h)
def spw_Call___init___3 (C : Addr) : List V → Sp := fun zs vs H Q _ => ∃ (a dx : Addr) (nm : Str) (ixs : List Int) (j1 j2 j3 : Int), zs = [.int j1, .int j2, .int j3] ∧ vs = .ref a :: .str nm :: ixs.map V.int ∧ H a = some (.ins C dx []) ∧ ixs.length ≤ 1000 ∧ ∀ H', Kp [a] H H' → CallAt C H' a nm ixs (srtN [("tag", j1), ("line", j2), ("note", j3)]) → Q .non H'
theorem okw_Call___init___3 {f : Addr} {fd : FuncData} (F : Fun K "__init__" "Call.__init__" s_Call___init__ f fd) (T : Txt K mg C_Call) :
    FnRW P w K mg base CX0 2 f ["tag", "line", "note"] (spw_Call___init___3 C_Call) := by
  obtain ⟨oc, od, kV, doc, pm, an, cdv, ct, osl, rfl, lk, hcd⟩ := F.ex
  refine FnRW.imp (fn_starkwK (ps := ["self", "function_name"]) (pv := "indexes") (pd := "named") (kn := ["tag", "line", "note"]) lk hcd sc_Call___init__ cxUp_none (by decide) (by show 3 ≤ sizeLine; decide) (bind_kw2_3 (B := fun us vals => bindArgs (PySem.W.fnOf "__init__" "Call.__init__" (defArgs s_Call___init__) (defBody s_Call___init__) (defScope s_Call___init__) .none kV doc pm an cdv ct) ⟨us, (["tag", "line", "note"] : List Str).zip vals⟩) (fun _ _ _ _ _ => rfl) (fun _ _ _ _ _ _ _ => rfl)) (sp := spc_Call___init__ C_Call) (fun A outer s H vs Q E hr h => ?_)) (fun zs vs H Q E h => ?_)
  · obtain ⟨a, dx, p, d, nm, ixs, nds, rfl, ha, hp, hd, hnl, q⟩ := h
    have hu := hu_of hr
    have hu64 := hr.units
    refine ⟨_, (pss_cons (ps_fld (pv 0) (pv 1) rfl)
        (pss_cons (ps_fld (pv 0) (pv 2) rfl)
        (pss_one (ps_fld (pv 0) (pe_callTy (K_tuple (K := K) rfl) (by rfl) T.z_tuple (by decide +kernel) (pa_cons (pe_callB (cr_sortN rfl hu64) (by rfl) T.z_sorted (by decide +kernel) (pa_cons (K_bm0 (K := K) rfl PySem.F.plainAttrs_dict PySem.F.slot_dict_items PySem.F.type_dict_items mt_itemsK (pv 3)) pa_nil)) pa_nil)) rfl)))), ?_⟩
    have hC := T.c_Call
    have big : 5000 ≤ sizeLine := by decide
    walk_at "S"
    refine r_kSF ha hC T.na_Call_name (by decide : 0 < 1000) fun H1 k1 e1 => ?_
    walk_at "S"
    refine r_kSF e1 hC T.na_Call_indexes (by
      have := length_putF "name" (.str nm) []
      rw [List.length_nil] at this
      omega) fun H2 k2 e2 => ?_
    have pa : p ≠ a := fun z => by
      rw [z, ha] at hp
      cases hp
    have da : d ≠ a := fun z => by
      rw [z, ha] at hd
      cases hd
    have k12 := k1.trans k2
    walk_at "S"
    refine r_kItems (kvs := ndK nds) (k12 _ _ hd (not_one da)) fun v H3 nv k3 ev => ?_
    walk_at "S"
    refine r_sortN (nds := nds) ev (k3 _ _ (k12 _ _ hd (not_one da)) not_nil) fun l H4 xs nl k4 el hx => ?_
    walk_at "S"
    refine r_tupleL (SqL.of el) fun t H5 nt k5 et => ?_
    walk_at "S"
    have k25 := k3.trans (k4.trans k5)
    refine r_kSF (k25 _ _ e2 not_nil) hC T.na_Call_named (by
      have h1 := length_putF "name" (.str nm) []
      have h2 := length_putF "indexes" (.ref p) (putF "name" (.str nm) [])
      rw [List.length_nil] at h1
      omega) fun H6 k6 e6 => ?_
    have ta : t ≠ a := ne_none ((k3.trans k4) _ _ e2 not_nil) nt
    have hx6 : DtAll [] H6 xs ((srtN nds).map ndD) := ((((hx.less (ex' := []) fun _ m => absurd m not_nil).mono k5).skip (k25 _ _ e2 not_nil) (fun _ z => nomatch z) (fun _ z => nomatch z)).mono k6).less fun _ m => absurd m not_nil
    exact q H6 (k12.trans (k25.nil.trans k6)) (callF_at e6 (k6 _ _ (k25 _ _ (k12 _ _ hp (not_one pa)) not_nil) (not_one pa)) (.tup not_nil (k6 _ _ et (not_one ta)) hx6))
  · obtain ⟨a, dx, nm, ixs, j1, j2, j3, rfl, rfl, ha, hl, q⟩ := h
    refine ⟨[.ref a, .str nm], ixs.map V.int, rfl, rfl, by rw [List.length_map]; exact Nat.le_trans hl (by decide), rfl, fun p d np nd ne => ⟨a, dx, p, d, nm, ixs, [("tag", j1), ("line", j2), ("note", j3)], rfl, ?_, ?_, upd_same, by show 3 ≤ 1000; decide, fun H' k h => ?_⟩⟩
    · exact (Kp.new (ex := []) (by rw [upd_ne ne]; exact nd)) _ _ ((Kp.new (ex := []) np) _ _ ha not_nil) not_nil
    · rw [upd_ne ne.symm]
      exact upd_same
    · exact q H' (((Kp.new np).trans (Kp.new (by rw [upd_ne ne]; exact nd))).trans k) h

def sp__law_plain : Sp := fun vs H Q _ => ∃ (nm : Str) (a b c : Int), vs = [.str nm, .int a, .int b, .int c] ∧ WordOk nm ∧ SmallI a ∧ SmallI b ∧ SmallI c ∧ ∀ H', Kp [] H H' → Q (.bl true) H'
/-- a call made and what is due of it -/
def RowP (C : Addr) (H : Hp) (nm : Str) (u v : V) (e : List Int × List (Str × Int)) : Prop := ∃ c t l d : Addr, u = .ref c ∧ v = .ref t ∧ CallAt C H c nm e.1 (srtN e.2) ∧ H t = some (.tup [.ref l, .ref d]) ∧ H l = some (.lst (e.1.map V.int)) ∧ H d = some (.dK (ndK e.2)) ∧
  e.1.length ≤ 10 ∧ e.2.length ≤ 10 ∧ (∀ i ∈ e.1, SmallI i) ∧ NdOk e.2
theorem RowP.kp {C : Addr} {H H' : Hp} {nm : Str} {u v : V} {e : List Int × List (Str × Int)} (h : RowP C H nm u v e) (k : Kp [] H H') : RowP C H' nm u v e := by
  obtain ⟨c, t, l, d, h1, h2, h3, h4, h5, h6, h7⟩ := h
  exact ⟨c, t, l, d, h1, h2, h3.kp k, k _ _ h4 not_nil, k _ _ h5 not_nil, k _ _ h6 not_nil, h7⟩
theorem w_line : WordOk "line" := by unfold WordOk; decide +kernel
theorem w_tag : WordOk "tag" := by unfold WordOk; decide +kernel
theorem w_note : WordOk "note" := by unfold WordOk; decide +kernel
theorem three_nd (i j k : Int) : ((([("line", i), ("tag", j), ("note", k)] : List (Str × Int)).map Prod.fst)).Nodup := by
  show ([("line" : Str), "tag", "note"] : List Str).Nodup
  decide +kernel
abbrev s__law_plain : Stmt := top 12
theorem sc__law_plain : FnScope ["_law_name", "_law_a", "_law_b", "_law_c", "_law_made", "_law_due", "_law_call", "_law_parts"] ["_law_name", "_law_a", "_law_b", "_law_c"] (defScope s__law_plain) :=
  ⟨rfl, rfl, rfl, by decide +kernel, rfl, by decide +kernel, by decide +kernel⟩
theorem ok__law_plain {f : Addr} {fd : FuncData} (F : Fun K "_law_plain" "_law_plain" s__law_plain f fd) (T : Txt K mg C_Call) (U_Call___init__ : UseC P w K mg base 2 "Call" C_Call (sp_Call___init__ C_Call)) (U_Call_of : UseSM P w K mg base 4 C_Call "of" (sp_Call_of C_Call)) (U_Call___eq__ : UseMF P w K mg base 2 (FamS [C_Call]) "__eq__" (sp_Call___eq__ K C_Call)) (U__law_is : UseGd P w K mg base 6 "_law_is" ["_law_call", "_law_name", "_law_indexes", "_law_named"] (sp__law_is C_Call)) (W_Call___init___1 : UseCW P w K mg base 2 "Call" C_Call ["line"] (spw_Call___init___1 C_Call)) (W_Call___init___3 : UseCW P w K mg base 2 "Call" C_Call ["tag", "line", "note"] (spw_Call___init___3 C_Call)) :
    FnG P w K mg base CX0 9 f fd ["_law_name", "_law_a", "_law_b", "_law_c"] (sp__law_plain) := by
  refine Rd.Fun.okG F sc__law_plain (fun vs H Q E h => ?_) (fun cdv A outer s H vs Q E bare hr h => ?_)
  · obtain ⟨nm, a, b, c, rfl, _⟩ := h
    rfl
  · obtain ⟨nm, a, b, c, rfl, hw, ha, hb, hc, q⟩ := h
    obtain ⟨wf_Call___init___1, WR_Call___init___1, WM_Call___init___1, Wg_Call___init___1⟩ := W_Call___init___1
    obtain ⟨wf_Call___init___3, WR_Call___init___3, WM_Call___init___3, Wg_Call___init___3⟩ := W_Call___init___3
    obtain ⟨f_Call___init__, R_Call___init__, M_Call___init__, g_Call___init__⟩ := U_Call___init__
    obtain ⟨mc_Call_of, p_Call_of, g_Call_of, R_Call_of, Q_Call_of, S_Call_of⟩ := U_Call_of
    obtain ⟨f_Call___eq__, R_Call___eq__, M_Call___eq__⟩ := U_Call___eq__
    have hu := hu_of hr
    have hu64 := hr.units
    refine ⟨_, (pss_cons (ps_set (i := 4) sc__law_plain.nd rfl (by first | exact Or.inl rfl | exact Or.inr rfl) (pe_lst (pa_cons (pe_makeR M_Call___init__ R_Call___init__ (hr.mono (by first | decide | omega)) (by rfl) g_Call___init__ pass0 (pa_cons (pv 0) pa_nil)) (pa_cons (pe_makeR M_Call___init__ R_Call___init__ (hr.mono (by first | decide | omega)) (by rfl) g_Call___init__ pass0 (pa_cons (pv 0) (pa_cons (pv 1) pa_nil))) (pa_cons (pe_makeR M_Call___init__ R_Call___init__ (hr.mono (by first | decide | omega)) (by rfl) g_Call___init__ pass0 (pa_cons (pv 0) (pa_cons (pv 1) (pa_cons (pv 2) (pa_cons (pv 3) pa_nil))))) (pa_cons (pe_makeW WM_Call___init___1 WR_Call___init___1 (hr.mono (by first | decide | omega)) (by rfl) Wg_Call___init___1 pass0 (pa_cons (pv 0) (pa_cons (pv 2) pa_nil)) (pk_cons (pv 3) pk_nil)) (pa_cons (pe_makeW WM_Call___init___3 WR_Call___init___3 (hr.mono (by first | decide | omega)) (by rfl) Wg_Call___init___3 pass0 (pa_cons (pv 0) pa_nil) (pk_cons (pv 2) (pk_cons (pv 1) (pk_cons (pv 3) pk_nil)))) pa_nil)))))))
        (pss_cons (ps_set (i := 5) sc__law_plain.nd rfl (by first | exact Or.inl rfl | exact Or.inr rfl) (pe_lst (pa_cons (pe_tup (pa_cons (pe_lst pa_nil) (pa_cons pe_dnewK pa_nil))) (pa_cons (pe_tup (pa_cons (pe_lst (pa_cons (pv 1) pa_nil)) (pa_cons pe_dnewK pa_nil))) (pa_cons (pe_tup (pa_cons (pe_lst (pa_cons (pv 1) (pa_cons (pv 2) (pa_cons (pv 3) pa_nil)))) (pa_cons pe_dnewK pa_nil))) (pa_cons (pe_tup (pa_cons (pe_lst (pa_cons (pv 2) pa_nil)) (pa_cons (pe_disp (pps_cons pe_str (pv 3) pps_nil) (by rfl) (by rfl) (fun z => by cases z) (by decide)) pa_nil))) (pa_cons (pe_tup (pa_cons (pe_lst pa_nil) (pa_cons (pe_disp (pps_cons pe_str (pv 1) (pps_cons pe_str (pv 2) (pps_cons pe_str (pv 3) pps_nil))) (by rfl) (by rfl) (fun z => by cases z) (by decide)) pa_nil))) pa_nil)))))))
        (pss_cons (ps_for PassesOwn.never (by rfl) (K_zip (K := K) rfl (by rfl) T.z_zip (pa_cons (pv 4) (pa_cons (pv 5) pa_nil))) (K_gtup (K := K) (n := 2) rfl (by rfl) (pgs_cons (pg_name (i := 6) sc__law_plain.nd rfl (by first | exact Or.inl rfl | exact Or.inr rfl)) (pgs_cons (pg_name (i := 7) sc__law_plain.nd rfl (by first | exact Or.inl rfl | exact Or.inr rfl)) pgs_nil)))
          (pss_one (ps_if (pt_cutT (PW.pt (pw_or (pt_not (pt_val (pe_useGd U__law_is bare (hr.mono (by first | decide | omega)) (by rfl) (pa_cons (pv 6) (pa_cons (pv 0) (pa_cons (pe_ix (K_ixT (K := K) rfl) (pv 7) pe_int (fun _ _ => rfl)) (pa_cons (pe_ix (K_ixT (K := K) rfl) (pv 7) pe_int (fun _ _ => rfl)) pa_nil))))))) (pw_or1 (pt_not (pt_cmpR (K_eqFam (K := K) (S := (FamS [C_Call])) rfl M_Call___eq__ R_Call___eq__ (hr.mono (by first | decide | omega))) (pv 6) (pe_smeth (pe_globE T.v_Call (by rfl)) Q_Call_of S_Call_of R_Call_of (hr.mono (by first | decide | omega)) (fun σ => passAtL σ) (pa_cons (pv 0) (pa_cons (pe_ix (K_ixT (K := K) rfl) (pv 7) pe_int (fun _ _ => rfl)) (pa_cons (pe_ix (K_ixT (K := K) rfl) (pv 7) pe_int (fun _ _ => rfl)) pa_nil)))) (nomark _)))))))
            (pss_one (ps_ret pe_bl))
            pss_nil)))
        (pss_one (ps_ret pe_bl))))), ?_⟩
    have big : 1000000 ≤ sizeLine := by decide
    have hC := T.c_Call
    have hM : FamS [C_Call] C_Call := .hd
    walk_at "S"
    refine r_kMake fun c1 dx1 X1 nx1 kx1 ex1 => ⟨c1, dx1, nm, ([] : List Int), rfl, ex1, by show 0 ≤ 1000; decide, fun H1 ky1 hc1 => r_kMade ?_⟩
    have k1 : Kp [] H H1 := (kx1.nil.trans ky1).drop nx1
    walk_at "S"
    refine r_kMake fun c2 dx2 X2 nx2 kx2 ex2 => ⟨c2, dx2, nm, [a], rfl, ex2, by show 1 ≤ 1000; decide, fun H2 ky2 hc2 => r_kMade ?_⟩
    have k2 : Kp [] H1 H2 := (kx2.nil.trans ky2).drop nx2
    walk_at "S"
    refine r_kMake fun c3 dx3 X3 nx3 kx3 ex3 => ⟨c3, dx3, nm, [a, b, c], rfl, ex3, by show 3 ≤ 1000; decide, fun H3 ky3 hc3 => r_kMade ?_⟩
    have k3 : Kp [] H2 H3 := (kx3.nil.trans ky3).drop nx3
    walk_at "S"
    refine r_kMakeW fun c4 dx4 X4 nx4 kx4 ex4 => ⟨c4, dx4, nm, [b], c, rfl, rfl, ex4, by show 1 ≤ 1000; decide, fun H4 ky4 hc4 => r_kMade ?_⟩
    have k4 : Kp [] H3 H4 := (kx4.nil.trans ky4).drop nx4
    walk_at "S"
    refine r_kMakeW fun c5 dx5 X5 nx5 kx5 ex5 => ⟨c5, dx5, nm, [], b, a, c, rfl, rfl, ex5, by show 0 ≤ 1000; decide, fun H5 ky5 hc5 => r_kMade ?_⟩
    have k5 : Kp [] H4 H5 := (kx5.nil.trans ky5).drop nx5
    walk_at "S"
    refine r_kLst (xs := [V.ref c1, V.ref c2, V.ref c3, V.ref c4, V.ref c5]) (by show 5 ≤ sizeLine; omega) fun M H6 nM k6 eM => ?_
    walk_at "S"
    refine r_kLst (xs := []) (by show 0 ≤ sizeLine; omega) fun l1 H7 nl1 k7 el1 => ?_
    walk_at "S"
    refine r_dnewK fun d1 H8 nd1 k8 ed1 => ?_
    walk_at "S"
    refine r_kTup (xs := [V.ref l1, V.ref d1]) (by show 2 ≤ sizeLine; omega) fun t1 H9 nt1 k9 et1 => ?_
    walk_at "S"
    refine r_kLst (xs := [V.int a]) (by show 1 ≤ sizeLine; omega) fun l2 H10 nl2 k10 el2 => ?_
    walk_at "S"
    refine r_dnewK fun d2 H11 nd2 k11 ed2 => ?_
    walk_at "S"
    refine r_kTup (xs := [V.ref l2, V.ref d2]) (by show 2 ≤ sizeLine; omega) fun t2 H12 nt2 k12 et2 => ?_
    walk_at "S"
    refine r_kLst (xs := [V.int a, V.int b, V.int c]) (by show 3 ≤ sizeLine; omega) fun l3 H13 nl3 k13 el3 => ?_
    walk_at "S"
    refine r_dnewK fun d3 H14 nd3 k14 ed3 => ?_
    walk_at "S"
    refine r_kTup (xs := [V.ref l3, V.ref d3]) (by show 2 ≤ sizeLine; omega) fun t3 H15 nt3 k15 et3 => ?_
    walk_at "S"
    refine r_kLst (xs := [V.int b]) (by show 1 ≤ sizeLine; omega) fun l4 H16 nl4 k16 el4 => ?_
    walk_at "S"
    refine r_disp fun d4 Y4 nd4 ka4 ea4 => ?_
    walk_at "S"
    refine r_kDisp (kvs := ndK [("line", c)]) ea4 (by show 1 ≤ 15; decide) fun H17 kb4 ed4 => ?_
    rw [merge_nds (by first | exact three_nd _ _ _ | (show ([("line" : Str)] : List Str).Nodup; decide +kernel))] at ed4
    have k17 : Kp [] H16 H17 := (ka4.nil.trans kb4).drop nd4
    walk_at "S"
    refine r_kTup (xs := [V.ref l4, V.ref d4]) (by show 2 ≤ sizeLine; omega) fun t4 H18 nt4 k18 et4 => ?_
    walk_at "S"
    refine r_kLst (xs := []) (by show 0 ≤ sizeLine; omega) fun l5 H19 nl5 k19 el5 => ?_
    walk_at "S"
    refine r_disp fun d5 Y5 nd5 ka5 ea5 => ?_
    walk_at "S"
    refine r_kDisp (kvs := ndK [("line", a), ("tag", b), ("note", c)]) ea5 (by show 3 ≤ 15; decide) fun H20 kb5 ed5 => ?_
    rw [merge_nds (by first | exact three_nd _ _ _ | (show ([("line" : Str)] : List Str).Nodup; decide +kernel))] at ed5
    have k20 : Kp [] H19 H20 := (ka5.nil.trans kb5).drop nd5
    walk_at "S"
    refine r_kTup (xs := [V.ref l5, V.ref d5]) (by show 2 ≤ sizeLine; omega) fun t5 H21 nt5 k21 et5 => ?_
    walk_at "S"
    refine r_kLst (xs := [V.ref t1, V.ref t2, V.ref t3, V.ref t4, V.ref t5]) (by show 5 ≤ sizeLine; omega) fun N H22 nN k22 eN => ?_
    walk_at "S"
    have kk22 : Kp [] H22 H22 := Kp.refl _ _
    have kk21 : Kp [] H21 H22 := k22.trans kk22
    have kk20 : Kp [] H20 H22 := k21.trans kk21
    have kk19 : Kp [] H19 H22 := k20.trans kk20
    have kk18 : Kp [] H18 H22 := k19.trans kk19
    have kk17 : Kp [] H17 H22 := k18.trans kk18
    have kk16 : Kp [] H16 H22 := k17.trans kk17
    have kk15 : Kp [] H15 H22 := k16.trans kk16
    have kk14 : Kp [] H14 H22 := k15.trans kk15
    have kk13 : Kp [] H13 H22 := k14.trans kk14
    have kk12 : Kp [] H12 H22 := k13.trans kk13
    have kk11 : Kp [] H11 H22 := k12.trans kk12
    have kk10 : Kp [] H10 H22 := k11.trans kk11
    have kk9 : Kp [] H9 H22 := k10.trans kk10
    have kk8 : Kp [] H8 H22 := k9.trans kk9
    have kk7 : Kp [] H7 H22 := k8.trans kk8
    have kk6 : Kp [] H6 H22 := k7.trans kk7
    have kk5 : Kp [] H5 H22 := k6.trans kk6
    have kk4 : Kp [] H4 H22 := k5.trans kk5
    have kk3 : Kp [] H3 H22 := k4.trans kk4
    have kk2 : Kp [] H2 H22 := k3.trans kk3
    have kk1 : Kp [] H1 H22 := k2.trans kk2
    have kk0 : Kp [] H H22 := k1.trans kk1
    have eM' := kk6 _ _ eM not_nil
    have rows : ∀ (i : Nat) (u v : V), [V.ref c1, V.ref c2, V.ref c3, V.ref c4, V.ref c5][i]? = some u → [V.ref t1, V.ref t2, V.ref t3, V.ref t4, V.ref t5][i]? = some v → ∃ e, RowP C_Call H22 nm u v e := by
      intro i u v hu hv
      match i with
      | 0 =>
        cases hu
        cases hv
        exact ⟨(([] : List Int), []), c1, t1, l1, d1, rfl, rfl, by rw [srtN_nil]; exact hc1.kp kk1, kk9 _ _ et1 not_nil, kk7 _ _ el1 not_nil, kk8 _ _ ed1 not_nil, by show 0 ≤ 10; decide, by show 0 ≤ 10; decide, (fun i m => nomatch m), (fun q m => nomatch m)⟩
      | 1 =>
        cases hu
        cases hv
        exact ⟨([a], []), c2, t2, l2, d2, rfl, rfl, by rw [srtN_nil]; exact hc2.kp kk2, kk12 _ _ et2 not_nil, kk10 _ _ el2 not_nil, kk11 _ _ ed2 not_nil, by show 1 ≤ 10; decide, by show 0 ≤ 10; decide, (fun i m => by rw [List.mem_singleton.mp m]; exact ha), (fun q m => nomatch m)⟩
      | 2 =>
        cases hu
        cases hv
        exact ⟨([a, b, c], []), c3, t3, l3, d3, rfl, rfl, by rw [srtN_nil]; exact hc3.kp kk3, kk15 _ _ et3 not_nil, kk13 _ _ el3 not_nil, kk14 _ _ ed3 not_nil, by show 3 ≤ 10; decide, by show 0 ≤ 10; decide, (fun i m => by simp only [List.mem_cons, List.not_mem_nil, or_false] at m; rcases m with rfl | rfl | rfl <;> assumption), (fun q m => nomatch m)⟩
      | 3 =>
        cases hu
        cases hv
        exact ⟨([b], [("line", c)]), c4, t4, l4, d4, rfl, rfl, by rw [show srtN [(("line" : Str), c)] = [(("line" : Str), c)] from List.mergeSort_singleton _]; exact hc4.kp kk4, kk18 _ _ et4 not_nil, kk16 _ _ el4 not_nil, kk17 _ _ ed4 not_nil, by show 1 ≤ 10; decide, by show 1 ≤ 10; decide, (fun i m => by rw [List.mem_singleton.mp m]; exact hb), (fun q m => by rw [List.mem_singleton.mp m]; exact ⟨w_line, hc⟩)⟩
      | 4 =>
        cases hu
        cases hv
        exact ⟨(([] : List Int), [("line", a), ("tag", b), ("note", c)]), c5, t5, l5, d5, rfl, rfl, by rw [srtN_eq (three_nd a b c) (List.Perm.swap (("tag" : Str), b) (("line" : Str), a) [(("note" : Str), c)])]; exact hc5.kp kk5, kk21 _ _ et5 not_nil, kk19 _ _ el5 not_nil, kk20 _ _ ed5 not_nil, by show 0 ≤ 10; decide, by show 3 ≤ 10; decide, (fun i m => nomatch m), (fun q m => by simp only [List.mem_cons, List.not_mem_nil, or_false] at m; rcases m with rfl | rfl | rfl <;> first | exact ⟨w_line, ha⟩ | exact ⟨w_tag, hb⟩ | exact ⟨w_note, hc⟩)⟩
      | n + 5 => cases hu
    refine r_cZip (SqL.of eM') (SqL.of eN) ?_
    refine r_kFor (walk_zip (xs := [V.ref c1, V.ref c2, V.ref c3, V.ref c4, V.ref c5]) (ys := [V.ref t1, V.ref t2, V.ref t3, V.ref t4, V.ref t5]) (n := 5) rfl) (fun i σ' H' => ∃ v6 v7 : Option V, σ' = [some (.str nm), some (.int a), some (.int b), some (.int c), some (.ref M), some (.ref N), v6, v7] ∧ Kp [] H22 H') ⟨_, _, rfl, Kp.refl _ _⟩ (fun i σ' H' _ h => ?_) ?_ ?_
    · obtain ⟨_, _, _, k⟩ := h
      exact ⟨SqL.of (k _ _ eM' not_nil), SqL.of (k _ _ eN not_nil)⟩
    · rintro i x σ' G0 G1 hi ⟨v6, v7, rfl, g0⟩ ⟨t, u, v, rfl, nt, rfl, hu', hv'⟩
      obtain ⟨e, hrow⟩ := rows i u v hu' hv'
      have g1 : Kp [] G0 (upd G0 t (.tup [u, v])) := Kp.new nt
      have et : upd G0 t (.tup [u, v]) t = some (.tup [u, v]) := upd_same
      generalize upd G0 t (.tup [u, v]) = G1 at g1 et
      obtain ⟨cc, tt, ll, dd, rfl, rfl, hcc, htt, hll, hdd, le1, le2, sm, nok⟩ := hrow.kp (g0.trans g1)
      refine r_gtup (SqT.of et) rfl ?_
      walk_at "S"
      refine r_cutT (fun b H' => b = false ∧ Kp [] G1 H') ?_ ?_
      · walk_at "S"
        refine r_ixT (SqT.of htt) (atI_nat (j := 0) rfl) ?_
        walk_at "S"
        refine r_ixT (SqT.of htt) (atI_nat (j := 1) rfl) ?_
        walk_at "S"
        refine ⟨cc, ll, dd, nm, e.1, e.2, rfl, hcc, hll, hdd, hw, by omega, by omega, sm, nok, fun G2 g2 => ?_⟩
        walk_at "S"
        refine r_kOr0 rfl ?_
        walk_at "S"
        refine r_ixT (SqT.of (g2 _ _ htt not_nil)) (atI_nat (j := 0) rfl) ?_
        walk_at "S"
        refine r_ixT (SqT.of (g2 _ _ htt not_nil)) (atI_nat (j := 1) rfl) ?_
        walk_at "S"
        refine ⟨ll, dd, nm, e.1, e.2, rfl, .inl (g2 _ _ hll not_nil), g2 _ _ hdd not_nil, by omega, fun c9 G3 g3 n9 hc9 => ?_⟩
        walk_at "S"
        have hA := hcc.kp (g2.trans g3)
        have okn : ∀ q ∈ srtN e.2, PyData.strOk q.1 = true := fun q m => (nok q (srtN_mem.mp m)).1.ok
        obtain ⟨dx, p1, q1, fs, ea, _⟩ := id hA
        obtain ⟨dx', p1', q1', fs', ea', _⟩ := id hc9
        refine r_eqFam ea .hd (.base (.ins ea' hC (T.cl_Call _ hM) T.gt_Call T.tk_Call (T.ob_Call _ hM))) nf_self ⟨cc, nm, e.1, srtN e.2, .ref c9, rfl, hA, okn, .inl ⟨c9, nm, e.1, srtN e.2, rfl, hc9, okn, ?_⟩⟩
        rw [decide_eq_true (⟨rfl, rfl, rfl⟩ : nm = nm ∧ e.1 = e.1 ∧ srtN e.2 = srtN e.2)]
        refine ⟨_, rfl, ?_⟩
        walk_at "S"
        exact ⟨rfl, g2.trans g3⟩
      rintro b0 G2 ⟨rfl, g2⟩
      refine r_kIfS0 rfl ?_
      walk_at "S"
      exact ⟨_, _, rfl, (g0.trans g1).trans g2⟩
    · rintro σ' G0 ⟨v6, v7, rfl, g0⟩
      walk_at "S"
      exact q G0 (kk0.trans g0)

end
section
variable {P : Program} {w : World} {K : PySem.W.Frag} {mg : Str → Option Value} {base : Heap}
variable {C_Call : Addr}
local macro_rules | `(tactic| walk_at "s") => `(tactic| (first
  | (with_reducible refine r_seq ?_)
  | (with_reducible refine r_asg ?_)
  | ((with_reducible refine' r_var (v := ?v) ?hv ?_); (case hv => exact rfl))
  | (with_reducible refine r_c ?_)
  | (with_reducible refine r_name ?_)
  | (with_reducible refine r_op ?_)
  | (with_reducible refine r_un ?_)
  | (with_reducible refine r_consA ?_)
  | (with_reducible refine r_nilA ?_)
  | (with_reducible refine r_I0 ?_)
  | (with_reducible refine r_U ?_)
  | (with_reducible refine r_eqI ?_)
  | (with_reducible refine r_neI ?_)
  | (with_reducible refine r_test ?_)
  | (with_reducible refine r_tB ?_)
  | (with_reducible refine r_kB ?_)
  | (with_reducible refine r_ifS ?_)
  | (with_reducible refine r_if ?_)
  | (with_reducible refine r_and ?_)
  | (with_reducible refine r_or ?_)
  | (with_reducible refine r_not ?_)
  | (with_reducible refine r_ret ?_)
  | (with_reducible refine r_retN ?_)
  | (with_reducible refine r_next ?_)
  | (with_reducible refine r_drop ?_)
  | (with_reducible refine r_brk ?_)
  | (with_reducible refine r_cont ?_)
  | (with_reducible refine r_andV ?_)
  | (with_reducible refine r_orV ?_)
  | (with_reducible refine r_notV ?_)
  | (with_reducible refine r_kNotV ?_)
  | (with_reducible refine r_lst ?_)
  | (with_reducible refine r_tup ?_)
  | (with_reducible refine r_dget ?_)
  | (with_reducible refine r_dput ?_)
  | (with_reducible refine r_use ?_)
  | (with_reducible refine r_cb ?_)
  | (with_reducible refine r_par ?_)
  | (with_reducible refine r_int ?_)
  | (with_reducible refine r_abs ?_)
  | (with_reducible refine r_max2 ?_)
  | (with_reducible refine r_min2 ?_)
  | (with_reducible refine r_pnil ?_)
  | (with_reducible refine r_pcons ?_)
  | (with_reducible refine r_eqS ?_)
  | (with_reducible refine r_neS ?_)
  | (with_reducible refine r_for ?_)
  | (with_reducible refine r_rng1 ?_)
  | (with_reducible refine r_rng2 ?_)
  | (with_reducible refine r_wl ?_)
  | (with_reducible refine r_wt ?_)
  | (with_reducible refine r_wq ?_)
  | (with_reducible refine r_ws ?_)
  | (with_reducible refine r_cWS ?_)
  | (with_reducible refine r_enum ?_)
  | (with_reducible refine r_zip ?_)
  | (with_reducible refine r_lc ?_)
  | (with_reducible refine r_dc ?_)
  | ((with_reducible refine r_kTurn ?ht ?_); (case ht => rfl))
  | ((with_reducible refine r_kTurnD ?ht ?_); (case ht => rfl))
  | (with_reducible refine r_yes ?_)
  | ((with_reducible refine r_kKeep1 ?hk ?_); (case hk => rfl))
  | ((with_reducible refine r_kKeepD1 ?hk ?_); (case hk => rfl))
  | (with_reducible refine r_gcons ?_)
  | (with_reducible refine r_gnil ?_)
  | (with_reducible refine r_bm ?_)
  | (with_reducible refine r_bm0 ?_)
  | (with_reducible refine r_fld ?_)
  | (with_reducible refine r_sfld ?_)
  | (with_reducible refine r_methR ?_)
  | (with_reducible refine r_makeR ?_)
  | (with_reducible refine r_chain ?_)))
local macro_rules | `(tactic| walk_at "S") => `(tactic| repeat walk_at "s")
local macro_rules | `(tactic| walk_at "D") => `(tactic| repeat' (first
  | exact AD_nil
  | refine AD_cons ?_ (fun _ _ => ?_)
  | refine ED_tup ?_ (Nat.le_trans (m := 100) (Nat.le_of_ble_eq_true rfl) (by decide))
  | refine ED_lst ?_ (Nat.le_trans (m := 100) (Nat.le_of_ble_eq_true rfl) (by decide))
  | exact ED_c (by constructor)
  | exact ED_var rfl (by constructor)))
local macro_rules | `(tactic| walk_at "N") => `(tactic| repeat' (first
  | exact AN_nil
  | refine AN_cons ?_ (fun _ _ => ?_)
  | refine EN_tup ?_ (Nat.le_trans (m := 100) (Nat.le_of_ble_eq_true rfl) (by decide))
  | refine EN_lst ?_ (Nat.le_trans (m := 100) (Nat.le_of_ble_eq_true rfl) (by decide))
  | exact EN_c (fun _ => by constructor)
  | exact EN_var rfl (fun _ => by constructor)))

local macro_rules | `(tactic| walk_at "s") => `(tactic| (first
  | (with_reducible refine r_sl ?_)
  | (with_reducible refine r_kS1 ?_)
  | (with_reducible refine r_kS2 ?_)
  | (with_reducible refine r_kS3 ?_)
  | (with_reducible refine r_noPart ?_)
  | (with_reducible refine r_part ?_)
  | (with_reducible refine r_kPart ?_)
  | (with_reducible refine r_gsub ?_)
  | (with_reducible refine r_m1 ?_)
  | (with_reducible refine r_kM1 ?_)
  | (with_reducible refine r_propF ?_)
  | (with_reducible refine r_drp ?_)
  | (with_reducible refine r_min2S ?_)
  | (with_reducible refine r_max2S ?_)
  | (with_reducible refine r_enumS ?_)
  | (with_reducible refine r_cEnumS ?_)
  | (with_reducible refine r_makeKS ?_)
  | (with_reducible refine r_makeS ?_)))

local macro_rules | `(tactic| walk_at "s") => `(tactic| (first
  | (with_reducible refine r_mkV ?_)
  | (with_reducible refine r_ofl ?_)
  | (with_reducible refine r_methF ?_)
  | (with_reducible refine r_callF ?_)
  | (with_reducible refine r_star ?_)
  | (with_reducible refine r_smeth ?_)
  | (with_reducible refine r_kSMeth ?_)))

local macro_rules | `(tactic| walk_at "s") => `(tactic| (first
  | (with_reducible refine r_dcT ?_)
  | ((with_reducible refine r_kTurnT ?ht ?_); (case ht => rfl))
  | ((with_reducible refine r_kKeepT1 ?hk ?_); (case hk => rfl))
  | (with_reducible refine r_own ?_)
  | (with_reducible refine r_cmeth ?_)
  | (with_reducible refine r_kCMeth ?_)
  | (with_reducible refine r_makeS1 ?_)
  | ((with_reducible refine r_makeV ?hv ?_); (case hv => rfl))
  | (with_reducible refine r_isBl ?_)
  | (with_reducible refine r_ltS ?_)
  | (with_reducible refine r_makeW ?_)
  | (with_reducible refine r_kMakeW0 ?_)
  | (with_reducible refine r_lr1 ?_)
  | (with_reducible refine r_lc2 ?_)
  | ((with_reducible refine r_kTurn2 ?ht ?_); (case ht => rfl))
  | ((with_reducible refine r_kKeep2 ?hk ?_); (case hk => rfl))))

local macro_rules | `(tactic| walk_at "s") => `(tactic| (first
  | (with_reducible refine r_tTruOwn ?_)
  | (with_reducible refine r_notOwn ?_)
  | (with_reducible refine r_par3 ?_)))

local macro_rules | `(tactic| walk_at "s") => `(tactic| (first
  | (with_reducible refine Rd.r_join ?_)
  | (with_reducible refine r_jCons ?_)
  | (with_reducible refine r_jNil ?_)
  | (with_reducible refine r_fmt ?_)
  | (with_reducible refine r_lsItems ?_)
  | (with_reducible refine r_lsKeys ?_)
  | (with_reducible refine r_iKeys ?_)
  | (with_reducible refine r_revL ?_)))

theorem CallAt.but {C : Addr} {H H' : Hp} {a L : Addr} {nm : Str} {ixs : List Int} {nds : List (Str × Int)} {o : HO} (h : CallAt C H a nm ixs nds) (e : H L = some o) (no : ∀ ys, o ≠ .tup ys) (ni : ∀ x y z, o ≠ .ins x y z) (k : Kp [L] H H') : CallAt C H' a nm ixs nds := by
  obtain ⟨dx, p, q, fs, ea, hl, h1, h2, h3, h4, ep, d⟩ := h
  have na : a ≠ L := fun z => by rw [z, e] at ea; exact ni _ _ _ (Option.some.inj ea)
  have np : p ≠ L := fun z => by rw [z, e] at ep; exact no _ (Option.some.inj ep)
  obtain ⟨q', ys, eq, _, eq', al⟩ := d.tuple
  cases eq
  have nq : q ≠ L := fun z => by rw [z, e] at eq'; exact no _ (Option.some.inj eq')
  exact ⟨dx, p, q, fs, k _ _ ea (not_one na), hl, h1, h2, h3, h4, k _ _ ep (not_one np), .tup not_nil (k _ _ eq' (not_one nq)) (((nds_but e no al).mono k).less fun _ m => nomatch m)⟩
def sp__law_right : Sp := fun vs H Q _ => ∃ (p : Addr) (n : Nat), vs = [.ref p] ∧ BagD H p (n + 200) ∧ ∀ H', Kp [p] H H' → BagD H' p n → Q (.bl true) H'
abbrev s__law_right : Stmt := top 11
theorem sc__law_right : FnScope ["_law_draws_here", "_law_turn", "_law_name", "_law_indexes", "_law_words", "_law_word_here", "_law_named", "_law_turned", "_law_handed", "_law_given", "_law_call", "_law_twin", "_law_other", "_law_thing"] ["_law_draws_here"] (defScope s__law_right) :=
  ⟨rfl, rfl, rfl, by decide +kernel, rfl, by decide +kernel, by decide +kernel⟩
theorem ok__law_right {f : Addr} {fd : FuncData} (F : Fun K "_law_right" "_law_right" s__law_right f fd) (T : Txt K mg C_Call) (U_Call_of : UseSM P w K mg base 4 C_Call "of" (sp_Call_of C_Call)) (U_Call___eq__ : UseMF P w K mg base 2 (FamS [C_Call]) "__eq__" (sp_Call___eq__ K C_Call)) (U_Call___str__ : UseMF P w K mg base 2 (FamS [C_Call]) "__str__" (sp_Call___str__ C_Call)) (U__law_pick : Use P w K mg base 2 "_law_pick" ["_law_draws_here", "_law_many"] (sp__law_pick)) (U__law_word : Use P w K mg base 6 "_law_word" ["_law_draws_here"] (sp__law_word)) (U__law_names : Use P w K mg base 8 "_law_names" ["_law_draws_here", "_law_many"] (sp__law_names)) (U__law_is : UseGd P w K mg base 6 "_law_is" ["_law_call", "_law_name", "_law_indexes", "_law_named"] (sp__law_is C_Call)) (U__law_others : Use P w K mg base 6 "_law_others" ["_law_draws_here", "_law_name", "_law_indexes", "_law_named"] (sp__law_others C_Call)) :
    FnG P w K mg base CX0 9 f fd ["_law_draws_here"] (sp__law_right) := by
  refine Rd.Fun.okG F sc__law_right (fun vs H Q E h => ?_) (fun cdv A outer s H vs Q E bare hr h => ?_)
  · obtain ⟨p, n, rfl, _⟩ := h
    rfl
  · obtain ⟨p, n, rfl, hb, q⟩ := h
    obtain ⟨mc_Call_of, p_Call_of, g_Call_of, R_Call_of, Q_Call_of, S_Call_of⟩ := U_Call_of
    obtain ⟨f_Call___eq__, R_Call___eq__, M_Call___eq__⟩ := U_Call___eq__
    obtain ⟨f_Call___str__, R_Call___str__, M_Call___str__⟩ := U_Call___str__
    have hu := hu_of hr
    have hu64 := hr.units
    refine ⟨_, (pss_cons (ps_par (i := 2) (j := 3) (by rfl) sc__law_right.nd rfl rfl (by decide) rfl rfl (pa_cons (pe_use U__law_word (hr.mono (by first | decide | omega)) (by rfl) (pa_cons (pv 0) pa_nil)) (pa_cons (pe_lc (own := [("_law_turn", 1)]) (by rfl) sc__law_right.nd (pi_range1 (by rfl) T.z_range (pa_cons (pe_use U__law_pick (hr.mono (by first | decide | omega)) (by rfl) (pa_cons (pv 0) (pa_cons pe_int pa_nil))) pa_nil)) (blkOk_by (own := [("_law_turn", 1)]) (N := ["_law_draws_here", "_law_turn", "_law_name", "_law_indexes", "_law_words", "_law_word_here", "_law_named", "_law_turned", "_law_handed", "_law_given", "_law_call", "_law_twin", "_law_other", "_law_thing"]) (sc := defScope s__law_right) (by decide +kernel)) (fun _ _ _ _ _ => (pg_name (i := 1) sc__law_right.nd rfl (by first | exact Or.inl rfl | exact Or.inr rfl))) (fun _ _ _ _ _ => pts_nil) (fun _ _ _ _ _ => (pe_use U__law_pick (hr.mono (by first | decide | omega)) (by rfl) (pa_cons (pv 0) (pa_cons pe_int pa_nil))))) pa_nil)) (by rfl))
        (pss_cons (ps_set (i := 4) sc__law_right.nd rfl (by first | exact Or.inl rfl | exact Or.inr rfl) (pe_use U__law_names (hr.mono (by first | decide | omega)) (by rfl) (pa_cons (pv 0) (pa_cons (pe_use U__law_pick (hr.mono (by first | decide | omega)) (by rfl) (pa_cons (pv 0) (pa_cons pe_int pa_nil))) pa_nil))))
        (pss_cons (ps_set (i := 6) sc__law_right.nd rfl (by first | exact Or.inl rfl | exact Or.inr rfl) (pe_callTy (K_dictP (K := K) rfl rfl) (by rfl) T.z_dict (by decide +kernel) (pa_cons (pe_lc (own := [("_law_word_here", 5)]) (by rfl) sc__law_right.nd (K_pil (K := K) rfl (pv 4)) (blkOk_by (own := [("_law_word_here", 5)]) (N := ["_law_draws_here", "_law_turn", "_law_name", "_law_indexes", "_law_words", "_law_word_here", "_law_named", "_law_turned", "_law_handed", "_law_given", "_law_call", "_law_twin", "_law_other", "_law_thing"]) (sc := defScope s__law_right) (by decide +kernel)) (fun _ _ _ _ _ => (pg_name (i := 5) sc__law_right.nd rfl (by first | exact Or.inl rfl | exact Or.inr rfl))) (fun _ _ _ _ _ => pts_nil) (fun _ _ _ _ _ => (pe_tup (pa_cons (pv 5) (pa_cons (pe_use U__law_pick (hr.mono (by first | decide | omega)) (by rfl) (pa_cons (pv 0) (pa_cons pe_int pa_nil))) pa_nil))))) pa_nil)))
        (pss_cons (ps_set (i := 7) sc__law_right.nd rfl (by first | exact Or.inl rfl | exact Or.inr rfl) (pe_callTy (K_dictP (K := K) rfl rfl) (by rfl) T.z_dict (by decide +kernel) (pa_cons (pe_lc (own := [("_law_word_here", 5)]) (by rfl) sc__law_right.nd (K_pil (K := K) rfl (K_revL (K := K) rfl (pv 4))) (blkOk_by (own := [("_law_word_here", 5)]) (N := ["_law_draws_here", "_law_turn", "_law_name", "_law_indexes", "_law_words", "_law_word_here", "_law_named", "_law_turned", "_law_handed", "_law_given", "_law_call", "_law_twin", "_law_other", "_law_thing"]) (sc := defScope s__law_right) (by decide +kernel)) (fun _ _ _ _ _ => (pg_name (i := 5) sc__law_right.nd rfl (by first | exact Or.inl rfl | exact Or.inr rfl))) (fun _ _ _ _ _ => pts_nil) (fun _ _ _ _ _ => (pe_tup (pa_cons (pv 5) (pa_cons (pe_dget hu (pv 6) (pv 5) (fun _ _ => rfl)) pa_nil))))) pa_nil)))
        (pss_cons (ps_par (i := 8) (j := 9) (by rfl) sc__law_right.nd rfl rfl (by decide) rfl rfl (pa_cons (pe_callTy (K_list (K := K) rfl) (by rfl) T.z_list (by decide +kernel) (pa_cons (pv 3) pa_nil)) (pa_cons (pe_callTy cr_dictD (by rfl) T.z_dict (by decide +kernel) (pa_cons (pv 6) pa_nil)) pa_nil)) (by rfl))
        (pss_cons (ps_asg (pe_tup (pa_cons (pe_smeth (pe_globE T.v_Call (by rfl)) Q_Call_of S_Call_of R_Call_of (hr.mono (by first | decide | omega)) (fun σ => passAtL σ) (pa_cons (pv 2) (pa_cons (pv 8) (pa_cons (pv 9) pa_nil)))) (pa_cons (pe_smeth (pe_globE T.v_Call (by rfl)) Q_Call_of S_Call_of R_Call_of (hr.mono (by first | decide | omega)) (fun σ => passAtL σ) (pa_cons (pv 2) (pa_cons (pe_callTy (K_tuple (K := K) rfl) (by rfl) T.z_tuple (by decide +kernel) (pa_cons (pv 3) pa_nil)) (pa_cons (pv 7) pa_nil)))) pa_nil))) (K_gtup (K := K) (n := 2) rfl (by rfl) (pgs_cons (pg_name (i := 10) sc__law_right.nd rfl (by first | exact Or.inl rfl | exact Or.inr rfl)) (pgs_cons (pg_name (i := 11) sc__law_right.nd rfl (by first | exact Or.inl rfl | exact Or.inr rfl)) pgs_nil))))
        (pss_cons (ps_expr (K_bm (K := K) rfl PySem.F.plainAttrs_list PySem.F.slot_list_append PySem.F.type_list_append mt_append (pv 8) (pa_cons pe_int pa_nil)))
        (pss_cons (ps_dput hu (pv 9) pe_str pe_int rfl)
        (pss_cons (ps_if (pt_cutT (PW.pt (pw_or (pt_not (pt_val (pe_useGd U__law_is bare (hr.mono (by first | decide | omega)) (by rfl) (pa_cons (pv 10) (pa_cons (pv 2) (pa_cons (pv 3) (pa_cons (pv 6) pa_nil))))))) (pw_or1 (pt_not (pt_val (pe_useGd U__law_is bare (hr.mono (by first | decide | omega)) (by rfl) (pa_cons (pv 11) (pa_cons (pv 2) (pa_cons (pv 3) (pa_cons (pv 6) pa_nil)))))))))))
          (pss_one (ps_ret pe_bl))
          pss_nil)
        (pss_cons (ps_if (pt_cutT (PW.pt (pw_or (pt_not (pt_cmpR (K_eqFam (K := K) (S := (FamS [C_Call])) rfl M_Call___eq__ R_Call___eq__ (hr.mono (by first | decide | omega))) (pv 10) (pv 11) (nomark _))) (pw_or (pt_cmpR (op_neOwn (M_Call___eq__ C_Call .hd) R_Call___eq__ (hr.mono (by first | decide | omega)) T.k_ne T.k_ob (hr.mono (by first | decide | omega))) (pv 10) (pv 11) (nomark _)) (pw_or1 (pt_val (pe_callB (K_any (K := K) rfl rfl) (by rfl) T.z_any (by decide +kernel) (pa_cons (pe_lc (own := [("_law_other", 12)]) (by rfl) sc__law_right.nd (K_pil (K := K) rfl (pe_use U__law_others (hr.mono (by first | decide | omega)) (by rfl) (pa_cons (pv 0) (pa_cons (pv 2) (pa_cons (pv 3) (pa_cons (pv 6) pa_nil)))))) (blkOk_by (own := [("_law_other", 12)]) (N := ["_law_draws_here", "_law_turn", "_law_name", "_law_indexes", "_law_words", "_law_word_here", "_law_named", "_law_turned", "_law_handed", "_law_given", "_law_call", "_law_twin", "_law_other", "_law_thing"]) (sc := defScope s__law_right) (by decide +kernel)) (fun _ _ _ _ _ => (pg_name (i := 12) sc__law_right.nd rfl (by first | exact Or.inl rfl | exact Or.inr rfl))) (fun _ _ _ _ _ => pts_nil) (fun _ _ _ _ _ => (pe_cmpR (K_eqFam (K := K) (S := (FamS [C_Call])) rfl M_Call___eq__ R_Call___eq__ (hr.mono (by first | decide | omega))) (pv 10) (pv 12) (nomark _)))) pa_nil))))))))
          (pss_one (ps_ret pe_bl))
          pss_nil)
        (pss_one (ps_ret (pe_notP (pe_callB (K_any (K := K) rfl rfl) (by rfl) T.z_any (by decide +kernel) (pa_cons (pe_lc (own := [("_law_thing", 13)]) (by rfl) sc__law_right.nd (K_pit (K := K) rfl (pe_tup (pa_cons pe_non (pa_cons (pv 2) (pa_cons (pe_callTy (cr_strFam (S := (FamS [C_Call])) M_Call___str__ R_Call___str__ (hr.mono (by first | decide | omega))) (by rfl) T.z_str (by decide +kernel) (pa_cons (pv 10) pa_nil)) (pa_cons (pe_tup (pa_cons (pv 2) (pa_cons (pe_callTy (K_tuple (K := K) rfl) (by rfl) T.z_tuple (by decide +kernel) (pa_cons (pv 3) pa_nil)) (pa_cons (pe_tup pa_nil) pa_nil)))) (pa_cons pe_int pa_nil))))))) (blkOk_by (own := [("_law_thing", 13)]) (N := ["_law_draws_here", "_law_turn", "_law_name", "_law_indexes", "_law_words", "_law_word_here", "_law_named", "_law_turned", "_law_handed", "_law_given", "_law_call", "_law_twin", "_law_other", "_law_thing"]) (sc := defScope s__law_right) (by decide +kernel)) (fun _ _ _ _ _ => (pg_name (i := 13) sc__law_right.nd rfl (by first | exact Or.inl rfl | exact Or.inr rfl))) (fun _ _ _ _ _ => pts_nil) (fun _ _ _ _ _ => (pe_cmpR (K_eqFam (K := K) (S := (FamS [C_Call])) rfl M_Call___eq__ R_Call___eq__ (hr.mono (by first | decide | omega))) (pv 10) (pv 13) (nomark _)))) pa_nil))))))))))))))), ?_⟩
    have big : 1000000 ≤ sizeLine := by decide
    have hC := T.c_Call
    have hM : FamS [C_Call] C_Call := .hd
    walk_at "S"
    refine ⟨p, n + 191, rfl, hb, fun nm H1 hw k1 b1 => ?_⟩
    walk_at "S"
    refine ⟨p, n + 190, _, rfl, b1, by decide, by decide, fun r H2 r0 r1 k2 b2 => ?_⟩
    refine r_cRng1 (by omega) ?_
    refine r_kLcR (fun D i acc H' => ∃ ixs : List Int, acc = ixs.map V.int ∧ ixs.length = i ∧ (∀ j ∈ ixs, 0 ≤ j ∧ j < 8) ∧ Kp [p] H2 H' ∧ BagD H' p (n + 182 + (8 - i))) (fun D H' nD k e => ⟨[], rfl, rfl, (fun j m => nomatch m), k.nil, b2.kp k not_nil⟩) ?_ ?_
    · rintro D i acc H3 nD hi eD ⟨ixs, rfl, hl, hix, k3, b3⟩
      have Dp := b2.ne nD
      walk_at "S"
      refine ⟨p, n + 182 + (8 - (i + 1)), _, rfl, b3.mono (by omega), by decide, by decide, fun j H4 j0 j1 k4 b4 => ?_⟩
      refine r_kApp (k4 _ _ eD (not_one Dp)) (by rw [List.length_map]; omega) fun H5 k5 e5 => ⟨ixs ++ [j], by rw [List.map_append]; rfl, by rw [List.length_append, hl]; rfl, fun x hx => ?_, (k3.trans k4).step nD k5, b4.kp k5 (not_one Dp.symm)⟩
      rcases List.mem_append.mp hx with z | z
      · exact hix x z
      · rw [List.mem_singleton.mp z]
        exact ⟨j0, j1⟩
    rintro I acc H3 nI eI ⟨ixs, rfl, hl, hix, k3, b3⟩
    have Ip := b2.ne nI
    have hl8 : ixs.length ≤ 8 := by omega
    have k03 : Kp [p] H H3 := (k1.trans k2).trans k3
    have hsm : ∀ i ∈ ixs, SmallI i := fun i m => by
      have := hix i m
      show i.natAbs < 10 ^ 12
      omega
    walk_at "S"
    refine ⟨_, _, rfl, ?_⟩
    walk_at "S"
    refine ⟨p, n + 181, _, rfl, b3.mono (by omega), by decide, by decide, fun r2 H4 r20 r21 k4 b4 => ?_⟩
    obtain ⟨m, rfl⟩ : ∃ m : Nat, r2 = (m : Int) := ⟨r2.toNat, by omega⟩
    walk_at "S"
    refine ⟨p, n + 81, m, rfl, b4, by omega, fun W ws H5 nW k5 b5 eW hwl hwn hwo => ?_⟩
    have Wp := b4.ne nW
    have k05 : Kp [p] H H5 := (k03.trans k4).trans k5
    have eI5 : H5 I = some (.lst (ixs.map V.int)) := (k4.trans k5) _ _ eI (not_one Ip)
    walk_at "S"
    refine r_cWL (SqL.of eW) ?_
    refine r_kLcL (fun D i acc H' => ∃ nds : List (Str × Int), nds.map Prod.fst = ws.take i ∧ (∀ q ∈ nds, 0 ≤ q.2 ∧ q.2 < 8) ∧ Kp [p] H5 H' ∧ BagD H' p (n + 73 + (8 - i)) ∧ DtAll [D, p] H' acc (nds.map ndD)) (fun D H' nD k e => ⟨[], rfl, (fun q m => nomatch m), k.nil, b5.kp k not_nil, .nil⟩) (fun D i acc H' _ h => by
      obtain ⟨_, _, _, k, _⟩ := h
      exact SqL.of (k _ _ eW (not_one Wp))) ?_ ?_
    · rintro D i acc x H6 nD hx eD ⟨nds, hk, hv, k6, b6, al⟩
      have Dp := b5.ne nD
      obtain ⟨w, hw', rfl⟩ := map_at hx
      have hi8 : i < 8 := Nat.lt_of_lt_of_le (lt_at hw') hwl
      walk_at "S"
      refine ⟨p, n + 73 + (8 - (i + 1)), _, rfl, b6.mono (by omega), by decide, by decide, fun j H7 j0 j1 k7 b7 => ?_⟩
      walk_at "S"
      refine r_kTup (xs := [V.str w, V.int j]) (by show 2 ≤ sizeLine; omega) fun t H8 nt k8 et => ?_
      have eD7 := k7 _ _ eD (not_one Dp)
      have tD : t ≠ D := ne_none eD7 nt
      have tp : t ≠ p := b7.ne nt
      have hal : acc.length ≤ 8 := by
        rw [al.length, List.length_map]
        have := congrArg List.length hk
        rw [List.length_map, List.length_take] at this
        omega
      refine r_kApp (k8 _ _ eD7 not_nil) (by omega) fun H9 k9 e9 => ⟨nds ++ [(w, j)], ?_, fun q hq => ?_, (k6.trans (k7.trans k8.nil)).step nD k9, (b7.kp k8 not_nil).kp k9 (not_one Dp.symm), ?_⟩
      · rw [List.map_append, hk, List.take_add_one, hw']
        rfl
      · rcases List.mem_append.mp hq with z | z
        · exact hv q z
        · rw [List.mem_singleton.mp z]
          exact ⟨j0, j1⟩
      · rw [List.map_append]
        have nn : t ∉ [D, p] := fun z => by
          rcases List.mem_cons.mp z with z | z
          · exact tD z
          · exact tp (List.mem_singleton.mp z)
        exact (((al.mono (Kp.mono (ex := [p]) k7 fun b m => List.mem_cons_of_mem _ m)).mono k8.nil).mono (Kp.mono (ex := [D]) k9 fun b m => by
          rw [List.mem_singleton.mp m]
          exact List.mem_cons_self)).append (.cons (.tup nn (k9 _ _ et (not_one tD)) (.cons (.str _) (.cons (.int _) .nil))) .nil)
    rintro D acc H6 nD eD ⟨nds, hk, hv, k6, b6, al⟩
    rw [List.length_map, List.take_length] at hk
    subst hk
    rw [List.length_map] at hwl
    have hnw : NdOk nds := fun q m => ⟨hwo q.1 (List.mem_map_of_mem m), by
      have := hv q m
      show q.2.natAbs < 10 ^ 12
      omega⟩
    walk_at "S"
    refine r_dictP (SqL.of eD) al hwn fun N H7 nN k7 eN => ?_
    have Np := b6.ne nN
    have k07 : Kp [p] H H7 := (k05.trans k6).trans k7.nil
    have b7 := b6.kp k7 not_nil
    walk_at "S"
    refine r_kRev (SqL.of ((k6.trans k7.nil) _ _ eW (not_one Wp))) fun R H8 nR k8 eR => ?_
    have eR : H8 R = some (.lst (nds.reverse.map fun q : Str × Int => V.str q.1)) := by
      rw [eR, List.map_map, ← List.map_reverse]
      rfl
    refine r_cWL (SqL.of eR) ?_
    have eN8 := k8 _ _ eN not_nil
    refine r_kLcL (fun D i acc H' => Kp [] H8 H' ∧ DtAll [D] H' acc ((nds.reverse.take i).map ndD)) (fun D H' nD k e => ⟨k, .nil⟩) (fun D i acc H' _ h => SqL.of (h.1 _ _ eR not_nil)) ?_ ?_
    · rintro D2 i acc2 x H9 nD2 hx eD2 ⟨k9, al2⟩
      obtain ⟨nd, hnd, rfl⟩ := map_at hx
      have hm : nd ∈ nds := List.mem_reverse.mp (mem_at hnd)
      walk_at "S"
      refine r_kDGs (k9 _ _ eN8 not_nil) (ndK_pair hwn hm) ?_
      walk_at "S"
      refine r_kTup (xs := [V.str nd.1, V.int nd.2]) (by show 2 ≤ sizeLine; omega) fun t H10 nt k10 et => ?_
      have tD : t ≠ D2 := ne_none eD2 nt
      have hal : acc2.length ≤ 8 := by
        rw [al2.length, List.length_map, List.length_take, List.length_reverse]
        omega
      refine r_kApp (k10 _ _ eD2 not_nil) (by omega) fun H11 k11 e11 => ⟨(k9.trans k10).step nD2 k11, ?_⟩
      rw [take_map _ hnd]
      exact ((al2.mono k10.nil).mono k11).append (.cons (.tup (not_one tD) (k11 _ _ et (not_one tD)) (.cons (.str _) (.cons (.int _) .nil))) .nil)
    rintro D2 acc2 H9 nD2 eD2 ⟨k9, al2⟩
    rw [List.length_map, List.take_length] at al2
    walk_at "S"
    have hrn : (nds.reverse.map Prod.fst).Nodup := (((List.reverse_perm nds).map Prod.fst).nodup_iff).mpr hwn
    refine r_dictP (SqL.of eD2) al2 hrn fun N2 H10 nN2 k10 eN2 => ?_
    have k710 : Kp [] H7 H10 := k8.trans (k9.trans k10)
    have k010 : Kp [p] H H10 := k07.trans k710.nil
    have b10 := b7.kp k710 not_nil
    have eI10 : H10 I = some (.lst (ixs.map V.int)) := ((k6.trans k7.nil).trans k710.nil) _ _ eI5 (not_one Ip)
    have eN10 := k710 _ _ eN not_nil
    walk_at "S"
    refine r_listL (SqL.of eI10) fun A1 H11 nA1 k11 eA1 => ?_
    walk_at "S"
    refine r_dictD (k11 _ _ eN10 not_nil) fun G1 H12 nG1 k12 eG1 => ?_
    walk_at "S"
    refine ⟨_, _, rfl, ?_⟩
    walk_at "S"
    refine ⟨A1, G1, nm, ixs, nds, rfl, .inl (k12 _ _ eA1 not_nil), eG1, by omega, fun c H13 k13 nc hc13 => ?_⟩
    walk_at "S"
    have k1013 := k11.trans (k12.trans k13)
    refine r_tupleL (SqL.of (k1013 _ _ eI10 not_nil)) fun T1 H14 nT1 k14 eT1 => ?_
    walk_at "S"
    have k1014 := k1013.trans k14
    refine ⟨T1, N2, nm, ixs, nds.reverse, rfl, .inr eT1, k1014 _ _ eN2 not_nil, by omega, fun d H15 k15 nd hc15 => ?_⟩
    rw [srtN_eq hrn (List.reverse_perm nds)] at hc15
    walk_at "S"
    refine r_kTup (xs := [V.ref c, V.ref d]) (by show 2 ≤ sizeLine; omega) fun t H16 nt k16 et => ?_
    refine r_gtup (SqT.of et) rfl ?_
    walk_at "S"
    have k1016 := k1014.trans (k15.trans k16)
    have eA16 : H16 A1 = some (.lst (ixs.map V.int)) := (k12.trans (k13.trans (k14.trans (k15.trans k16)))) _ _ eA1 not_nil
    have eG16 : H16 G1 = some (.dK (ndK nds)) := (k13.trans (k14.trans (k15.trans k16))) _ _ eG1 not_nil
    have hc16 := hc13.kp (k14.trans (k15.trans k16))
    have hd16 := hc15.kp k16
    have A1p : A1 ≠ p := b10.ne nA1
    have G1p : G1 ≠ p := (b10.kp k11 not_nil).ne nG1
    have A1I : A1 ≠ I := ne_none eI10 nA1
    have A1N : A1 ≠ N := ne_none eN10 nA1
    have G1I : G1 ≠ I := ne_none (k11 _ _ eI10 not_nil) nG1
    have G1N : G1 ≠ N := ne_none (k11 _ _ eN10 not_nil) nG1
    have G1A : G1 ≠ A1 := ne_none eA1 nG1
    refine r_kBMl (SqL.of eA16) ?_
    walk_at "S"
    refine r_append eA16 (by rw [List.length_map]; omega) fun H17 k17 eA17 => ?_
    walk_at "S"
    have eG17 := k17 _ _ eG16 (not_one G1A)
    refine r_kDPs eG17 (by unfold ndK; rw [List.length_map]; omega) ?_
    have k18 : Kp [G1] H17 (upd H17 G1 (.dK (putK (ndK nds) (Sum.inr "late") (.int 7)))) := Kp.put (by simp)
    generalize upd H17 G1 (.dK (putK (ndK nds) (Sum.inr "late") (.int 7))) = H18 at k18
    have hc18 : CallAt C_Call H18 c nm ixs (srtN nds) := (hc16.but eA16 (fun _ z => nomatch z) (fun _ _ _ z => nomatch z) k17).but eG17 (fun _ z => nomatch z) (fun _ _ _ z => nomatch z) k18
    have hd18 : CallAt C_Call H18 d nm ixs (srtN nds) := (hd16.but eA16 (fun _ z => nomatch z) (fun _ _ _ z => nomatch z) k17).but eG17 (fun _ z => nomatch z) (fun _ _ _ z => nomatch z) k18
    have eI18 : H18 I = some (.lst (ixs.map V.int)) := k18 _ _ (k17 _ _ (k1016 _ _ eI10 not_nil) (not_one A1I.symm)) (not_one G1I.symm)
    have eN18 : H18 N = some (.dK (ndK nds)) := k18 _ _ (k17 _ _ (k1016 _ _ eN10 not_nil) (not_one A1N.symm)) (not_one G1N.symm)
    have b18 := ((b10.kp k1016 not_nil).kp k17 (not_one A1p.symm)).kp k18 (not_one G1p.symm)
    have k018 : Kp [p] H H18 := ((k010.trans k1016.nil).step (k010.free nA1 (not_one A1p)) k17).step ((k010.trans k11.nil).free nG1 (not_one G1p)) k18
    walk_at "S"
    refine r_cutT (fun b H' => b = false ∧ Kp [] H18 H') ?_ ?_
    · walk_at "S"
      refine ⟨c, I, N, nm, ixs, nds, rfl, hc18, eI18, eN18, hw, by omega, by omega, hsm, hnw, fun H19 k19 => ?_⟩
      walk_at "S"
      refine r_kOr0 rfl ?_
      walk_at "S"
      refine ⟨d, I, N, nm, ixs, nds, rfl, hd18.kp k19, k19 _ _ eI18 not_nil, k19 _ _ eN18 not_nil, hw, by omega, by omega, hsm, hnw, fun H20 k20 => ?_⟩
      walk_at "S"
      exact ⟨rfl, k19.trans k20⟩
    rintro b0 H19 ⟨rfl, k19⟩
    refine r_kIfS0 rfl ?_
    have hc19 := hc18.kp k19
    have hd19 := hd18.kp k19
    have okn : ∀ q ∈ srtN nds, PyData.strOk q.1 = true := fun q m => (hnw q (srtN_mem.mp m)).1.ok
    have eqc : ∀ {Hx : Hp} {Qx : VK} {x y : Addr} {nm' : Str} {ixs' : List Int} {nds' : List (Str × Int)}, CallAt C_Call Hx x nm ixs (srtN nds) → CallAt C_Call Hx y nm' ixs' nds' → (∀ q ∈ nds', PyData.strOk q.1 = true) → Qx (.bl (decide (nm = nm' ∧ ixs = ixs' ∧ srtN nds = nds'))) Hx → rEqFam K (FamS [C_Call]) (sp_Call___eq__ K C_Call) (.ref x) (.ref y) Hx Qx := by
      intro Hx Qx x y nm' ixs' nds' hx hy oky qx
      obtain ⟨dx, _, _, fs, ea, _⟩ := id hx
      obtain ⟨dx', _, _, fs', ea', _⟩ := id hy
      exact r_eqFam ea .hd (.base (.ins ea' hC (T.cl_Call _ hM) T.gt_Call T.tk_Call (T.ob_Call _ hM))) nf_self ⟨x, nm, ixs, srtN nds, .ref y, rfl, hx, okn, .inl ⟨y, nm', ixs', nds', rfl, hy, oky, _, rfl, qx⟩⟩
    have b19 := b18.kp k19 not_nil
    walk_at "S"
    refine r_cutT (fun b H' => b = false ∧ Kp [p] H19 H' ∧ BagD H' p n ∧ CallAt C_Call H' c nm ixs (srtN nds)) ?_ ?_
    · walk_at "S"
      refine eqc hc19 hd19 okn ?_
      rw [decide_eq_true (⟨rfl, rfl, rfl⟩ : nm = nm ∧ ixs = ixs ∧ srtN nds = srtN nds)]
      walk_at "S"
      refine r_kOr0 rfl ?_
      walk_at "S"
      obtain ⟨dx, _, _, fs, ea, _⟩ := id hc19
      obtain ⟨dx', _, _, fs', ea', _⟩ := id hd19
      refine r_neOwn ea ea' ⟨c, nm, ixs, srtN nds, .ref d, rfl, hc19, okn, .inl ⟨d, nm, ixs, srtN nds, rfl, hd19, okn, _, rfl, ?_⟩⟩
      rw [decide_eq_true (⟨rfl, rfl, rfl⟩ : nm = nm ∧ ixs = ixs ∧ srtN nds = srtN nds)]
      walk_at "S"
      refine r_kOr0 rfl ?_
      walk_at "S"
      refine ⟨p, I, N, n, nm, ixs, nds, rfl, b19.mono (by omega), k19 _ _ eI18 not_nil, Ip, k19 _ _ eN18 not_nil, hw, by omega, by omega, hix, fun q m => ⟨(hnw q m).1, hv q m⟩, hwn, fun L H20 nL k20 b20 o20 => ?_⟩
      obtain ⟨_, _, _, ep19, _⟩ := id b19
      have hc20 := hc19.but ep19 (fun _ z => nomatch z) (fun _ _ _ z => nomatch z) k20
      obtain ⟨cs, eL, hcs, ho⟩ := o20.ex
      refine r_cWL (SqL.of eL) ?_
      refine r_kLcL (fun D i acc H' => Kp [] H20 H' ∧ acc = (List.replicate i false).map V.bl) (fun D H' nD k e => ⟨k, rfl⟩) (fun D i acc H' _ h => SqL.of (h.1 _ _ eL not_nil)) ?_ ?_
      · rintro D3 i acc3 x H21 nD3 hx eD3 ⟨k21, rfl⟩
        obtain ⟨c2, hc2, rfl⟩ := map_at hx
        obtain ⟨nm', ixs', nds', hca, oka, hne⟩ := (ho c2 (mem_at hc2)).kp k21
        have hi20 := lt_at hc2
        walk_at "S"
        refine eqc (hc20.kp k21) hca oka ?_
        rw [decide_eq_false hne]
        refine r_kApp eD3 (by rw [List.length_map, List.length_replicate]; omega) fun H22 k22 e22 => ⟨k21.step nD3 k22, ?_⟩
        rw [List.replicate_succ', List.map_append]
        rfl
      rintro D3 acc3 H21 nD3 eD3 ⟨k21, rfl⟩
      walk_at "S"
      refine r_any (SqL.of eD3) ?_
      have hany : (List.replicate ((cs.map V.ref).length) false).any id = false := by
        rw [List.any_eq_false]
        intro x hx
        rw [List.eq_of_mem_replicate hx]
        decide
      rw [hany]
      walk_at "S"
      exact ⟨rfl, k20.trans k21.nil, b20.kp k21 not_nil, hc20.kp k21⟩
    rintro b1' H20 ⟨rfl, k20, b20, hc20⟩
    refine r_kIfS0 rfl ?_
    have k020 := (k018.trans k19.nil).trans k20
    walk_at "S"
    obtain ⟨dx, _, _, fs, ea, _⟩ := id hc20
    have hlw := hw.len
    have hsl := srtN_len nds
    refine r_strFam ea .hd ⟨c, nm, ixs, srtN nds, rfl, hc20, by omega, by omega, by omega, hsm, fun q m => ⟨Nat.le_trans (hnw q (srtN_mem.mp m)).1.len (by decide), (hnw q (srtN_mem.mp m)).2⟩, fun H21 k21 => ?_⟩
    refine ⟨_, rfl, ?_⟩
    walk_at "S"
    have eI21 : H21 I = some (.lst (ixs.map V.int)) := k21 _ _ (k20 _ _ (k19 _ _ eI18 not_nil) (not_one Ip)) not_nil
    refine r_tupleL (SqL.of eI21) fun T3 H22 nT3 k22 eT3 => ?_
    walk_at "S"
    refine r_kTup (xs := []) (by show 0 ≤ sizeLine; omega) fun T4 H23 nT4 k23 eT4 => ?_
    walk_at "S"
    refine r_kTup (xs := [V.str nm, V.ref T3, V.ref T4]) (by show 3 ≤ sizeLine; omega) fun T5 H24 nT5 k24 eT5 => ?_
    walk_at "S"
    refine r_kTup (xs := [V.non, V.str nm, V.str (callText nm ixs (srtN nds)), V.ref T5, V.int 0]) (by show 5 ≤ sizeLine; omega) fun T6 H25 nT6 k25 eT6 => ?_
    have k2025 := k21.trans (k22.trans (k23.trans (k24.trans k25)))
    have hc25 := hc20.kp k2025
    have eT5' := k25 _ _ eT5 not_nil
    have types : ∀ (i : Nat) (x : V) (Hx : Hp), Kp [] H25 Hx → [V.non, V.str nm, V.str (callText nm ixs (srtN nds)), V.ref T5, V.int 0][i]? = some x → ∃ t, TyX K Hx x t ∧ PySem.W.notFirst K C_Call t = true ∧ PySem.W.kitOne K t (.ref C_Call) = some false := by
      intro i x Hx kx hx
      match i with
      | 0 => cases hx; exact ⟨_, .base .non, T.nNoneType_Call _ hM, T.kNoneType_Call⟩
      | 1 => cases hx; exact ⟨_, .base (.str _), T.nstr_Call _ hM, T.kstr_Call⟩
      | 2 => cases hx; exact ⟨_, .base (.str _), T.nstr_Call _ hM, T.kstr_Call⟩
      | 3 => cases hx; exact ⟨_, .base (.tup (kx _ _ eT5' not_nil)), T.ntuple_Call _ hM, T.ktuple_Call⟩
      | 4 => cases hx; exact ⟨_, .base (.int _), T.nint_Call _ hM, T.kint_Call⟩
      | n + 5 => cases hx
    refine r_cWT (SqT.of eT6) ?_
    refine r_kLcT (fun D i acc H' => Kp [] H25 H' ∧ acc = (List.replicate i false).map V.bl) (fun D H' nD k e => ⟨k, rfl⟩) (fun D i acc H' _ h => SqT.of (h.1 _ _ eT6 not_nil)) ?_ ?_
    · rintro D4 i acc4 x H26 nD4 hx eD4 ⟨k26, rfl⟩
      obtain ⟨ty, tyx, nf, kf⟩ := types i x H26 k26 hx
      have hi5 : i < 5 := lt_at hx
      obtain ⟨dx', _, _, fs', ea', _⟩ := id (hc25.kp k26)
      walk_at "S"
      refine r_eqFam ea' .hd tyx nf ⟨c, nm, ixs, srtN nds, x, rfl, hc25.kp k26, okn, .inr ⟨ty, tyx, kf, _, rfl, ?_⟩⟩
      refine r_kApp eD4 (by rw [List.length_map, List.length_replicate]; omega) fun H27 k27 e27 => ⟨k26.step nD4 k27, ?_⟩
      rw [List.replicate_succ', List.map_append]
      rfl
    rintro D4 acc4 H26 nD4 eD4 ⟨k26, rfl⟩
    walk_at "S"
    refine r_any (SqL.of eD4) ?_
    have hany : (List.replicate ([V.non, V.str nm, V.str (callText nm ixs (srtN nds)), V.ref T5, V.int 0].length) false).any id = false := by
      rw [List.any_eq_false]
      intro x hx
      rw [List.eq_of_mem_replicate hx]
      decide
    rw [hany]
    walk_at "S"
    exact q H26 (k020.trans (k2025.trans k26).nil) (b20.kp (k2025.trans k26) not_nil)

end
section
variable {P : Program} {w : World} {K : PySem.W.Frag} {mg : Str → Option Value} {base : Heap}
variable {C_Call : Addr}
local macro_rules | `(tactic| walk_at "s") => `(tactic| (first
  | (with_reducible refine r_seq ?_)
  | (with_reducible refine r_asg ?_)
  | ((with_reducible refine' r_var (v := ?v) ?hv ?_); (case hv => exact rfl))
  | (with_reducible refine r_c ?_)
  | (with_reducible refine r_name ?_)
  | (with_reducible refine r_op ?_)
  | (with_reducible refine r_un ?_)
  | (with_reducible refine r_consA ?_)
  | (with_reducible refine r_nilA ?_)
  | (with_reducible refine r_I0 ?_)
  | (with_reducible refine r_U ?_)
  | (with_reducible refine r_eqI ?_)
  | (with_reducible refine r_neI ?_)
  | (with_reducible refine r_test ?_)
  | (with_reducible refine r_tB ?_)
  | (with_reducible refine r_kB ?_)
  | (with_reducible refine r_ifS ?_)
  | (with_reducible refine r_if ?_)
  | (with_reducible refine r_and ?_)
  | (with_reducible refine r_or ?_)
  | (with_reducible refine r_not ?_)
  | (with_reducible refine r_ret ?_)
  | (with_reducible refine r_retN ?_)
  | (with_reducible refine r_next ?_)
  | (with_reducible refine r_drop ?_)
  | (with_reducible refine r_brk ?_)
  | (with_reducible refine r_cont ?_)
  | (with_reducible refine r_andV ?_)
  | (with_reducible refine r_orV ?_)
  | (with_reducible refine r_notV ?_)
  | (with_reducible refine r_kNotV ?_)
  | (with_reducible refine r_lst ?_)
  | (with_reducible refine r_tup ?_)
  | (with_reducible refine r_dget ?_)
  | (with_reducible refine r_dput ?_)
  | (with_reducible refine r_use ?_)
  | (with_reducible refine r_cb ?_)
  | (with_reducible refine r_par ?_)
  | (with_reducible refine r_int ?_)
  | (with_reducible refine r_abs ?_)
  | (with_reducible refine r_max2 ?_)
  | (with_reducible refine r_min2 ?_)
  | (with_reducible refine r_pnil ?_)
  | (with_reducible refine r_pcons ?_)
  | (with_reducible refine r_eqS ?_)
  | (with_reducible refine r_neS ?_)
  | (with_reducible refine r_for ?_)
  | (with_reducible refine r_rng1 ?_)
  | (with_reducible refine r_rng2 ?_)
  | (with_reducible refine r_wl ?_)
  | (with_reducible refine r_wt ?_)
  | (with_reducible refine r_wq ?_)
  | (with_reducible refine r_ws ?_)
  | (with_reducible refine r_cWS ?_)
  | (with_reducible refine r_enum ?_)
  | (with_reducible refine r_zip ?_)
  | (with_reducible refine r_lc ?_)
  | (with_reducible refine r_dc ?_)
  | ((with_reducible refine r_kTurn ?ht ?_); (case ht => rfl))
  | ((with_reducible refine r_kTurnD ?ht ?_); (case ht => rfl))
  | (with_reducible refine r_yes ?_)
  | ((with_reducible refine r_kKeep1 ?hk ?_); (case hk => rfl))
  | ((with_reducible refine r_kKeepD1 ?hk ?_); (case hk => rfl))
  | (with_reducible refine r_gcons ?_)
  | (with_reducible refine r_gnil ?_)
  | (with_reducible refine r_bm ?_)
  | (with_reducible refine r_bm0 ?_)
  | (with_reducible refine r_fld ?_)
  | (with_reducible refine r_sfld ?_)
  | (with_reducible refine r_methR ?_)
  | (with_reducible refine r_makeR ?_)
  | (with_reducible refine r_chain ?_)))
local macro_rules | `(tactic| walk_at "S") => `(tactic| repeat walk_at "s")
local macro_rules | `(tactic| walk_at "D") => `(tactic| repeat' (first
  | exact AD_nil
  | refine AD_cons ?_ (fun _ _ => ?_)
  | refine ED_tup ?_ (Nat.le_trans (m := 100) (Nat.le_of_ble_eq_true rfl) (by decide))
  | refine ED_lst ?_ (Nat.le_trans (m := 100) (Nat.le_of_ble_eq_true rfl) (by decide))
  | exact ED_c (by constructor)
  | exact ED_var rfl (by constructor)))
local macro_rules | `(tactic| walk_at "N") => `(tactic| repeat' (first
  | exact AN_nil
  | refine AN_cons ?_ (fun _ _ => ?_)
  | refine EN_tup ?_ (Nat.le_trans (m := 100) (Nat.le_of_ble_eq_true rfl) (by decide))
  | refine EN_lst ?_ (Nat.le_trans (m := 100) (Nat.le_of_ble_eq_true rfl) (by decide))
  | exact EN_c (fun _ => by constructor)
  | exact EN_var rfl (fun _ => by constructor)))

local macro_rules | `(tactic| walk_at "s") => `(tactic| (first
  | (with_reducible refine r_sl ?_)
  | (with_reducible refine r_kS1 ?_)
  | (with_reducible refine r_kS2 ?_)
  | (with_reducible refine r_kS3 ?_)
  | (with_reducible refine r_noPart ?_)
  | (with_reducible refine r_part ?_)
  | (with_reducible refine r_kPart ?_)
  | (with_reducible refine r_gsub ?_)
  | (with_reducible refine r_m1 ?_)
  | (with_reducible refine r_kM1 ?_)
  | (with_reducible refine r_propF ?_)
  | (with_reducible refine r_drp ?_)
  | (with_reducible refine r_min2S ?_)
  | (with_reducible refine r_max2S ?_)
  | (with_reducible refine r_enumS ?_)
  | (with_reducible refine r_cEnumS ?_)
  | (with_reducible refine r_makeKS ?_)
  | (with_reducible refine r_makeS ?_)))

local macro_rules | `(tactic| walk_at "s") => `(tactic| (first
  | (with_reducible refine r_mkV ?_)
  | (with_reducible refine r_ofl ?_)
  | (with_reducible refine r_methF ?_)
  | (with_reducible refine r_callF ?_)
  | (with_reducible refine r_star ?_)
  | (with_reducible refine r_smeth ?_)
  | (with_reducible refine r_kSMeth ?_)))

local macro_rules | `(tactic| walk_at "s") => `(tactic| (first
  | (with_reducible refine r_dcT ?_)
  | ((with_reducible refine r_kTurnT ?ht ?_); (case ht => rfl))
  | ((with_reducible refine r_kKeepT1 ?hk ?_); (case hk => rfl))
  | (with_reducible refine r_own ?_)
  | (with_reducible refine r_cmeth ?_)
  | (with_reducible refine r_kCMeth ?_)
  | (with_reducible refine r_makeS1 ?_)
  | ((with_reducible refine r_makeV ?hv ?_); (case hv => rfl))
  | (with_reducible refine r_isBl ?_)
  | (with_reducible refine r_ltS ?_)
  | (with_reducible refine r_makeW ?_)
  | (with_reducible refine r_kMakeW0 ?_)
  | (with_reducible refine r_lr1 ?_)
  | (with_reducible refine r_lc2 ?_)
  | ((with_reducible refine r_kTurn2 ?ht ?_); (case ht => rfl))
  | ((with_reducible refine r_kKeep2 ?hk ?_); (case hk => rfl))))

local macro_rules | `(tactic| walk_at "s") => `(tactic| (first
  | (with_reducible refine r_tTruOwn ?_)
  | (with_reducible refine r_notOwn ?_)
  | (with_reducible refine r_par3 ?_)))

local macro_rules | `(tactic| walk_at "s") => `(tactic| (first
  | (with_reducible refine Rd.r_join ?_)
  | (with_reducible refine r_jCons ?_)
  | (with_reducible refine r_jNil ?_)
  | (with_reducible refine r_fmt ?_)
  | (with_reducible refine r_lsItems ?_)
  | (with_reducible refine r_lsKeys ?_)
  | (with_reducible refine r_iKeys ?_)
  | (with_reducible refine r_revL ?_)))

def sp_law (K : PySem.W.Frag) : Sp := fun vs H Q _ => ∃ (a : Addr) (ns : List Int), vs = [.ref a] ∧ SqL K H a (ns.map V.int) ∧ ns.length ≤ 63 ∧ ∀ H', Q (.bl true) H'
abbrev s_law : Stmt := top 13
theorem sc_law : FnScope ["_law_script", "_law_at", "_law_draws_here"] ["_law_script"] (defScope s_law) :=
  ⟨rfl, rfl, rfl, by decide +kernel, rfl, by decide +kernel, by decide +kernel⟩
theorem ok_law {f : Addr} {fd : FuncData} (F : Fun K "law" "law" s_law f fd) (T : Txt K mg C_Call) (U__law_draws : Use P w K mg base 2 "_law_draws" ["_law_script", "_law_at"] (sp__law_draws K)) (U__law_pick : Use P w K mg base 2 "_law_pick" ["_law_draws_here", "_law_many"] (sp__law_pick)) (U__law_word : Use P w K mg base 6 "_law_word" ["_law_draws_here"] (sp__law_word)) (U__law_right : UseGd P w K mg base 9 "_law_right" ["_law_draws_here"] (sp__law_right)) (U__law_plain : UseGd P w K mg base 9 "_law_plain" ["_law_name", "_law_a", "_law_b", "_law_c"] (sp__law_plain)) :
    FnG P w K mg base CX0 11 f fd ["_law_script"] (sp_law K) := by
  refine Rd.Fun.okG F sc_law (fun vs H Q E h => ?_) (fun cdv A outer s H vs Q E bare hr h => ?_)
  · obtain ⟨a, ns, rfl, _⟩ := h
    rfl
  · obtain ⟨a, ns, rfl, hS, hl, q⟩ := h
    have hu := hu_of hr
    have hu64 := hr.units
    refine ⟨_, (pss_cons (ps_for PassesOwn.never (by rfl) (pi_range1 (by rfl) T.z_range (pa_cons (pe_callB (cr_max2 rfl) (by rfl) T.z_max (by decide +kernel) (pa_cons pe_int (pa_cons (pe_callB (cr_min2 rfl) (by rfl) T.z_min (by decide +kernel) (pa_cons pe_int (pa_cons (pe_callB (K_len (K := K) rfl) (by rfl) T.z_len (by decide +kernel) (pa_cons (pv 0) pa_nil)) pa_nil))) pa_nil))) pa_nil)) (pg_name (i := 1) sc_law.nd rfl (by first | exact Or.inl rfl | exact Or.inr rfl))
          (pss_cons (ps_set (i := 2) sc_law.nd rfl (by first | exact Or.inl rfl | exact Or.inr rfl) (pe_use U__law_draws (hr.mono (by first | decide | omega)) (by rfl) (pa_cons (pv 0) (pa_cons (pv 1) pa_nil))))
          (pss_cons (ps_if (pt_not (pt_val (pe_useGd U__law_right bare (hr.mono (by first | decide | omega)) (by rfl) (pa_cons (pv 2) pa_nil))))
            (pss_one (ps_ret pe_bl))
            pss_nil)
          (pss_one (ps_if (pt_not (pt_val (pe_useGd U__law_plain bare (hr.mono (by first | decide | omega)) (by rfl) (pa_cons (pe_use U__law_word (hr.mono (by first | decide | omega)) (by rfl) (pa_cons (pv 2) pa_nil)) (pa_cons (pe_use U__law_pick (hr.mono (by first | decide | omega)) (by rfl) (pa_cons (pv 2) (pa_cons pe_int pa_nil))) (pa_cons (pe_use U__law_pick (hr.mono (by first | decide | omega)) (by rfl) (pa_cons (pv 2) (pa_cons pe_int pa_nil))) (pa_cons (pe_use U__law_pick (hr.mono (by first | decide | omega)) (by rfl) (pa_cons (pv 2) (pa_cons pe_int pa_nil))) pa_nil)))))))
            (pss_one (ps_ret pe_bl))
            pss_nil)))))
        (pss_one (ps_ret pe_bl))), ?_⟩
    have big : 5000 ≤ sizeLine := by decide
    walk_at "S"
    refine r_lenL hS ?_
    walk_at "S"
    have hlen : (ns.map V.int).length = ns.length := List.length_map _
    refine r_cRng1 ?_ ?_
    · rw [hlen]
      split <;> split <;> omega
    refine r_kForR (fun i σ' H' => ∃ s1 s2, σ' = [some (.ref a), s1, s2] ∧ Kp [] H H') ⟨none, none, rfl, Kp.refl _ _⟩ ?_ ?_
    · rintro i σ' H1 hi ⟨s1, s2, rfl, k1⟩
      have hi63 : i ≤ 63 := by
        rw [hlen] at hi
        split at hi <;> split at hi <;> omega
      walk_at "S"
      refine ⟨a, ns, i, rfl, k1.sql hS, hl, by omega, fun p H2 np k2 b2 => ?_⟩
      have k02 := k1.trans k2
      have npH : H p = none := k1.free np not_nil
      walk_at "S"
      refine ⟨p, 1000, rfl, b2.mono (by omega), fun H3 k3 b3 => ?_⟩
      walk_at "S"
      refine r_kIfS0 rfl ?_
      walk_at "S"
      refine ⟨p, 900, rfl, b3.mono (by omega), fun w H4 hw k4 b4 => ?_⟩
      walk_at "S"
      refine ⟨p, 800, _, rfl, b4.mono (by omega), by decide, by decide, fun x H5 x0 x1 k5 b5 => ?_⟩
      walk_at "S"
      refine ⟨p, 700, _, rfl, b5.mono (by omega), by decide, by decide, fun y H6 y0 y1 k6 b6 => ?_⟩
      walk_at "S"
      refine ⟨p, 600, _, rfl, b6.mono (by omega), by decide, by decide, fun z H7 z0 z1 k7 b7 => ?_⟩
      walk_at "S"
      have sm : ∀ {i : Int}, 0 ≤ i → i < 8 → SmallI i := fun {i} h0 h1 => by
        show i.natAbs < 10 ^ 12
        omega
      refine ⟨w, x, y, z, rfl, hw, sm x0 x1, sm y0 y1, sm z0 z1, fun H8 k8 => ?_⟩
      walk_at "S"
      refine r_kIfS0 rfl ?_
      walk_at "S"
      exact ⟨_, _, rfl, (k02.step npH (((k3.trans k4).trans k5).trans (k6.trans k7))).trans k8⟩
    · rintro σ' H1 ⟨s1, s2, rfl, k1⟩
      walk_at "S"
      exact q H1

end
theorem all_mk {l : PySem.W.OpenLaw} {w : World} {K : PySem.W.Frag} {h : Heap} {mg : Str → Option Value} {fa f1 f2 f3 f4 f5 f6 f7 f8 f9 f10 f11 f12 f13 f14 f15 C_Call : Addr} (X : K.In h) (G : h.Ns mainGlobals mg) (hfa : mg "law" = some (.ref fa))
    {od1 an1 od2 an2 od3 an3 od4 an4 od5 an5 od6 an6 od7 an7 od8 an8 od9 an9 od10 an10 od11 an11 od12 an12 od13 an13 od14 an14 od15 an15 : Option Addr} {sl1 sl2 sl3 sl4 sl5 sl6 sl7 sl8 sl9 sl10 sl11 sl12 sl13 sl14 sl15 : Array (Option Value)} {oc1 kV1 dc1 pm1 cd1 ct1 oc2 kV2 dc2 pm2 cd2 ct2 oc3 kV3 dc3 pm3 cd3 ct3 oc4 kV4 dc4 pm4 cd4 ct4 oc5 kV5 dc5 pm5 cd5 ct5 oc6 kV6 dc6 pm6 cd6 ct6 oc7 kV7 dc7 pm7 cd7 ct7 oc8 kV8 dc8 pm8 cd8 ct8 oc9 kV9 dc9 pm9 cd9 ct9 oc10 kV10 dc10 pm10 cd10 ct10 oc11 kV11 dc11 pm11 cd11 ct11 oc12 kV12 dc12 pm12 cd12 ct12 oc13 kV13 dc13 pm13 cd13 ct13 oc14 kV14 dc14 pm14 cd14 ct14 oc15 kV15 dc15 pm15 cd15 ct15 : Value} {p2 : Addr} {rs2 : List Value} {p7 : Addr} {rs7 : List Value}
    (aC_Call : PySem.W.nsIn K mainGlobals "Call" = some (some (.ref C_Call)))
    (pg_Call : PySem.W.plainGet K C_Call Str.empty = true)
    (hd_Call : PySem.W.hasDictIn K C_Call = true)
    (po_Call : PySem.W.plainOver K C_Call = true)
    (sa_Call : PySem.W.findIn K (.ref C_Call) "__setattr__" = some (some (.builtin "object.__setattr__")))
    (mk_Call : PySem.W.makesIn K C_Call = true)
    (kc_Call : PySem.W.keepIn K (.ref C_Call) = true)
    (na_Call_name : PySem.W.findIn K (.ref C_Call) "name" = some none)
    (na_Call_indexes : PySem.W.findIn K (.ref C_Call) "indexes" = some none)
    (na_Call_named : PySem.W.findIn K (.ref C_Call) "named" = some none)
    (fa_cl_Call : PySem.W.findIn K (.ref C_Call) "__class__" = some (some (.builtin "object.__class__")))
    (fa_ob_Call : PySem.W.mroIn K C_Call (.type "object") = some true)
    (fa_ki_Call : PySem.W.kitOne K (.ref C_Call) (.ref C_Call) = some true)
    (fa_nNoneType_Call : PySem.W.notFirst K C_Call (.type "NoneType") = true)
    (fa_nstr_Call : PySem.W.notFirst K C_Call (.type "str") = true)
    (fa_ntuple_Call : PySem.W.notFirst K C_Call (.type "tuple") = true)
    (fa_nint_Call : PySem.W.notFirst K C_Call (.type "int") = true)
    (fa_kNoneType_Call : PySem.W.kitOne K (.type "NoneType") (.ref C_Call) = some false)
    (fa_kstr_Call : PySem.W.kitOne K (.type "str") (.ref C_Call) = some false)
    (fa_ktuple_Call : PySem.W.kitOne K (.type "tuple") (.ref C_Call) = some false)
    (fa_kint_Call : PySem.W.kitOne K (.type "int") (.ref C_Call) = some false)
    (fa_gt_Call : PySem.W.specialIn K (.builtin "object.__class__") "__get__" = some (some (.builtin "getset_descriptor.__get__")))
    (fa_tk_Call : PySem.W.takesIn K (.builtin "object.__class__") = some true)
    (fa_k_ne : PySem.W.findIn K (.ref C_Call) "__ne__" = some (some (.builtin "object.__ne__")))
    (fa_k_ob : PySem.W.mroIn K C_Call (.type "object") = some true)
    (a1 : PySem.W.findIn K (.ref C_Call) "__init__" = some (some (.ref f1)))
    (i1 : PySem.W.isFn K (.ref f1) = true)
    (l1 : K.lookup f1 = some ⟨oc1, od1, .func (PySem.W.fnOf "__init__" "Call.__init__" (defArgs s_Call___init__) (defBody s_Call___init__) (defScope s_Call___init__) .none kV1 dc1 pm1 an1 cd1 ct1), sl1⟩) (c1 : PySem.W.codeIn K cd1 "Call.__init__" = true) (k1 : PySem.W.keepIn K (.ref f1) = true)
    (a2_Call : PySem.W.findIn K (.ref C_Call) "size" = some (some (.ref p2)))
    (gp2 : PySem.W.specialIn K (.ref p2) "__get__" = some (some (.builtin "property.__get__")))
    (tp2 : PySem.W.takesIn K (.ref p2) = some true)
    (rp2 : PySem.W.recIn K p2 "property" = some (.ref f2 :: rs2))
    (l2 : K.lookup f2 = some ⟨oc2, od2, .func (PySem.W.fnOf "size" "Call.size" (defArgs s_Call_size) (defBody s_Call_size) (defScope s_Call_size) .none kV2 dc2 pm2 an2 cd2 ct2), sl2⟩) (c2 : PySem.W.codeIn K cd2 "Call.size" = true) (k2 : PySem.W.keepIn K (.ref f2) = true)
    (a3_Call : PySem.W.findIn K (.ref C_Call) "__eq__" = some (some (.ref f3)))
    (i3 : PySem.W.isFn K (.ref f3) = true)
    (l3 : K.lookup f3 = some ⟨oc3, od3, .func (PySem.W.fnOf "__eq__" "Call.__eq__" (defArgs s_Call___eq__) (defBody s_Call___eq__) (defScope s_Call___eq__) .none kV3 dc3 pm3 an3 cd3 ct3), sl3⟩) (c3 : PySem.W.codeIn K cd3 "Call.__eq__" = true) (k3 : PySem.W.keepIn K (.ref f3) = true)
    (a4_Call : PySem.W.findIn K (.ref C_Call) "__str__" = some (some (.ref f4)))
    (i4 : PySem.W.isFn K (.ref f4) = true)
    (l4 : K.lookup f4 = some ⟨oc4, od4, .func (PySem.W.fnOf "__str__" "Call.__str__" (defArgs s_Call___str__) (defBody s_Call___str__) (defScope s_Call___str__) .none kV4 dc4 pm4 an4 cd4 ct4), sl4⟩) (c4 : PySem.W.codeIn K cd4 "Call.__str__" = true) (k4 : PySem.W.keepIn K (.ref f4) = true)
    (a5 : PySem.W.nsIn K mainGlobals "_law_draws" = some (some (.ref f5))) (l5 : K.lookup f5 = some ⟨oc5, od5, .func (PySem.W.fnOf "_law_draws" "_law_draws" (defArgs s__law_draws) (defBody s__law_draws) (defScope s__law_draws) .none kV5 dc5 pm5 an5 cd5 ct5), sl5⟩) (c5 : PySem.W.codeIn K cd5 "_law_draws" = true) (k5 : PySem.W.keepIn K (.ref f5) = true)
    (a6 : PySem.W.nsIn K mainGlobals "_law_pick" = some (some (.ref f6))) (l6 : K.lookup f6 = some ⟨oc6, od6, .func (PySem.W.fnOf "_law_pick" "_law_pick" (defArgs s__law_pick) (defBody s__law_pick) (defScope s__law_pick) .none kV6 dc6 pm6 an6 cd6 ct6), sl6⟩) (c6 : PySem.W.codeIn K cd6 "_law_pick" = true) (k6 : PySem.W.keepIn K (.ref f6) = true)
    (at7 : PySem.W.findCls K (.ref C_Call) (.type "type") "of" = some (.get (.builtin "staticmethod.__get__") (.ref p7) .none (.ref C_Call)))
    (rc7 : PySem.W.recIn K p7 "staticmethod" = some (.ref f7 :: rs7))
    (rd7 : PySem.W.readsIn K C_Call (.type "type") = true)
    (ga7 : PySem.W.specialIn K (.ref C_Call) "__getattribute__" = some (some (.builtin "type.__getattribute__")))
    (l7 : K.lookup f7 = some ⟨oc7, od7, .func (PySem.W.fnOf "of" "Call.of" (defArgs s_Call_of) (defBody s_Call_of) (defScope s_Call_of) .none kV7 dc7 pm7 an7 cd7 ct7), sl7⟩) (c7 : PySem.W.codeIn K cd7 "Call.of" = true) (k7 : PySem.W.keepIn K (.ref f7) = true)
    (a8 : PySem.W.nsIn K mainGlobals "_law_one" = some (some (.ref f8))) (l8 : K.lookup f8 = some ⟨oc8, od8, .func (PySem.W.fnOf "_law_one" "_law_one" (defArgs s__law_one) (defBody s__law_one) (defScope s__law_one) .none kV8 dc8 pm8 an8 cd8 ct8), sl8⟩) (c8 : PySem.W.codeIn K cd8 "_law_one" = true) (k8 : PySem.W.keepIn K (.ref f8) = true)
    (a9 : PySem.W.nsIn K mainGlobals "_law_word" = some (some (.ref f9))) (l9 : K.lookup f9 = some ⟨oc9, od9, .func (PySem.W.fnOf "_law_word" "_law_word" (defArgs s__law_word) (defBody s__law_word) (defScope s__law_word) .none kV9 dc9 pm9 an9 cd9 ct9), sl9⟩) (c9 : PySem.W.codeIn K cd9 "_law_word" = true) (k9 : PySem.W.keepIn K (.ref f9) = true)
    (a10 : PySem.W.nsIn K mainGlobals "_law_is" = some (some (.ref f10))) (l10 : K.lookup f10 = some ⟨oc10, od10, .func (PySem.W.fnOf "_law_is" "_law_is" (defArgs s__law_is) (defBody s__law_is) (defScope s__law_is) .none kV10 dc10 pm10 an10 cd10 ct10), sl10⟩) (c10 : PySem.W.codeIn K cd10 "_law_is" = true) (k10 : PySem.W.keepIn K (.ref f10) = true)
    (a11 : PySem.W.nsIn K mainGlobals "_law_others" = some (some (.ref f11))) (l11 : K.lookup f11 = some ⟨oc11, od11, .func (PySem.W.fnOf "_law_others" "_law_others" (defArgs s__law_others) (defBody s__law_others) (defScope s__law_others) .none kV11 dc11 pm11 an11 cd11 ct11), sl11⟩) (c11 : PySem.W.codeIn K cd11 "_law_others" = true) (k11 : PySem.W.keepIn K (.ref f11) = true)
    (a12 : PySem.W.nsIn K mainGlobals "_law_names" = some (some (.ref f12))) (l12 : K.lookup f12 = some ⟨oc12, od12, .func (PySem.W.fnOf "_law_names" "_law_names" (defArgs s__law_names) (defBody s__law_names) (defScope s__law_names) .none kV12 dc12 pm12 an12 cd12 ct12), sl12⟩) (c12 : PySem.W.codeIn K cd12 "_law_names" = true) (k12 : PySem.W.keepIn K (.ref f12) = true)
    (a13 : PySem.W.nsIn K mainGlobals "_law_right" = some (some (.ref f13))) (l13 : K.lookup f13 = some ⟨oc13, od13, .func (PySem.W.fnOf "_law_right" "_law_right" (defArgs s__law_right) (defBody s__law_right) (defScope s__law_right) .none kV13 dc13 pm13 an13 cd13 ct13), sl13⟩) (c13 : PySem.W.codeIn K cd13 "_law_right" = true) (k13 : PySem.W.keepIn K (.ref f13) = true)
    (a14 : PySem.W.nsIn K mainGlobals "_law_plain" = some (some (.ref f14))) (l14 : K.lookup f14 = some ⟨oc14, od14, .func (PySem.W.fnOf "_law_plain" "_law_plain" (defArgs s__law_plain) (defBody s__law_plain) (defScope s__law_plain) .none kV14 dc14 pm14 an14 cd14 ct14), sl14⟩) (c14 : PySem.W.codeIn K cd14 "_law_plain" = true) (k14 : PySem.W.keepIn K (.ref f14) = true)
    (a15 : PySem.W.nsIn K mainGlobals "law" = some (some (.ref f15))) (l15 : K.lookup f15 = some ⟨oc15, od15, .func (PySem.W.fnOf "law" "law" (defArgs s_law) (defBody s_law) (defScope s_law) .none kV15 dc15 pm15 an15 cd15 ct15), sl15⟩) (c15 : PySem.W.codeIn K cd15 "law" = true) (k15 : PySem.W.keepIn K (.ref f15) = true)
    (z_range : PySem.W.nsIn K mainGlobals "range" = some none) (z_sorted : PySem.W.nsIn K mainGlobals "sorted" = some none) (z_max : PySem.W.nsIn K mainGlobals "max" = some none) (z_dict : PySem.W.nsIn K mainGlobals "dict" = some none) (z_zip : PySem.W.nsIn K mainGlobals "zip" = some none) (z_tuple : PySem.W.nsIn K mainGlobals "tuple" = some none) (z_int : PySem.W.nsIn K mainGlobals "int" = some none) (z_list : PySem.W.nsIn K mainGlobals "list" = some none) (z_repr : PySem.W.nsIn K mainGlobals "repr" = some none) (z_str : PySem.W.nsIn K mainGlobals "str" = some none) (z_len : PySem.W.nsIn K mainGlobals "len" = some none) (z_any : PySem.W.nsIn K mainGlobals "any" = some none) (z_isinstance : PySem.W.nsIn K mainGlobals "isinstance" = some none) (z_abs : PySem.W.nsIn K mainGlobals "abs" = some none) (z_min : PySem.W.nsIn K mainGlobals "min" = some none) :
    ∃ fd : FuncData, (∀ (s : Shared) (v : Value), BindsTo s fd ⟨[v], []⟩ [("_law_script", v)]) ∧ ∀ base : Heap, K.In base → base.Ns mainGlobals mg → FnG l.prog w K mg base CX0 11 fa fd ["_law_script"] (sp_law K) := by
  have e := hfa.symm.trans (PySem.W.mg_of X G a15)
  cases e
  have T : Txt K mg C_Call := ⟨PySem.W.mg_none_of X G z_range, PySem.W.mg_none_of X G z_sorted, PySem.W.mg_none_of X G z_max, PySem.W.mg_none_of X G z_dict, PySem.W.mg_none_of X G z_zip, PySem.W.mg_none_of X G z_tuple, PySem.W.mg_none_of X G z_int, PySem.W.mg_none_of X G z_list, PySem.W.mg_none_of X G z_repr, PySem.W.mg_none_of X G z_str, PySem.W.mg_none_of X G z_len, PySem.W.mg_none_of X G z_any, PySem.W.mg_none_of X G z_isinstance, PySem.W.mg_none_of X G z_abs, PySem.W.mg_none_of X G z_min, ⟨pg_Call, hd_Call, po_Call, sa_Call⟩, ⟨_, PySem.W.mg_of X G aC_Call, rfl⟩, na_Call_name, na_Call_indexes, na_Call_named, (fam_cons ⟨pg_Call, hd_Call, po_Call, sa_Call⟩ fam_nil), (fam_cons na_Call_name fam_nil), (fam_cons na_Call_indexes fam_nil), (fam_cons na_Call_named fam_nil), (fam_cons fa_cl_Call fam_nil), (fam_cons fa_ob_Call fam_nil), (fam_cons fa_ki_Call fam_nil), (fam_cons fa_nNoneType_Call fam_nil), (fam_cons fa_nstr_Call fam_nil), (fam_cons fa_ntuple_Call fam_nil), (fam_cons fa_nint_Call fam_nil), fa_kNoneType_Call, fa_kstr_Call, fa_ktuple_Call, fa_kint_Call, fa_gt_Call, fa_tk_Call, (fam_cons (fam_cons nf_self fam_nil) fam_nil), fa_k_ne, fa_k_ob⟩
  have F1 := fun_mk (st := s_Call___init__) l1 c1 k1
  have F2 := fun_mk (st := s_Call_size) l2 c2 k2
  have b2 := F2.binds (ps := ["self"]) fun _ _ _ _ _ _ us hl => match us, hl with | [_], _ => rfl
  have F3 := fun_mk (st := s_Call___eq__) l3 c3 k3
  have b3 := F3.binds (ps := ["self", "other"]) fun _ _ _ _ _ _ us hl => match us, hl with | [_, _], _ => rfl
  have F4 := fun_mk (st := s_Call___str__) l4 c4 k4
  have b4 := F4.binds (ps := ["self"]) fun _ _ _ _ _ _ us hl => match us, hl with | [_], _ => rfl
  have F5 := fun_mk (st := s__law_draws) l5 c5 k5
  have b5 := F5.binds (ps := ["_law_script", "_law_at"]) fun _ _ _ _ _ _ us hl => match us, hl with | [_, _], _ => rfl
  have F6 := fun_mk (st := s__law_pick) l6 c6 k6
  have b6 := F6.binds (ps := ["_law_draws_here", "_law_many"]) fun _ _ _ _ _ _ us hl => match us, hl with | [_, _], _ => rfl
  have F7 := fun_mk (st := s_Call_of) l7 c7 k7
  have b7 := F7.binds (ps := ["function_name", "indexes", "named"]) fun _ _ _ _ _ _ us hl => match us, hl with | [_, _, _], _ => rfl
  have F8 := fun_mk (st := s__law_one) l8 c8 k8
  have b8 := F8.binds (ps := ["_law_draws_here", "_law_some"]) fun _ _ _ _ _ _ us hl => match us, hl with | [_, _], _ => rfl
  have F9 := fun_mk (st := s__law_word) l9 c9 k9
  have b9 := F9.binds (ps := ["_law_draws_here"]) fun _ _ _ _ _ _ us hl => match us, hl with | [_], _ => rfl
  have F10 := fun_mk (st := s__law_is) l10 c10 k10
  have b10 := F10.binds (ps := ["_law_call", "_law_name", "_law_indexes", "_law_named"]) fun _ _ _ _ _ _ us hl => match us, hl with | [_, _, _, _], _ => rfl
  have F11 := fun_mk (st := s__law_others) l11 c11 k11
  have b11 := F11.binds (ps := ["_law_draws_here", "_law_name", "_law_indexes", "_law_named"]) fun _ _ _ _ _ _ us hl => match us, hl with | [_, _, _, _], _ => rfl
  have F12 := fun_mk (st := s__law_names) l12 c12 k12
  have b12 := F12.binds (ps := ["_law_draws_here", "_law_many"]) fun _ _ _ _ _ _ us hl => match us, hl with | [_, _], _ => rfl
  have F13 := fun_mk (st := s__law_right) l13 c13 k13
  have b13 := F13.binds (ps := ["_law_draws_here"]) fun _ _ _ _ _ _ us hl => match us, hl with | [_], _ => rfl
  have F14 := fun_mk (st := s__law_plain) l14 c14 k14
  have b14 := F14.binds (ps := ["_law_name", "_law_a", "_law_b", "_law_c"]) fun _ _ _ _ _ _ us hl => match us, hl with | [_, _, _, _], _ => rfl
  have F15 := fun_mk (st := s_law) l15 c15 k15
  refine ⟨PySem.W.fnOf "law" "law" (defArgs s_law) (defBody s_law) (defScope s_law) .none kV15 dc15 pm15 an15 cd15 ct15, fun s v => .of_eq rfl, fun base _ _ => ?_⟩
  have U_Call___init__ : UseC l.prog w K mg base 2 "Call" C_Call (sp_Call___init__ C_Call) := ⟨_, ok_Call___init__ F1 T, ⟨mk_Call, a1, i1, kc_Call⟩, PySem.W.mg_of X G aC_Call⟩
  have W_Call___init___1 : UseCW l.prog w K mg base 2 "Call" C_Call ["line"] (spw_Call___init___1 C_Call) := ⟨_, okw_Call___init___1 F1 T, ⟨mk_Call, a1, i1, kc_Call⟩, PySem.W.mg_of X G aC_Call⟩
  have W_Call___init___3 : UseCW l.prog w K mg base 2 "Call" C_Call ["tag", "line", "note"] (spw_Call___init___3 C_Call) := ⟨_, okw_Call___init___3 F1 T, ⟨mk_Call, a1, i1, kc_Call⟩, PySem.W.mg_of X G aC_Call⟩
  have U_Call_size : UseP l.prog w K mg base 2 (FamS [C_Call]) "size" ["self"] (sp_Call_size C_Call) := ⟨p2, _, _, ok_Call_size F2 T, b2, (fam_cons ⟨⟨pg_Call, hd_Call, po_Call, sa_Call⟩, ⟨a2_Call, gp2, tp2, ⟨_, rp2⟩⟩⟩ fam_nil)⟩
  have U_Call___eq__ : UseMF l.prog w K mg base 2 (FamS [C_Call]) "__eq__" (sp_Call___eq__ K C_Call) := ⟨_, fnr (ok_Call___eq__ F3 T) b3, (fam_cons ⟨a3_Call, i3, k3⟩ fam_nil)⟩
  have U_Call___str__ : UseMF l.prog w K mg base 2 (FamS [C_Call]) "__str__" (sp_Call___str__ C_Call) := ⟨_, fnr (ok_Call___str__ F4 T) b4, (fam_cons ⟨a4_Call, i4, k4⟩ fam_nil)⟩
  have U__law_draws : Use l.prog w K mg base 2 "_law_draws" ["_law_script", "_law_at"] (sp__law_draws K) := ⟨_, _, ok__law_draws F5 T, PySem.W.mg_of X G a5, k5, b5⟩
  have U__law_pick : Use l.prog w K mg base 2 "_law_pick" ["_law_draws_here", "_law_many"] (sp__law_pick) := ⟨_, _, ok__law_pick F6 T, PySem.W.mg_of X G a6, k6, b6⟩
  have U_Call_of : UseSM l.prog w K mg base 4 C_Call "of" (sp_Call_of C_Call) := ⟨.type "type", p7, f7, fnrX (ok_Call_of F7 T U_Call___init__) b7, ⟨rd7, ga7⟩, ⟨at7, ⟨_, rc7⟩, k7⟩⟩
  have U__law_one : Use l.prog w K mg base 4 "_law_one" ["_law_draws_here", "_law_some"] (sp__law_one K) := ⟨_, _, ok__law_one F8 T U__law_pick, PySem.W.mg_of X G a8, k8, b8⟩
  have U__law_word : Use l.prog w K mg base 6 "_law_word" ["_law_draws_here"] (sp__law_word) := ⟨_, _, ok__law_word F9 T U__law_pick U__law_one, PySem.W.mg_of X G a9, k9, b9⟩
  have U__law_is : UseGd l.prog w K mg base 6 "_law_is" ["_law_call", "_law_name", "_law_indexes", "_law_named"] (sp__law_is C_Call) := ⟨_, _, ok__law_is F10 T U_Call_size U_Call___str__, PySem.W.mg_of X G a10, k10, b10⟩
  have U__law_others : Use l.prog w K mg base 6 "_law_others" ["_law_draws_here", "_law_name", "_law_indexes", "_law_named"] (sp__law_others C_Call) := ⟨_, _, ok__law_others F11 T U_Call_of U__law_pick U__law_one, PySem.W.mg_of X G a11, k11, b11⟩
  have U__law_names : Use l.prog w K mg base 8 "_law_names" ["_law_draws_here", "_law_many"] (sp__law_names) := ⟨_, _, ok__law_names F12 T U__law_word, PySem.W.mg_of X G a12, k12, b12⟩
  have U__law_right : UseGd l.prog w K mg base 9 "_law_right" ["_law_draws_here"] (sp__law_right) := ⟨_, _, ok__law_right F13 T U_Call_of U_Call___eq__ U_Call___str__ U__law_pick U__law_word U__law_names U__law_is U__law_others, PySem.W.mg_of X G a13, k13, b13⟩
  have U__law_plain : UseGd l.prog w K mg base 9 "_law_plain" ["_law_name", "_law_a", "_law_b", "_law_c"] (sp__law_plain) := ⟨_, _, ok__law_plain F14 T U_Call___init__ U_Call_of U_Call___eq__ U__law_is W_Call___init___1 W_Call___init___3, PySem.W.mg_of X G a14, k14, b14⟩
  exact ok_law F15 T U__law_draws U__law_pick U__law_word U__law_right U__law_plain
theorem walk {l : PySem.W.OpenLaw} {q : Program} {loose : List Str} {XP : (Str → Option Value) → Heap → Prop} {YP : World → Heap → Prop} {d : DefRec} {K : Params → PySem.W.Frag} (hn : l.most = some 63) (hdf : d.params.defaults = [])
    (hY : ∀ (w : World) (h : Heap), YP w h → (K w.params).In h)
    (F : ∀ (w : World) (mg : Str → Option Value) (fa : Addr) (h : Heap), (K w.params).In h → h.Ns mainGlobals mg → mg d.name = some (.ref fa) →
      ∃ fd : FuncData, (∀ (s : Shared) (u : Value), BindsTo s fd ⟨[u], []⟩ [("_law_script", u)]) ∧ ∀ base : Heap, (K w.params).In base → base.Ns mainGlobals mg → FnG l.prog w (K w.params) mg base CX0 11 fa fd ["_law_script"] (sp_law (K w.params))) :
    PySem.W.WalkO q loose XP YP l.row.toRowW d [] (fun f vs => PySem.call f vs) :=
  walk_ofG (n := 63) (k := 11) (x := "_law_script") (CX := fun _ => CX0) (sp := fun w => sp_law (K w.params)) hn (by decide) hdf ⟨rfl, by decide, by decide⟩ hY F (fun _ _ a ns hl _ hS => ⟨a, ns, rfl, hS, hl, fun _ => rfl⟩) fun _ _ _ _ _ z => z
end My
open PySem PySem.W PyProof.Rows
set_option maxRecDepth 100000 in
set_option maxHeartbeats 0 in
theorem PySem.Challenge.cw_silentswaps_k25_calls_made_holds : PySem.Challenge.rw_silentswaps_k25_calls_made.Holds := by
  w_on; o_law; k_head; (case hw => w_witness2)
  k_fill
  refine My.walk (l := PySem.Challenge.rw_silentswaps_k25_calls_made) rfl rfl (fun w h Y => PySem.W.kIn_of Y) ?F
  case F =>
    intro w mg fa h KX G hmg
    refine' My.all_mk KX G hmg ?aC_Call ?pg_Call ?hd_Call ?po_Call ?sa_Call ?mk_Call ?kc_Call ?na_Call_name ?na_Call_indexes ?na_Call_named ?fa_cl_Call ?fa_ob_Call ?fa_ki_Call ?fa_nNoneType_Call ?fa_nstr_Call ?fa_ntuple_Call ?fa_nint_Call ?fa_kNoneType_Call ?fa_kstr_Call ?fa_ktuple_Call ?fa_kint_Call ?fa_gt_Call ?fa_tk_Call ?fa_k_ne ?fa_k_ob ?a1 ?i1 ?l1 ?c1 ?k1 ?a2_Call ?gp2 ?tp2 ?rp2 ?l2 ?c2 ?k2 ?a3_Call ?i3 ?l3 ?c3 ?k3 ?a4_Call ?i4 ?l4 ?c4 ?k4 ?a5 ?l5 ?c5 ?k5 ?a6 ?l6 ?c6 ?k6 ?at7 ?rc7 ?rd7 ?ga7 ?l7 ?c7 ?k7 ?a8 ?l8 ?c8 ?k8 ?a9 ?l9 ?c9 ?k9 ?a10 ?l10 ?c10 ?k10 ?a11 ?l11 ?c11 ?k11 ?a12 ?l12 ?c12 ?k12 ?a13 ?l13 ?c13 ?k13 ?a14 ?l14 ?c14 ?k14 ?a15 ?l15 ?c15 ?k15 ?z_range ?z_sorted ?z_max ?z_dict ?z_zip ?z_tuple ?z_int ?z_list ?z_repr ?z_str ?z_len ?z_any ?z_isinstance ?z_abs ?z_min
    (case aC_Call => k_is)
    (case pg_Call => k_is)
    (case hd_Call => k_is)
    (case po_Call => k_is)
    (case sa_Call => k_is)
    (case mk_Call => k_is)
    (case kc_Call => k_is)
    (case na_Call_name => k_is)
    (case na_Call_indexes => k_is)
    (case na_Call_named => k_is)
    (case fa_cl_Call => first | k_is | rfl)
    (case fa_ob_Call => first | k_is | rfl)
    (case fa_ki_Call => first | k_is | rfl)
    (case fa_nNoneType_Call => first | k_is | rfl)
    (case fa_nstr_Call => first | k_is | rfl)
    (case fa_ntuple_Call => first | k_is | rfl)
    (case fa_nint_Call => first | k_is | rfl)
    (case fa_kNoneType_Call => first | k_is | rfl)
    (case fa_kstr_Call => first | k_is | rfl)
    (case fa_ktuple_Call => first | k_is | rfl)
    (case fa_kint_Call => first | k_is | rfl)
    (case fa_gt_Call => first | k_is | rfl)
    (case fa_tk_Call => first | k_is | rfl)
    (case fa_k_ne => first | k_is | rfl)
    (case fa_k_ob => first | k_is | rfl)
    (case a1 => k_is)
    (case i1 => k_is)
    (case l1 => k_is)
    (case c1 => k_is)
    (case k1 => k_is)
    (case a2_Call => k_is)
    (case gp2 => k_is)
    (case tp2 => k_is)
    (case rp2 => first | k_is | rfl)
    (case l2 => k_is)
    (case c2 => k_is)
    (case k2 => k_is)
    (case a3_Call => k_is)
    (case i3 => k_is)
    (case l3 => k_is)
    (case c3 => k_is)
    (case k3 => k_is)
    (case a4_Call => k_is)
    (case i4 => k_is)
    (case l4 => k_is)
    (case c4 => k_is)
    (case k4 => k_is)
    (case a5 => k_is)
    (case l5 => k_is)
    (case c5 => k_is)
    (case k5 => k_is)
    (case a6 => k_is)
    (case l6 => k_is)
    (case c6 => k_is)
    (case k6 => k_is)
    (case at7 => first | k_is | rfl)
    (case rc7 => first | k_is | rfl)
    (case rd7 => first | k_is | rfl)
    (case ga7 => first | k_is | rfl)
    (case l7 => k_is)
    (case c7 => k_is)
    (case k7 => k_is)
    (case a8 => k_is)
    (case l8 => k_is)
    (case c8 => k_is)
    (case k8 => k_is)
    (case a9 => k_is)
    (case l9 => k_is)
    (case c9 => k_is)
    (case k9 => k_is)
    (case a10 => k_is)
    (case l10 => k_is)
    (case c10 => k_is)
    (case k10 => k_is)
    (case a11 => k_is)
    (case l11 => k_is)
    (case c11 => k_is)
    (case k11 => k_is)
    (case a12 => k_is)
    (case l12 => k_is)
    (case c12 => k_is)
    (case k12 => k_is)
    (case a13 => k_is)
    (case l13 => k_is)
    (case c13 => k_is)
    (case k13 => k_is)
    (case a14 => k_is)
    (case l14 => k_is)
    (case c14 => k_is)
    (case k14 => k_is)
    (case a15 => k_is)
    (case l15 => k_is)
    (case c15 => k_is)
    (case k15 => k_is)
    (case z_range => k_is)
    (case z_sorted => k_is)
    (case z_max => k_is)
    (case z_dict => k_is)
    (case z_zip => k_is)
    (case z_tuple => k_is)
    (case z_int => k_is)
    (case z_list => k_is)
    (case z_repr => k_is)
    (case z_str => k_is)
    (case z_len => k_is)
    (case z_any => k_is)
    (case z_isinstance => k_is)
    (case z_abs => k_is)
    (case z_min => k_is)
#print axioms PySem.Challenge.cw_silentswaps_k25_calls_made_holds
