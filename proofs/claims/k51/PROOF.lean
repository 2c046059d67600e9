import PyProof.Rows.All
import Wide.All
import OpenK.AllK
import Wide.FinOn
import KE.KExcSuper
import KE.KExcIs
import KE.GoesEnum
import KE.KCallOwn
import KE.DataMinMax
import PyProof.StrOps2
import PyProof.StrBlock2
import HandS.ForMost
import HandS.Wide
import HandS.IsInst
import HandS.DictComp
import HandS.SortInts
import HandS.TupAny
import HandS.Conv
import HandS.Strs
import HandS.Walk
import HandS.More
import HandS.Star
import HandS.Codes
import HandS.ExcInit
import HandS.Nested
import HandS.ExcField
import HandS.ExcOwn
import HandS.ExcIs
import HandS.WordsExc
import HandS.Property
import HandS.RaiseMore
import HandS.Text
import HandS.MakeKwOnly
import HandS.OwnIter
import HandS.IterNext
import PyProof.InstNe
import HandS.ClsMeth
import PySem.Challenge.RW_silentswaps_k51_slips_read
set_option Elab.async false
set_option maxRecDepth 100000

set_option maxHeartbeats 4000000
/-! Rd: what the proofs of this repo share. Frames (Kp), data in the heap (Dt), defs as callers use them (Use), readings as rules from back to front (r_..), the tactic rows walk_at "s" (one step), walk_at "S" (many). -/
namespace Rd
open PySem PySem.Spec L2

/-! ### frames -/
def Kp (ex : List Addr) (H H' : Hp) : Prop := ∀ b o, H b = some o → b ∉ ex → H' b = some o
theorem Kp.refl (ex : List Addr) (H : Hp) : Kp ex H H := fun _ _ e _ => e
theorem Kp.trans {ex : List Addr} {H H1 H2 : Hp} (a : Kp ex H H1) (b : Kp ex H1 H2) : Kp ex H H2 := fun c o e n => b c o (a c o e n) n
theorem Kp.mono {ex ex' : List Addr} {H H' : Hp} (a : Kp ex H H') (s : ∀ b ∈ ex, b ∈ ex') : Kp ex' H H' := fun c o e n => a c o e fun m => n (s c m)
theorem Kp.nil {ex : List Addr} {H H' : Hp} (a : Kp [] H H') : Kp ex H H' := a.mono fun _ m => nomatch m
theorem Kp.drop {l : Addr} {ex : List Addr} {H H' : Hp} (a : Kp (l :: ex) H H') (n : H l = none) : Kp ex H H' := fun c o e m => by
  refine a c o e fun z => ?_
  rcases List.mem_cons.mp z with q | q
  · subst q
    rw [n] at e
    cases e
  · exact m q
theorem Kp.free {ex : List Addr} {H H' : Hp} {q : Addr} (a : Kp ex H H') (n : H' q = none) (m : q ∉ ex) : H q = none := by
  cases e : H q with
  | none => rfl
  | some o =>
    rw [a q o e m] at n
    cases n
theorem Kp.new {ex : List Addr} {H : Hp} {p : Addr} {o : HO} (n : H p = none) : Kp ex H (upd H p o) := fun b u e _ => by
  rw [upd_ne (ne_of_none e n)]
  exact e
theorem Kp.put {ex : List Addr} {H : Hp} {p : Addr} {o : HO} (m : p ∈ ex) : Kp ex H (upd H p o) := fun b u e n => by
  rw [upd_ne fun (z : b = p) => n (z ▸ m)]
  exact e
theorem Kp.get {ex : List Addr} {H H' : Hp} {b : Addr} {o : HO} (a : Kp ex H H') (e : H b = some o) (n : b ∉ ex) : H' b = some o := a b o e n
theorem Kp.sql {K : PySem.W.Frag} {H H' : Hp} {a : Addr} {xs : List V} (k : Kp [] H H') (h : SqL K H a xs) : SqL K H' a xs :=
  Same.seq (fun b o e => k b o e (by simp)) h
theorem not_nil {b : Addr} : b ∉ ([] : List Addr) := fun m => nomatch m
theorem not_one {b p : Addr} (h : b ≠ p) : b ∉ [p] := fun m => h (List.mem_singleton.mp m)
theorem not_two {b p q : Addr} (h : b ≠ p) (h' : b ≠ q) : b ∉ [p, q] := fun m => by
  rcases List.mem_cons.mp m with e | e
  · exact h e
  · exact h' (List.mem_singleton.mp e)
theorem ne_none {H : Hp} {a b : Addr} {o : HO} (h : H a = some o) (h' : H b = none) : b ≠ a := fun e => ne_of_none h h' e.symm

/-! ### data -/
mutual
inductive Dt (ex : List Addr) (H : Hp) : V → PyData → Prop
  | non : Dt ex H .non .none
  | bl (b : Bool) : Dt ex H (.bl b) (.bool b)
  | int (i : Int) : Dt ex H (.int i) (.int i)
  | str (x : Str) : Dt ex H (.str x) (.str x)
  | lst {a : Addr} {xs : List V} {ds : List PyData} : a ∉ ex → H a = some (.lst xs) → DtAll ex H xs ds → Dt ex H (.ref a) (.list ds)
  | tup {a : Addr} {xs : List V} {ds : List PyData} : a ∉ ex → H a = some (.tup xs) → DtAll ex H xs ds → Dt ex H (.ref a) (.tuple ds)
inductive DtAll (ex : List Addr) (H : Hp) : List V → List PyData → Prop
  | nil : DtAll ex H [] []
  | cons {v : V} {vs : List V} {d : PyData} {ds : List PyData} : Dt ex H v d → DtAll ex H vs ds → DtAll ex H (v :: vs) (d :: ds)
end
mutual
theorem Dt.mono' {ex ex' : List Addr} {H H' : Hp} (k : Kp ex H H') (s : ∀ b ∈ ex', b ∈ ex) : ∀ (d : PyData) (v : V), Dt ex H v d → Dt ex' H' v d
  | .none, _, h => by cases h; exact .non
  | .bool b, _, h => by cases h; exact .bl b
  | .int i, _, h => by cases h; exact .int i
  | .str x, _, h => by cases h; exact .str x
  | .list ds, _, h => by
    cases h with
    | lst n e al => exact .lst (fun m => n (s _ m)) (k _ _ e n) (DtAll.mono' k s ds _ al)
  | .tuple ds, _, h => by
    cases h with
    | tup n e al => exact .tup (fun m => n (s _ m)) (k _ _ e n) (DtAll.mono' k s ds _ al)
  | .dict _, _, h => by cases h
theorem DtAll.mono' {ex ex' : List Addr} {H H' : Hp} (k : Kp ex H H') (s : ∀ b ∈ ex', b ∈ ex) : ∀ (ds : List PyData) (vs : List V), DtAll ex H vs ds → DtAll ex' H' vs ds
  | [], _, h => by cases h; exact .nil
  | d :: ds, _, h => by
    cases h with
    | cons h1 h2 => exact .cons (Dt.mono' k s d _ h1) (DtAll.mono' k s ds _ h2)
end
theorem Dt.mono {ex : List Addr} {H H' : Hp} {v : V} {d : PyData} (h : Dt ex H v d) (k : Kp ex H H') : Dt ex H' v d := Dt.mono' k (fun _ m => m) d v h
theorem DtAll.mono {ex : List Addr} {H H' : Hp} {vs : List V} {ds : List PyData} (h : DtAll ex H vs ds) (k : Kp ex H H') : DtAll ex H' vs ds := DtAll.mono' k (fun _ m => m) ds vs h
theorem Dt.less {ex ex' : List Addr} {H : Hp} {v : V} {d : PyData} (h : Dt ex H v d) (s : ∀ b ∈ ex', b ∈ ex) : Dt ex' H v d := Dt.mono' (Kp.refl ex H) s d v h
theorem DtAll.less {ex ex' : List Addr} {H : Hp} {vs : List V} {ds : List PyData} (h : DtAll ex H vs ds) (s : ∀ b ∈ ex', b ∈ ex) : DtAll ex' H vs ds := DtAll.mono' (Kp.refl ex H) s ds vs h
mutual
theorem Dt.more' {ex : List Addr} {H : Hp} {l : Addr} (n : H l = none) : ∀ (d : PyData) (v : V), Dt ex H v d → Dt (l :: ex) H v d
  | .none, _, h => by cases h; exact .non
  | .bool b, _, h => by cases h; exact .bl b
  | .int i, _, h => by cases h; exact .int i
  | .str x, _, h => by cases h; exact .str x
  | .list ds, _, h => by
    cases h with
    | lst m e al => exact .lst (fun z => (List.mem_cons.mp z).elim (ne_of_none e n) m) e (DtAll.more' n ds _ al)
  | .tuple ds, _, h => by
    cases h with
    | tup m e al => exact .tup (fun z => (List.mem_cons.mp z).elim (ne_of_none e n) m) e (DtAll.more' n ds _ al)
  | .dict _, _, h => by cases h
theorem DtAll.more' {ex : List Addr} {H : Hp} {l : Addr} (n : H l = none) : ∀ (ds : List PyData) (vs : List V), DtAll ex H vs ds → DtAll (l :: ex) H vs ds
  | [], _, h => by cases h; exact .nil
  | d :: ds, _, h => by
    cases h with
    | cons h1 h2 => exact .cons (Dt.more' n d _ h1) (DtAll.more' n ds _ h2)
end
/-- an address that is new to the heap is none of the data's -/
theorem Dt.more {ex : List Addr} {H : Hp} {v : V} {d : PyData} {l : Addr} (h : Dt ex H v d) (n : H l = none) : Dt (l :: ex) H v d := Dt.more' n d v h
theorem DtAll.more {ex : List Addr} {H : Hp} {vs : List V} {ds : List PyData} {l : Addr} (h : DtAll ex H vs ds) (n : H l = none) : DtAll (l :: ex) H vs ds := DtAll.more' n ds vs h
mutual
theorem Dt.dp' {K : PySem.W.Frag} {ex : List Addr} {H : Hp} : ∀ (d : PyData) (v : V), Dt ex H v d → Dp K H v d
  | .none, _, h => by cases h; exact .non
  | .bool b, _, h => by cases h; exact .bl b
  | .int i, _, h => by cases h; exact .int i
  | .str x, _, h => by cases h; exact .str x
  | .list ds, _, h => by
    cases h with
    | lst n e al => exact .lst (SqL.of e) (DtAll.dp' ds _ al)
  | .tuple ds, _, h => by
    cases h with
    | tup n e al => exact .tup (SqT.of e) (DtAll.dp' ds _ al)
  | .dict _, _, h => by cases h
theorem DtAll.dp' {K : PySem.W.Frag} {ex : List Addr} {H : Hp} : ∀ (ds : List PyData) (vs : List V), DtAll ex H vs ds → DpAll K H vs ds
  | [], _, h => by cases h; exact .nil
  | d :: ds, _, h => by
    cases h with
    | cons h1 h2 => exact .cons (Dt.dp' d _ h1) (DtAll.dp' ds _ h2)
end
theorem Dt.dp {K : PySem.W.Frag} {ex : List Addr} {H : Hp} {v : V} {d : PyData} (h : Dt ex H v d) : Dp K H v d := Dt.dp' d v h
theorem Dt.list {ex : List Addr} {H : Hp} {v : V} {ds : List PyData} (h : Dt ex H v (.list ds)) : ∃ a xs, v = .ref a ∧ a ∉ ex ∧ H a = some (.lst xs) ∧ DtAll ex H xs ds := by
  cases h with
  | lst n e al => exact ⟨_, _, rfl, n, e, al⟩
theorem Dt.tuple {ex : List Addr} {H : Hp} {v : V} {ds : List PyData} (h : Dt ex H v (.tuple ds)) : ∃ a xs, v = .ref a ∧ a ∉ ex ∧ H a = some (.tup xs) ∧ DtAll ex H xs ds := by
  cases h with
  | tup n e al => exact ⟨_, _, rfl, n, e, al⟩
theorem DtAll.length {ex : List Addr} {H : Hp} : ∀ {vs : List V} {ds : List PyData}, DtAll ex H vs ds → vs.length = ds.length
  | [], _, h => by cases h; rfl
  | _ :: _, _, h => by
    cases h with
    | cons _ h2 => exact congrArg (· + 1) (DtAll.length h2)
theorem DtAll.at {ex : List Addr} {H : Hp} : ∀ {vs : List V} {ds : List PyData} {i : Nat} {v : V}, DtAll ex H vs ds → vs[i]? = some v → ∃ d, ds[i]? = some d ∧ Dt ex H v d
  | [], _, i, v, h, e => by simp at e
  | _ :: _, _, 0, v, h, e => by
    cases h with
    | cons h1 _ =>
      cases e
      exact ⟨_, rfl, h1⟩
  | _ :: _, _, i + 1, v, h, e => by
    cases h with
    | cons _ h2 => exact DtAll.at (i := i) h2 e
theorem DtAll.append {ex : List Addr} {H : Hp} : ∀ {vs ws : List V} {ds es : List PyData}, DtAll ex H vs ds → DtAll ex H ws es → DtAll ex H (vs ++ ws) (ds ++ es)
  | [], _, _, _, h, g => by cases h; exact g
  | _ :: _, _, _, _, h, g => by
    cases h with
    | cons h1 h2 => exact .cons h1 (DtAll.append h2 g)
theorem DtAll.snoc {ex : List Addr} {H : Hp} {vs : List V} {ds : List PyData} {v : V} {d : PyData} (h : DtAll ex H vs ds) (g : Dt ex H v d) : DtAll ex H (vs ++ [v]) (ds ++ [d]) := h.append (.cons g .nil)
theorem DtAll.strs {ex : List Addr} {H : Hp} : ∀ {vs : List V} {ws : List Str}, DtAll ex H vs (ws.map PyData.str) → vs = ws.map V.str
  | [], [], _ => rfl
  | [], _ :: _, h => by cases h
  | _ :: _, [], h => by cases h
  | v :: vs, w :: ws, h => by
    cases h with
    | cons h1 h2 =>
      cases h1
      rw [DtAll.strs h2]
      rfl
theorem DtAll.of_strs {ex : List Addr} {H : Hp} : ∀ (ws : List Str), DtAll ex H (ws.map V.str) (ws.map PyData.str)
  | [] => .nil
  | w :: ws => .cons (.str w) (DtAll.of_strs ws)
theorem DtAll.ints {ex : List Addr} {H : Hp} : ∀ {vs : List V} {ns : List Int}, DtAll ex H vs (ns.map PyData.int) → vs = ns.map V.int
  | [], [], _ => rfl
  | [], _ :: _, h => by cases h
  | _ :: _, [], h => by cases h
  | v :: vs, w :: ws, h => by
    cases h with
    | cons h1 h2 =>
      cases h1
      rw [DtAll.ints h2]
      rfl
theorem DtAll.of_ints {ex : List Addr} {H : Hp} : ∀ (ns : List Int), DtAll ex H (ns.map V.int) (ns.map PyData.int)
  | [] => .nil
  | n :: ns => .cons (.int n) (DtAll.of_ints ns)
/-- a pair of a text and a number -/
theorem Dt.pair {ex : List Addr} {H : Hp} {v : V} {x : Str} {n : Int} (h : Dt ex H v (.tuple [.str x, .int n])) : ∃ a, v = .ref a ∧ a ∉ ex ∧ H a = some (.tup [.str x, .int n]) := by
  obtain ⟨a, xs, rfl, m, e, al⟩ := h.tuple
  cases al with
  | cons h1 h2 =>
    cases h2 with
    | cons h3 h4 =>
      cases h4
      cases h1
      cases h3
      exact ⟨a, rfl, m, e⟩

/-! ### a def as its callers use it -/
def Use (P : Program) (w : World) (K : PySem.W.Frag) (mg : Str → Option Value) (base : Heap) (n : Nat) (x : Str) (ps : List Str) (sp : Sp) : Prop :=
  ∃ f fd, FnOk P w K mg base CX0 n f fd ps sp ∧ mg x = some (.ref f) ∧ PySem.W.keepIn K (.ref f) = true ∧ Binds K fd ps []
def tUse (sp : Sp) (t : TA) : TE := fun σ H Q => t σ H fun vs H1 => sp vs H1 Q E0
theorem tUse_eq (sp : Sp) (t : TA) : tCall sp [] E0 t = tUse sp t := by
  funext σ H Q
  show (t σ H fun vs H1 => sp (vs ++ []) H1 Q E0) = (t σ H fun vs H1 => sp vs H1 Q E0)
  simp only [List.append_nil]
theorem pe_use {X : Cx} {n : Nat} {x : Str} {ps : List Str} {sp : Sp} {e : Expr} {es : List Expr} {t : TA} {p pos : Pos} (U : Use X.prog X.w X.K X.mg X.base n x ps sp) (hr : Room n X.A) (hg : Gl X x) (ha : PA X (e :: es) t)
    (hdb : (x == ("__debug__" : Str)) = false := by decide) (he : starEach (e :: es) X.env = (false, eval e X.env) :: starEach es X.env := by rfl) (hpl : (backTo pos (starEach es X.env)).any (·.1) = false := by rfl) :
    PE X (.Call (.Name x p) (e :: es) [] pos) (tUse sp t) := by
  obtain ⟨f, fd, F, hm, hk, hb⟩ := U
  rw [← tUse_eq]
  exact pe_call F hr hg hm hk hb .nil pass0 ha hdb he hpl
theorem pe_use0 {X : Cx} {n : Nat} {x : Str} {ps : List Str} {sp : Sp} {p pos : Pos} (U : Use X.prog X.w X.K X.mg X.base n x ps sp) (hr : Room n X.A) (hg : Gl X x)
    (hdb : (x == ("__debug__" : Str)) = false := by decide) : PE X (.Call (.Name x p) [] [] pos) (tUse sp tNil) := by
  obtain ⟨f, fd, F, hm, hk, hb⟩ := U
  rw [← tUse_eq]
  exact pe_call0 F hr hg hm hk hb .nil pass0 hdb
/-- not A as a value, A a test of any kind -/
theorem pe_notP {X : Cx} {a : Expr} {t : TE} {pos : Pos} (h : PE X a t) : PE X (.UnaryOp .Not a pos) (tNotV t) := pe_not h

/-! ### readings, from back to front -/
section
variable {σ : St} {H : Hp} {Q : VK} {QB : Bool → Hp → Prop} {QA : List V → Hp → Prop} {v x y : V} {i : Nat} {ta tb tc te tv td ty : TE} {t u c : TT} {tr : TA} {r : R2} {g : TG} {gs : TGs}
  {nx bk ct : St → Hp → Prop} {rt : VK} {t1 t2 : TS} {K : PySem.W.Frag} {b : Bool}
theorem r_var (h : σ[i]? = some (some v)) (q : Q v H) : tVar i σ H Q := ⟨v, h, q⟩
theorem r_c (q : Q v H) : tC v σ H Q := q
theorem r_op (q : ta σ H fun x H1 => tb σ H1 fun y H2 => r x y H2 Q) : tOp r ta tb σ H Q := q
theorem r_un {f : V → Hp → VK → Prop} (q : ta σ H fun x H1 => f x H1 Q) : tUn f ta σ H Q := q
def kB (QB : Bool → Hp → Prop) : VK := fun x H => ∃ k, x = .bl k ∧ QB k H
theorem r_kB (q : QB b H) : kB QB (.bl b) H := ⟨b, rfl, q⟩
theorem r_test (q : te σ H (kB QB)) : tTest te σ H QB := q
theorem r_tB (q : te σ H (kB QB)) : tB te σ H QB := q
def kAnd (u : TT) (σ : St) (QB : Bool → Hp → Prop) : Bool → Hp → Prop := fun c H => if c = true then u σ H QB else QB false H
def kOr (u : TT) (σ : St) (QB : Bool → Hp → Prop) : Bool → Hp → Prop := fun c H => if c = true then QB true H else u σ H QB
theorem r_and (q : t σ H (kAnd u σ QB)) : tAnd t u σ H QB := q
theorem r_or (q : t σ H (kOr u σ QB)) : tOr t u σ H QB := q
theorem r_not (q : t σ H fun c H1 => QB (!c) H1) : tNot t σ H QB := q
theorem r_kAnd (h1 : b = true → u σ H QB) (h2 : b = false → QB false H) : kAnd u σ QB b H := by
  unfold kAnd
  cases b
  · exact h2 rfl
  · exact h1 rfl
theorem r_kOr (h1 : b = true → QB true H) (h2 : b = false → u σ H QB) : kOr u σ QB b H := by
  unfold kOr
  cases b
  · exact h2 rfl
  · exact h1 rfl
theorem r_kAnd1 (h : b = true) (q : u σ H QB) : kAnd u σ QB b H := by
  subst h
  exact q
theorem r_kAnd0 (h : b = false) (q : QB false H) : kAnd u σ QB b H := by
  subst h
  exact q
theorem r_kOr1 (h : b = true) (q : QB true H) : kOr u σ QB b H := by
  subst h
  exact q
theorem r_kOr0 (h : b = false) (q : u σ H QB) : kOr u σ QB b H := by
  subst h
  exact q
def kAndV (tb : TE) (σ : St) (Q : VK) : VK := fun x H1 => ∃ c, x = .bl c ∧ if c = true then tb σ H1 Q else Q (.bl false) H1
def kOrV (tb : TE) (σ : St) (Q : VK) : VK := fun x H1 => ∃ c, x = .bl c ∧ if c = true then Q (.bl true) H1 else tb σ H1 Q
theorem r_andV (q : ta σ H (kAndV tb σ Q)) : tAndV ta tb σ H Q := q
theorem r_orV (q : ta σ H (kOrV tb σ Q)) : tOrV ta tb σ H Q := q
theorem r_kAndV (h1 : b = true → tb σ H Q) (h2 : b = false → Q (.bl false) H) : kAndV tb σ Q (.bl b) H := by
  refine ⟨b, rfl, ?_⟩
  cases b
  · exact h2 rfl
  · exact h1 rfl
theorem r_kOrV (h1 : b = true → Q (.bl true) H) (h2 : b = false → tb σ H Q) : kOrV tb σ Q (.bl b) H := by
  refine ⟨b, rfl, ?_⟩
  cases b
  · exact h2 rfl
  · exact h1 rfl
def kNotV (Q : VK) : VK := fun x H1 => ∃ c, x = .bl c ∧ Q (.bl (!c)) H1
theorem r_notV (q : ta σ H (kNotV Q)) : tNotV ta σ H Q := q
theorem r_kNotV (q : Q (.bl (!b)) H) : kNotV Q (.bl b) H := ⟨b, rfl, q⟩
def kIf (ta tb : TE) (σ : St) (Q : VK) : Bool → Hp → Prop := fun c H => if c = true then ta σ H Q else tb σ H Q
theorem r_if (q : t σ H (kIf ta tb σ Q)) : tIf t ta tb σ H Q := q
theorem r_kIf (h1 : b = true → ta σ H Q) (h2 : b = false → tb σ H Q) : kIf ta tb σ Q b H := by
  unfold kIf
  cases b
  · exact h2 rfl
  · exact h1 rfl
theorem r_kIf1 (h : b = true) (q : ta σ H Q) : kIf ta tb σ Q b H := by
  subst h
  exact q
theorem r_kIf0 (h : b = false) (q : tb σ H Q) : kIf ta tb σ Q b H := by
  subst h
  exact q
theorem r_nilA (q : QA [] H) : tNil σ H QA := q
theorem r_consA (q : ta σ H fun x H1 => tr σ H1 fun xs H2 => QA (x :: xs) H2) : tCons ta tr σ H QA := q
theorem r_use {sp : Sp} (q : tr σ H fun vs H1 => sp vs H1 Q E0) : tUse sp tr σ H Q := q
theorem r_cb {f : List V → Hp → VK → Prop} (q : tr σ H fun vs H1 => f vs H1 Q) : tCB f tr σ H Q := q
/-! operators on numbers -/
theorem r_I0 {f : Int → Int → V} {m n : Int} (q : Q (f m n) H) : rI0 f (.int m) (.int n) H Q := ⟨m, n, rfl, rfl, q⟩
theorem r_I {C : Int → Int → Prop} {f : Int → Int → V} {m n : Int} (h : C m n) (q : Q (f m n) H) : rI C f (.int m) (.int n) H Q := ⟨m, n, rfl, rfl, h, q⟩
theorem r_U {f : Int → V} {m : Int} (q : Q (f m) H) : rU f (.int m) H Q := ⟨m, rfl, q⟩
theorem r_eq (h : scal x y = true) (q : Q (.bl (decide (x = y))) H) : rEq x y H Q := ⟨h, q⟩
theorem r_ne (h : scal x y = true) (q : Q (.bl (!decide (x = y))) H) : rNe x y H Q := ⟨h, q⟩
theorem r_eqI {m n : Int} (q : Q (.bl (decide (m = n))) H) : rEq (.int m) (.int n) H Q := by
  refine ⟨rfl, ?_⟩
  have e : decide (V.int m = V.int n) = decide (m = n) := by
    by_cases h : m = n
    · subst h
      simp
    · rw [decide_eq_false h, decide_eq_false fun z => h (V.int.inj z)]
  rw [e]
  exact q
theorem r_neI {m n : Int} (q : Q (.bl (!decide (m = n))) H) : rNe (.int m) (.int n) H Q := by
  refine ⟨rfl, ?_⟩
  have e : decide (V.int m = V.int n) = decide (m = n) := by
    by_cases h : m = n
    · subst h
      simp
    · rw [decide_eq_false h, decide_eq_false fun z => h (V.int.inj z)]
  rw [e]
  exact q
/-! statements -/
theorem r_seq (q : t1 ⟨t2 ⟨nx, rt, bk, ct⟩, rt, bk, ct⟩ σ H) : tSeq t1 t2 ⟨nx, rt, bk, ct⟩ σ H := q
theorem r_next (q : nx σ H) : tNext ⟨nx, rt, bk, ct⟩ σ H := q
theorem r_brk (q : bk σ H) : tBreak ⟨nx, rt, bk, ct⟩ σ H := q
theorem r_cont (q : ct σ H) : tCont ⟨nx, rt, bk, ct⟩ σ H := q
theorem r_asg (q : te σ H fun x H1 => g x σ H1 nx) : tAsg te g ⟨nx, rt, bk, ct⟩ σ H := q
theorem r_drop (q : te σ H fun _ H1 => nx σ H1) : tDrop te ⟨nx, rt, bk, ct⟩ σ H := q
theorem r_ret (q : te σ H rt) : tRet te ⟨nx, rt, bk, ct⟩ σ H := q
theorem r_retN (q : rt .non H) : tRetN ⟨nx, rt, bk, ct⟩ σ H := q
def kIfS (t1 t2 : TS) (D : Ends) (σ : St) : Bool → Hp → Prop := fun b H => if b = true then t1 D σ H else t2 D σ H
theorem r_ifS (q : c σ H (kIfS t1 t2 ⟨nx, rt, bk, ct⟩ σ)) : tIfS c t1 t2 ⟨nx, rt, bk, ct⟩ σ H := q
theorem r_kIfS {D : Ends} (h1 : b = true → t1 D σ H) (h2 : b = false → t2 D σ H) : kIfS t1 t2 D σ b H := by
  unfold kIfS
  cases b
  · exact h2 rfl
  · exact h1 rfl
theorem r_kIfS1 {D : Ends} (h : b = true) (q : t1 D σ H) : kIfS t1 t2 D σ b H := by
  subst h
  exact q
theorem r_kIfS0 {D : Ends} (h : b = false) (q : t2 D σ H) : kIfS t1 t2 D σ b H := by
  subst h
  exact q
theorem r_name {QS : St → Hp → Prop} (q : QS (σ.set i (some v)) H) : gName i v σ H QS := q
theorem r_par {j : Nat} (q : tr σ H fun vs H1 => ∃ v w, vs = [v, w] ∧ nx ((σ.set i (some v)).set j (some w)) H1) : tPar i j tr ⟨nx, rt, bk, ct⟩ σ H := q
/-! displays, dicts -/
def kLst (Q : VK) : List V → Hp → Prop := fun xs H1 => xs.length ≤ sizeLine ∧ ∀ p, H1 p = none → Q (.ref p) (upd H1 p (.lst xs))
def kTup (Q : VK) : List V → Hp → Prop := fun xs H1 => xs.length ≤ sizeLine ∧ ∀ p, H1 p = none → Q (.ref p) (upd H1 p (.tup xs))
theorem r_lst (q : tr σ H (kLst Q)) : tLst tr σ H Q := q
theorem r_tup (q : tr σ H (kTup Q)) : tTup tr σ H Q := q
theorem r_kLst {xs : List V} (h : xs.length ≤ sizeLine) (q : ∀ p H', H p = none → Kp [] H H' → H' p = some (.lst xs) → Q (.ref p) H') : kLst Q xs H :=
  ⟨h, fun p n => q p _ n (Kp.new n) upd_same⟩
theorem r_kTup {xs : List V} (h : xs.length ≤ sizeLine) (q : ∀ p H', H p = none → Kp [] H H' → H' p = some (.tup xs) → Q (.ref p) H') : kTup Q xs H :=
  ⟨h, fun p n => q p _ n (Kp.new n) upd_same⟩
def kDG (Q : VK) : V → V → Hp → Prop := fun x y H2 => ∃ a v, x = .ref a ∧ DGet H2 a y (some v) ∧ Q v H2
theorem r_dget (q : td σ H fun x H1 => ty σ H1 fun y H2 => kDG Q x y H2) : tDGet td ty σ H Q := q
theorem r_kDGs {a : Addr} {kvs : List (Key × V)} {z : Str} (e : H a = some (.dK kvs)) (h : valV kvs (Sum.inr z) = some v) (q : Q v H) : kDG Q (.ref a) (.str z) H :=
  ⟨a, v, rfl, .inl ⟨kvs, Sum.inr z, .inl e, rfl, h.symm⟩, q⟩
theorem r_kDGi {a : Addr} {kvs : List (Key × V)} {z : Int} (e : H a = some (.dK kvs)) (h : valV kvs (Sum.inl z) = some v) (q : Q v H) : kDG Q (.ref a) (.int z) H :=
  ⟨a, v, rfl, .inl ⟨kvs, Sum.inl z, .inl e, rfl, h.symm⟩, q⟩
def kDP (nx : St → Hp → Prop) (σ : St) : V → V → V → Hp → Prop := fun v x y H3 => ∃ a H4, x = .ref a ∧ DPut H3 a y v H4 ∧ nx σ H4
theorem r_dput (q : tv σ H fun v H1 => td σ H1 fun x H2 => ty σ H2 fun y H3 => kDP nx σ v x y H3) : sDPut td ty tv ⟨nx, rt, bk, ct⟩ σ H := q
theorem r_kDPs {a : Addr} {kvs : List (Key × V)} {z : Str} (e : H a = some (.dK kvs)) (h : kvs.length < sizeLine) (q : nx σ (upd H a (.dK (putK kvs (Sum.inr z) v)))) : kDP nx σ v (.ref a) (.str z) H :=
  ⟨a, _, rfl, .inl ⟨kvs, Sum.inr z, e, rfl, h, rfl⟩, q⟩
end

section
variable {σ : St} {H : Hp} {Q : VK} {QA : List V → Hp → Prop} {v x y : V} {K : PySem.W.Frag} {xs : List V} {p : Addr}
/-! built-ins -/
abbrev R1 := List V → Hp → VK → Prop
def cInt : R1 := fun xs H Q => (∃ i, xs = [.int i] ∧ Q (.int i) H) ∨ ∃ k, xs = [.bl k] ∧ Q (.int (if k then 1 else 0)) H
def cAbs : R1 := fun xs H Q => ∃ i, xs = [.int i] ∧ Q (.int (if i < 0 then -i else i)) H
def cMax2 : R1 := fun xs H Q => ∃ i j, xs = [.int i, .int j] ∧ Q (.int (if j > i then j else i)) H
def cMin2 : R1 := fun xs H Q => ∃ i j, xs = [.int i, .int j] ∧ Q (.int (if j < i then j else i)) H
def cStrI : R1 := fun xs H Q => ∃ i, xs = [.int i] ∧ i.natAbs.log2 < 1920 ∧ Q (.str (toString i)) H
def cLen (K : PySem.W.Frag) : R1 := fun xs H Q => ∃ p ys, xs = [.ref p] ∧ (SqL K H p ys ∨ SqT K H p ys) ∧ Q (.int (ys.length : Nat)) H
def cLenS : R1 := fun xs H Q => ∃ z, xs = [.str z] ∧ z.length ≤ sizeLine ∧ Q (.int (z.length : Nat)) H
def cList (K : PySem.W.Frag) : R1 := fun xs H Q => ∃ p ys, xs = [.ref p] ∧ (SqL K H p ys ∨ SqT K H p ys) ∧ ∀ l, H l = none → Q (.ref l) (upd H l (.lst ys))
def cTuple (K : PySem.W.Frag) : R1 := fun xs H Q => ∃ p ys, xs = [.ref p] ∧ ((SqL K H p ys ∧ ∀ l, H l = none → Q (.ref l) (upd H l (.tup ys))) ∨ (SqT K H p ys ∧ Q (.ref p) H))
section
variable {X : Cx}
theorem cr_int : CallR X (.type "int") cInt := call_int1
theorem cr_abs : CallR X (.builtin "abs") cAbs := call_abs
theorem cr_max2 (hc : X.calm = true) : CallR X (.builtin "max") cMax2 := call_max2 hc
theorem cr_min2 (hc : X.calm = true) : CallR X (.builtin "min") cMin2 := call_min2 hc
theorem cr_strI : CallR X (.type "str") cStrI := call_str_int
theorem cr_len : CallR X (.builtin "len") (cLen X.K) := call_len_seq
theorem cr_lenS : CallR X (.builtin "len") cLenS := call_len_str
theorem cr_list : CallR X (.type "list") (cList X.K) := call_list_of
theorem cr_tuple : CallR X (.type "tuple") (cTuple X.K) := call_tuple_of
end
theorem r_intB {b : Bool} (q : Q (.int (if b = true then 1 else 0)) H) : cInt [.bl b] H Q := .inr ⟨b, rfl, q⟩
theorem r_int {n : Int} (q : Q (.int n) H) : cInt [.int n] H Q := .inl ⟨n, rfl, q⟩
theorem r_abs {n : Int} (q : Q (.int (if n < 0 then -n else n)) H) : cAbs [.int n] H Q := ⟨n, rfl, q⟩
theorem r_max2 {m n : Int} (q : Q (.int (if n > m then n else m)) H) : cMax2 [.int m, .int n] H Q := ⟨m, n, rfl, q⟩
theorem r_min2 {m n : Int} (q : Q (.int (if n < m then n else m)) H) : cMin2 [.int m, .int n] H Q := ⟨m, n, rfl, q⟩
theorem r_strI {n : Int} (h : n.natAbs.log2 < 1920) (q : Q (.str (toString n)) H) : cStrI [.int n] H Q := ⟨n, rfl, h, q⟩
theorem r_lenL (h : SqL K H p xs) (q : Q (.int (xs.length : Nat)) H) : cLen K [.ref p] H Q := ⟨p, xs, rfl, .inl h, q⟩
theorem r_lenT (h : SqT K H p xs) (q : Q (.int (xs.length : Nat)) H) : cLen K [.ref p] H Q := ⟨p, xs, rfl, .inr h, q⟩
theorem r_lenS {z : Str} (h : z.length ≤ sizeLine) (q : Q (.int (z.length : Nat)) H) : cLenS [.str z] H Q := ⟨z, rfl, h, q⟩
theorem r_listL (h : SqL K H p xs) (q : ∀ l H', H l = none → Kp [] H H' → H' l = some (.lst xs) → Q (.ref l) H') : cList K [.ref p] H Q := ⟨p, xs, rfl, .inl h, fun l n => q l _ n (Kp.new n) upd_same⟩
theorem r_listT (h : SqT K H p xs) (q : ∀ l H', H l = none → Kp [] H H' → H' l = some (.lst xs) → Q (.ref l) H') : cList K [.ref p] H Q := ⟨p, xs, rfl, .inr h, fun l n => q l _ n (Kp.new n) upd_same⟩
theorem r_tupleL (h : SqL K H p xs) (q : ∀ l H', H l = none → Kp [] H H' → H' l = some (.tup xs) → Q (.ref l) H') : cTuple K [.ref p] H Q := ⟨p, xs, rfl, .inl ⟨h, fun l n => q l _ n (Kp.new n) upd_same⟩⟩
theorem r_tupleT (h : SqT K H p xs) (q : Q (.ref p) H) : cTuple K [.ref p] H Q := ⟨p, xs, rfl, .inr ⟨h, q⟩⟩
theorem r_ixL {i : Int} (h : SqL K H p xs) (e : atI xs i = some v) (q : Q v H) : rIxL K (.ref p) (.int i) H Q := ⟨p, xs, i, v, rfl, rfl, h, e, q⟩
theorem r_ixT {i : Int} (h : SqT K H p xs) (e : atI xs i = some v) (q : Q v H) : rIxT K (.ref p) (.int i) H Q := ⟨p, xs, i, v, rfl, rfl, h, e, q⟩
theorem r_ixS {z : Str} {i : Int} {c : Nat} (h : z.length ≤ sizeLine) (e : atI z.cps.toList i = some c) (q : Q (.str ⟨#[c]⟩) H) : rIxS (.str z) (.int i) H Q := ⟨z, i, c, rfl, rfl, h, e, q⟩
/-- an item at a number that lies within -/
theorem atI_in {α : Type} {l : List α} {i : Int} (h0 : 0 ≤ i) (h1 : i < (l.length : Int)) : ∃ v, atI l i = some v ∧ v ∈ l ∧ l[i.toNat]? = some v := by
  have hk : i.toNat < l.length := by omega
  have e : l[i.toNat]? = some l[i.toNat] := List.getElem?_eq_getElem hk
  have ei : i = ((i.toNat : Nat) : Int) := by omega
  have q : atI l ((i.toNat : Nat) : Int) = some l[i.toNat] := atI_nat e
  rw [← ei] at q
  exact ⟨l[i.toNat], q, List.getElem_mem hk, e⟩
/-! a display of a dict -/
def kDisp (Q : VK) (p : Addr) : List (V × V) → Hp → Prop := fun ps H2 => H2 p = some (.dK []) ∧ ∃ kvs : List (Key × V), ps = kvs.map (fun kv => (kV kv.1, kv.2)) ∧ kvs.length ≤ 15 ∧ Q (.ref p) (upd H2 p (.dK (mergeK [] kvs)))
theorem r_disp {trs : List (TE × TE)} (q : ∀ p H1, H p = none → Kp [] H H1 → H1 p = some (.dK []) → tPairs trs σ H1 (kDisp Q p)) : tDisp trs σ H Q := fun p n => q p _ n (Kp.new n) upd_same
theorem r_pnil {R : List (V × V) → Hp → Prop} (q : R [] H) : tPairs [] σ H R := q
theorem r_pcons {R : List (V × V) → Hp → Prop} {tk tv : TE} {r : List (TE × TE)} (q : tk σ H fun x H1 => tv σ H1 fun y H2 => tPairs r σ H2 fun ps H3 => R ((x, y) :: ps) H3) : tPairs ((tk, tv) :: r) σ H R := q
theorem r_kDisp {p : Addr} {kvs : List (Key × V)} (e : H p = some (.dK [])) (h : kvs.length ≤ 15) (q : ∀ H', Kp [p] H H' → H' p = some (.dK (mergeK [] kvs)) → Q (.ref p) H') : kDisp Q p (kvs.map fun kv => (kV kv.1, kv.2)) H :=
  ⟨e, kvs, rfl, h, q _ (Kp.put (by simp)) upd_same⟩
end

theorem sql_kp {K : PySem.W.Frag} {ex : List Addr} {H H' : Hp} {a : Addr} {xs : List V} (h : SqL K H a xs) (k : Kp ex H H') (m : a ∉ ex) : SqL K H' a xs := by
  rcases h with (h | ⟨o, h⟩) | h
  · exact .inl (.inl (k _ _ h m))
  · exact .inl (.inr ⟨o, k _ _ h m⟩)
  · exact .inr h
/-- a list stays where only the object o at p changes, which is no list -/
theorem sql_but {K : PySem.W.Frag} {H H' : Hp} {a p : Addr} {xs : List V} {o : HO} (h : SqL K H a xs) (k : Kp [p] H H') (e : H p = some o) (d : ∀ ys, o ≠ .lst ys) (d' : ∀ ob u, o ≠ .frz ob u) : SqL K H' a xs := by
  rcases h with (h | ⟨ob, h⟩) | h
  · exact .inl (.inl (k _ _ h (not_one (ne_of h e fun z => d _ z.symm))))
  · exact .inl (.inr ⟨ob, k _ _ h (not_one (ne_of h e fun z => d' _ _ z.symm))⟩)
  · exact .inr h
theorem sqt_kp {K : PySem.W.Frag} {ex : List Addr} {H H' : Hp} {a : Addr} {xs : List V} (h : SqT K H a xs) (k : Kp ex H H') (m : a ∉ ex) : SqT K H' a xs := by
  rcases h with (h | ⟨o, h⟩) | h
  · exact .inl (.inl (k _ _ h m))
  · exact .inl (.inr ⟨o, k _ _ h m⟩)
  · exact .inr h
section
variable {σ : St} {H : Hp} {Q : VK} {QA : List V → Hp → Prop} {v x y : V} {K : PySem.W.Frag} {xs : List V} {p : Addr} {te tk tv : TE} {tr : TA} {g : TG} {tb : TS} {tt : TT} {wi : TI} {nx bk ct : St → Hp → Prop} {rt : VK}
  {J : It} {n : Nat} {G : Hp → Prop} {Y : Nat → Hp → V → Hp → Prop} {vs : List Nat}
/-! what is walked -/
def cRng1 (R : It → Hp → Prop) : List V → Hp → Prop := fun ws H1 => ∃ j : Int, ws = [.int j] ∧ -(2 ^ 62) ≤ j ∧ j < 2 ^ 62 ∧ R (Itr 0 j.toNat) H1
def cRng2 (R : It → Hp → Prop) : List V → Hp → Prop := fun ws H1 => ∃ i j : Int, ws = [.int i, .int j] ∧ (-(2 ^ 62) ≤ i ∧ i < 2 ^ 62 ∧ -(2 ^ 62) ≤ j ∧ j < 2 ^ 62) ∧ R (Itr i (j - i).toNat) H1
def cWL (K : PySem.W.Frag) (R : It → Hp → Prop) : V → Hp → Prop := fun x H1 => ∃ a, x = .ref a ∧ (∃ xs, SqL K H1 a xs) ∧ R (Itl K a) H1
def cWT (K : PySem.W.Frag) (R : It → Hp → Prop) : V → Hp → Prop := fun x H1 => ∃ a, x = .ref a ∧ (∃ xs, SqT K H1 a xs) ∧ R (Itt K a) H1
def cWS (R : It → Hp → Prop) : V → Hp → Prop := fun v H1 => ∃ x, v = .str x ∧ R (Its x) H1
def cEnum (K : PySem.W.Frag) (R : It → Hp → Prop) : List V → Hp → Prop := fun ws H1 => ∃ a xs, ws = [.ref a] ∧ SqL K H1 a xs ∧ R (Ite K a) H1
def cZip (K : PySem.W.Frag) (R : It → Hp → Prop) : List V → Hp → Prop := fun ws H1 => ∃ a b xs ys, ws = [.ref a, .ref b] ∧ SqL K H1 a xs ∧ SqL K H1 b ys ∧ R (Itz K a b) H1
variable {R : It → Hp → Prop}
theorem r_rng1 (q : tr σ H (cRng1 R)) : iRng1 tr σ H R := q
theorem r_rng2 (q : tr σ H (cRng2 R)) : iRng2 tr σ H R := q
theorem r_wl (q : te σ H (cWL K R)) : iList K te σ H R := q
theorem r_wt (q : te σ H (cWT K R)) : iTup K te σ H R := q
theorem r_ws (q : te σ H (cWS R)) : iStr te σ H R := q
theorem r_enum (q : tr σ H (cEnum K R)) : iEnum K tr σ H R := q
theorem r_zip (q : tr σ H (cZip K R)) : iZip K tr σ H R := q
theorem r_cRng1 {j : Int} (h : -(2 ^ 62) ≤ j ∧ j < 2 ^ 62) (q : R (Itr 0 j.toNat) H) : cRng1 R [.int j] H := ⟨j, rfl, h.1, h.2, q⟩
theorem r_cRng2 {i j : Int} (h : -(2 ^ 62) ≤ i ∧ i < 2 ^ 62 ∧ -(2 ^ 62) ≤ j ∧ j < 2 ^ 62) (q : R (Itr i (j - i).toNat) H) : cRng2 R [.int i, .int j] H := ⟨i, j, rfl, h, q⟩
theorem r_cWL (h : SqL K H p xs) (q : R (Itl K p) H) : cWL K R (.ref p) H := ⟨p, rfl, ⟨xs, h⟩, q⟩
theorem r_cWT (h : SqT K H p xs) (q : R (Itt K p) H) : cWT K R (.ref p) H := ⟨p, rfl, ⟨xs, h⟩, q⟩
theorem r_cWS {z : Str} (q : R (Its z) H) : cWS R (.str z) H := ⟨z, rfl, q⟩
theorem r_cEnum (h : SqL K H p xs) (q : R (Ite K p) H) : cEnum K R [.ref p] H := ⟨p, xs, rfl, h, q⟩
theorem r_cZip {p' : Addr} {ys : List V} (h : SqL K H p xs) (h' : SqL K H p' ys) (q : R (Itz K p p') H) : cZip K R [.ref p, .ref p'] H := ⟨p, p', xs, ys, rfl, h, h', q⟩
/-! for -/
def kFor (g : TG) (tb : TS) (D : Ends) (σ : St) : It → Hp → Prop := fun J H1 => ∃ W : Nat → Nat → St → Hp → Prop, (∃ m, W 0 m σ H1) ∧ ∀ i m σ H, W i m σ H →
  (J.stop i H ∧ D.nx σ H) ∨ (J.go i H ∧ ∃ N : St → Hp → Prop, (∀ σ' H', N σ' H' → ∃ m', m' < m ∧ W (i + 1) m' σ' H') ∧ ∀ x H', J.yld i H x H' → g x σ H' fun σ2 H2 => tb { D with nx := N, ct := N, bk := D.nx } σ2 H2)
theorem r_for (q : wi σ H (kFor g tb ⟨nx, rt, bk, ct⟩ σ)) : tFor wi g tb ⟨nx, rt, bk, ct⟩ σ H := q
theorem r_kFor (w : Walk J n G Y) (Pv : Nat → St → Hp → Prop) (h0 : Pv 0 σ H) (hG : ∀ i σ H, i ≤ n → Pv i σ H → G H)
    (hs : ∀ i x σ H H', i < n → Pv i σ H → Y i H x H' → g x σ H' fun σ2 H2 => tb ⟨Pv (i + 1), rt, nx, Pv (i + 1)⟩ σ2 H2) (hd : ∀ σ H, Pv n σ H → nx σ H) : kFor g tb ⟨nx, rt, bk, ct⟩ σ J H :=
  for_it w (D := ⟨nx, rt, bk, ct⟩) Pv h0 hG hs hd
theorem r_kForR {m : Nat} (Pv : Nat → St → Hp → Prop) (h0 : Pv 0 σ H)
    (hs : ∀ (i : Nat) σ H, i < m → Pv i σ H → g (.int (i : Int)) σ H fun σ2 H2 => tb ⟨Pv (i + 1), rt, nx, Pv (i + 1)⟩ σ2 H2) (hd : ∀ σ H, Pv m σ H → nx σ H) : kFor g tb ⟨nx, rt, bk, ct⟩ σ (Itr 0 m) H := by
  refine r_kFor walk_range Pv h0 (fun _ _ _ _ _ => trivial) (fun i x σ H H' hi hp y => ?_) hd
  obtain ⟨rfl, rfl⟩ := y
  have e : V.int ((0 : Int) + (i : Int)) = V.int (i : Int) := congrArg V.int (by omega)
  show g (V.int ((0 : Int) + (i : Int))) σ _ _
  rw [e]
  exact hs i σ _ hi hp
theorem r_kForL (Pv : Nat → St → Hp → Prop) (h0 : Pv 0 σ H) (hl : ∀ i σ H, i ≤ xs.length → Pv i σ H → SqL K H p xs)
    (hs : ∀ (i : Nat) x σ H, xs[i]? = some x → Pv i σ H → g x σ H fun σ2 H2 => tb ⟨Pv (i + 1), rt, nx, Pv (i + 1)⟩ σ2 H2) (hd : ∀ σ H, Pv xs.length σ H → nx σ H) : kFor g tb ⟨nx, rt, bk, ct⟩ σ (Itl K p) H := by
  refine r_kFor walk_list Pv h0 hl (fun i x σ H H' hi hp y => ?_) hd
  obtain ⟨rfl, e⟩ := y
  exact hs i x σ _ e hp
theorem r_kForT (Pv : Nat → St → Hp → Prop) (h0 : Pv 0 σ H) (hl : ∀ i σ H, i ≤ xs.length → Pv i σ H → SqT K H p xs)
    (hs : ∀ (i : Nat) x σ H, xs[i]? = some x → Pv i σ H → g x σ H fun σ2 H2 => tb ⟨Pv (i + 1), rt, nx, Pv (i + 1)⟩ σ2 H2) (hd : ∀ σ H, Pv xs.length σ H → nx σ H) : kFor g tb ⟨nx, rt, bk, ct⟩ σ (Itt K p) H := by
  refine r_kFor walk_tup Pv h0 hl (fun i x σ H H' hi hp y => ?_) hd
  obtain ⟨rfl, e⟩ := y
  exact hs i x σ _ e hp
/-! [e for ..]: Pv by the new list's place, the turn, what is made so far, the heap -/
def kN (Pv : List V → Hp → Prop) (D : Addr) : Hp → Prop := fun H' => ∃ acc, H' D = some (.lst acc) ∧ Pv acc H'
def kApp (D : Addr) (N : Hp → Prop) : VK := fun y H4 => ∃ acc, H4 D = some (.lst acc) ∧ acc.length < sizeLine ∧ N (upd H4 D (.lst (acc ++ [y])))
def kKeep (te : TE) (σ : St) (D : Addr) (N : Hp → Prop) : Bool → Hp → Prop := fun b H3 => if b = true then te σ H3 (kApp D N) else N H3
def kTurn (tt : TT) (te : TE) (σ0 : St) (vs : List Nat) (D : Addr) (N : Hp → Prop) : St → Hp → Prop := fun σ2 H2 => wipe σ2 vs = σ0 ∧ tt σ2 H2 (kKeep te σ2 D N)
def kLc (g : TG) (tt : TT) (te : TE) (vs : List Nat) (σ : St) (Q : VK) : It → Hp → Prop := fun J H1 => ∀ D, H1 D = none → ∃ W : Nat → Nat → Hp → Prop, (∃ m, W 0 m (upd H1 D (.lst []))) ∧ ∀ i m H, W i m H →
  (J.stop i H ∧ Q (.ref D) H) ∨ (J.go i H ∧ ∃ Nx : Hp → Prop, (∀ H', Nx H' → ∃ m', m' < m ∧ W (i + 1) m' H') ∧ ∀ x H', J.yld i H x H' → g x (wipe σ vs) H' fun σ2 H2 => wipe σ2 vs = wipe σ vs ∧ tt σ2 H2 fun b H3 =>
    if b = true then te σ2 H3 fun y H4 => ∃ acc, H4 D = some (.lst acc) ∧ acc.length < sizeLine ∧ Nx (upd H4 D (.lst (acc ++ [y]))) else Nx H3)
theorem r_lc (q : wi σ H (kLc g tt te vs σ Q)) : tLc wi g tt te vs σ H Q := q
theorem r_kTurn {σ0 : St} {D : Addr} {N : Hp → Prop} (h : wipe σ vs = σ0) (q : tt σ H (kKeep te σ D N)) : kTurn tt te σ0 vs D N σ H := ⟨h, q⟩
theorem r_yes {QB : Bool → Hp → Prop} (q : QB true H) : tYes σ H QB := q
theorem r_kKeep1 {D : Addr} {N : Hp → Prop} {b : Bool} (h : b = true) (q : te σ H (kApp D N)) : kKeep te σ D N b H := by
  subst h
  exact q
theorem r_kKeep0 {D : Addr} {acc : List V} {Pv : List V → Hp → Prop} {b : Bool} (h : b = false) (e : H D = some (.lst acc)) (q : Pv acc H) : kKeep te σ D (kN Pv D) b H := by
  subst h
  exact ⟨acc, e, q⟩
theorem r_kKeep {D : Addr} {N : Hp → Prop} {b : Bool} (h1 : b = true → te σ H (kApp D N)) (h0 : b = false → N H) : kKeep te σ D N b H := by
  cases b
  · exact h0 rfl
  · exact h1 rfl
theorem r_kApp {D : Addr} {acc : List V} {Pv : List V → Hp → Prop} (e : H D = some (.lst acc)) (h : acc.length < sizeLine) (q : ∀ H5, Kp [D] H H5 → H5 D = some (.lst (acc ++ [y])) → Pv (acc ++ [y]) H5) : kApp D (kN Pv D) y H :=
  ⟨acc, e, h, acc ++ [y], upd_same, q _ (Kp.put (by simp)) upd_same⟩
theorem r_kLc (w : Walk J n G Y) (Pv : Addr → Nat → List V → Hp → Prop) (h0 : ∀ D H', H D = none → Kp [] H H' → H' D = some (.lst []) → Pv D 0 [] H') (hG : ∀ D i acc H', i ≤ n → Pv D i acc H' → G H')
    (hs : ∀ D i acc x H' H'', H D = none → i < n → H' D = some (.lst acc) → Pv D i acc H' → Y i H' x H'' → g x (wipe σ vs) H'' (kTurn tt te (wipe σ vs) vs D (kN (Pv D (i + 1)) D)))
    (hd : ∀ D acc H', H D = none → H' D = some (.lst acc) → Pv D n acc H' → Q (.ref D) H') : kLc g tt te vs σ Q J H := by
  intro D hD
  exact lc_it w (fun i => kN (Pv D i) D) ⟨[], upd_same, h0 D _ hD (Kp.new hD) upd_same⟩ (fun i H' hi ⟨acc, _, p⟩ => hG D i acc H' hi p) (fun i x H' H'' hi ⟨acc, e, p⟩ y => hs D i acc x H' H'' hD hi e p y) (fun H' ⟨acc, e, p⟩ => hd D acc H' hD e p)
theorem r_kLcL (Pv : Addr → Nat → List V → Hp → Prop) (h0 : ∀ D H', H D = none → Kp [] H H' → H' D = some (.lst []) → Pv D 0 [] H') (hG : ∀ D i acc H', i ≤ xs.length → Pv D i acc H' → SqL K H' p xs)
    (hs : ∀ D (i : Nat) acc x H', H D = none → xs[i]? = some x → H' D = some (.lst acc) → Pv D i acc H' → g x (wipe σ vs) H' (kTurn tt te (wipe σ vs) vs D (kN (Pv D (i + 1)) D)))
    (hd : ∀ D acc H', H D = none → H' D = some (.lst acc) → Pv D xs.length acc H' → Q (.ref D) H') : kLc g tt te vs σ Q (Itl K p) H := by
  refine r_kLc walk_list Pv h0 hG (fun D i acc x H' H'' hD hi e hp y => ?_) hd
  obtain ⟨rfl, e'⟩ := y
  exact hs D i acc x _ hD e' e hp
theorem r_kLcT (Pv : Addr → Nat → List V → Hp → Prop) (h0 : ∀ D H', H D = none → Kp [] H H' → H' D = some (.lst []) → Pv D 0 [] H') (hG : ∀ D i acc H', i ≤ xs.length → Pv D i acc H' → SqT K H' p xs)
    (hs : ∀ D (i : Nat) acc x H', H D = none → xs[i]? = some x → H' D = some (.lst acc) → Pv D i acc H' → g x (wipe σ vs) H' (kTurn tt te (wipe σ vs) vs D (kN (Pv D (i + 1)) D)))
    (hd : ∀ D acc H', H D = none → H' D = some (.lst acc) → Pv D xs.length acc H' → Q (.ref D) H') : kLc g tt te vs σ Q (Itt K p) H := by
  refine r_kLc walk_tup Pv h0 hG (fun D i acc x H' H'' hD hi e hp y => ?_) hd
  obtain ⟨rfl, e'⟩ := y
  exact hs D i acc x _ hD e' e hp
theorem r_kLcR {m : Nat} (Pv : Addr → Nat → List V → Hp → Prop) (h0 : ∀ D H', H D = none → Kp [] H H' → H' D = some (.lst []) → Pv D 0 [] H')
    (hs : ∀ D (i : Nat) acc H', H D = none → i < m → H' D = some (.lst acc) → Pv D i acc H' → g (.int (i : Int)) (wipe σ vs) H' (kTurn tt te (wipe σ vs) vs D (kN (Pv D (i + 1)) D)))
    (hd : ∀ D acc H', H D = none → H' D = some (.lst acc) → Pv D m acc H' → Q (.ref D) H') : kLc g tt te vs σ Q (Itr 0 m) H := by
  refine r_kLc walk_range Pv h0 (fun _ _ _ _ _ _ => trivial) (fun D i acc x H' H'' hD hi e hp y => ?_) hd
  obtain ⟨rfl, rfl⟩ := y
  have e : V.int ((0 : Int) + (i : Int)) = V.int (i : Int) := congrArg V.int (by omega)
  show g (V.int ((0 : Int) + (i : Int))) (wipe σ vs) _ _
  rw [e]
  exact hs D i acc _ hD hi (by assumption) hp
theorem r_kLcS {z : Str} (Pv : Addr → Nat → List V → Hp → Prop) (h0 : ∀ D H', H D = none → Kp [] H H' → H' D = some (.lst []) → Pv D 0 [] H')
    (hs : ∀ D (i : Nat) acc c H', H D = none → z.cps.toList[i]? = some c → H' D = some (.lst acc) → Pv D i acc H' → g (.str ⟨#[c]⟩) (wipe σ vs) H' (kTurn tt te (wipe σ vs) vs D (kN (Pv D (i + 1)) D)))
    (hd : ∀ D acc H', H D = none → H' D = some (.lst acc) → Pv D z.cps.toList.length acc H' → Q (.ref D) H') : kLc g tt te vs σ Q (Its z) H := by
  refine r_kLc walk_str Pv h0 (fun _ _ _ _ _ _ => trivial) (fun D i acc x H' H'' hD hi e hp y => ?_) (fun D acc H' a b c => hd D acc H' a b (by simpa using c))
  obtain ⟨rfl, c, e', rfl⟩ := y
  exact hs D i acc c _ hD (by simpa using e') e hp
/-! {k: v for ..} -/
def kND (Pv : List (Key × V) → Hp → Prop) (D : Addr) : Hp → Prop := fun H' => ∃ kvs, H' D = some (.dK kvs) ∧ Pv kvs H'
def kPut (D : Addr) (N : Hp → Prop) (y : V) : VK := fun z H5 => ∃ kvs k, y = kV k ∧ H5 D = some (.dK kvs) ∧ kvs.length < sizeLine ∧ N (upd H5 D (.dK (putK kvs k z)))
def kKeepD (tk tv : TE) (σ : St) (D : Addr) (N : Hp → Prop) : Bool → Hp → Prop := fun b H3 => if b = true then tk σ H3 (fun y H4 => tv σ H4 (kPut D N y)) else N H3
def kTurnD (tt : TT) (tk tv : TE) (σ0 : St) (vs : List Nat) (D : Addr) (N : Hp → Prop) : St → Hp → Prop := fun σ2 H2 => wipe σ2 vs = σ0 ∧ tt σ2 H2 (kKeepD tk tv σ2 D N)
def kDc (g : TG) (tt : TT) (tk tv : TE) (vs : List Nat) (σ : St) (Q : VK) : It → Hp → Prop := fun J H1 => ∀ D, H1 D = none → ∃ W : Nat → Nat → Hp → Prop, (∃ m, W 0 m (upd H1 D (.dK []))) ∧ ∀ i m H, W i m H →
  (J.stop i H ∧ Q (.ref D) H) ∨ (J.go i H ∧ ∃ Nx : Hp → Prop, (∀ H', Nx H' → ∃ m', m' < m ∧ W (i + 1) m' H') ∧ ∀ x H', J.yld i H x H' → g x (wipe σ vs) H' fun σ2 H2 => wipe σ2 vs = wipe σ vs ∧ tt σ2 H2 fun b H3 =>
    if b = true then tk σ2 H3 fun y H4 => tv σ2 H4 fun z H5 => ∃ kvs k, y = kV k ∧ H5 D = some (.dK kvs) ∧ kvs.length < sizeLine ∧ Nx (upd H5 D (.dK (putK kvs k z))) else Nx H3)
theorem r_dc (q : wi σ H (kDc g tt tk tv vs σ Q)) : tDc wi g tt tk tv vs σ H Q := q
theorem r_kTurnD {σ0 : St} {D : Addr} {N : Hp → Prop} (h : wipe σ vs = σ0) (q : tt σ H (kKeepD tk tv σ D N)) : kTurnD tt tk tv σ0 vs D N σ H := ⟨h, q⟩
theorem r_kKeepD1 {D : Addr} {N : Hp → Prop} {b : Bool} (h : b = true) (q : tk σ H (fun y H4 => tv σ H4 (kPut D N y))) : kKeepD tk tv σ D N b H := by
  subst h
  exact q
theorem r_kPut {D : Addr} {kvs : List (Key × V)} {k : Key} {Pv : List (Key × V) → Hp → Prop} (ey : x = kV k) (e : H D = some (.dK kvs)) (h : kvs.length < sizeLine) (q : ∀ H5, Kp [D] H H5 → H5 D = some (.dK (putK kvs k y)) → Pv (putK kvs k y) H5) : kPut D (kND Pv D) x y H :=
  ⟨kvs, k, ey, e, h, _, upd_same, q _ (Kp.put (by simp)) upd_same⟩
theorem r_kDc (w : Walk J n G Y) (Pv : Addr → Nat → List (Key × V) → Hp → Prop) (h0 : ∀ D H', H D = none → Kp [] H H' → H' D = some (.dK []) → Pv D 0 [] H') (hG : ∀ D i acc H', i ≤ n → Pv D i acc H' → G H')
    (hs : ∀ D i acc x H' H'', H D = none → i < n → H' D = some (.dK acc) → Pv D i acc H' → Y i H' x H'' → g x (wipe σ vs) H'' (kTurnD tt tk tv (wipe σ vs) vs D (kND (Pv D (i + 1)) D)))
    (hd : ∀ D acc H', H D = none → H' D = some (.dK acc) → Pv D n acc H' → Q (.ref D) H') : kDc g tt tk tv vs σ Q J H := by
  intro D hD
  refine ⟨fun i m H' => m = n - i ∧ i ≤ n ∧ kND (Pv D i) D H', ⟨n, by simp, Nat.zero_le _, [], upd_same, h0 D _ hD (Kp.new hD) upd_same⟩, ?_⟩
  rintro i m H' ⟨rfl, hi, acc, e, p⟩
  have q := hG D i acc H' hi p
  by_cases hlt : i < n
  · exact .inr ⟨w.goes i H' hlt q, kND (Pv D (i + 1)) D, fun H2 p' => ⟨n - (i + 1), by omega, rfl, hlt, p'⟩, fun x H2 y => hs D i acc x H' H2 hD hlt e p (w.yields i H' x H2 hlt q y)⟩
  · have e' : i = n := by omega
    subst e'
    exact .inl ⟨w.stops H' q, hd D acc H' hD e p⟩
/-! targets that are tuples -/
theorem r_gtup {K : PySem.W.Frag} {m : Nat} {t : TGs} {QS : St → Hp → Prop} {a : Addr} (h : SqT K H a xs) (hl : xs.length = m) (q : t xs σ H QS) : gTup K m t (.ref a) σ H QS := ⟨a, xs, rfl, h, hl, q⟩
theorem r_gnil {QS : St → Hp → Prop} (q : QS σ H) : gNil [] σ H QS := ⟨rfl, q⟩
theorem r_gcons {t : TG} {u : TGs} {QS : St → Hp → Prop} (q : t x σ H fun σ' H' => u xs σ' H' QS) : gCons t u (x :: xs) σ H QS := ⟨x, xs, rfl, q⟩
/-! methods of lists -/
def kBM (K : PySem.W.Frag) (T : String) (r : V → List V → Hp → VK → Prop) (tr : TA) (σ : St) (Q : VK) : VK := fun x H1 => tyV K T x H1 ∧ tr σ H1 fun xs H2 => r x xs H2 Q
theorem r_bm {T : String} {r : V → List V → Hp → VK → Prop} (q : te σ H (kBM K T r tr σ Q)) : tBM K T r te tr σ H Q := q
theorem r_kBMl {r : V → List V → Hp → VK → Prop} (h : SqL K H p xs) (q : tr σ H fun ys H2 => r (.ref p) ys H2 Q) : kBM K "list" r tr σ Q (.ref p) H := ⟨.inl ⟨rfl, _, h⟩, q⟩
def kBM0 (K : PySem.W.Frag) (T : String) (r : V → List V → Hp → VK → Prop) (Q : VK) : VK := fun x H1 => tyV K T x H1 ∧ r x [] H1 Q
theorem r_bm0 {T : String} {r : V → List V → Hp → VK → Prop} (q : te σ H (kBM0 K T r Q)) : tBM0 K T r te σ H Q := q
theorem r_kBM0l {r : V → List V → Hp → VK → Prop} (h : SqL K H p xs) (q : r (.ref p) [] H Q) : kBM0 K "list" r Q (.ref p) H := ⟨.inl ⟨rfl, _, h⟩, q⟩
theorem r_append (e : H p = some (.lst xs)) (h : xs.length < sizeLine) (q : ∀ H', Kp [p] H H' → H' p = some (.lst (xs ++ [x])) → Q .non H') : rAppend (.ref p) [x] H Q := ⟨p, xs, x, rfl, rfl, e, h, q _ (Kp.put (by simp)) upd_same⟩
/-! texts -/
def rAddT : R2 := fun x y H Q => ∃ i j, x = .str i ∧ y = .str j ∧ i.length + j.length ≤ sizeLine ∧ Q (.str (i ++ j)) H
theorem op_addT {X : Cx} : OpR X (binaryOp .Add) rAddT := op_add_str
theorem r_addT {a b : Str} (h : a.length + b.length ≤ sizeLine) (q : Q (.str (a ++ b)) H) : rAddT (.str a) (.str b) H Q := ⟨a, b, rfl, rfl, h, q⟩
theorem r_eqS {a b : Str} (q : Q (.bl (decide (a = b))) H) : rEq (.str a) (.str b) H Q := by
  refine ⟨rfl, ?_⟩
  have e : decide (V.str a = V.str b) = decide (a = b) := by
    by_cases h : a = b
    · subst h
      simp
    · rw [decide_eq_false h, decide_eq_false fun z => h (V.str.inj z)]
  rw [e]
  exact q
theorem r_neS {a b : Str} (q : Q (.bl (!decide (a = b))) H) : rNe (.str a) (.str b) H Q := by
  refine ⟨rfl, ?_⟩
  have e : decide (V.str a = V.str b) = decide (a = b) := by
    by_cases h : a = b
    · subst h
      simp
    · rw [decide_eq_false h, decide_eq_false fun z => h (V.str.inj z)]
  rw [e]
  exact q
/-! in, not in, of texts in a list -/
theorem eqV_str (a b : Str) : eqV (.str a) (.str b) = decide (a = b) := by
  show (a == b) = decide (a = b)
  by_cases h : a = b
  · subst h
    simp
  · rw [decide_eq_false h]
    exact beq_eq_false_iff_ne.mpr h
theorem inV_strs (x : Str) : ∀ ws : List Str, inV (.str x) (ws.map V.str) = decide (x ∈ ws)
  | [] => by simp [inV]
  | w :: ws => by
    have ih := inV_strs x ws
    unfold inV at ih
    unfold inV
    rw [List.map_cons, List.any_cons, ih, eqV_str]
    by_cases h : x = w
    · subst h
      simp
    · have h' : ¬ w = x := fun e => h e.symm
      simp [h, h']
theorem flat_strs (ws : List Str) : (ws.map V.str).all flatV = true := by
  rw [List.all_eq_true]
  intro v hv
  obtain ⟨w, _, rfl⟩ := List.mem_map.mp hv
  rfl
theorem r_inL {z : Str} {ws : List Str} (h : SqL K H p (ws.map V.str)) (q : Q (.bl (decide (z ∈ ws))) H) : rIn K false (.str z) (.ref p) H Q := by
  refine ⟨p, _, rfl, .inl h, rfl, flat_strs ws, ?_⟩
  show Q (.bl (inV (.str z) (ws.map V.str))) H
  rw [inV_strs]
  exact q
theorem r_notInL {z : Str} {ws : List Str} (h : SqL K H p (ws.map V.str)) (q : Q (.bl (!decide (z ∈ ws))) H) : rIn K true (.str z) (.ref p) H Q := by
  refine ⟨p, _, rfl, .inl h, rfl, flat_strs ws, ?_⟩
  show Q (.bl (!inV (.str z) (ws.map V.str))) H
  rw [inV_strs]
  exact q
end

/-! the layer's rules with K named: within a comprehension's block it could not be found otherwise -/
section
variable {X : Cx} {K : PySem.W.Frag} (hK : X.K = K)
include hK
theorem K_in : OpR X (compareOp .In) (rIn K false) := by
  subst hK
  exact op_in_seq
theorem K_notIn : OpR X (compareOp .NotIn) (rIn K true) := by
  subst hK
  exact op_notIn_seq
theorem K_eqD (hu : X.A.units + 64 < cLine) : OpR X (compareOp .Eq) (rEqD K) := by
  subst hK
  exact op_eqD hu
theorem K_neD (hu : X.A.units + 64 < cLine) : OpR X (compareOp .NotEq) (rNeD K) := by
  subst hK
  exact op_neD hu
theorem K_len : CallR X (.builtin "len") (cLen K) := by
  subst hK
  exact cr_len
theorem K_list : CallR X (.type "list") (cList K) := by
  subst hK
  exact cr_list
theorem K_tuple : CallR X (.type "tuple") (cTuple K) := by
  subst hK
  exact cr_tuple
theorem K_ixL : IxR X (rIxL K) := by
  subst hK
  exact ix_list
theorem K_ixT : IxR X (rIxT K) := by
  subst hK
  exact ix_tup
theorem K_sum (hc : X.calm = true) : CallR X (.builtin "sum") (rSum K) := by
  subst hK
  exact cr_sum hc
theorem K_max (hc : X.calm = true) : CallR X (.builtin "max") (rMax K) := by
  subst hK
  exact cr_max hc
theorem K_min (hc : X.calm = true) : CallR X (.builtin "min") (rMin K) := by
  subst hK
  exact cr_min hc
theorem K_any (hc : X.calm = true) : CallR X (.builtin "any") (rAny K) := by
  subst hK
  exact cr_any hc
theorem K_all (hc : X.calm = true) : CallR X (.builtin "all") (rAll K) := by
  subst hK
  exact cr_all hc
theorem K_sortedI : CallR X (.builtin "sorted") (rSortedI K) := by
  subst hK
  exact cr_sortedI
theorem K_sortedS : CallR X (.builtin "sorted") (rSortedS K) := by
  subst hK
  exact cr_sortedS
theorem K_isi : CallR X (.builtin "isinstance") (rIsi K) := by
  subst hK
  exact call_isi
theorem K_isiT : CallR X (.builtin "isinstance") (rIsiT K) := by
  subst hK
  exact call_isiT
theorem K_slL : SlR X (rSlL K) := by
  subst hK
  exact sl_list
theorem K_slT : SlR X (rSlT K) := by
  subst hK
  exact sl_tup
theorem K_catT : OpR X (binaryOp .Add) (rCatA K) := by
  subst hK
  exact op_catA
theorem K_index : MtR X "list.index" (rIndex K) := by
  subst hK
  exact mt_index
theorem K_pil {tg l : Expr} {tl : TE} (hl : PE X l tl) : PI X tg l (iList K tl) := by
  subst hK
  exact pi_list hl
theorem K_pit {tg l : Expr} {tl : TE} (hl : PE X l tl) : PI X tg l (iTup K tl) := by
  subst hK
  exact pi_tup hl
theorem K_enum {e : Expr} {ta : TA} {p pos tpos : Pos} {elts : List Expr} {kk : Nat} (hg : Gl X "enumerate") (hm : X.mg "enumerate" = none) (ha : PA X [e] ta) (hs : starEach [e] X.env = [(false, eval e X.env)] := by rfl) :
    PI X (.Tuple elts kk tpos) (.Call (.Name "enumerate" p) [e] [] pos) (iEnum K ta) := by
  subst hK
  exact pi_enum hg hm ha hs
theorem K_zip {e e2 : Expr} {ta : TA} {p pos tpos : Pos} {elts : List Expr} {kk : Nat} (hg : Gl X "zip") (hm : X.mg "zip" = none) (ha : PA X [e, e2] ta) (hs : starEach [e, e2] X.env = (false, eval e X.env) :: starEach [e2] X.env := by rfl) (hpl : (backTo pos (starEach [e2] X.env)).any (·.1) = false := by rfl) :
    PI X (.Tuple elts kk tpos) (.Call (.Name "zip" p) [e, e2] [] pos) (iZip K ta) := by
  subst hK
  exact pi_zip hg hm ha hs hpl
theorem K_bm {o e : Expr} {es : List Expr} {T : String} {name : Str} {id : String} {r : V → List V → Hp → VK → Prop} {to : TE} {t : TA} {apos cpos : Pos} (pa : PlainAttrs T) (slot : Slot T name id) (hty : typeOf (.builtin id) = pure (.type "method_descriptor")) (hm : MtR X id r) (ho : PE X o to) (ha : PA X (e :: es) t) (hbase : attributeBase o name X.env (eval o X.env) = eval o X.env := by rfl) (hfew : ((backTo cpos (starEach (e :: es) X.env)).all (fun x => !x.1) && (backToKw cpos (keywordEach [] X.env)).all (fun x => x.1.isSome) && decide ((e :: es).length + ([] : List Keyword).length + (if ([] : List Keyword).isEmpty then 0 else 1) < 30)) = true := by rfl) (hline : (apos.endLine == cpos.line) = true := by rfl) (hs : starEach (e :: es) X.env = (false, eval e X.env) :: starEach es X.env := by rfl) (hplain : (backTo cpos (starEach es X.env)).any (·.1) = false := by rfl) : PE X (.Call (.Attribute o name apos) (e :: es) [] cpos) (tBM K T r to t) := by
  subst hK
  exact pe_bm pa slot hty hm ho ha hbase hfew hline hs hplain
theorem K_bm0 {o : Expr} {T : String} {name : Str} {id : String} {r : V → List V → Hp → VK → Prop} {to : TE} {apos cpos : Pos} (pa : PlainAttrs T) (slot : Slot T name id) (hty : typeOf (.builtin id) = pure (.type "method_descriptor")) (hm : MtR X id r) (ho : PE X o to) (hbase : attributeBase o name X.env (eval o X.env) = eval o X.env := by rfl) (hline : (apos.endLine == cpos.line) = true := by rfl) : PE X (.Call (.Attribute o name apos) [] [] cpos) (tBM0 K T r to) := by
  subst hK
  exact pe_bm0 pa slot hty hm ho hbase hline
theorem K_gtup {es : List Expr} {k : Nat} {t : TGs} {n : Nat} {pos : Pos} (hc : X.calm = true) (h : PGs X es t) (hn : (assignEach es X.env).length = n := by rfl) (hst : (assignEach es X.env).findIdx? (·.1) = none := by rfl) : PG X (.Tuple es k pos) (gTup K n t) := by
  subst hK
  exact pg_tup hc h hn hst
theorem K_fld {e : Expr} {f : Str} {pos : Pos} {ta : TE} (he : PE X e ta) (hb : attributeBase e f X.env (eval e X.env) = eval e X.env) : PE X (.Attribute e f pos) (tFld K ta f) := by
  subst hK
  exact pe_fld he hb
theorem K_join {o e : Expr} {to te : TE} {apos pos : Pos} (ho : PE X o to) (he : PE X e te) (hs : starEach [e] X.env = [(false, eval e X.env)] := by rfl) (hbase : attributeBase o "join" X.env (eval o X.env) = eval o X.env := by rfl) (hline : (apos.endLine == pos.line) = true := by rfl) : PE X (.Call (.Attribute o "join" apos) [e] [] pos) (tM1 (fun x xs H Q => ∃ a p, ∃ ys : List Str, x = .str a ∧ xs = [.ref p] ∧ (SqL K H p (ys.map V.str) ∨ SqT K H p (ys.map V.str)) ∧ (ys.map (·.length)).sum + ys.length * a.length ≤ 16777216 ∧ Q (.str (Txt.join a ys)) H) to te) := by
  subst hK
  exact pe_join ho he hs hbase hline
end

/-! cuts: what stands behind is read once -/
section
variable {X : Cx}
def tCutS (t u : TS) : TS := fun D σ H => ∃ M : St → Hp → Prop, t { D with nx := M } σ H ∧ ∀ σ' H', M σ' H' → u D σ' H'
theorem pss_cutS {st : Stmt} {more : List Stmt} {t u : TS} (a : PS X st t) (b : PSs X more u) : PSs X (st :: more) (tCutS t u) := by
  constructor
  intro pins s σ H D I ⟨M, hm, hu⟩
  refine wpAny_execs_cons (thn (a.run pins s σ H { D with nx := M } I hm) fun f s1 w => ?_)
  match f, w with
  | .next, ⟨σ', H', I', w'⟩ => exact b.run pins s1 σ' H' D I' (hu σ' H' w')
  | .ret _, w => exact w
  | .brk, w => exact w
  | .cont, w => exact w
theorem r_cutS {t u : TS} {nx bk ct : St → Hp → Prop} {rt : VK} {σ : St} {H : Hp} (M : St → Hp → Prop) (h : t ⟨M, rt, bk, ct⟩ σ H) (q : ∀ σ' H', M σ' H' → u ⟨nx, rt, bk, ct⟩ σ' H') : tCutS t u ⟨nx, rt, bk, ct⟩ σ H := ⟨M, h, q⟩
def tCutT (t : TT) : TT := fun σ H Q => ∃ M : Bool → Hp → Prop, t σ H M ∧ ∀ b H', M b H' → Q b H'
theorem pt_cutT {e : Expr} {t : TT} (a : PT X e t) : PT X e (tCutT t) := by
  constructor
  intro pins s σ H Q I ⟨M, hm, hq⟩
  exact wpAny_mono (a.run pins s σ H M I hm) (fun b s' ⟨H', I', w⟩ => ⟨H', I', hq b H' w⟩) fun _ _ z => z
theorem r_cutT {t : TT} {σ : St} {H : Hp} {QB : Bool → Hp → Prop} (M : Bool → Hp → Prop) (h : t σ H M) (q : ∀ b H', M b H' → QB b H') : tCutT t σ H QB := ⟨M, h, q⟩
def tCutE (t : TE) : TE := fun σ H Q => ∃ M : VK, t σ H M ∧ ∀ x H', M x H' → Q x H'
theorem pe_cutE {e : Expr} {t : TE} (a : PE X e t) : PE X e (tCutE t) := by
  constructor
  intro pins s σ H Q I ⟨M, hm, hq⟩
  exact wpAny_mono (a.run pins s σ H M I hm) (fun u s' ⟨v, H', I', r, w⟩ => ⟨v, H', I', r, hq v H' w⟩) fun _ _ z => z
theorem r_cutE {t : TE} {σ : St} {H : Hp} {Q : VK} (M : VK) (h : t σ H M) (q : ∀ x H', M x H' → Q x H') : tCutE t σ H Q := ⟨M, h, q⟩
end

/-! lists by turns -/
theorem take_more {α : Type} : ∀ {l : List α} {i : Nat} {x : α}, l[i]? = some x → l.take (i + 1) = l.take i ++ [x]
  | [], i, x, h => by simp at h
  | a :: l, 0, x, h => by
    cases h
    rfl
  | a :: l, i + 1, x, h => by
    have ih := take_more (l := l) (i := i) (x := x) h
    rw [List.take_succ_cons, ih]
    rfl
theorem take_map {α β : Type} {l : List α} {i : Nat} {x : α} (f : α → β) (h : l[i]? = some x) : (l.take (i + 1)).map f = (l.take i).map f ++ [f x] := by
  rw [take_more h, List.map_append]
  rfl
theorem take_filter {α : Type} {l : List α} {i : Nat} {x : α} (f : α → Bool) (h : l[i]? = some x) : (l.take (i + 1)).filter f = (l.take i).filter f ++ (if f x = true then [x] else []) := by
  rw [take_more h, List.filter_append]
  cases e : f x <;> simp [e]
theorem map_at {α β : Type} {l : List α} {i : Nat} {y : β} {f : α → β} (h : (l.map f)[i]? = some y) : ∃ x, l[i]? = some x ∧ y = f x := by
  rw [List.getElem?_map] at h
  cases e : l[i]? with
  | none =>
    rw [e] at h
    cases h
  | some x =>
    rw [e] at h
    exact ⟨x, rfl, (Option.some.inj h).symm⟩
theorem lt_at {α : Type} {l : List α} {i : Nat} {x : α} (h : l[i]? = some x) : i < l.length := (List.getElem?_eq_some_iff.mp h).1
theorem mem_at {α : Type} {l : List α} {i : Nat} {x : α} (h : l[i]? = some x) : x ∈ l := List.mem_of_getElem? h
/-- a word's heap behind a new list at D has grown by a change of D -/
theorem Kp.step {D : Addr} {ex : List Addr} {H H1 H2 : Hp} (a : Kp ex H H1) (n : H D = none) (b : Kp [D] H1 H2) : Kp ex H H2 :=
  Kp.drop (l := D) ((a.mono fun _ m => List.mem_cons_of_mem _ m).trans (b.mono fun x m => by rw [List.mem_singleton.mp m]; exact List.mem_cons_self)) n

/-! a walk over a list or a tuple -/
def iSeq (K : PySem.W.Frag) (tl : TE) : TI := fun σ H R => tl σ H fun x H1 => ∃ a, x = .ref a ∧ (((∃ xs, SqL K H1 a xs) ∧ R (Itl K a) H1) ∨ ((∃ xs, SqT K H1 a xs) ∧ R (Itt K a) H1))
theorem K_pis {X : Cx} {K : PySem.W.Frag} (hK : X.K = K) {tg l : Expr} {tl : TE} (hl : PE X l tl) : PI X tg l (iSeq K tl) := by
  subst hK
  constructor
  intro pins s σ H R I h
  refine thn (hl.run pins s σ H _ I h) fun v s1 w => ?_
  obtain ⟨_, H1, I1, rv, a, rfl, w⟩ := w
  cases rv
  have fresh : ∀ b ∈ [s1.heap.objs.size], FpOk X pins H1 b := fun b m => (List.mem_singleton.mp m) ▸ I1.fpOk (Nat.le_refl _) (I1.hok.fresh (Nat.le_refl _))
  rcases w with ⟨⟨xs, hs⟩, w⟩ | ⟨⟨xs, hs⟩, w⟩
  · obtain ⟨_, _, pl, _⟩ := I1.list hs
    exact wpAny_pyIter_list pl.isList ⟨_, [s1.heap.objs.size], _, _, H1, rfl, I1.kept (t' := s1.toks) fun _ _ => Heap.get?_push_of_some _, turn_list a _, ⟨_, Heap.get?_push_size _ rfl, rfl, rfl⟩, fresh, w⟩
  · obtain ⟨_, _, pl, _⟩ := I1.tuple hs
    exact wpAny_pyIter_tuple pl ⟨_, [s1.heap.objs.size], _, _, H1, rfl, I1.kept (t' := s1.toks) fun _ _ => Heap.get?_push_of_some _, turn_tuple a _, ⟨_, Heap.get?_push_size _ rfl, rfl, rfl⟩, fresh, w⟩
def cWQ (K : PySem.W.Frag) (R : It → Hp → Prop) : V → Hp → Prop := fun x H1 => ∃ a, x = .ref a ∧ (((∃ xs, SqL K H1 a xs) ∧ R (Itl K a) H1) ∨ ((∃ xs, SqT K H1 a xs) ∧ R (Itt K a) H1))
section
variable {σ : St} {H : Hp} {Q : VK} {K : PySem.W.Frag} {te : TE} {R : It → Hp → Prop} {p : Addr} {xs : List V} {x : V}
theorem r_wq (q : te σ H (cWQ K R)) : iSeq K te σ H R := q
theorem r_cWQl (h : SqL K H p xs) (q : R (Itl K p) H) : cWQ K R (.ref p) H := ⟨p, rfl, .inl ⟨⟨xs, h⟩, q⟩⟩
theorem r_cWQt (h : SqT K H p xs) (q : R (Itt K p) H) : cWQ K R (.ref p) H := ⟨p, rfl, .inr ⟨⟨xs, h⟩, q⟩⟩
/-- a list or a tuple -/
def Sq (K : PySem.W.Frag) (H : Hp) (p : Addr) (xs : List V) : Prop := SqL K H p xs ∨ SqT K H p xs
theorem Sq.kp {ex : List Addr} {H' : Hp} (h : Sq K H p xs) (k : Kp ex H H') (m : p ∉ ex) : Sq K H' p xs := h.elim (fun z => .inl (sql_kp z k m)) fun z => .inr (sqt_kp z k m)
theorem r_lenQ (h : Sq K H p xs) (q : Q (.int (xs.length : Nat)) H) : cLen K [.ref p] H Q := ⟨p, xs, rfl, h, q⟩
theorem r_listQ (h : Sq K H p xs) (q : ∀ l H', H l = none → Kp [] H H' → H' l = some (.lst xs) → Q (.ref l) H') : cList K [.ref p] H Q := ⟨p, xs, rfl, h, fun l n => q l _ n (Kp.new n) upd_same⟩
/-! isinstance -/
theorem r_isiTy {T n : String} {b : Bool} (h : TyX K H x (.type T)) (e : kitB T n = some b) (q : Q (.bl b) H) : rIsi K [x, .ty n] H Q := ⟨x, .ty n, _, _, b, rfl, .ty n, h, kit_ty e, q⟩
/-! [e for ..] over a list or a tuple -/
theorem r_kLcQ {g : TG} {tt : TT} {vs : List Nat} (Pv : Addr → Nat → List V → Hp → Prop) (hq : Sq K H p xs) (h0 : ∀ D H', H D = none → Kp [] H H' → H' D = some (.lst []) → Pv D 0 [] H') (hG : ∀ D i acc H', i ≤ xs.length → Pv D i acc H' → Kp [] H H')
    (hs : ∀ D (i : Nat) acc x H', H D = none → xs[i]? = some x → H' D = some (.lst acc) → Pv D i acc H' → g x (wipe σ vs) H' (kTurn tt te (wipe σ vs) vs D (kN (Pv D (i + 1)) D)))
    (hd : ∀ D acc H', H D = none → H' D = some (.lst acc) → Pv D xs.length acc H' → Q (.ref D) H') : cWQ K (kLc g tt te vs σ Q) (.ref p) H := by
  rcases hq with h | h
  · exact r_cWQl h (r_kLcL Pv h0 (fun D i acc H' hi p => sql_kp h (hG D i acc H' hi p) not_nil) hs hd)
  · exact r_cWQt h (r_kLcT Pv h0 (fun D i acc H' hi p => sqt_kp h (hG D i acc H' hi p) not_nil) hs hd)
end

/-! list.index of a number -/
theorem eqV_int (a b : Int) : eqV (.int a) (.int b) = (a == b) := rfl
theorem flat_ints (ns : List Int) : (ns.map V.int).all flatV = true := by
  rw [List.all_eq_true]
  intro v hv
  obtain ⟨w, _, rfl⟩ := List.mem_map.mp hv
  rfl
theorem lt_idx {n : Int} : ∀ {l : List Int} {m : Nat} {z : Int}, m < l.idxOf n → l[m]? = some z → z ≠ n
  | [], m, z, _, e => by simp at e
  | x :: l, m, z, h, e => by
    rw [List.idxOf_cons] at h
    by_cases c : x = n
    · subst c
      simp at h
    · have c' : (x == n) = false := beq_eq_false_iff_ne.mpr c
      rw [c'] at h
      cases m with
      | zero =>
        cases e
        exact c
      | succ m =>
        exact lt_idx (l := l) (m := m) (Nat.lt_of_succ_lt_succ h) e
theorem r_indexI {K : PySem.W.Frag} {H : Hp} {Q : VK} {p : Addr} {ns : List Int} {n : Int} (h : SqL K H p (ns.map V.int)) (m : n ∈ ns) (q : Q (.int (ns.idxOf n : Nat)) H) : rIndex K (.ref p) [.int n] H Q := by
  have hi := List.idxOf_lt_length_of_mem m
  have e : ns[ns.idxOf n]? = some n := by rw [List.getElem?_eq_getElem hi, List.getElem_idxOf]
  refine ⟨p, _, .int n, ns.idxOf n, .int n, rfl, rfl, h, rfl, flat_ints ns, ?_, beq_self_eq_true n, fun j z' hj hz => ?_, q⟩
  · rw [List.getElem?_map, e]
    rfl
  · obtain ⟨z, hz', rfl⟩ := map_at hz
    exact beq_eq_false_iff_ne.mpr (lt_idx hj hz')
/-! == of data -/
def Shp (n : Nat) (d : PyData) : Prop := d.canLay0 = true ∧ d.depth ≤ n
theorem Shp.ok {n : Nat} {d : PyData} (h : Shp n d) (hn : n ≤ 64) : SeqAt.shaped d = true := Bool.and_eq_true_iff.mpr ⟨h.1, decide_eq_true (Nat.le_trans h.2 hn)⟩
theorem Shp.all {n : Nat} : ∀ {l : List PyData}, (∀ d ∈ l, Shp n d) → PyData.canLayAll0 l = true ∧ PyData.depthAll l ≤ n
  | [], _ => ⟨rfl, Nat.zero_le _⟩
  | d :: l, h => by
    have h1 := h d List.mem_cons_self
    have h2 := Shp.all (l := l) fun x hx => h x (List.mem_cons_of_mem _ hx)
    exact ⟨Bool.and_eq_true_iff.mpr ⟨h1.1, h2.1⟩, Nat.max_le.mpr ⟨h1.2, h2.2⟩⟩
theorem Shp.list {n : Nat} {l : List PyData} (h : ∀ d ∈ l, Shp n d) : Shp (n + 1) (.list l) := ⟨(Shp.all h).1, Nat.succ_le_succ (Shp.all h).2⟩
theorem Shp.tuple {n : Nat} {l : List PyData} (h : ∀ d ∈ l, Shp n d) : Shp (n + 1) (.tuple l) := ⟨(Shp.all h).1, Nat.succ_le_succ (Shp.all h).2⟩
theorem Shp.int (i : Int) (n : Nat) : Shp n (.int i) := ⟨rfl, Nat.zero_le _⟩
theorem Shp.bool (b : Bool) (n : Nat) : Shp n (.bool b) := ⟨rfl, Nat.zero_le _⟩
theorem Shp.none (n : Nat) : Shp n .none := ⟨rfl, Nat.zero_le _⟩
theorem Shp.str {x : Str} (h : PyData.strOk x = true) (n : Nat) : Shp n (.str x) := ⟨h, Nat.zero_le _⟩
theorem strOk_of {x : Str} {m : Nat} (h : ∀ c ∈ x.cps.toList, c ≤ m) (hm : m < 0x110000) : PyData.strOk x = true := by
  unfold PyData.strOk
  rw [← Array.all_toList, List.all_eq_true]
  intro c hc
  have := h c hc
  exact decide_eq_true (by omega)
section
variable {H : Hp} {Q : VK} {K : PySem.W.Frag} {x y : V} {d e : PyData} {ex ex' : List Addr} {n : Nat}
theorem r_eqD (hx : Dt ex H x d) (hy : Dt ex' H y e) (sx : Shp n d) (sy : Shp n e) (hn : n ≤ 64) (q : Q (.bl (PyData.eqv d e)) H) : rEqD K x y H Q := ⟨d, e, hx.dp, hy.dp, sx.ok hn, sy.ok hn, q⟩
theorem r_neD (hx : Dt ex H x d) (hy : Dt ex' H y e) (sx : Shp n d) (sy : Shp n e) (hn : n ≤ 64) (q : Q (.bl (!PyData.eqv d e)) H) : rNeD K x y H Q := ⟨d, e, hx.dp, hy.dp, sx.ok hn, sy.ok hn, q⟩
theorem r_eqD1 (hx : Dt ex H x d) (hy : Dt ex' H y d) (sx : Shp n d) (hn : n ≤ 64) (q : Q (.bl true) H) : rEqD K x y H Q := by
  refine r_eqD hx hy sx sx hn ?_
  rw [SeqAt.eqv_refl d sx.1]
  exact q
theorem r_neD0 (hx : Dt ex H x d) (hy : Dt ex' H y d) (sx : Shp n d) (hn : n ≤ 64) (q : Q (.bl false) H) : rNeD K x y H Q := by
  refine r_neD hx hy sx sx hn ?_
  rw [SeqAt.eqv_refl d sx.1]
  exact q
end
end Rd

set_option maxHeartbeats 4000000
/-! Ob: objects of own classes (fields, methods, making), their `in`, len, ==; isinstance of data; text in text; walks over a list or a tuple. -/
namespace Rd
open PySem PySem.Spec L2 StX

def UseM (P : Program) (w : World) (K : PySem.W.Frag) (mg : Str → Option Value) (base : Heap) (n : Nat) (C : Addr) (m : Str) (sp : Sp) : Prop := ∃ f, FnR P w K mg base CX0 n f sp ∧ Meth K C m f
def UseC (P : Program) (w : World) (K : PySem.W.Frag) (mg : Str → Option Value) (base : Heap) (n : Nat) (x : Str) (C : Addr) (sp : Sp) : Prop := ∃ f, FnR P w K mg base CX0 n f sp ∧ Mk K C f ∧ mg x = some (.ref C)
theorem fnr {P : Program} {w : World} {K : PySem.W.Frag} {mg : Str → Option Value} {base : Heap} {n : Nat} {f : Addr} {fd : FuncData} {ps : List Str} {sp : Sp} (F : FnOk P w K mg base CX0 n f fd ps sp) (b : Binds K fd ps []) : FnR P w K mg base CX0 n f sp :=
  (F.raw b .nil).imp fun vs H Q E h => by
    rw [List.append_nil]
    exact h

section
variable {σ : St} {H : Hp} {Q : VK} {QB : Bool → Hp → Prop} {v x y : V} {ta tb tc tv : TE} {tr : TA} {K : PySem.W.Frag} {C a dx : Addr} {fs : List (Str × V)} {f m : Str} {nx bk ct : St → Hp → Prop} {rt : VK} {sp : Sp} {r r' : R2} {b : Bool}
/-! fields -/
def kFld (K : PySem.W.Frag) (f : Str) (Q : VK) : VK := fun x H1 => ∃ a C dx fs v, x = .ref a ∧ H1 a = some (.ins C dx fs) ∧ Cls K C ∧ NoAttr K C f ∧ fs.lookup f = some v ∧ Q v H1
theorem r_fld (q : ta σ H (kFld K f Q)) : tFld K ta f σ H Q := q
theorem r_kFld (e : H a = some (.ins C dx fs)) (c : Cls K C) (n : NoAttr K C f) (l : fs.lookup f = some v) (q : Q v H) : kFld K f Q (.ref a) H := ⟨a, C, dx, fs, v, rfl, e, c, n, l, q⟩
def kSF (K : PySem.W.Frag) (f : Str) (y : V) (nx : St → Hp → Prop) (σ : St) : VK := fun x H2 => ∃ a C dx fs, x = .ref a ∧ H2 a = some (.ins C dx fs) ∧ Cls K C ∧ NoAttr K C f ∧ fs.length < 1000 ∧ nx σ (upd H2 a (.ins C dx (putF f y fs)))
theorem r_sfld (q : tv σ H fun y H1 => ta σ H1 (kSF K f y nx σ)) : sFld K ta tv f ⟨nx, rt, bk, ct⟩ σ H := q
theorem r_kSF (e : H a = some (.ins C dx fs)) (c : Cls K C) (n : NoAttr K C f) (l : fs.length < 1000) (q : ∀ H', Kp [a] H H' → H' a = some (.ins C dx (putF f y fs)) → nx σ H') : kSF K f y nx σ (.ref a) H :=
  ⟨a, C, dx, fs, rfl, e, c, n, l, q _ (Kp.put (by simp)) upd_same⟩
/-! methods, making -/
def kMeth (C : Addr) (m : Str) (sp : Sp) (t : TA) (σ : St) (Q : VK) : VK := fun x H1 => ∃ a dx fs, x = .ref a ∧ H1 a = some (.ins C dx fs) ∧ fs.lookup m = none ∧ t σ H1 fun vs H2 => sp (x :: vs) H2 Q E0
theorem r_methR (q : ta σ H (kMeth C m sp tr σ Q)) : tMethR C m sp E0 ta tr σ H Q := q
theorem r_kMeth (e : H a = some (.ins C dx fs)) (l : fs.lookup m = none) (q : tr σ H fun vs H2 => sp (.ref a :: vs) H2 Q E0) : kMeth C m sp tr σ Q (.ref a) H := ⟨a, dx, fs, rfl, e, l, q⟩
def kMade (x : Addr) (Q : VK) : VK := fun v H2 => v = .non ∧ Q (.ref x) H2
theorem r_kMade {p : Addr} (q : Q (.ref p) H) : kMade p Q .non H := ⟨rfl, q⟩
def kMake (C : Addr) (sp : Sp) (Q : VK) : List V → Hp → Prop := fun vs H1 => ∀ x dx, H1 x = none → H1 dx = none → dx ≠ x → sp (.ref x :: vs) (upd (upd H1 dx (.own x)) x (.ins C dx [])) (kMade x Q) E0
theorem r_makeR (q : tr σ H (kMake C sp Q)) : tMakeR C sp E0 tr σ H Q := q
theorem r_kMake {vs : List V} (q : ∀ a dx H', H a = none → Kp [] H H' → H' a = some (.ins C dx []) → sp (.ref a :: vs) H' (kMade a Q) E0) : kMake C sp Q vs H := fun a dx n n' d =>
  q a dx _ n ((Kp.new n').trans (Kp.new (by rw [upd_ne d.symm]; exact n))) upd_same
/-! a op b op c -/
def kCh (r' : R2) (y : V) (tc : TE) (σ : St) (Q : VK) : VK := fun z H3 => ∃ k, z = .bl k ∧ (if k = true then tc σ H3 fun w' H4 => r' y w' H4 Q else Q (.bl false) H3)
theorem r_chain (q : ta σ H fun x H1 => tb σ H1 fun y H2 => r x y H2 (kCh r' y tc σ Q)) : tChain r r' ta tb tc σ H Q := q
theorem r_kCh (h1 : b = true → tc σ H fun w' H4 => r' y w' H4 Q) (h2 : b = false → Q (.bl false) H) : kCh r' y tc σ Q (.bl b) H := by
  refine ⟨b, rfl, ?_⟩
  cases b
  · exact h2 rfl
  · exact h1 rfl
/-! text in text -/
def rInS : R2 := fun x y H Q => ∃ i j, x = .str i ∧ y = .str j ∧ Q (.bl (!(Builtin.Str.occurrences j i 0 j.length 1).isEmpty)) H
def rNinS : R2 := fun x y H Q => ∃ i j, x = .str i ∧ y = .str j ∧ Q (.bl (!(!(Builtin.Str.occurrences j i 0 j.length 1).isEmpty))) H
theorem op_inS {X : Cx} : OpR X (compareOp .In) rInS := op_in_str
theorem op_ninS {X : Cx} : OpR X (compareOp .NotIn) rNinS := op_notin_str
theorem r_inC {c : Nat} {z : Str} (q : Q (.bl (decide (c ∈ z.cps.toList))) H) : rInS (.str ⟨#[c]⟩) (.str z) H Q := by
  refine ⟨_, _, rfl, rfl, ?_⟩
  have e := StrLaws.found_one z c
  rw [show (!(Builtin.Str.occurrences z ⟨#[c]⟩ 0 z.length 1).isEmpty) = decide (c ∈ z.cps.toList) from e]
  exact q
theorem r_ninC {c : Nat} {z : Str} (q : Q (.bl (!decide (c ∈ z.cps.toList))) H) : rNinS (.str ⟨#[c]⟩) (.str z) H Q := by
  refine ⟨_, _, rfl, rfl, ?_⟩
  have e := StrLaws.found_one z c
  rw [show (!(Builtin.Str.occurrences z ⟨#[c]⟩ 0 z.length 1).isEmpty) = decide (c ∈ z.cps.toList) from e]
  exact q
/-! in a tuple of texts; all of truth values -/
theorem r_inT {z : Str} {ws : List Str} {p : Addr} (h : SqT K H p (ws.map V.str)) (q : Q (.bl (decide (z ∈ ws))) H) : rIn K false (.str z) (.ref p) H Q := by
  refine ⟨p, _, rfl, .inr h, rfl, flat_strs ws, ?_⟩
  show Q (.bl (inV (.str z) (ws.map V.str))) H
  rw [inV_strs]
  exact q
theorem r_ninT {z : Str} {ws : List Str} {p : Addr} (h : SqT K H p (ws.map V.str)) (q : Q (.bl (!decide (z ∈ ws))) H) : rIn K true (.str z) (.ref p) H Q := by
  refine ⟨p, _, rfl, .inr h, rfl, flat_strs ws, ?_⟩
  show Q (.bl (!inV (.str z) (ws.map V.str))) H
  rw [inV_strs]
  exact q
theorem r_all {bs : List Bool} {p : Addr} (h : SqL K H p (bs.map V.bl)) (q : Q (.bl (bs.all id)) H) : rAll K [.ref p] H Q := ⟨p, bs, rfl, h, q⟩
theorem r_any {bs : List Bool} {p : Addr} (h : SqL K H p (bs.map V.bl)) (q : Q (.bl (bs.any id)) H) : rAny K [.ref p] H Q := ⟨p, bs, rfl, h, q⟩
/-! two tuples, one behind the other -/
theorem r_catT {a b : Addr} {xs ys : List V} (ha : SqT K H a xs) (hb : SqT K H b ys) (hz : xs.length + ys.length ≤ sizeLine) (hy : ys ≠ []) (hx : xs = [] → Q (.ref b) H) (q : xs ≠ [] → ∀ p H', H p = none → Kp [] H H' → H' p = some (.tup (xs ++ ys)) → Q (.ref p) H') : rCatA K (.ref a) (.ref b) H Q :=
  ⟨a, b, xs, ys, rfl, rfl, ha, hb, hz, hx, fun _ e => absurd e hy, fun hx _ p n => q hx p _ n (Kp.new n) upd_same⟩
/-- the sum of two tuples, the second one not empty: some tuple -/
theorem r_catT' {a b : Addr} {xs ys : List V} (ha : SqT K H a xs) (hb : H b = some (.tup ys)) (hz : xs.length + ys.length ≤ sizeLine) (hy : ys ≠ []) (q : ∀ p H', Kp [] H H' → H' p = some (.tup (xs ++ ys)) → (p = b ∨ H p = none) → Q (.ref p) H') : rCatA K (.ref a) (.ref b) H Q := by
  refine r_catT ha (SqT.of hb) hz hy (fun e => ?_) fun _ p H' n k e => q p H' k e (.inr n)
  subst e
  exact q b H (Kp.refl _ _) hb (.inl rfl)
end

/-! `in`, len by own defs -/
def kOwnB (neg : Bool) (Q : VK) : VK := fun z H' => ∃ b, z = .bl b ∧ Q (.bl (b != neg)) H'
def rInOwn (C : Addr) (sp : Sp) (neg : Bool) : R2 := fun x y H Q => ∃ a dx fs, y = .ref a ∧ H a = some (.ins C dx fs) ∧ sp [.ref a, x] H (kOwnB neg Q) E0
def kOwnI (Q : VK) : VK := fun z H' => ∃ n : Int, z = .int n ∧ 0 ≤ n ∧ n < 2 ^ 63 ∧ Q (.int n) H'
def cLenOwn (C : Addr) (sp : Sp) : R1 := fun xs H Q => ∃ a dx fs, xs = [.ref a] ∧ H a = some (.ins C dx fs) ∧ sp [.ref a] H (kOwnI Q) E0
/-- x == y, both of the class at C -/
def rEqOwn (C : Addr) (sp : Sp) : R2 := fun x y H Q => ∃ a dx fs b dy gs, x = .ref a ∧ y = .ref b ∧ H a = some (.ins C dx fs) ∧ H b = some (.ins C dy gs) ∧ sp [.ref a, .ref b] H (fun z H' => ∃ c, z = .bl c ∧ Q (.bl c) H') E0
section
variable {X : Cx} {n : Nat} {C f : Addr} {sp : Sp}
theorem op_inOwn (hm : Meth X.K C "__contains__" f) (F : FnR X.prog X.w X.K X.mg X.base CX0 n f sp) (hr : Room n X.A) : OpR X (compareOp .In) (rInOwn C sp false) := by
  intro pins s σ H x y v u Q I rx ry h
  obtain ⟨a, dx, fs, rfl, ea, q⟩ := h
  cases (show u = Value.ref a from ry)
  obtain ⟨mA, O, _⟩ := ins_get I.hok ea
  obtain ⟨od, J, _⟩ := O.look
  obtain ⟨m, hF⟩ := I.fr
  refine PySem.W.in_K hF I.ok.mod.kin J hm.at_ hm.fn (wpAny_mono (wpAny_call (run_fnR (us := [.ref a, v]) (vs := [.ref a, x]) F hr pass0 I (.cons rfl (.cons rx .nil)) q)) (fun r s' z => ?_) fun _ _ x => x)
  obtain ⟨z', H', I', rz, b, rfl, qz⟩ := z
  cases (show r = Value.bool b from rz)
  refine wpAny_truthy_bool ⟨.bl b, H', I', rfl, ?_⟩
  have e : (b != false) = b := by cases b <;> rfl
  rw [e] at qz
  exact qz
theorem op_ninOwn (hm : Meth X.K C "__contains__" f) (F : FnR X.prog X.w X.K X.mg X.base CX0 n f sp) (hr : Room n X.A) : OpR X (compareOp .NotIn) (rInOwn C sp true) := by
  intro pins s σ H x y v u Q I rx ry h
  obtain ⟨a, dx, fs, rfl, ea, q⟩ := h
  cases (show u = Value.ref a from ry)
  obtain ⟨mA, O, _⟩ := ins_get I.hok ea
  obtain ⟨od, J, _⟩ := O.look
  obtain ⟨m, hF⟩ := I.fr
  refine PySem.W.notIn_K hF I.ok.mod.kin J hm.at_ hm.fn (wpAny_mono (wpAny_call (run_fnR (us := [.ref a, v]) (vs := [.ref a, x]) F hr pass0 I (.cons rfl (.cons rx .nil)) q)) (fun r s' z => ?_) fun _ _ x => x)
  obtain ⟨z', H', I', rz, b, rfl, qz⟩ := z
  cases (show r = Value.bool b from rz)
  refine wpAny_truthy_bool ⟨.bl (!b), H', I', rfl, ?_⟩
  have e : (b != true) = !b := by cases b <;> rfl
  rw [e] at qz
  exact qz
theorem cr_lenOwn (hm : Meth X.K C "__len__" f) (F : FnR X.prog X.w X.K X.mg X.base CX0 n f sp) (hr : Room (n + 1) X.A) : CallR X (.builtin "len") (cLenOwn C sp) := by
  intro pins s σ H xs us Q I r h
  obtain ⟨a, dx, fs, rfl, ea, q⟩ := h
  obtain ⟨u, rfl, ru⟩ := r.one
  cases (show u = Value.ref a from ru)
  obtain ⟨mA, O, _⟩ := ins_get I.hok ea
  obtain ⟨od, J, _⟩ := O.look
  obtain ⟨m, hF⟩ := I.fr
  refine PySem.W.len_K hF I.ok.mod.kin J hm.at_ hm.fn (wpAny_call (codeAny_mono (F X.A.in1 X.stack s H [.ref a] [.ref a] _ E0 hr.in1 I.env0.in1 (.cons rfl .nil) q) fun r s' z => ?_))
  cases r with
  | error e => exact False.elim z
  | ok fl =>
    cases fl with
    | ret u =>
      obtain ⟨z', H', I', rz, k, rfl, k0, k1, qz⟩ := I.after z
      obtain ⟨t, e⟩ := (show ∃ t, u = Value.int k t from rz)
      cases e
      exact ⟨⟨k0, k1⟩, .int k, H', I'.tok _, ⟨_, rfl⟩, qz⟩
    | next => exact False.elim z
    | brk => exact False.elim z
    | cont => exact False.elim z
theorem op_eqOwn (hm : Meth X.K C "__eq__" f) (F : FnR X.prog X.w X.K X.mg X.base CX0 n f sp) (hr : Room n X.A) : OpR X (compareOp .Eq) (rEqOwn C sp) := by
  intro pins s σ H x y v u Q I rx ry h
  obtain ⟨a, dx, fs, b, dy, gs, rfl, rfl, ea, eb, q⟩ := h
  cases (show v = Value.ref a from rx)
  cases (show u = Value.ref b from ry)
  obtain ⟨mA, O, _⟩ := ins_get I.hok ea
  obtain ⟨od, J, _⟩ := O.look
  obtain ⟨mB, O', _⟩ := ins_get I.hok eb
  obtain ⟨od', J', _⟩ := O'.look
  obtain ⟨m, hF⟩ := I.fr
  have nf : PySem.W.notFirst X.K C (.ref C) = true := by
    unfold PySem.W.notFirst
    simp
  refine PySem.W.cmp_K (op := .Eq) (tb := .ref C) hr.units0 hF I.ok.mod.kin J J'.type nf hm.at_ hm.fn ?_
  refine wpAny_mono (wpAny_call (run_fnR (us := [.ref a, .ref b]) (vs := [.ref a, .ref b]) F hr pass0 I (.cons rfl (.cons rfl .nil)) q)) (fun r s' z => ?_) fun _ _ x => x
  obtain ⟨z', H', I', rz, c, rfl, qz⟩ := z
  cases (show r = Value.bool c from rz)
  exact ⟨.bl c, H', I', rfl, qz⟩
end
section
variable {H : Hp} {Q : VK} {C a dx : Addr} {fs : List (Str × V)} {sp : Sp} {x : V} {neg b : Bool}
theorem r_inOwn (e : H a = some (.ins C dx fs)) (q : sp [.ref a, x] H (kOwnB neg Q) E0) : rInOwn C sp neg x (.ref a) H Q := ⟨a, dx, fs, rfl, e, q⟩
theorem r_kOwnB (q : Q (.bl (b != neg)) H) : kOwnB neg Q (.bl b) H := ⟨b, rfl, q⟩
end

/-! data of any kind: its type -/
def tyD : PyData → String
  | .none => "NoneType"
  | .bool _ => "bool"
  | .int _ => "int"
  | .str _ => "str"
  | .list _ => "list"
  | .tuple _ => "tuple"
  | .dict _ => "dict"
theorem Dt.tyx {K : PySem.W.Frag} {ex : List Addr} {H : Hp} {v : V} {d : PyData} (h : Dt ex H v d) : TyX K H v (.type (tyD d)) := by
  cases h with
  | non => exact .base .non
  | bl b => exact .base (.bl b)
  | int i => exact .base (.int i)
  | str x => exact .base (.str x)
  | lst _ e _ => exact .base (.lst e)
  | tup _ e _ => exact .base (.tup e)
def isStr : PyData → Bool
  | .str _ => true
  | _ => false
def isTup : PyData → Bool
  | .tuple _ => true
  | _ => false
def isLst : PyData → Bool
  | .list _ => true
  | _ => false
def isInt : PyData → Bool
  | .int _ => true
  | .bool _ => true
  | _ => false
def isBool : PyData → Bool
  | .bool _ => true
  | _ => false
theorem kit_D {n : String} {f : PyData → Bool} {d : PyData} (b0 b1 b2 b3 b4 b5 b6 : Bool) (h0 : kitB "NoneType" n = some b0) (h1 : kitB "bool" n = some b1) (h2 : kitB "int" n = some b2) (h3 : kitB "str" n = some b3) (h4 : kitB "list" n = some b4) (h5 : kitB "tuple" n = some b5) (h6 : kitB "dict" n = some b6)
    (e0 : f .none = b0) (e1 : ∀ b, f (.bool b) = b1) (e2 : ∀ b, f (.int b) = b2) (e3 : ∀ b, f (.str b) = b3) (e4 : ∀ b, f (.list b) = b4) (e5 : ∀ b, f (.tuple b) = b5) (e6 : ∀ b, f (.dict b) = b6) : kitB (tyD d) n = some (f d) := by
  cases d with
  | none => rw [e0]; exact h0
  | bool b => rw [e1]; exact h1
  | int b => rw [e2]; exact h2
  | str b => rw [e3]; exact h3
  | list b => rw [e4]; exact h4
  | tuple b => rw [e5]; exact h5
  | dict b => rw [e6]; exact h6
theorem kit_str (d : PyData) : kitB (tyD d) "str" = some (isStr d) :=
  kit_D false false false true false false false (by decide +kernel) (by decide +kernel) (by decide +kernel) (by decide +kernel) (by decide +kernel) (by decide +kernel) (by decide +kernel) rfl (fun _ => rfl) (fun _ => rfl) (fun _ => rfl) (fun _ => rfl) (fun _ => rfl) (fun _ => rfl)
theorem kit_tup (d : PyData) : kitB (tyD d) "tuple" = some (isTup d) :=
  kit_D false false false false false true false (by decide +kernel) (by decide +kernel) (by decide +kernel) (by decide +kernel) (by decide +kernel) (by decide +kernel) (by decide +kernel) rfl (fun _ => rfl) (fun _ => rfl) (fun _ => rfl) (fun _ => rfl) (fun _ => rfl) (fun _ => rfl)
theorem kit_lst (d : PyData) : kitB (tyD d) "list" = some (isLst d) :=
  kit_D false false false false true false false (by decide +kernel) (by decide +kernel) (by decide +kernel) (by decide +kernel) (by decide +kernel) (by decide +kernel) (by decide +kernel) rfl (fun _ => rfl) (fun _ => rfl) (fun _ => rfl) (fun _ => rfl) (fun _ => rfl) (fun _ => rfl)
theorem kit_int (d : PyData) : kitB (tyD d) "int" = some (isInt d) :=
  kit_D false true true false false false false (by decide +kernel) (by decide +kernel) (by decide +kernel) (by decide +kernel) (by decide +kernel) (by decide +kernel) (by decide +kernel) rfl (fun _ => rfl) (fun _ => rfl) (fun _ => rfl) (fun _ => rfl) (fun _ => rfl) (fun _ => rfl)
theorem kit_bool (d : PyData) : kitB (tyD d) "bool" = some (isBool d) :=
  kit_D false true false false false false false (by decide +kernel) (by decide +kernel) (by decide +kernel) (by decide +kernel) (by decide +kernel) (by decide +kernel) (by decide +kernel) rfl (fun _ => rfl) (fun _ => rfl) (fun _ => rfl) (fun _ => rfl) (fun _ => rfl) (fun _ => rfl)
section
variable {K : PySem.W.Frag} {ex : List Addr} {H : Hp} {Q : VK} {x : V} {d : PyData} {tp : Addr}
theorem r_isiStr (h : Dt ex H x d) (q : Q (.bl (isStr d)) H) : rIsi K [x, .ty "str"] H Q := r_isiTy h.tyx (kit_str d) q
theorem r_isiTup (h : Dt ex H x d) (q : Q (.bl (isTup d)) H) : rIsi K [x, .ty "tuple"] H Q := r_isiTy h.tyx (kit_tup d) q
theorem r_isiLst (h : Dt ex H x d) (q : Q (.bl (isLst d)) H) : rIsi K [x, .ty "list"] H Q := r_isiTy h.tyx (kit_lst d) q
theorem r_isiInt (h : Dt ex H x d) (q : Q (.bl (isInt d)) H) : rIsi K [x, .ty "int"] H Q := r_isiTy h.tyx (kit_int d) q
theorem r_isiBool (h : Dt ex H x d) (q : Q (.bl (isBool d)) H) : rIsi K [x, .ty "bool"] H Q := r_isiTy h.tyx (kit_bool d) q
theorem r_isiLT (h : Dt ex H x d) (e : H tp = some (.tup [.ty "list", .ty "tuple"])) (q : Q (.bl (isLst d || isTup d)) H) : rIsiT K [x, .ref tp] H Q := by
  refine ⟨x, tp, _, _, _, _, rfl, e, .cons (.ty "list") (.cons (.ty "tuple") .nil), h.tyx, ?_, q⟩
  refine kitAny_cons (kit_ty (kit_lst d)) (fun c => ?_) fun c => by rw [c]; rfl
  rw [c]
  refine kitAny_cons (kit_ty (kit_tup d)) (fun c => ?_) fun c => by rw [c]; rfl
  rw [c]
  rfl
end
mutual
theorem Dt.skip' {ex : List Addr} {H : Hp} {a : Addr} {o : HO} (e : H a = some o) (n1 : ∀ xs, o ≠ .lst xs) (n2 : ∀ xs, o ≠ .tup xs) : ∀ (d : PyData) (v : V), Dt ex H v d → Dt (a :: ex) H v d
  | .none, _, h => by cases h; exact .non
  | .bool b, _, h => by cases h; exact .bl b
  | .int i, _, h => by cases h; exact .int i
  | .str x, _, h => by cases h; exact .str x
  | .list ds, _, h => by
    cases h with
    | lst m e' al => exact .lst (fun z => (List.mem_cons.mp z).elim (fun q => n1 _ (Option.some.inj ((q ▸ e).symm.trans e'))) m) e' (DtAll.skip' e n1 n2 ds _ al)
  | .tuple ds, _, h => by
    cases h with
    | tup m e' al => exact .tup (fun z => (List.mem_cons.mp z).elim (fun q => n2 _ (Option.some.inj ((q ▸ e).symm.trans e'))) m) e' (DtAll.skip' e n1 n2 ds _ al)
  | .dict _, _, h => by cases h
theorem DtAll.skip' {ex : List Addr} {H : Hp} {a : Addr} {o : HO} (e : H a = some o) (n1 : ∀ xs, o ≠ .lst xs) (n2 : ∀ xs, o ≠ .tup xs) : ∀ (ds : List PyData) (vs : List V), DtAll ex H vs ds → DtAll (a :: ex) H vs ds
  | [], _, h => by cases h; exact .nil
  | d :: ds, _, h => by
    cases h with
    | cons h1 h2 => exact .cons (Dt.skip' e n1 n2 d _ h1) (DtAll.skip' e n1 n2 ds _ h2)
end
/-- nothing of the data lies where an object of another kind stands -/
theorem Dt.skip {ex : List Addr} {H : Hp} {a : Addr} {o : HO} {v : V} {d : PyData} (h : Dt ex H v d) (e : H a = some o) (n1 : ∀ xs, o ≠ .lst xs) (n2 : ∀ xs, o ≠ .tup xs) : Dt (a :: ex) H v d := Dt.skip' e n1 n2 d v h
theorem DtAll.skip {ex : List Addr} {H : Hp} {a : Addr} {o : HO} {vs : List V} {ds : List PyData} (h : DtAll ex H vs ds) (e : H a = some o) (n1 : ∀ xs, o ≠ .lst xs) (n2 : ∀ xs, o ≠ .tup xs) : DtAll (a :: ex) H vs ds := DtAll.skip' e n1 n2 ds vs h

theorem pe_globE {X : Cx} {x : Str} {v : V} {pos : Pos} (h : ∃ u, X.mg x = some u ∧ RelV v u) (hg : Gl X x) (hd : (x == ("__debug__" : Str)) = false := by decide) : PE X (.Name x pos) (tC v) := by
  obtain ⟨u, hm, r⟩ := h
  exact pe_glob hg hm r hd
/-! for over a list or a tuple -/
section
variable {σ : St} {H : Hp} {K : PySem.W.Frag} {xs : List V} {p : Addr} {g : TG} {tb : TS} {nx bk ct : St → Hp → Prop} {rt : VK}
theorem r_kForQ (Pv : Nat → St → Hp → Prop) (hq : Sq K H p xs) (h0 : Pv 0 σ H) (hl : ∀ i σ H', i ≤ xs.length → Pv i σ H' → ∃ ex, p ∉ ex ∧ Kp ex H H')
    (hs : ∀ (i : Nat) x σ H, xs[i]? = some x → Pv i σ H → g x σ H fun σ2 H2 => tb ⟨Pv (i + 1), rt, nx, Pv (i + 1)⟩ σ2 H2) (hd : ∀ σ H, Pv xs.length σ H → nx σ H) : cWQ K (kFor g tb ⟨nx, rt, bk, ct⟩ σ) (.ref p) H := by
  rcases hq with h | h
  · exact r_cWQl h (r_kForL Pv h0 (fun i σ H' hi q => let ⟨_, m, k⟩ := hl i σ H' hi q; sql_kp h k m) hs hd)
  · exact r_cWQt h (r_kForT Pv h0 (fun i σ H' hi q => let ⟨_, m, k⟩ := hl i σ H' hi q; sqt_kp h k m) hs hd)
end
/-! displays of data -/
def ED (te : TE) (σ : St) (H : Hp) (d : PyData) : Prop := ∀ Q : VK, (∀ x H', Kp [] H H' → Dt [] H' x d → Q x H') → te σ H Q
def AD (tr : TA) (σ : St) (H : Hp) (ds : List PyData) : Prop := ∀ QA : List V → Hp → Prop, (∀ xs H', Kp [] H H' → DtAll [] H' xs ds → QA xs H') → tr σ H QA
section
variable {σ : St} {H : Hp} {Q : VK} {d : PyData} {ds : List PyData} {te : TE} {tr : TA} {v : V} {i : Nat}
theorem r_ED (h : ED te σ H d) (q : ∀ x H', Kp [] H H' → Dt [] H' x d → Q x H') : te σ H Q := h Q q
theorem ED_c (h : Dt [] H v d) : ED (tC v) σ H d := fun _ q => q v H (Kp.refl _ _) h
theorem ED_var (e : σ[i]? = some (some v)) (h : Dt [] H v d) : ED (tVar i) σ H d := fun _ q => ⟨v, e, q v H (Kp.refl _ _) h⟩
theorem AD_nil : AD tNil σ H [] := fun _ q => q [] H (Kp.refl _ _) .nil
theorem AD_cons (h : ED te σ H d) (hr : ∀ H1, Kp [] H H1 → AD tr σ H1 ds) : AD (tCons te tr) σ H (d :: ds) := fun _ q =>
  h _ fun x H1 k1 h1 => hr H1 k1 _ fun xs H2 k2 h2 => q (x :: xs) H2 (k1.trans k2) (.cons (h1.mono k2) h2)
theorem ED_tup (h : AD tr σ H ds) (hl : ds.length ≤ sizeLine) : ED (tTup tr) σ H (.tuple ds) := fun _ q =>
  h _ fun xs H1 k1 h1 => ⟨h1.length ▸ hl, fun p n => q (.ref p) _ (k1.trans (Kp.new n)) (.tup not_nil upd_same (h1.mono (Kp.new n)))⟩
theorem ED_lst (h : AD tr σ H ds) (hl : ds.length ≤ sizeLine) : ED (tLst tr) σ H (.list ds) := fun _ q =>
  h _ fun xs H1 k1 h1 => ⟨h1.length ▸ hl, fun p n => q (.ref p) _ (k1.trans (Kp.new n)) (.lst not_nil upd_same (h1.mono (Kp.new n)))⟩
theorem r_neB {a b : Bool} (q : Q (.bl (!decide (a = b))) H) : rNe (.bl a) (.bl b) H Q := by
  refine ⟨rfl, ?_⟩
  have e : decide (V.bl a = V.bl b) = decide (a = b) := by cases a <;> cases b <;> rfl
  rw [e]
  exact q
theorem r_eqB {a b : Bool} (q : Q (.bl (decide (a = b))) H) : rEq (.bl a) (.bl b) H Q := by
  refine ⟨rfl, ?_⟩
  have e : decide (V.bl a = V.bl b) = decide (a = b) := by cases a <;> cases b <;> rfl
  rw [e]
  exact q
theorem idx_in {i : Int} {n : Nat} (h0 : 0 ≤ i) (h1 : i < n) : seqIndex? i n = some i.toNat := by
  unfold seqIndex?
  have e : ¬ i < 0 := by omega
  simp [e, h0, h1]
theorem r_popAt {l : Addr} {xs : List V} {i : Int} {y : V} (e : H l = some (.lst xs)) (h0 : 0 ≤ i) (h1 : i < (xs.length : Int)) (h2 : xs.length < 2 ^ 62) (hy : xs[i.toNat]? = some y) (q : ∀ H', Kp [l] H H' → H' l = some (.lst (xs.eraseIdx i.toNat)) → Q y H') : rPopAt (.ref l) [.int i] H Q :=
  ⟨l, xs, i, i.toNat, y, rfl, rfl, e, by omega, by omega, idx_in h0 h1, hy, q _ (Kp.put (by simp)) upd_same⟩
theorem r_cat {l b : Addr} {xs zs : List V} (e : H l = some (.lst xs)) (e' : H b = some (.lst zs)) (hz : xs.length + zs.length ≤ sizeLine) (q : ∀ p H', H p = none → Kp [] H H' → H' p = some (.lst (xs ++ zs)) → Q (.ref p) H') : rCat (.ref l) (.ref b) H Q :=
  ⟨l, b, xs, zs, rfl, rfl, e, e', hz, fun p n => q p _ n (Kp.new n) upd_same⟩
end
end Rd

set_option maxHeartbeats 4000000
/-! Sup: defs with the cell __class__; super().__init__(text) of an exception over ValueError, as a body's first statement. -/
namespace Rd
open PySem PySem.Spec L2 NdefX

/-! ### a body at its own code -/
structure QS (X : Cx) (c : Code) (ss : List Stmt) (t : TS) : Prop where
  run : ∀ (pins : List (Addr × Obj)) (s : Shared) (σ : St) (H : Hp) (D : Ends), Inv X pins σ H s → t D σ H → _root_.PySem.wpAt (model X.prog X.w) X.A c (execs ss X.env) (SP X pins D) X.xe s
theorem qs_of {X : Cx} {c : Code} {ss : List Stmt} {t : TS} (h : PSs X ss t) : QS X c ss t := ⟨fun pins s σ H D I q => wpAt_of_wpAny (h.run pins s σ H D I q)⟩

/-! ### a def of the text with the cell __class__ -/
theorem cells_written {P : Program} {w : World} {K : PySem.W.Frag} {mg : Str → Option Value} {base : Heap} {A : Around} {outer : List Env} {s : Shared} {H : Hp} {cc : Addr} {u : Value} {cl : Value} {cld : Option Addr} {csl : Array (Option Value)}
    (e0 : Env0 P w K mg base A outer s H) (cell : K.lookup cc = some ⟨cl, cld, .cell (some u), csl⟩) : CellsAt [("__class__", cc)] ["__class__"] [none] s.heap H := by
  have hb := e0.bs _ _ (e0.mod.kin _ _ cell)
  have hc : s.heap.IsCell cc (some u) := ⟨_, hb.1, rfl⟩
  have look : ∀ {y : Str} {c : Addr}, ([("__class__", cc)] : List (Str × Addr)).lookup y = some c → y = "__class__" ∧ c = cc := fun {y c} h => by
    rw [List.lookup_cons] at h
    by_cases e : (y == ("__class__" : Str)) = true
    · rw [e] at h
      exact ⟨beq_iff_eq.mp e, (Option.some.inj h).symm⟩
    · rw [Bool.eq_false_iff.mpr e] at h
      cases h
  refine ⟨rfl, fun y c h => ?_, fun x y c h1 h2 => (look h1).1.trans (look h2).1.symm, fun i y h => ?_⟩
  · obtain ⟨_, rfl⟩ := look h
    exact ⟨hb.2, _, hc⟩
  · match i, h with
    | 0, h =>
      cases h
      exact ⟨cc, by rw [List.lookup_cons]; simp, fun v hv => nomatch hv⟩
    | i + 1, h => cases h
theorem fn_sup {CX : CXT} {P : Program} {w : World} {K : PySem.W.Frag} {mg : Str → Option Value} {base : Heap} {k : Nat} {f cc cda : Addr} {name qual : Str} {params : Arguments} {body : List Stmt} {scope : Scope} {dV kV doc pm ct oc cl u : Value} {an od cld : Option Addr}
    {osl csl : Array (Option Value)} {N ps : List Str} {sp : Sp} (lk : K.lookup f = some ⟨oc, od, .func (PySem.W.ksFn name qual params body scope dV kV doc pm an (.ref cda) ct cc), osl⟩) (hcd : PySem.W.codeIn K (.ref cda) qual = true)
    (cell : K.lookup cc = some ⟨cl, cld, .cell (some u), csl⟩) (S : NScope N ps ["__class__"] scope)
    (len : ∀ vs H Q E, sp vs H Q E → vs.length = ps.length)
    (hbody : ∀ (A : Around) (outer : List Env) (s : Shared) (H : Hp) (vs : List V) (Q : VK) (E : XK), Room k (A.deeper (envF ⟨name, qual, params, body, scope, [("__class__", cc)], cda⟩ f s.heap.objs.size)) → sp vs H Q E →
      ∃ t, QS (ncx CX P w K mg base N ⟨name, qual, params, body, scope, [("__class__", cc)], cda⟩ f A outer s H E) (.func body (envF ⟨name, qual, params, body, scope, [("__class__", cc)], cda⟩ f s.heap.objs.size)) body t ∧
        t { nx := fun _ H' => Q .non H', rt := Q } (startF N vs [none]) H) : FnOk P w K mg base CX (k + 1) f (PySem.W.ksFn name qual params body scope dV kV doc pm an (.ref cda) ct cc) ps sp := by
  refine ⟨len, fun A outer s H args us vs Q E hr e0 hb r hsp => ?_⟩
  have hl := len _ _ _ _ hsp
  have KX : K.In s.heap := e0.mod.kin.keeps fun b o e => (e0.bs b o e).1
  have lim : s.heap.NoLimit := e0.mod.nolimit.keeps fun b o e => (e0.bs b o e).1
  refine codeAny_call_function hr.depth (KX _ _ lk) rfl S.co S.gen rfl (PySem.W.codeRec_of KX hcd) (hb _ _ _ _ ?_)
  refine (wpAny_newFunctionEnv S.nocell (fun ⟨n, _⟩ hy => S.par n (List.of_mem_zip hy).1) (fun h₁ hns hsb => ⟨lim.fresh _ hsb, ?_⟩) S.kind)
  show codeAny _ _ (.func body (envF ⟨name, qual, params, body, scope, [("__class__", cc)], cda⟩ f s.heap.objs.size)) _ _
  refine ks_codeAny_funcAt ?_
  have kp : ∀ b o, s.heap.get? b = some o → h₁.get? b = some o := fun b o e => hsb.extBut b o (Nat.ne_of_lt (Heap.lt_size e)) (Heap.get?_push_of_some _ e)
  obtain ⟨t, ht, hq⟩ := hbody A outer s H vs Q E (hr.deeper _) hsp
  have I : Inv (ncx CX P w K mg base N ⟨name, qual, params, body, scope, [("__class__", cc)], cda⟩ f A outer s H E) [] (startF N vs [none]) H { s with heap := h₁, toks := s.toks + (ps.zip us).length } := inv_startN S hr.hd e0 hl r (cells_written e0 cell) hns kp
  refine ks_wpAt_mono (ht.run [] _ (startF N vs [none]) H _ I hq) (fun fl s' hs => ?_) fun e s' hs => hs
  have fin : ∀ {σ' : L2.St} {H' : Hp} {v : V} {u : Value}, Inv (ncx CX P w K mg base N ⟨name, qual, params, body, scope, [("__class__", cc)], cda⟩ f A outer s H E) [] σ' H' s' → RelV v u → Q v H' → CE outer P w H s Q u s' := fun {σ' H' v u} J rv q => ⟨v, H', J.os, J.bare, J.base, J.hok, rv, q⟩
  match fl, hs with
  | .ret u, ⟨v, σ', H', J, rv, q⟩ => exact fin J rv q
  | .next, ⟨σ', H', J, q⟩ => exact fin (v := V.non) (u := Value.none) J rfl q
  | .brk, ⟨_, _, _, q⟩ => exact False.elim q
  | .cont, ⟨_, _, _, q⟩ => exact False.elim q

/-! ### the wrapper's call -/
section
variable {prog : Program} {w : World} {A : Around} {E : Value → Shared → Prop} {h : Heap} {g : Array GenState} {d : Drawn} {t : Nat} {os : OsState}
variable {nm q : Str} {C N : Addr} {bs bm bmB : List Value} {hdct : Bool} {sn : List Str} {sub : List Value} {ab : Bool} {col : Option Bool} {dd : Option Addr} {k0 k1 k2 k3 k5 : Option Value} {B newId initId : String}
theorem mw_call (F : ExcBaseFacts B newId initId bmB) {u e t0 : Addr} {rest : List Value} {Q : Value → Shared → Prop}
    (hC : h.get? C = some (excClassObj nm q C N bs bm hdct sn sub ab col dd k0 k1 k2 k3 k5 newId)) (he : h.get? e = some (HandSPX.excO C t0)) (hu : h.get? u = some (W.kxs_mw initId e)) (hrest : rest.length ≤ sizeLine)
    (hq : ∀ h' t1, (∀ b o, b ≠ e → h.get? b = some o → h'.get? b = some o) → h'.get? e = some (HandSPX.excO C t1) → Q .none ⟨h', g, d, t, os⟩) : wpAny (model prog w) A (call (.ref u) rest) Q E ⟨h, g, d, t, os⟩ := by
  refine wpAny_call (codeAny_of_tree ?_)
  show wpAny _ A.in1 (callAny (.ref u) ⟨rest, []⟩) _ _ _
  unfold callAny
  refine wpAny_bind (wpAny_load hu ?_)
  simp only [show (Value.type "method-wrapper" == Value.type "method" || Value.type "method-wrapper" == Value.type "builtin_function_or_method" || Value.type "method-wrapper" == Value.type "method-wrapper") = true by decide, if_true]
  refine W.KFB.if_so (by decide) (wpAny_bind (W.check_bound_init F.toExcCallFacts hC he rfl (wpAny_bind (wpAny_pure (wpAny_pure ⟨plainId_quiet F.init.plain _, codeAny_builtin F.initEntry ?_⟩)))))
  rw [Around.under_plainId F.init.plain _]
  wp_walk
  refine hq _ h.objs.size (fun b o hb ho => ?_) ?_
  · rw [Heap.get?_update_other _ _ (Ne.symm hb)]
    exact Heap.get?_push_of_some _ ho
  · rw [Heap.get?_update_self _ (Heap.get?_push_of_some _ he) rfl]
    rfl
end

/-! ### super().__init__(text) -/
/-- what is asked of an exception's class at C (straight or farther over ValueError), whose __init__ has the code object at cda -/
structure SupC (P : Program) (K : PySem.W.Frag) (mg : Str → Option Value) (C cda : Addr) : Prop where
  oex : OexC K C
  up : PySem.W.ks_superIn K C C "__init__" = some (some (.builtin "ValueError.__init__"))
  sub : PySem.W.subIn K (.ref C) (.type "ValueError") = some true
  own : PySem.W.mroIn K C (.ref C) = some true
  opq : PySem.W.nsIn K cStatics "thirdparty.any" = some none
  zs : mg "super" = none
  file : ∃ ccl cdd vs ccs fl tf, K.lookup cda = some ⟨ccl, cdd, .fields vs, ccs⟩ ∧ vs[2]? = some (.str fl tf) ∧ (P.main.file == fl) = true
  top : (P.main.scope.names.lookup ("super" : Str)).isSome = false
def tSupI (C : Addr) (t : TS) : TS := fun D σ H => ∃ a, σ[0]? = some (some (.ref a)) ∧ H a = some (exo a C none) ∧ t D σ H
theorem qs_sup {CX : CXT} {P : Program} {w : World} {K : PySem.W.Frag} {mg : Str → Option Value} {base : Heap} {f cc cda C : Addr} {name qual : Str} {params : Arguments} {body body' : List Stmt} {scope : Scope} {dV kV doc pm ct oc cl : Value} {an od cld : Option Addr}
    {osl csl : Array (Option Value)} {N : List Str} {A : Around} {outer : List Env} {s0 : Shared} {H0 : Hp} {E : XK} {ar : Arg} {p0 p1 p2 p3 p4 p5 : Pos} {m : Str} {j : Nat} {pl : Sem Bool} {rest : List Stmt} {t : TS}
    (lk : K.lookup f = some ⟨oc, od, .func (PySem.W.ksFn name qual params body scope dV kV doc pm an (.ref cda) ct cc), osl⟩) (cell : K.lookup cc = some ⟨cl, cld, .cell (some (.ref C)), csl⟩) (Z : SupC P K mg C cda)
    (hks : scope.names.lookup ("super" : Str) = some .globalImplicit) (hkc : scope.names.lookup ("__class__" : Str) = some .free) (hp : (params.posonlyargs ++ params.args).head? = some ar) (hN : N[0]? = some ar.arg)
    (hka : scope.names.lookup ar.arg = some .local) (hk : scope.kind = .function)
    (hi : interactive (envF ⟨name, qual, params, body, scope, [("__class__", cc)], cda⟩ f s0.heap.objs.size) = false)
    (hs : swapsWith (.Call (.Attribute (.Call (.Name "super" p0) [] [] p1) "__init__" p2) [.Constant (.str m) j p3] [] p4) none p5.line (envF ⟨name, qual, params, body, scope, [("__class__", cc)], cda⟩ f s0.heap.objs.size) = pure false)
    (he : eval (.Call (.Attribute (.Call (.Name "super" p0) [] [] p1) "__init__" p2) [.Constant (.str m) j p3] [] p4) (envF ⟨name, qual, params, body, scope, [("__class__", cc)], cda⟩ f s0.heap.objs.size) = (do
      let ov ← attributeBase (.Call (.Name "super" p0) [] [] p1) "__init__" (envF ⟨name, qual, params, body, scope, [("__class__", cc)], cda⟩ f s0.heap.objs.size) (eval (.Call (.Name "super" p0) [] [] p1) (envF ⟨name, qual, params, body, scope, [("__class__", cc)], cda⟩ f s0.heap.objs.size))
      standAt p2.atName
      let (fx, first) ← holding [ov] (getMethod ov "__init__" pl)
      callWith p4 fx first (backTo p4 (starEach [.Constant (.str m) j p3] (envF ⟨name, qual, params, body, scope, [("__class__", cc)], cda⟩ f s0.heap.objs.size))) []))
    (hst : starEach [.Constant (.str m) j p3] (envF ⟨name, qual, params, body, scope, [("__class__", cc)], cda⟩ f s0.heap.objs.size) = [(false, eval (.Constant (.str m) j p3) (envF ⟨name, qual, params, body, scope, [("__class__", cc)], cda⟩ f s0.heap.objs.size))])
    (hr : QS (ncx CX P w K mg base N ⟨name, qual, params, body, scope, [("__class__", cc)], cda⟩ f A outer s0 H0 E) (.func body' (envF ⟨name, qual, params, body, scope, [("__class__", cc)], cda⟩ f s0.heap.objs.size)) rest t) :
    QS (ncx CX P w K mg base N ⟨name, qual, params, body, scope, [("__class__", cc)], cda⟩ f A outer s0 H0 E) (.func body' (envF ⟨name, qual, params, body, scope, [("__class__", cc)], cda⟩ f s0.heap.objs.size))
      (.Expr (.Call (.Attribute (.Call (.Name "super" p0) [] [] p1) "__init__" p2) [.Constant (.str m) j p3] [] p4) p5 :: rest) (tSupI C t) := by
  constructor
  intro pins s σ H D I ⟨a, hσ, ha, q⟩
  have KX := I.kIn
  obtain ⟨t1, ho⟩ := exo_at I.hok ha
  obtain ⟨ccl, cdd, vs, ccs, fl, tf, hcode, hvs, hfile⟩ := Z.file
  obtain ⟨nm, qq, N', bs, bm, sn, sub, ab, col, dd, k0, k1, k2, k3, k5, hC, hbm⟩ := Z.oex.cls
  refine ks_wpAt_execs_cons (ks_wpAt_Expr_any (ks_wpAt_MethodCall (pl := pl) ?_ he) hi hs)
  obtain ⟨hh, g, d, tk, os⟩ := s
  have hD1 := KX _ _ hC
  refine ks_wpAt_super_base hks hkc (by decide) rfl (KX _ _ lk) rfl hp rfl (KX _ _ hcode) rfl hvs hfile Z.top ?_
  obtain ⟨mb, hbn, hbv⟩ := I.ok.mod.blt
  have hbo : bootBuiltins "super" = some (.type "super") := by first | rfl | decide +kernel
  refine W.ks_loadName_global hk hks (Calls.loadGlobal_builtin (I.mod.glob.keeps I.bk) Z.zs (hbn.keeps I.bk) ((hbv ("super" : Str) (by decide +kernel)).trans hbo) ⟨rfl, ?_⟩)
  refine wpAny_loadName_free hk hkc rfl ⟨_, KX _ _ cell, rfl⟩ ?_
  obtain ⟨ml, hns, hl⟩ := I.loc
  obtain ⟨u, ru, lku⟩ := hl 0 ar.arg (.ref a) hN hσ (.inl hka)
  have hm : ml ar.arg = some u := by
    rcases lku with ⟨_, z⟩ | ⟨z, _⟩
    · exact z
    · rcases z with z | z
      · exact absurd (hka.symm.trans z) (by decide)
      · exact absurd (hka.symm.trans z) (by decide)
  obtain rfl : u = Value.ref a := ru
  refine wpAny_loadName_local hk hka hns hm ?_
  refine ks_wpAny_isType_cls hD1 rfl ⟨rfl, ?_⟩
  refine ks_wpAny_call_super hD1 rfl ho rfl (fun c z => nomatch z) (W.looks_mroIn KX Z.own) fun h' e1 kp => ?_
  have I1 : Inv _ pins σ H ⟨h', g, d, tk, os⟩ := I.kept (t' := tk) kp
  have KX1 := I1.kIn
  have ho1 := kp _ _ ho
  have J : W.InstAt h' a (HandSPX.excO C t1) C none := ⟨ho1, rfl, rfl, trivial⟩
  have up := Z.up
  cases hc : W.clsIn K C with
  | none =>
    unfold W.ks_superIn at up
    rw [hc] at up
    cases up
  | some cd =>
    unfold W.ks_superIn at up
    rw [hc] at up
    refine W.kxs_getMethod W.kxs_ValueError e1 (W.looks_opaque KX1 Z.opq) (l₀ := cd.mro) (fun A Q E s k z => wpAny_bind ((W.looks_clsIn KX1 hc) A _ E s k (wpAny_pure z))) rfl KX1 up (J.type.andThen (W.looks_subIn KX1 Z.sub)) (W.ks_ne KX1 J hc) (by decide) ?_
    have k2 : ∀ b o, h'.get? b = some o → (h'.push (W.kxs_mw "ValueError.__init__" a)).get? b = some o := fun b o e => Heap.get?_push_of_some _ e
    have I2 : Inv _ pins σ H ⟨h'.push (W.kxs_mw "ValueError.__init__" a), g, d, tk + 1, os⟩ := I1.kept (t' := tk + 1) k2
    have hu : (h'.push (W.kxs_mw "ValueError.__init__" a)).get? h'.objs.size = some (W.kxs_mw "ValueError.__init__" a) := Heap.get?_push_size _ rfl
    have hst' : starEach [.Constant (.str m) j p3] (ncx CX P w K mg base N ⟨name, qual, params, body, scope, [("__class__", cc)], cda⟩ f A outer s0 H0 E).env = [(false, eval (.Constant (.str m) j p3) (ncx CX P w K mg base N ⟨name, qual, params, body, scope, [("__class__", cc)], cda⟩ f A outer s0 H0 E).env)] := hst
    rw [hst']
    refine W.kxs_callWith (i := "ValueError.__init__") (x := a) rfl (Calls.evalArgs_plain (Calls.spliced_cons (Calls.Constant_str (pos := p3) (k := j) (Calls.spliced_nil ⟨hu, ?_⟩))))
    refine mw_call F.excBase_ValueError (I2.kIn _ _ hC) (k2 _ _ ho1) hu (by show 1 ≤ sizeLine; decide) fun h3 t2 k3 e3 => ?_
    have J3 := (I2.tok (tk + 1 + 1)).write (t' := tk + 1 + 1) (x := a) (e := a) (o := exo a C none) (by rw [ha]; exact True.intro) (.inl rfl) k3 ⟨_, e3⟩ (exo_ok e3)
    have eu : upd H a (exo a C none) = H := by
      funext b
      by_cases hb : b = a
      · rw [hb, upd_same, ha]
      · rw [upd_ne hb]
    rw [eu] at J3
    exact hr.run pins _ σ H D J3 q

/-- such a def of the text, its class at C -/
structure SFun (P : Program) (K : PySem.W.Frag) (mg : Str → Option Value) (qual : Str) (st : Stmt) (C f : Addr) (fd : FuncData) : Prop where
  ex : ∃ (oc kV doc pm ct cl : Value) (od an cld : Option Addr) (cda cc : Addr) (osl csl : Array (Option Value)), fd = PySem.W.ksFn "__init__" qual (defArgs st) (defBody st) (defScope st) .none kV doc pm an (.ref cda) ct cc ∧
    K.lookup f = some ⟨oc, od, .func (PySem.W.ksFn "__init__" qual (defArgs st) (defBody st) (defScope st) .none kV doc pm an (.ref cda) ct cc), osl⟩ ∧ PySem.W.codeIn K (.ref cda) qual = true ∧ K.lookup cc = some ⟨cl, cld, .cell (some (.ref C)), csl⟩ ∧ SupC P K mg C cda
/-- __init__(self, fld) of an exception: super().__init__(text); self.fld = fld -/
def sp_exc1 (fld : Str) (C : Addr) : Sp := fun vs H Q _ => ∃ (a : Addr) (v : V), vs = [.ref a, v] ∧ H a = some (exo a C none) ∧ ∀ dx, H dx = none → dx ≠ a → Q .non (upd (upd H dx (exd dx [(fld, v)])) a (exo a C (some dx)))
theorem r_sup {C : Addr} {t : TS} {D : Ends} {σ : St} {H : Hp} {a : Addr} (e : σ[0]? = some (some (.ref a))) (ha : H a = some (exo a C none)) (q : t D σ H) : tSupI C t D σ H := ⟨a, e, ha, q⟩
theorem r_ost {K : PySem.W.Frag} {fld : Str} {i j : Nat} {D : Ends} {σ : St} {H : Hp} {a C : Addr} {v : V} (e : σ[i]? = some (some (.ref a))) (e' : σ[j]? = some (some v)) (T : OexC K C) (n : PySem.W.findIn K (.ref C) fld = some none) (ha : H a = some (exo a C none))
    (q : ∀ dx, H dx = none → dx ≠ a → D.nx σ (upd (upd H dx (exd dx [(fld, v)])) a (exo a C (some dx)))) : tOst K fld (tVar i) (tVar j) D σ H :=
  ⟨v, e', .ref a, e, a, C, rfl, T, n, .inl ⟨ha, q⟩⟩

/-! ### such an exception as its users see it -/
structure Exc1 (P : Program) (w : World) (K : PySem.W.Frag) (mg : Str → Option Value) (base : Heap) (k : Nat) (x fld : Str) (C : Addr) : Prop where
  oex : OexC K C
  made : ∃ fI fd ps, PySem.W.findIn K (.ref C) "__init__" = some (some (.ref fI)) ∧ PySem.W.typeIn K (.ref fI) = some (.type "function") ∧ FnOk P w K mg base CX0 k fI fd ps (sp_exc1 fld C) ∧ Binds K fd ps []
  gC : mg x = some (.ref C)
  xf : XfC K C
  nof : PySem.W.findIn K (.ref C) fld = some none
  te : PySem.W.exmOne K (.ref C) (.ref C) = some true
def kMkO (C : Addr) (fld : Str) (Q : XK) : List V → Hp → Prop := fun vs H1 => vs.length ≤ 1000 ∧ ∀ a, H1 a = none → sp_exc1 fld C (.ref a :: (vs ++ [])) (upd H1 a (exo a C none))
  (fun v H2 => v = .non ∧ ∃ (d : Addr) (fs : List (Str × V)), H2 a = some (exo a C (some d)) ∧ H2 d = some (exd d fs) ∧ H1 d = none ∧ Q (.ref C) (some d) (upd (del H2 a) d (.xd fs))) (fun _ _ _ => False)
theorem r_kMkO {C : Addr} {fld : Str} {Q : XK} {v : V} {H : Hp} (q : ∀ d H', H d = none → Kp [] H H' → H' d = some (.xd [(fld, v)]) → Q (.ref C) (some d) H') : kMkO C fld Q [v] H := by
  refine ⟨by show 1 ≤ 1000; decide, fun a ha => ⟨a, v, rfl, upd_same, fun dx hdx ne => ⟨rfl, dx, [(fld, v)], upd_same, by rw [upd_ne ne, upd_same], ?_, ?_⟩⟩⟩
  · rw [upd_ne ne] at hdx
    exact hdx
  · have n1 : H dx = none := by
      rw [upd_ne ne] at hdx
      exact hdx
    have eq : upd (del (upd (upd (upd H a (exo a C none)) dx (exd dx [(fld, v)])) a (exo a C (some dx))) a) dx (.xd [(fld, v)]) = upd H dx (.xd [(fld, v)]) := by
      funext b
      by_cases hb : b = dx
      · rw [hb, upd_same, upd_same]
      · rw [upd_ne hb, upd_ne hb]
        by_cases hba : b = a
        · rw [hba, del_same, ha]
        · rw [del_ne hba, upd_ne hba, upd_ne hb, upd_ne hba]
    rw [eq]
    exact q dx _ n1 (Kp.new n1) upd_same
/-- raise X(e) -/
def tRaise1 (C : Addr) (fld : Str) (W : WX) (ta : TA) : TS := fun _ σ H => ta σ H (kMkO C fld fun cls d H' => W cls d σ H')
section
variable {X : Cx} {x fld : Str} {C : Addr} {k : Nat} {e : Expr} {ta : TA} {p pos pos2 : Pos} {W : WX}
theorem ps_raise1 (T : Exc1 X.prog X.w X.K X.mg X.base k x fld C) (hr : Room (k + 1) X.A) (hc : X.calm = true) (tk : Takes X W) (hg : Gl X x) (ha : PA X [e] ta) (hdb : (x == ("__debug__" : Str)) = false := by decide)
    (hst : starEach (e :: []) X.env = (false, eval e X.env) :: starEach [] X.env := by rfl) (hpl : (backTo pos (starEach [] X.env)).any (·.1) = false := by rfl) :
    PS X (.Raise (some (.Call (.Name x p) [e] [] pos)) none pos2) (tRaise1 C fld W ta) := by
  obtain ⟨fI, fd, ps, iC, tI, F1, hb⟩ := T.made
  exact ps_raise hc tk (pmk_oex (dvs := []) T.oex iC tI F1 hr hb .nil pass0 hg T.gC ha hdb hst hpl)
end
theorem r_raise1 {C : Addr} {fld : Str} {W : WX} {ta : TA} {D : Ends} {σ : St} {H : Hp} (q : ta σ H (kMkO C fld fun cls d H' => W cls d σ H')) : tRaise1 C fld W ta D σ H := q

/-! ### an object made where an exception of its __init__ is wished for -/
def kMakeS (C : Addr) (sp : Sp) (E : XK) (Q : VK) : List V → Hp → Prop := fun vs H1 => ∀ x dx, H1 x = none → H1 dx = none → dx ≠ x → sp (.ref x :: vs) (upd (upd H1 dx (.own x)) x (.ins C dx [])) (kMade x Q) E
def tMakeS (C : Addr) (sp : Sp) (E : St → XK) (t : TA) : TE := fun σ H Q => t σ H (kMakeS C sp (E σ) Q)
theorem r_makeS {C : Addr} {sp : Sp} {E : St → XK} {t : TA} {σ : St} {H : Hp} {Q : VK} (q : t σ H (kMakeS C sp (E σ) Q)) : tMakeS C sp E t σ H Q := q
theorem r_kMakeS {C : Addr} {sp : Sp} {E : XK} {H : Hp} {Q : VK} {vs : List V} (q : ∀ a dx H', H a = none → Kp [] H H' → H' a = some (.ins C dx []) → sp (.ref a :: vs) H' (kMade a Q) E) : kMakeS C sp E Q vs H := fun a dx n n' d =>
  q a dx _ n ((Kp.new n').trans (Kp.new (by rw [upd_ne d.symm]; exact n))) upd_same
section
variable {X : Cx} {CX : CXT} {k : Nat} {f C : Addr} {sp : Sp} {E : St → XK} {x : Str} {e : Expr} {es : List Expr} {t : TA} {p pos : Pos}
theorem pe_makeS (mk : Mk X.K C f) (F : FnR X.prog X.w X.K X.mg X.base CX k f sp) (hr : Room (k + 1) X.A) (hg : Gl X x) (hm : X.mg x = some (.ref C)) (hx : ∀ σ, PassesAt CX X σ (E σ)) (ha : PA X (e :: es) t) (hdb : (x == ("__debug__" : Str)) = false := by decide)
    (hst : starEach (e :: es) X.env = (false, eval e X.env) :: starEach es X.env := by rfl) (hpl : (backTo pos (starEach es X.env)).any (·.1) = false := by rfl) : PE X (.Call (.Name x p) (e :: es) [] pos) (tMakeS C sp E t) := by
  constructor
  intro pins s σ H Q I h
  refine wpAny_Call_Name_kw (ld_glob I hg hm (PySem.W.callWith_K (h₀ := X.base) I.ok.mod.kin mk.kp (thn (ha.run pos pins s σ H _ I h) fun us s1 ⟨vs, H1, I1, r, q⟩ => ⟨I1.kIn, ?_⟩) hst hpl) hdb)
  have old : H1 (s1.heap.objs.size + 1) = none ∧ H1 s1.heap.objs.size = none := ⟨I1.hok.fresh (Nat.le_succ _), I1.hok.fresh (Nat.le_refl _)⟩
  have J := Inv.made (C := C) I1
  have r2 : Vals (V.ref (s1.heap.objs.size + 1) :: vs) (Value.ref (s1.heap.objs.size + 1) :: us) := .cons rfl r
  have go := F _ X.stack _ _ (Value.ref (s1.heap.objs.size + 1) :: us) _ _ (E σ) (hr.make C us []) (J.env0.make C us []) r2 (q _ _ old.1 old.2 (Nat.ne_of_lt (Nat.lt_succ_self _)))
  refine wpAny_call (make_map (f := f) I1.kIn mk.makes mk.init (beq_iff_eq.mp mk.fn) (codeAny_mono go fun z s' hz => ?_))
  match z, hz with
  | .error u, hz => exact hx σ pins _ _ u s' J hz
  | .ok (.ret u), hz =>
    obtain ⟨v, H', I3, rv, ev, q3⟩ := J.after hz
    subst ev
    exact ⟨rv, V.ref (s1.heap.objs.size + 1), H', I3, rfl, q3⟩
  | .ok .next, hz => exact hz.elim
  | .ok .brk, hz => exact hz.elim
  | .ok .cont, hz => exact hz.elim
end

/-! ### isinstance(e, c), e.f of the exception that a suite holds, which has a dict -/
def rIsX (K : PySem.W.Frag) (C a : Addr) (cls : Value) (d : Option Addr) : R1 := fun xs H Q => cls = .ref C ∧ ∃ (dd : Addr) (fs : List (Str × V)) (c : V) (cv : Value) (b : Bool), d = some dd ∧ H dd = some (.xd fs) ∧ xs = [.ref a, c] ∧ ClsV c cv ∧ PySem.W.kitOne K (.ref C) cv = some b ∧ Q (.bl b) H
theorem call_isX {X : Cx} {a C : Addr} {oe : Obj} {cls : Value} {d : Option Addr} {pn : List (Addr × Obj)} (T : ExcC X.K C) (hz : Zc cls d oe) (hf : ∃ vs, oe.data = .fields vs) : CallR (X.suite a ((a, oe) :: pn)) (.builtin "isinstance") (rIsX X.K C a cls d) := by
  rintro pins s σ H xs us Q I r ⟨rfl, dd, fs, c, cv, b, rfl, ed, rfl, k, e, q⟩
  obtain ⟨u1, u2, rfl, r1, r2⟩ := vals2 r
  cases (show u1 = Value.ref a from r1)
  have e2 := k.eq r2
  subst e2
  obtain ⟨hget, _⟩ := I.pin (a, oe) (List.mem_append_left _ List.mem_cons_self)
  obtain ⟨vs, hv⟩ := hf
  have hx : ObjOk X.prog X.w H s.heap dd (.xd fs) := I.hok dd _ ed
  obtain ⟨mA, hns, _⟩ := hx
  obtain ⟨od, ho, _⟩ := lookIn_ns hns
  have J : PySem.W.InstAt s.heap a oe C (some od) := ⟨hget, hz.1, by unfold PySem.W.notCls; rw [hv] <;> rfl, by rw [hz.2]; exact ho⟩
  obtain ⟨cd, hc, _⟩ := PySem.W.any_some T.hd
  exact PySem.W.kia_one (PySem.W.kitx_exc (by rw [hc]; rfl) T.hg T.hk T.hs T.ha T.hn T.ht T.hm) I.kIn J e (fun z => nomatch z) fun tk => ⟨.bl b, H, I.kept (t' := tk) fun _ _ z => z, rfl, q⟩
theorem r_isX {K : PySem.W.Frag} {C a dd : Addr} {fs : List (Str × V)} {H : Hp} {Q : VK} {c : V} {cv : Value} {b : Bool} (ed : H dd = some (.xd fs)) (k : ClsV c cv) (e : PySem.W.kitOne K (.ref C) cv = some b) (q : Q (.bl b) H) : rIsX K C a (.ref C) (some dd) [.ref a, c] H Q :=
  ⟨rfl, dd, fs, c, cv, b, rfl, ed, rfl, k, e, q⟩
def kXf (a : Addr) (cls : Value) (d : Option Addr) (C : Addr) (f : Str) (Q : VK) : VK := fun x H1 => x = .ref a ∧ cls = .ref C ∧ ∃ (dd : Addr) (fs : List (Str × V)) (v : V), d = some dd ∧ H1 dd = some (.xd fs) ∧ fs.lookup f = some v ∧ Q v H1
theorem r_xf {a C : Addr} {cls : Value} {d : Option Addr} {f : Str} {te : TE} {σ : St} {H : Hp} {Q : VK} (q : te σ H (kXf a cls d C f Q)) : tXf a cls d C f te σ H Q := q
theorem r_kXf {a C dd : Addr} {f : Str} {H : Hp} {Q : VK} {fs : List (Str × V)} {v : V} (ed : H dd = some (.xd fs)) (l : fs.lookup f = some v) (q : Q v H) : kXf a (.ref C) (some dd) C f Q (.ref a) H := ⟨rfl, rfl, dd, fs, v, rfl, ed, l, q⟩
def UseCX (P : Program) (w : World) (K : PySem.W.Frag) (mg : Str → Option Value) (base : Heap) (n : Nat) (x : Str) (C : Addr) (sp : Sp) : Prop := ∃ f, FnR P w K mg base (L2.CX P w) n f sp ∧ Mk K C f ∧ mg x = some (.ref C)
theorem fnrX {P : Program} {w : World} {K : PySem.W.Frag} {mg : Str → Option Value} {base : Heap} {n : Nat} {f : Addr} {fd : FuncData} {ps : List Str} {sp : Sp} (F : FnOk P w K mg base (L2.CX P w) n f fd ps sp) (b : Binds K fd ps []) : FnR P w K mg base (L2.CX P w) n f sp :=
  (F.raw b .nil).imp fun vs H Q E h => by
    rw [List.append_nil]
    exact h
end Rd

set_option maxHeartbeats 4000000
/-! EnT: enumerate(tuple); for over enumerate of a list or a tuple. -/
namespace PySem
theorem enum_new1 {v : Value} {o : Obj} {Hh : Heap → Prop} (B : Begins v o Hh) : Meets (Builtin.«enumerate.__new__» ⟨[.type "enumerate", v], []⟩) (fun _ R s => Hh s.heap ∧
    R (.ok (.ret (.ref (s.heap.push o).objs.size))) { s with heap := (s.heap.push o).push { cls := .type "enumerate", data := .fields #[.none, .bool false, .ref s.heap.objs.size, rawInt 0, .none, .none] } }) :=
  .of_wp fun prog w A R s hB => by
    obtain ⟨hp, g, d, tk, os⟩ := s
    obtain ⟨h1, hB⟩ := hB
    have esub := sub_enumerate
    have start : ∀ {A' : Around} {E : Value → Shared → Prop} {Q : Value → Shared → Prop}, Q (.ref hp.objs.size) ⟨hp.push o, g, d, tk, os⟩ → wpAny (model prog w) A' (pyIter v) Q E ⟨hp, g, d, tk, os⟩ := fun z => B.iter prog w _ _ ⟨hp, g, d, tk, os⟩ _ h1 z
    wp_walk using start
    refine wpAny_stack_any fun st => wpAny_pure ?_
    split
    · rename_i c _ _ _ _ _
      cases (c == Value.type "enumerate") <;> (wp_walk using start; exact ⟨_, rfl, hB⟩)
    · wp_walk using start
      exact ⟨_, rfl, hB⟩
section
variable {prog : Program} {w : World} {A : Around} {E : Value → Shared → Prop} {s : Shared}
theorem enum_starts {v : Value} {o : Obj} {Hh : Heap → Prop} {Q : Value → Shared → Prop} (B : Begins v o Hh) (h1 : Hh s.heap)
    (q : ∀ h', IsEnum h' (s.heap.objs.size + 1) s.heap.objs.size 0 .none → h'.get? s.heap.objs.size = some o → (∀ b u, s.heap.get? b = some u → h'.get? b = some u) → Q (.ref (s.heap.objs.size + 1)) { s with heap := h' }) :
    wpAny (model prog w) A (call (.type "enumerate") [v]) Q E s := by
  refine callType_new F.called_enumerate (by decide) (F.typeCall_enumerate_1 _) (F.newCall_enumerate_1 _) (fun obj => F.args_object_init_2 obj _) F.entry_enumerate_new (enum_new1 B) ⟨h1, ?_⟩
  have hz : (s.heap.push o).objs.size = s.heap.objs.size + 1 := Heap.size_push _ _
  have he := Heap.get?_push_size (s.heap.push o) (o := { cls := .type "enumerate", data := .fields #[.none, .bool false, .ref s.heap.objs.size, rawInt 0, .none, .none] }) rfl
  show _ ∧ _
  rw [hz] at he ⊢
  exact ⟨⟨_, he, rfl⟩, q _ he (Heap.get?_push_of_some _ (Heap.get?_push_size _ B.free)) fun b u x => Heap.get?_push_of_some _ (Heap.get?_push_of_some _ x)⟩
end
end PySem
namespace Rd
open PySem PySem.Spec PyProof.Rows L2
/-- the tuple at a, each item in a new pair with its place -/
def Iet (K : PySem.W.Frag) (a : Addr) : It :=
  ⟨fun i H => ∃ (xs : List V) (x : V), SqT K H a xs ∧ xs[i]? = some x, fun i H v H' => ∃ T x, v = .ref T ∧ H T = none ∧ H' = upd H T (.tup [.int (i : Nat), x]) ∧ ∀ xs, SqT K H a xs → xs[i]? = some x, fun i H => ∃ xs : List V, SqT K H a xs ∧ xs.length ≤ i⟩
theorem turn_et {P : Program} {w : World} {K : PySem.W.Frag} {elts : List Expr} {kk : Nat} {tpos : Pos} (a e it : Addr) (ha : a ≠ it) (hae : e ≠ a) :
    Turn P w K (.Tuple elts kk tpos) (Iet K a) [e, it] e (fun i h => (∃ old, IsEnum h e it ((i : Nat) : Int) old) ∧ h.IsTupleIter it a i ∧ e ≠ it) := by
  have two : ∀ {b : Addr}, b ∈ [e, it] → b = e ∨ b = it := fun {b} hb => by simpa using hb
  refine ⟨by simp, fun i h st b hb => ?_, fun i h h' st k => ?_, ?_, ?_, fun A i s Q E st q => ?_⟩
  · obtain ⟨⟨old, he⟩, ⟨o, ho, hc, hd⟩, _⟩ := st
    rcases two hb with rfl | rfl
    · exact ⟨_, he, fun v z => nomatch z⟩
    · exact ⟨o, ho, fun v z => by rw [hd] at z; cases z⟩
  · obtain ⟨⟨old, he⟩, hi, hne⟩ := st
    exact ⟨⟨old, k e (by simp) _ he⟩, hi.at fun o z => k it (by simp) o z, hne⟩
  · intro X hP hw hK hc i pins s σ H E I hf st hg
    subst hP hw hK
    obtain ⟨⟨old, he⟩, hit, hne⟩ := st
    obtain ⟨xs, x, hq, hx⟩ := hg
    obtain ⟨its, rv, p, _⟩ := I.tuple hq
    obtain ⟨u, hu, ru⟩ := rv.get hx
    have big : e < s.heap.objs.size ∧ it < s.heap.objs.size := ⟨Heap.lt_size he, by obtain ⟨_, z, _⟩ := hit; exact Heap.lt_size z⟩
    have hi : i < its.toArray.size := by
      have := (List.getElem?_eq_some_iff.mp hu).1
      simpa using this
    refine wpAny_pyNext_enum_itemC (Draws.tuple (A := X.A.in1) (I.ok.hd hc) it a ha its.toArray) he ⟨hit, p⟩ hi hne (by simp [hne, hae]) fun y h1 tk hy ho hst hT hsz hk => ?_
    have ey : y = u := by
      have hy : its.toArray[i]? = some y := hy
      rw [List.getElem?_toArray, hu] at hy
      exact (Option.some.inj hy).symm
    subst ey
    refine ⟨_, rfl, wpAny_letOwnedTupleGo_enum (s := { s with heap := h1, toks := tk + 1 }) ho fun h2 he2 sb => ?_⟩
    have hT2 := (sb.2 _ (Nat.ne_of_gt big.1)).trans hT
    have new : ObjOk X.prog X.w (upd H s.heap.objs.size (.tup [.int (i : Nat), x])) h2 s.heap.objs.size (.tup [.int (i : Nat), x]) := ⟨by show 2 ≤ sizeLine; decide, [.int i tk, y], .cons ⟨_, rfl⟩ (.cons ru .nil), ⟨_, hT2, rfl, _, rfl⟩⟩
    have I1 : Inv X pins σ (upd H s.heap.objs.size (.tup [.int (i : Nat), x])) { s with heap := h2, toks := tk + 1 } :=
      I.turnedNew (ch := [e, it]) (fun b ob hb z => (sb.2 b (fun w => hb (by simp [w]))).trans (hk b ob (fun w => hb (by simp [w])) (fun w => hb (by simp [w])) z)) hf (Nat.le_refl _) new
    refine ⟨.ref s.heap.objs.size, _, I1, rfl, ⟨_, x, rfl, I.hok.fresh (Nat.le_refl _), rfl, fun ys hy => ?_⟩, ⟨⟨y, ?_⟩, hst.1.at fun o z => (sb.2 it (Ne.symm hne)).trans z, hne⟩, fun b hb => ?_⟩
    · rw [I.tuple_inj hy hq]
      exact hx
    · have e1 : ((i + 1 : Nat) : Int) = (i : Int) + 1 := by omega
      rw [e1]
      exact he2
    · have hb' : b < s.heap.objs.size := (two hb).elim (fun z => z ▸ big.1) fun z => z ▸ big.2
      rw [upd_ne (Nat.ne_of_lt hb')]
      exact (hf b hb).1
  · intro X hP hw hK hc i pins s σ H E I hf st hg
    subst hP hw hK
    obtain ⟨⟨old, he⟩, hit, hne⟩ := st
    obtain ⟨xs, hq, hx⟩ := hg
    obtain ⟨its, rv, p, _⟩ := I.tuple hq
    have hl := rv.length
    have D : Draws X.prog X.w X.A.in1 it [it, a] i (fun _ _ => True) (fun j h => j = i ∧ h.IsTupleIter it a i ∧ h.IsTuple a its.toArray) :=
      ⟨fun _ _ st => let ⟨o, ho, _⟩ := st.2.1; ⟨o, ho⟩, fun _ _ _ st hk => ⟨st.1, st.2.1.at fun o z => hk it (by simp) o z, st.2.2.at fun o z => hk a (by simp) o z⟩, fun j _ _ _ hj st _ => absurd st.1 (Nat.ne_of_lt hj),
        fun s Q E st hE => wpAny_nextOf_tuple_end (A := X.A.in1) (I.ok.hd hc) st.2.1 st.2.2 (by simp; omega) hE⟩
    obtain ⟨f0, f1, f2, f3, f4, f5⟩ := hf it (by simp)
    exact wpAny_pyNext_enum_endD D he ⟨rfl, hit, p⟩ fun h' eb => ⟨rfl, I.turned (t' := s.toks) (fun b o hb z => eb b o hb z) f0 f1 f3 f4 f5⟩
  · obtain ⟨⟨_, he⟩, _⟩ := st
    exact wpAny_pyIter_enum he q
def iEnumQ (K : PySem.W.Frag) (ta : TA) : TI := fun σ H R => ta σ H fun vs H1 => ∃ a, vs = [.ref a] ∧ (((∃ xs, SqL K H1 a xs) ∧ R (Ite K a) H1) ∨ ((∃ xs, SqT K H1 a xs) ∧ R (Iet K a) H1))
theorem K_enumQ {X : Cx} {K : PySem.W.Frag} (hK : X.K = K) {e : Expr} {ta : TA} {p pos tpos : Pos} {elts : List Expr} {kk : Nat} (hg : Gl X "enumerate") (hm : X.mg "enumerate" = none) (ha : PA X [e] ta) (hs : starEach [e] X.env = [(false, eval e X.env)] := by rfl) :
    PI X (.Tuple elts kk tpos) (.Call (.Name "enumerate" p) [e] [] pos) (iEnumQ K ta) := by
  subst hK
  constructor
  intro pins s σ H R I h
  refine Call_ (ld_blt I hg hm boot_enumerate (PyProof.Rows.callWith_type1 (thn (ha.run pos pins s σ H _ I h) fun us s1 ⟨vs, H1, I1, r1, q1⟩ => ?_) hs rfl))
  obtain ⟨a, rfl, q1⟩ := q1
  obtain ⟨u, rfl, ru⟩ := r1.one
  cases (show u = Value.ref a from ru)
  have fresh : ∀ b ∈ [s1.heap.objs.size + 1, s1.heap.objs.size], FpOk X pins H1 b := fun b m => by
    have le : s1.heap.objs.size ≤ b := by
      rcases List.mem_cons.mp m with z | z
      · omega
      · rw [List.mem_singleton.mp z]
        exact Nat.le_refl _
    exact I1.fpOk le (I1.hok.fresh le)
  rcases q1 with ⟨⟨xs, hq⟩, q⟩ | ⟨⟨xs, hq⟩, q⟩
  · obtain ⟨its, rv, pl, _⟩ := I1.list hq
    exact call_enumerate_list pl.isList fun h' he hit _ hk => wpAny_pyIter_enum he ⟨_, _, _, _, H1, rfl, I1.kept (t' := s1.toks) hk, turn_enum a _ _, ⟨⟨.none, he⟩, hit, Nat.succ_ne_self _⟩, fresh, q⟩
  · obtain ⟨its, rv, pl, _⟩ := I1.tuple hq
    have la : a < s1.heap.objs.size := by
      obtain ⟨o, ho, _⟩ := pl
      exact Heap.lt_size ho
    exact enum_starts (begins_tuple a its.toArray) pl fun h' he ho hk => wpAny_pyIter_enum he ⟨_, _, _, _, H1, rfl, I1.kept (t' := s1.toks) hk, turn_et a _ _ (Nat.ne_of_lt la) (Nat.ne_of_gt (Nat.lt_succ_of_lt la)), ⟨⟨.none, he⟩, ⟨_, ho, rfl, rfl⟩, Nat.succ_ne_self _⟩, fresh, q⟩
def cEnumQ (K : PySem.W.Frag) (R : It → Hp → Prop) : List V → Hp → Prop := fun vs H1 => ∃ a, vs = [.ref a] ∧ (((∃ xs, SqL K H1 a xs) ∧ R (Ite K a) H1) ∨ ((∃ xs, SqT K H1 a xs) ∧ R (Iet K a) H1))
section
variable {σ : L2.St} {H : Hp} {K : PySem.W.Frag} {tr : TA} {R : It → Hp → Prop} {xs : List V} {p a : Addr} {g : TG} {tb : TS} {nx bk ct : L2.St → Hp → Prop} {rt : VK}
theorem r_enumQ (q : tr σ H (cEnumQ K R)) : iEnumQ K tr σ H R := q
theorem walk_et : Walk (Iet K a) xs.length (fun H => SqT K H a xs) (YPair (fun i => some (.int (i : Nat))) (fun i => xs[i]?)) := by
  refine ⟨fun i _ hi q => ⟨xs, xs[i], q, List.getElem?_eq_getElem hi⟩, fun _ q => ⟨xs, q, Nat.le_refl _⟩, fun i H v H' _ q ⟨T, x, h1, h2, h3, h4⟩ => ⟨T, .int (i : Nat), x, h1, h2, h3, rfl, h4 xs q⟩⟩
theorem r_kForE (Pv : Nat → L2.St → Hp → Prop) (hq : Sq K H p xs) (h0 : Pv 0 σ H) (hl : ∀ i σ H', i ≤ xs.length → Pv i σ H' → ∃ ex, p ∉ ex ∧ Kp ex H H')
    (hs : ∀ (i : Nat) x t σ H H', xs[i]? = some x → Pv i σ H → H t = none → Kp [] H H' → H' t = some (.tup [.int (i : Int), x]) → g (.ref t) σ H' fun σ2 H2 => tb ⟨Pv (i + 1), rt, nx, Pv (i + 1)⟩ σ2 H2) (hd : ∀ σ H, Pv xs.length σ H → nx σ H) :
    cEnumQ K (kFor g tb ⟨nx, rt, bk, ct⟩ σ) [.ref p] H := by
  have step : ∀ (i : Nat) x σ H H', i < xs.length → Pv i σ H → YPair (fun i => some (.int (i : Nat))) (fun i => xs[i]?) i H x H' → g x σ H' fun σ2 H2 => tb ⟨Pv (i + 1), rt, nx, Pv (i + 1)⟩ σ2 H2 := by
    rintro i x σ H H' hi hp ⟨t, u, v, rfl, nt, rfl, hu, hx⟩
    cases hu
    exact hs i v t σ H _ hx hp nt (Kp.new nt) upd_same
  rcases hq with h | h
  · exact ⟨p, rfl, .inl ⟨⟨xs, h⟩, r_kFor walk_enum Pv h0 (fun i σ H' hi q => let ⟨_, m, k⟩ := hl i σ H' hi q; sql_kp h k m) step hd⟩⟩
  · exact ⟨p, rfl, .inr ⟨⟨xs, h⟩, r_kFor walk_et Pv h0 (fun i σ H' hi q => let ⟨_, m, k⟩ := hl i σ H' hi q; sqt_kp h k m) step hd⟩⟩
end
end Rd

set_option maxHeartbeats 4000000
/-! New: data laid since a heap. -/
namespace Rd
open PySem PySem.Spec L2
/-- what is allocated -/
def Has (H : Hp) (b : Addr) : Prop := ∃ o, H b = some o
/-- x is the data d in H', laid since H (scalars, or new objects only) -/
def New (H H' : Hp) (x : V) (d : PyData) : Prop := ∀ ex, (∀ b ∈ ex, Has H b) → Dt ex H' x d
def NewAll (H H' : Hp) (xs : List V) (ds : List PyData) : Prop := ∀ ex, (∀ b ∈ ex, Has H b) → DtAll ex H' xs ds
theorem Has.kp {H H' : Hp} {b : Addr} (h : Has H b) (k : Kp [] H H') : Has H' b := let ⟨o, e⟩ := h; ⟨o, k _ _ e not_nil⟩
theorem New.mono {H H' H'' : Hp} {x : V} {d : PyData} (h : New H H' x d) (k : Kp [] H' H'') : New H H'' x d := fun ex e => (h ex e).mono k.nil
theorem NewAll.mono {H H' H'' : Hp} {x : List V} {d : List PyData} (h : NewAll H H' x d) (k : Kp [] H' H'') : NewAll H H'' x d := fun ex e => (h ex e).mono k.nil
theorem New.mono1 {H H' H'' : Hp} {x : V} {d : PyData} {p : Addr} (h : New H H' x d) (hp : Has H p) (k : Kp [p] H' H'') : New H H'' x d := fun ex e =>
  ((h (p :: ex) fun b m => (List.mem_cons.mp m).elim (fun z => z ▸ hp) (e b)).mono (k.mono fun b m => List.mem_cons.mpr (.inl (List.mem_singleton.mp m)))).less fun _ m => List.mem_cons_of_mem _ m
theorem NewAll.mono1 {H H' H'' : Hp} {x : List V} {d : List PyData} {p : Addr} (h : NewAll H H' x d) (hp : Has H p) (k : Kp [p] H' H'') : NewAll H H'' x d := fun ex e =>
  ((h (p :: ex) fun b m => (List.mem_cons.mp m).elim (fun z => z ▸ hp) (e b)).mono (k.mono fun b m => List.mem_cons.mpr (.inl (List.mem_singleton.mp m)))).less fun _ m => List.mem_cons_of_mem _ m
theorem New.back {H H1 H' : Hp} {x : V} {d : PyData} (h : New H1 H' x d) (a : ∀ b, Has H b → Has H1 b) : New H H' x d := fun ex e => h ex fun b m => a b (e b m)
theorem NewAll.back {H H1 H' : Hp} {x : List V} {d : List PyData} (h : NewAll H1 H' x d) (a : ∀ b, Has H b → Has H1 b) : NewAll H H' x d := fun ex e => h ex fun b m => a b (e b m)
theorem New.dt {H H' : Hp} {x : V} {d : PyData} (h : New H H' x d) : Dt [] H' x d := h [] fun _ m => nomatch m
theorem NewAll.dt {H H' : Hp} {x : List V} {d : List PyData} (h : NewAll H H' x d) : DtAll [] H' x d := h [] fun _ m => nomatch m
theorem DtAll.mem {ex : List Addr} {H : Hp} : ∀ {vs : List V} {ds : List PyData} {i : Nat} {v : V}, DtAll ex H vs ds → vs[i]? = some v → ∃ d, ds[i]? = some d := fun h e => let ⟨d, hd, _⟩ := h.at e; ⟨d, hd⟩
theorem NewAll.mem {H H' : Hp} {xs : List V} {ds : List PyData} {v : V} (h : NewAll H H' xs ds) (m : v ∈ xs) : ∃ d ∈ ds, New H H' v d := by
  obtain ⟨i, e⟩ := List.mem_iff_getElem?.mp m
  obtain ⟨d, hd, _⟩ := h.dt.at e
  refine ⟨d, List.mem_of_getElem? hd, fun ex he => ?_⟩
  obtain ⟨d', hd', q⟩ := (h ex he).at e
  rw [hd] at hd'
  cases hd'
  exact q
theorem NewAll.cons {H H' : Hp} {v : V} {vs : List V} {d : PyData} {ds : List PyData} (h : New H H' v d) (t : NewAll H H' vs ds) : NewAll H H' (v :: vs) (d :: ds) := fun ex e => .cons (h ex e) (t ex e)
theorem New.tup {H H1 H' : Hp} {p : Addr} {xs : List V} {ds : List PyData} (h : NewAll H H' xs ds) (n : H1 p = none) (a : ∀ b, Has H b → Has H1 b) (e : H' p = some (.tup xs)) : New H H' (.ref p) (.tuple ds) := fun ex he =>
  .tup (fun m => by
    obtain ⟨o, ho⟩ := a p (he p m)
    rw [n] at ho
    cases ho) e (h ex he)
theorem New.lst {H H1 H' : Hp} {p : Addr} {xs : List V} {ds : List PyData} (h : NewAll H H' xs ds) (n : H1 p = none) (a : ∀ b, Has H b → Has H1 b) (e : H' p = some (.lst xs)) : New H H' (.ref p) (.list ds) := fun ex he =>
  .lst (fun m => by
    obtain ⟨o, ho⟩ := a p (he p m)
    rw [n] at ho
    cases ho) e (h ex he)
/-! displays of new data -/
def EN (te : TE) (σ : St) (H : Hp) (d : PyData) : Prop := ∀ Q : VK, (∀ x H', Kp [] H H' → New H H' x d → Q x H') → te σ H Q
def AN (tr : TA) (σ : St) (H : Hp) (ds : List PyData) : Prop := ∀ QA : List V → Hp → Prop, (∀ xs H', Kp [] H H' → NewAll H H' xs ds → QA xs H') → tr σ H QA
section
variable {σ : St} {H : Hp} {Q : VK} {QA : List V → Hp → Prop} {d : PyData} {ds : List PyData} {te : TE} {tr : TA} {v : V} {i : Nat}
theorem r_EN (h : EN te σ H d) (q : ∀ x H', Kp [] H H' → New H H' x d → Q x H') : te σ H Q := h Q q
theorem r_AN (h : AN tr σ H ds) (q : ∀ xs H', Kp [] H H' → NewAll H H' xs ds → QA xs H') : tr σ H QA := h QA q
theorem EN_c (h : ∀ ex, Dt ex H v d) : EN (tC v) σ H d := fun _ q => q v H (Kp.refl _ _) fun ex _ => h ex
theorem EN_var (e : σ[i]? = some (some v)) (h : ∀ ex, Dt ex H v d) : EN (tVar i) σ H d := fun _ q => ⟨v, e, q v H (Kp.refl _ _) fun ex _ => h ex⟩
theorem AN_nil : AN tNil σ H [] := fun _ q => q [] H (Kp.refl _ _) fun _ _ => .nil
theorem AN_cons (h : EN te σ H d) (hr : ∀ H1, Kp [] H H1 → AN tr σ H1 ds) : AN (tCons te tr) σ H (d :: ds) := fun _ q =>
  h _ fun x H1 k1 h1 => hr H1 k1 _ fun xs H2 k2 h2 => q (x :: xs) H2 (k1.trans k2) (.cons (h1.mono k2) (h2.back fun _ a => a.kp k1))
theorem EN_tup (h : AN tr σ H ds) (hl : ds.length ≤ sizeLine) : EN (tTup tr) σ H (.tuple ds) := fun _ q =>
  h _ fun xs H1 k1 h1 => ⟨h1.dt.length ▸ hl, fun p n => q (.ref p) _ (k1.trans (Kp.new n)) (New.tup (h1.mono (Kp.new n)) n (fun _ a => a.kp k1) upd_same)⟩
theorem EN_lst (h : AN tr σ H ds) (hl : ds.length ≤ sizeLine) : EN (tLst tr) σ H (.list ds) := fun _ q =>
  h _ fun xs H1 k1 h1 => ⟨h1.dt.length ▸ hl, fun p n => q (.ref p) _ (k1.trans (Kp.new n)) (New.lst (h1.mono (Kp.new n)) n (fun _ a => a.kp k1) upd_same)⟩
end
/-! is None -/
def rIsNo : R2 := fun x y H Q => y = .non ∧ Q (.bl (decide (x = .non))) H
def rNotNo : R2 := fun x y H Q => y = .non ∧ Q (.bl (!decide (x = .non))) H
theorem op_isNo {X : Cx} : OpR X (compareOp .Is) rIsNo := op_isN
theorem op_notNo {X : Cx} : OpR X (compareOp .IsNot) rNotNo := op_notN
theorem r_isNo {x : V} {H : Hp} {Q : VK} (q : Q (.bl (decide (x = .non))) H) : rIsNo x .non H Q := ⟨rfl, q⟩
theorem r_notNo {x : V} {H : Hp} {Q : VK} (q : Q (.bl (!decide (x = .non))) H) : rNotNo x .non H Q := ⟨rfl, q⟩
end Rd

set_option maxHeartbeats 4000000
/-! Sl: slices of lists and tuples as rules. -/
namespace Rd
open PySem L2 StX
section
variable {σ : St} {H : Hp} {Q : VK} {te : TE} {tl th : TO} {K : PySem.W.Frag} {p : Addr} {xs : List V} {r : V → Option Int → Option Int → Hp → VK → Prop} {R : Option Int → Hp → Prop} {x : V} {l u : Option Int}
def kS1 (r : V → Option Int → Option Int → Hp → VK → Prop) (tl th : TO) (σ : St) (Q : VK) : VK := fun x H1 => tl σ H1 fun l H2 => th σ H2 fun u H3 => r x l u H3 Q
def kS2 (r : V → Option Int → Option Int → Hp → VK → Prop) (th : TO) (σ : St) (Q : VK) (x : V) : Option Int → Hp → Prop := fun l H2 => th σ H2 fun u H3 => r x l u H3 Q
def kS3 (r : V → Option Int → Option Int → Hp → VK → Prop) (Q : VK) (x : V) (l : Option Int) : Option Int → Hp → Prop := fun u H3 => r x l u H3 Q
def kPart (R : Option Int → Hp → Prop) : VK := fun x H1 => ∃ i, x = .int i ∧ R (some i) H1
theorem r_sl (q : te σ H (kS1 r tl th σ Q)) : tSl r te tl th σ H Q := q
theorem r_kS1 (q : tl σ H (kS2 r th σ Q x)) : kS1 r tl th σ Q x H := q
theorem r_kS2 (q : th σ H (kS3 r Q x l)) : kS2 r th σ Q x l H := q
theorem r_kS3 (q : r x l u H Q) : kS3 r Q x l u H := q
theorem r_noPart (q : R none H) : tNoPart σ H R := q
theorem r_part (q : te σ H (kPart R)) : tPart te σ H R := q
theorem r_kPart {i : Int} (q : R (some i) H) : kPart R (.int i) H := ⟨i, rfl, q⟩
theorem r_slL (h : SqL K H p xs) (q : ∀ b H', H b = none → Kp [] H H' → H' b = some (.lst (cutV xs l u)) → Q (.ref b) H') : rSlL K (.ref p) l u H Q := ⟨p, xs, rfl, h, fun b n => q b _ n (Kp.new n) upd_same⟩
theorem r_slT (h : SqT K H p xs) (hw : ¬ (HT.sIx xs.length 0 l = 0 ∧ HT.sIx xs.length xs.length u = xs.length)) (q : ∀ b H', H b = none → Kp [] H H' → H' b = some (.tup (cutV xs l u)) → Q (.ref b) H') : rSlT K (.ref p) l u H Q := ⟨p, xs, rfl, h, hw, fun b n => q b _ n (Kp.new n) upd_same⟩
theorem cut_to (n : Nat) : cutV xs none (some (n : Int)) = xs.take n := by
  unfold cutV
  rw [HT.sIx_nat, HT.sIx_none, List.drop_zero, Nat.sub_zero]
  by_cases h : n ≤ xs.length
  · rw [Nat.min_eq_left h]
  · rw [Nat.min_eq_right (by omega), List.take_length, List.take_of_length_le (by omega)]
theorem cut_from (n : Nat) : cutV xs (some (n : Int)) none = xs.drop n := by
  unfold cutV
  rw [HT.sIx_nat, HT.sIx_none]
  by_cases h : n ≤ xs.length
  · rw [Nat.min_eq_left h, List.take_of_length_le (by rw [List.length_drop]; omega)]
  · rw [Nat.min_eq_right (by omega), List.drop_length, List.take_nil, List.drop_eq_nil_of_le (show xs.length ≤ n by omega)]
theorem cut_last : cutV xs none (some (-1)) = xs.take (xs.length - 1) := by
  have e : HT.sIx xs.length xs.length (some (-1)) = xs.length - 1 := by
    show (if (-1 : Int) < 0 then ((-1 : Int) + (xs.length : Int)).toNat else min ((-1 : Int).toNat) xs.length) = xs.length - 1
    rw [if_pos (by decide)]
    omega
  unfold cutV
  rw [e, HT.sIx_none, List.drop_zero, Nat.sub_zero]
theorem atI_last {α : Type} {l : List α} {v : α} (h : l[l.length - 1]? = some v) : atI l (-1) = some v := by
  have hl : l.length - 1 < l.length := (List.getElem?_eq_some_iff.mp h).1
  have e : ixN l.length (-1) = some (l.length - 1) := by
    unfold ixN
    rw [if_neg (by omega), if_pos (by omega)]
    have : ((-1 : Int) + (l.length : Int)).toNat = l.length - 1 := by omega
    rw [this]
  unfold atI
  rw [e]
  exact h
end
end Rd

set_option maxHeartbeats 4000000
/-! TupIt: iter(t) of a tuple: the iterator as an object of the heap. -/
namespace Rd
open PySem PySem.Spec L2 StX PyProof.Rows
def tiObj (t : Addr) : Obj := { cls := .type "tuple_iterator", data := .fields #[.ref t, .int 0 0] }
/-- at it an iterator over the tuple at t, i turns done -/
def TiO (t it : Addr) (i : Nat) : HO := .ext fun h => h.IsTupleIter it t i
section
variable {prog : Program} {w : World} {A : Around} {E : Value → Shared → Prop} {s : Shared} {t it : Addr}
theorem call_iter_tup {items : Array Value} {Q : Value → Shared → Prop} (hl : s.heap.IsTuple t items) (h : Q (.ref s.heap.objs.size) { s with heap := s.heap.push (tiObj t) }) : wpAny (model prog w) A (call (.builtin "iter") [.ref t]) Q E s := by
  refine Calls.call_function_entry (by decide +kernel) (by decide +kernel) PySem.W.kdk_entry_iter (PySem.W.kdk_args_iter _) ?_
  unfold Builtin.«iter»
  refine wpAny_bind (m := someArgs "iter" 1 2 _) (wpAny_of_eq (a := [Value.ref t]) (by first | rfl | kernel_rfl!) ?_)
  show wpAny _ _ (pyIter (.ref t) >>= _) _ _ _
  refine wpAny_bind (wpAny_pyIter_tuple hl ?_)
  exact wpAny_pure ⟨_, rfl, h⟩
theorem tiO_ok {P : Program} {H : Hp} {h : Heap} {i : Nat} (e : h.IsTupleIter it t i) : ObjOk P w H h it (TiO t it i) := ⟨e, ⟨_, e.choose_spec.1⟩, fun h1 h2 q k => Heap.IsTupleIter.at q fun o e => k o e⟩
variable {X : Cx} {pins : List (Addr × Obj)} {σ : L2.St} {H : Hp}
theorem tiO_get {i : Nat} (I : Inv X pins σ H s) (e : H it = some (TiO t it i)) : s.heap.IsTupleIter it t i := (I.hok it _ e).1
def rIterT (K : PySem.W.Frag) : List V → Hp → VK → Prop := fun xs H Q => ∃ (t : Addr) (zs : List V), xs = [.ref t] ∧ SqT K H t zs ∧ ∀ it, H it = none → Q (.ref it) (upd H it (TiO t it 0))
theorem call_iterT : CallR X (.builtin "iter") (rIterT X.K) := by
  intro pins s σ H xs us Q I r h
  obtain ⟨t, zs, rfl, hq, q⟩ := h
  obtain rfl := Vals.ref1 r
  obtain ⟨its, rv, pl, hz⟩ := I.tuple hq
  refine call_iter_tup pl ?_
  exact ⟨.ref s.heap.objs.size, _, I.laid (t' := s.toks) (fun b u e => Heap.get?_push_of_some _ e) (Nat.le_refl _) (tiO_ok ⟨_, Heap.get?_push_size _ rfl, rfl, rfl⟩), rfl, q _ (I.hok.fresh (Nat.le_refl _))⟩
theorem r_iterT {K : PySem.W.Frag} {Q : VK} {zs : List V} (h : SqT K H t zs) (q : ∀ it H', H it = none → Kp [] H H' → H' it = some (TiO t it 0) → Q (.ref it) H') : rIterT K [.ref t] H Q := ⟨t, zs, rfl, h, fun it n => q it _ n (Kp.new n) upd_same⟩
theorem K_iterT {K : PySem.W.Frag} (hK : X.K = K) : CallR X (.builtin "iter") (rIterT K) := by
  subst hK
  exact call_iterT
/-- an iterator that has ended -/
def TiE (it : Addr) : HO := .ext fun h => ∃ o, h.get? it = some o
theorem tiE_ok {P : Program} {H : Hp} {h : Heap} (e : ∃ o, h.get? it = some o) : ObjOk P w H h it (TiE it) := ⟨e, e, fun h1 h2 q k => let ⟨o, e⟩ := q; ⟨o, k o e⟩⟩
theorem ti_end {i : Nat} {items : Array Value} {Q : Option Value → Shared → Prop} (hh : A.handled = none) (hit : s.heap.IsTupleIter it t i) (ht : s.heap.IsTuple t items) (hx : items[i]? = none)
    (hQ : ∀ h', (∃ o, h'.get? it = some o) → Heap.ExtBut it s.heap h' → Q none { s with heap := h' }) : wpAny (model prog w) A (pyNext (.ref it)) Q E s := by
  obtain ⟨o, ho, hc, hd⟩ := id hit
  obtain ⟨ol, hol, _, nl, hdl⟩ := ht
  unfold pyNext
  refine wpAny_bind (wpAny_attempt (wpAny_callSpecial?_slot (name := Str.ofString "__next__") hit.typeIs PySem.F.slot_tuple_iterator_next
    (wpAny_call_entry PySem.F.slot_tuple_iterator_next hit.typeIs PySem.F.entry_tuple_iterator_next ?_ (PySem.F.args_tuple_iterator_next_1 _))))
  show wpAny _ _ (field (.ref it) 0 >>= _) _ _ s
  refine wpAny_bind (wpAny_field ho hd (x := .ref t) rfl ?_)
  show wpAny _ _ (if (Value.ref t == Value.none) = true then _ else _) _ _ s
  rw [if_neg (show ¬ ((Value.ref t == Value.none) = true) from Bool.false_ne_true)]
  show wpAny _ _ (field (.ref it) 1 >>= _) _ _ s
  refine wpAny_bind (wpAny_field ho hd (x := .int i 0) rfl ?_)
  show wpAny _ _ (seqItems? (.ref t) >>= _) _ _ s
  refine wpAny_bind (wpAny_seqItems hol hdl ?_)
  simp only [Int.toNat_natCast, hx]
  refine wpAny_bind (wpAny_rule (wpAny_bind (wpAny_setField ho hd (by simp) ?_)))
  show wpAny _ _ (newExc (.type "StopIteration") [] >>= _) _ _ _
  refine wpAny_bind ?_
  simp only [newExc, newTuple]
  refine wpAny_bind (wpAny_newObj_type ?_ (by size_fits))
  refine wpAny_bind (m := firstArgMember _ _) (wpAny_of_eq (a := Value.none) (by first | rfl | (simp only [firstArgMember]; rfl)) ?_)
  refine wpAny_newObj_type ?_ (by size_fits)
  simp only [raiseNew]
  refine wpAny_bind (wpAny_handled ?_)
  first | rw [show A.in1.handled = none from hh] | rw [hh]
  refine wpAny_bind (wpAny_pure (wpAny_throw ?_))
  refine wpAny_bind (wpAny_isInstance (T := "StopIteration") (b := true) ⟨_, Heap.get?_push_size _ rfl, rfl⟩ isSubtype_stop ?_)
  refine wpAny_pure (hQ _ ⟨_, Heap.get?_push_of_some _ (Heap.get?_push_of_some _ (Heap.get?_update_self _ ho (Obj.isFreed_of_fields (Obj.data_mapFields hd _))))⟩ (((Heap.SameBut.update ..).extBut.push _).push _))
/-- the iterator's items go into a list -/
theorem ti_fill {xs : List V} {q : Addr} {A1 : Around} {Rs : Result → Shared → Prop} (hc : X.calm = true) (hA : A1.handled = none) (t1 : t ≠ it) (t2 : t ≠ q) : ∀ (m i : Nat) (H : Hp) (s : Shared), xs.length - i = m → i ≤ xs.length → Inv X pins σ H s → H it = some (TiO t it i) → SqT X.K H t xs → H q = some (.lst (xs.take i)) →
    (∀ H' s', Inv X pins σ H' s' → Kp [it, q] H H' → H' q = some (.lst xs) → Rs (.ok (.ret .none)) s') → codeAny (model X.prog X.w) A1 (.builtin "list.extend.loop" ⟨[.ref q, .ref it, .none], []⟩) Rs s := by
  intro m
  induction m with
  | zero =>
    intro i H s hm hi I ei ht eq hR
    have hin : i = xs.length := by omega
    subst hin
    obtain ⟨its, rv, p, hz⟩ := I.tuple ht
    have hl := rv.length
    refine codeAny_builtin PySem.F.entry_extend_loop ?_
    rw [Around.under_plainId PySem.F.plain_extend_loop _]
    show wpAny _ A1.in1 (pyNext (.ref it) >>= _) _ _ s
    refine wpAny_bind (ti_end hA (tiO_get I ei) (show s.heap.IsTuple t its.toArray from p) (by simp; omega) fun h' eo eb => ?_)
    have mu : Mut (H it) := by rw [ei]; exact True.intro
    have I1 : L2.Inv X pins σ (upd H it (TiE it)) { s with heap := h' } := I.write (x := it) (e := it) (t' := s.toks) mu (.inl rfl) (fun b o nb z => eb b o nb z) eo (tiE_ok eo)
    have qi : q ≠ it := fun e => by
      rw [e, ei] at eq
      cases eq
    refine wpAny_pure (hR _ _ I1 (Kp.put List.mem_cons_self) ?_)
    rw [upd_ne qi, eq, List.take_length]
  | succ m ih =>
    intro i H s hm hi I ei ht eq hR
    obtain ⟨its, rv, p, hz⟩ := I.tuple ht
    have hl := rv.length
    have hix : i < xs.length := by omega
    obtain ⟨u, hu, ru⟩ := rv.get (List.getElem?_eq_getElem hix)
    have qi : q ≠ it := fun e => by
      rw [e, ei] at eq
      cases eq
    refine codeAny_builtin PySem.F.entry_extend_loop ?_
    rw [Around.under_plainId PySem.F.plain_extend_loop _]
    show wpAny _ A1.in1 (pyNext (.ref it) >>= _) _ _ s
    refine wpAny_bind (wpAny_pyNext_tuple_item (tiO_get I ei) (show s.heap.IsTuple t its.toArray from p) (x := u) (by simpa using hu) fun h' st' sb => ?_)
    have mu : Mut (H it) := by rw [ei]; exact True.intro
    have I1 : L2.Inv X pins σ (upd H it (TiO t it (i + 1))) { s with heap := h' } := I.write (x := it) (e := it) (t' := s.toks) mu (.inl rfl) (fun b o nb z => (sb.2 b nb).trans z) ⟨_, st'.choose_spec.1⟩ (tiO_ok st')
    have eq1 : upd H it (TiO t it (i + 1)) q = some (.lst (xs.take i)) := by rw [upd_ne qi, eq]
    obtain ⟨z, its2, k, r2, hl2, e⟩ := I1.lstM eq1
    show wpAny _ A1.in1 (updateSeq q (·.push u) >>= _) _ _ _
    refine wpAny_bind (wpAny_updateSeq e rfl (wpAny_pure ⟨plainId_quiet PySem.F.plain_extend_loop _, ?_⟩) (by rw [List.size_toArray]; omega) (by show (its2.toArray.push u).size ≤ sizeLine + 1; rw [Array.size_push, List.size_toArray]; omega))
    have I2 := I1.lset (f := (·.push u)) (its := its2) (its' := its2 ++ [u]) (ys := xs.take i ++ [xs[i]]) (t' := s.toks) eq1 e (by simp) (r2.append (.cons ru .nil)) (by rw [List.length_append, List.length_take, List.length_singleton]; omega)
    have hI : it ≠ q := qi.symm
    refine ih (i + 1) _ _ (by omega) hix I2 ?_ ?_ ?_ fun H' s' I' k' e' => hR H' s' I' ?_ e'
    · rw [upd_ne hI, upd_same]
    · exact sqt_kp (sqt_kp ht (Kp.put (ex := [it]) List.mem_cons_self) (not_one t1)) (Kp.put (ex := [q]) List.mem_cons_self) (not_one t2)
    · rw [upd_same, ← List.take_succ_eq_append_getElem hix]
    · exact ((Kp.put List.mem_cons_self).trans (Kp.put (List.mem_cons_of_mem _ List.mem_cons_self))).trans k'
end
end Rd

set_option maxHeartbeats 4000000
/-! OwnList: list(o), o's own __iter__ returns an iterator over a tuple, with an own __len__. -/
namespace Rd
open PySem PySem.Spec L2 PyProof.Rows
section
variable {X : Cx} {pins : List (Addr × Obj)} {σ : L2.St} {H : Hp} {s : Shared} {a C dx f : Addr} {fs : List (Str × V)} {sp : Sp} {n : Nat} {E : Value → Shared → Prop} {A1 : Around}
theorem ol_hint {R : Hp → Prop} {Q : Bool → Shared → Prop} (sb : Sub X n A1.in1) (hm : Meth X.K C "__len__" f) (F : FnR X.prog X.w X.K X.mg X.base CX0 n f sp) (I : Inv X pins σ H s) (ea : H a = some (.ins C dx fs))
    (q : sp [.ref a] H (fun v H' => ∃ k : Int, v = .int k ∧ 0 ≤ k ∧ k < 1000 ∧ R H') E0) (hQ : ∀ b H' s', Inv X pins σ H' s' → R H' → Q b s') :
    wpAny (model X.prog X.w) A1 (Builtin.List.listLengthHint (.ref a)) Q E s := by
  obtain ⟨mA, J, _⟩ := ins_get I.hok ea
  obtain ⟨od, J, _⟩ := J.look
  obtain ⟨m, hF⟩ := I.fr
  unfold Builtin.List.listLengthHint
  refine wpAny_bind (wpAny_bind (J.type.here ((PySem.W.looks_findIn I.kIn hm.at_).here ?_)))
  refine PySem.W.KFB.if_not rfl ?_
  refine PySem.W.KFB.if_so rfl ?_
  refine wpAny_bind (wpAny_rule ?_)
  refine wpAny_bind (wpAny_attempt ?_)
  have e0 : Env0 X.prog X.w X.K X.mg X.base A1.in1 X.stack s H := by
    have e := I.env0
    exact ⟨by rw [sb.fr]; exact e.frames, e.mod, e.bs, e.bsz, e.funs, e.frf, e.hok, e.bare⟩
  refine PySem.W.len_K hF I.ok.mod.kin J hm.at_ hm.fn (wpAny_call (codeAny_mono (F A1.in1 X.stack s H [.ref a] [.ref a] _ E0 sb.room e0 (.cons rfl .nil) q) fun r s' z => ?_))
  cases r with
  | error e => exact False.elim z
  | ok fl =>
    cases fl with
    | ret u =>
      obtain ⟨z', H', I', rz, k, rfl, k0, k1, qz⟩ := I.after z
      obtain ⟨t, e⟩ := (show ∃ t, u = Value.int k t from rz)
      cases e
      refine ⟨⟨k0, by omega⟩, ?_⟩
      refine wpAny_bind (wpAny_pure ?_)
      refine PySem.W.KFB.if_not (decide_eq_false (by have : 1000 < sizeLine := by decide
                                                     omega)) ?_
      exact wpAny_pure (hQ _ H' _ (I'.tok _) qz)
    | next => exact False.elim z
    | brk => exact False.elim z
    | cont => exact False.elim z
/-- list(o): __iter__ gives an iterator over the tuple of xs, __len__ a number -/
def rListOwn (K : PySem.W.Frag) (C : Addr) (spI spL : Sp) : List V → Hp → VK → Prop := fun vs H Q => ∃ a dx fs t xs, vs = [.ref a] ∧ H a = some (.ins C dx fs) ∧ SqT K H t xs ∧
  ∀ q, H q = none → spI [.ref a] (upd H q (.lst [])) (fun v H1 => ∃ it, v = .ref it ∧ t ≠ it ∧ H1 it = some (TiO t it 0) ∧ Kp [] (upd H q (.lst [])) H1 ∧
    spL [.ref a] H1 (fun v H2 => ∃ k : Int, v = .int k ∧ 0 ≤ k ∧ k < 1000 ∧ Kp [] H1 H2 ∧ ∀ H3, Kp [it, q] H2 H3 → H3 q = some (.lst xs) → Q (.ref q) H3) E0) E0
theorem next_ti {it t : Addr} {i : Nat} {M : Model} {Q : Value → Shared → Prop} (h : s.heap.IsTupleIter it t i) (q : Q (.ref it) s) : PySem.W.OwitIt M A1 Q E (.ref it) s := by
  unfold PySem.W.OwitIt
  exact wpAny_specialOf h.typeIs PySem.F.slot_tuple_iterator_next.lookup q
variable {fi fl : Addr} {spI spL : Sp}
theorem call_listOwnT (hc : X.calm = true) (it_ : PySem.W.findIn X.K (.ref C) "__iter__" = some (some (.ref fi))) (itF : PySem.W.isFn X.K (.ref fi) = true) (FI : FnR X.prog X.w X.K X.mg X.base CX0 n fi spI)
    (hl : Meth X.K C "__len__" fl) (FL : FnR X.prog X.w X.K X.mg X.base CX0 n fl spL) (hr : Room (n + 3) X.A) : CallR X (.type "list") (rListOwn X.K C spI spL) := by
  intro pins s σ H xs us Q I rv h
  obtain ⟨a, dx, fs, t, xs, rfl, ha, ht, hq⟩ := h
  obtain ⟨u, rfl, ru⟩ := rv.one
  cases ru
  have sb : Sub X (n + 1) X.A.in1.in1 := (Sub.in1 (Sub.in1 (⟨hr, rfl⟩ : Sub X (n + 3) X.A)))
  have sb3 : Sub X n X.A.in1.in1.in1 := Sub.in1 sb
  refine callType_codes (Q₁ := fun obj s₁ => obj = .ref s.heap.objs.size ∧ s₁ = { s with heap := s.heap.push { cls := .type "list", data := .seq #[] } }) PySem.F.called_list (PySem.F.typeCall_list_1 _) PySem.F.entry_list_init
    (code_list_new _ ⟨rfl, rfl⟩) fun obj s₁ h₁ => ?_
  obtain ⟨rfl, rfl⟩ := h₁
  have hS : (s.heap.push { cls := .type "list", data := .seq #[] }).get? s.heap.objs.size = some { cls := .type "list", data := .seq #[] } := Heap.get?_push_size _ rfl
  refine ⟨⟨_, hS, rfl⟩, PySem.F.args_list_init_2 _ _, ?_⟩
  have fr : H s.heap.objs.size = none := I.hok.fresh (Nat.le_refl _)
  have hsp := hq _ fr
  have I1 : Inv X pins σ (upd H s.heap.objs.size (.lst [])) { s with heap := s.heap.push { cls := .type "list", data := .seq #[] } } := I.lnew (its := []) (t' := s.toks) .nil (Nat.zero_le _)
  show wpAny _ _ (do let old ← Builtin.List.listItems (.ref s.heap.objs.size); Builtin.List.listUpdate (.ref s.heap.objs.size) (fun _ => #[]); letGo old.toList.reverse; Builtin.List.listExtendWith (.ref s.heap.objs.size) (.ref a) .none) _ _ _
  refine wpAny_bind ?_
  unfold Builtin.List.listItems
  refine wpAny_bind (wpAny_seqItems hS rfl (wpAny_pure ?_))
  show wpAny _ _ (updateSeq s.heap.objs.size (fun _ => #[]) >>= fun _ => letGo (#[] : Array Value).toList.reverse >>= fun _ => Builtin.List.listExtendWith (.ref s.heap.objs.size) (.ref a) .none) _ _ _
  refine wpAny_bind (wpAny_updateSeq hS rfl ?_)
  have I2 := I1.lset (f := fun _ => #[]) (its := []) (its' := []) (ys := []) (t' := s.toks) upd_same hS rfl .nil (Nat.zero_le _)
  rw [upd_upd] at I2
  refine wpAny_bind (wpAny_letGo ?_)
  have ha2 : upd H s.heap.objs.size (.lst []) a = some (.ins C dx fs) := by rw [upd_ne (ne_of_none ha fr)]; exact ha
  have hne : s.heap.objs.size ≠ a := fun e => by rw [← e, fr] at ha; cases ha
  obtain ⟨mA, J, _⟩ := ins_get I2.hok ha2
  obtain ⟨od, J, _⟩ := J.look
  obtain ⟨m0, hF⟩ := I2.fr
  unfold Builtin.List.listExtendWith
  refine wpAny_bind (J.type.here ?_)
  have h1 : Builtin.List.listSameRef (.ref s.heap.objs.size) (.ref a) = false := by simp [Builtin.List.listSameRef, hne]
  have h2 : (Value.ref C == Value.type "list") = false := rfl
  have h3 : (Value.ref C == Value.type "tuple") = false := rfl
  simp only [h1, h2, h3, Bool.or_false, Bool.false_eq_true, if_false]
  refine wpAny_bind (PySem.W.owit_iter hF I2.ok.mod.kin J it_ itF ?_)
  have e := I2.env0
  refine wpAny_call (codeAny_mono (FI X.A.in1.in1 X.stack _ _ [.ref a] [.ref a] _ E0 (sb.room.mono (Nat.le_succ n)) ⟨by rw [sb.fr]; exact e.frames, e.mod, e.bs, e.bsz, e.funs, e.frf, e.hok, e.bare⟩ (.cons rfl .nil) hsp) fun r s' z => ?_)
  cases r with
  | error e => exact False.elim z
  | ok fo =>
    cases fo with
    | next => exact False.elim z
    | brk => exact False.elim z
    | cont => exact False.elim z
    | ret u =>
      obtain ⟨v, H1, I3, rv, it, rfl, ti, eit, k1, hsp2⟩ := I2.after z
      cases (show u = Value.ref it from rv)
      refine next_ti (tiO_get I3 eit) ?_
      refine wpAny_bind (wpAny_holding (ol_hint (E := _) (R := fun H2 => Kp [] H1 H2 ∧ ∀ H3, Kp [it, s.heap.objs.size] H2 H3 → H3 s.heap.objs.size = some (.lst xs) → Q (.ref s.heap.objs.size) H3) sb3 hl FL I3 (k1 _ _ ha2 not_nil) hsp2 fun b H2 s2 I4 hR => ?_))
      obtain ⟨k2, qq⟩ := hR
      have hq1 : (upd H s.heap.objs.size (.lst [])) s.heap.objs.size = some (.lst []) := upd_same
      have hq2 := k2 _ _ (k1 _ _ hq1 not_nil) not_nil
      have eit2 := k2 _ _ eit not_nil
      have tq : t ≠ s.heap.objs.size := fun e => by
        obtain ⟨its, rv, p, _⟩ := I.tuple ht
        obtain ⟨o, ho, _⟩ := p
        rw [e] at ho
        exact absurd ho (by rw [PyProof.Rows.new_of_ge (Nat.le_refl _)]; simp)
      have ht2 : SqT X.K H2 t xs := sqt_kp (sqt_kp (sqt_kp ht (Kp.new fr) not_nil) k1 not_nil) k2 not_nil
      refine wpAny_ite_split (fun _ => ?_) (fun _ => wpAny_pure ⟨plainId_quiet PySem.F.plain_extend_loop _, ti_fill (A1 := X.A.in1) hc (show X.A.in1.handled = none from I4.ok.hd hc) ti tq _ 0 H2 s2 rfl (Nat.zero_le _) I4 eit2 ht2 hq2 fun H3 s3 I5 k3 e3 => ⟨rfl, .ref s.heap.objs.size, H3, I5, rfl, qq H3 k3 e3⟩⟩)
      obtain ⟨z, its, k, r3, hl3, e3⟩ := I4.lstM hq2
      cases r3
      refine wpAny_bind (wpAny_rule ?_)
      refine wpAny_bind ?_
      show wpAny _ _ (updateSeq s.heap.objs.size (·.push .none) >>= fun _ => updateSeq s.heap.objs.size (·.pop)) _ _ _
      refine wpAny_bind (wpAny_updateSeq e3 rfl ?_)
      have J2 := I4.lset (f := (·.push Value.none)) (its' := [Value.none]) (ys := [.non]) (t' := s2.toks) hq2 e3 (by simp) (.cons rfl .nil) (by rw [List.length_singleton, sizeLine_eq]; decide)
      obtain ⟨z4, its4, k4, r4, hl4, e4⟩ := J2.lstM upd_same
      obtain ⟨u4, rfl, ru4⟩ := r4.one
      have J3 := J2.lset (f := (·.pop)) (its := [u4]) (its' := []) (ys := []) (t' := s2.toks) upd_same e4 (by rfl) .nil (Nat.zero_le _)
      rw [upd_upd] at J3
      have hH : upd H2 s.heap.objs.size (.lst []) = H2 := by
        funext b
        by_cases hb : b = s.heap.objs.size
        · rw [hb, upd_same, hq2]
        · rw [upd_ne hb]
      rw [hH] at J3
      refine wpAny_updateSeq e4 rfl ?_ (by show 1 ≤ sizeLine; rw [sizeLine_eq]; decide) (by show 0 ≤ sizeLine + 1; exact Nat.zero_le _)
      exact wpAny_pure ⟨plainId_quiet PySem.F.plain_extend_loop _, ti_fill (A1 := X.A.in1) hc (show X.A.in1.handled = none from I4.ok.hd hc) ti tq _ 0 H2 _ rfl (Nat.zero_le _) J3 eit2 ht2 hq2 fun H3 s3 I5 k3 e3 => ⟨rfl, .ref s.heap.objs.size, H3, I5, rfl, qq H3 k3 e3⟩⟩
end
end Rd

set_option maxHeartbeats 4000000
/-! OwnNe: a != b by an own __eq__. -/
namespace PySem.W
open PySem PySem.Spec PySem.Calls PyProof.Rows
section
variable {prog : Program} {w : World} {A : Around} {E : Value → Shared → Prop} {s : Shared} {K : Frag} {x C : Addr} {ox : Obj} {od : Option Obj} {name : Str} {id B : String}
theorem ifBoundB_K {M : Model} {args : List Value} {Q : Option Value → Shared → Prop} (X : K.In s.heap) (I : InstAt s.heap x ox C od) (hs : findIn K (.ref C) name = some (some (.builtin id))) (S : Slot B name id)
    (h : wpAny M A (call (.builtin id) (.ref x :: args)) (fun v => Q (some v)) E s) : wpAny M A (callSpecialIfBound? (.ref x) name args) Q E s := by
  simp only [callSpecialIfBound?, bindSpecialIfBound?]
  refine wpAny_holding (wpAny_bind (wpAny_bind (wpAny_bind (I.type.here ((looks_findIn X hs).here ?_)))))
  simp only [S.bind]
  refine wpAny_bind (wpAny_askSetting (wpAny_ite ?_))
  have fin : wpAny M A (call (.builtin id) ([.ref x] ++ args) >>= fun v => pure (some v)) Q E s := wpAny_bind (wpAny_mono h (fun v s' h' => wpAny_pure h') fun _ _ h' => h')
  split
  · exact wpAny_bind (wpAny_pure (wpAny_pure fin))
  · exact wpAny_tryCatch (wpAny_bind (wpAny_pure (wpAny_pure fin)))
theorem check_ne {rest : List Value} {Q : Unit → Shared → Prop} (X : K.In s.heap) (I : InstAt s.heap x ox C od) (hm : mroIn K C (.type "object") = some true) (ha : argsOk "object.__ne__" ⟨.ref x :: rest, []⟩) (hq : Q () s) :
    wpAny (model prog w) A (checkBuiltinCall "object.__ne__" ⟨.ref x :: rest, []⟩) Q E s := by
  simp only [checkBuiltinCall, F.cmpKind_ne, F.cmpSplit_ne]
  refine wpAny_bind ?_
  have L : Looks (model prog w) s.heap (isInstance (.ref x) (.type "object")) true := Looks.andThen I.type (looks_mroIn (M := model prog w) X hm)
  refine wpAny_mono (L.here (Q := fun b s' => b = true ∧ s' = s) ⟨rfl, rfl⟩) (fun b s' h => ?_) fun _ _ z => z
  obtain ⟨rfl, rfl⟩ := h
  refine KFB.if_not rfl ?_
  cases hsig : Manifest.signature? "object.__ne__" with
  | none => exact wpAny_pure hq
  | some sig =>
    simp only [argsOk, hsig] at ha
    have h2 : Bind.checkArgs "object.__ne__" sig ⟨.ref x :: rest, []⟩ = pure () := ha
    show wpAny _ A (Bind.checkArgs "object.__ne__" sig ⟨.ref x :: rest, []⟩) Q E _
    rw [h2]
    exact wpAny_pure hq
theorem objNe_K {b : Value} {f : Addr} (X : K.In s.heap) (I : InstAt s.heap x ox C od) (he : findIn K (.ref C) "__eq__" = some (some (.ref f))) (hf : isFn K (.ref f) = true) (hu : A.units < cLine) {Q : Fin → Shared → Prop}
    (hcall : wpAny (model prog w) A (call (.ref f) [.ref x, b]) (fun v s' => ∃ c, v = .bool c ∧ Q (.done (.ret (.bool (!c)))) s') E s) :
    wpAny (model prog w) A (Builtin.«object.__ne__» ⟨[.ref x, b], []⟩) Q E s := by
  unfold Builtin.«object.__ne__»
  repeat (first
    | with_reducible refine wpAny_cRoomFor hu ?_
    | (refine wpAny_bind (m := callSpecialIfBound? (.ref x) (Str.ofString "__eq__") [b])
        (ifBound_K X I he hf (wpAny_mono hcall (fun r s' hr => by
          obtain ⟨c, rfl, hq⟩ := hr
          repeat (first | exact hq | exact wpAny_pure hq | exact wpAny_truthy_bool hq | (refine wpAny_bind (m := truthy (.bool _)) (wpAny_truthy_bool ?_)) | wp_step)) fun _ _ e => e)))
    | wp_step)
theorem ne_K {b tb : Value} {f : Addr} {h₀ : Heap} {L : Addr} {m : Str → Option Value} {Q : Value → Shared → Prop} (hu : A.units + 1 < cLine) (F : Fr h₀ L s.heap m) (X₀ : K.In h₀) (I : InstAt s.heap x ox C od) (hb : Looks (model prog w) s.heap (typeOf b) tb) (hn : notFirst K C tb = true)
    (hne : findIn K (.ref C) "__ne__" = some (some (.builtin "object.__ne__"))) (he : findIn K (.ref C) "__eq__" = some (some (.ref f))) (hf : isFn K (.ref f) = true) (hm : mroIn K C (.type "object") = some true)
    (h : wpAny (model prog w) A.in1 (call (.ref f) [.ref x, b]) (fun v s' => ∃ c, v = .bool c ∧ Q (.bool (!c)) s') E s) : wpAny (model prog w) A (richCompare .NotEq (.ref x) b) Q E s := by
  have X := X₀.keeps F.keep
  have one : wpAny (model prog w) A (tryCompare (.ref x) "__ne__" b) (fun r s' => ∃ v, r = some v ∧ Q v s') E s := by
    simp only [tryCompare]
    refine wpAny_bind (ifBoundB_K X I hne PySem.F.cmp_object.ne (wpAny_call (codeAny_call_builtin PySem.F.cmp_object.ne.plain PySem.F.cmpEntry_ne
      (check_ne X I hm (PySem.F.cmpArgs_ne _ _) (objNe_K (A := A.in1) X I he hf hu (wpAny_mono h (fun v s' hv => ?_) fun _ _ e => e))))))
    obtain ⟨c, rfl, hq⟩ := hv
    exact ⟨c, rfl, wpAny_pure ⟨_, rfl, hq⟩⟩
  unfold richCompare
  simp only [oneThing_ref]
  refine wpAny_holding (wpAny_bind (wpAny_cRoomFor (Nat.lt_of_succ_lt hu) ?_))
  rw [cmpInfo_NotEq]
  refine wpAny_bind (I.type.here (wpAny_bind (hb.here ?_)))
  split
  · rename_i q
    have e : subIn K tb (.ref C) = some false := by
      rcases Bool.or_eq_true_iff.mp hn with e | e
      · rw [beq_iff_eq.mp e] at q; simp at q
      · exact beq_iff_eq.mp e
    refine wpAny_bind ((looks_subIn X e).here ?_)
    simp only [Bool.false_eq_true, if_false]
    refine wpAny_bind (wpAny_mono one (fun r s' z => ?_) fun _ _ e => e)
    obtain ⟨v, rfl, hq⟩ := z
    exact wpAny_pure hq
  · refine wpAny_bind (wpAny_pure ?_)
    simp only [Bool.false_eq_true, if_false]
    refine wpAny_bind (wpAny_mono one (fun r s' z => ?_) fun _ _ e => e)
    obtain ⟨v, rfl, hq⟩ := z
    exact wpAny_pure hq
end
end PySem.W

set_option maxHeartbeats 4000000
/-! OwnEq: != by an own __eq__; == of an own object and data; list(o) with K named. -/
namespace Rd
open PySem PySem.Spec L2
/-- x != y, both of the class at C -/
def rNeOwn (C : Addr) (sp : Sp) : R2 := fun x y H Q => ∃ a dx fs b dy gs, x = .ref a ∧ y = .ref b ∧ H a = some (.ins C dx fs) ∧ H b = some (.ins C dy gs) ∧ sp [.ref a, .ref b] H (fun z H' => ∃ c, z = .bl c ∧ Q (.bl (!c)) H') E0
/-- x == y, x of the class at C, y of another type -/
def rEqOth (K : PySem.W.Frag) (C : Addr) (sp : Sp) : R2 := fun x y H Q => ∃ a dx fs t, x = .ref a ∧ H a = some (.ins C dx fs) ∧ TyX K H y t ∧ PySem.W.notFirst K C t = true ∧ sp [.ref a, y] H (fun z H' => ∃ c, z = .bl c ∧ Q (.bl c) H') E0
section
variable {X : Cx} {n : Nat} {C f : Addr} {sp : Sp}
theorem op_neOwn (hm : Meth X.K C "__eq__" f) (F : FnR X.prog X.w X.K X.mg X.base CX0 n f sp) (hr : Room n X.A) (hne : PySem.W.findIn X.K (.ref C) "__ne__" = some (some (.builtin "object.__ne__"))) (ho : PySem.W.mroIn X.K C (.type "object") = some true)
    (hr1 : Room (n + 1) X.A) : OpR X (compareOp .NotEq) (rNeOwn C sp) := by
  intro pins s σ H x y v u Q I rx ry h
  obtain ⟨a, dx, fs, b, dy, gs, rfl, rfl, ea, eb, q⟩ := h
  cases (show v = Value.ref a from rx)
  cases (show u = Value.ref b from ry)
  obtain ⟨mA, O, _⟩ := ins_get I.hok ea
  obtain ⟨od, J, _⟩ := O.look
  obtain ⟨mB, O', _⟩ := ins_get I.hok eb
  obtain ⟨od', J', _⟩ := O'.look
  obtain ⟨m, hF⟩ := I.fr
  have nf : PySem.W.notFirst X.K C (.ref C) = true := by
    unfold PySem.W.notFirst
    simp
  refine PySem.W.ne_K (tb := .ref C) (by have := hr1.units; have := hr.units; omega) hF I.ok.mod.kin J J'.type nf hne hm.at_ hm.fn ho ?_
  refine wpAny_call (codeAny_mono (F X.A.in1 X.stack s H [.ref a, .ref b] [.ref a, .ref b] _ E0 hr1.in1 I.env0.in1 (.cons rfl (.cons rfl .nil)) q) fun r s' z => ?_)
  cases r with
  | error e => exact False.elim z
  | ok fl =>
    cases fl with
    | ret u =>
      obtain ⟨z', H', I', rz, c, rfl, qz⟩ := I.after z
      cases (show u = Value.bool c from rz)
      exact ⟨c, rfl, .bl (!c), H', I'.tok _, rfl, qz⟩
    | next => exact False.elim z
    | brk => exact False.elim z
    | cont => exact False.elim z
theorem op_eqOth (hm : Meth X.K C "__eq__" f) (F : FnR X.prog X.w X.K X.mg X.base CX0 n f sp) (hr : Room n X.A) : OpR X (compareOp .Eq) (rEqOth X.K C sp) := by
  intro pins s σ H x y v u Q I rx ry h
  obtain ⟨a, dx, fs, t, rfl, ea, ty, nf, q⟩ := h
  cases (show v = Value.ref a from rx)
  obtain ⟨mA, O, _⟩ := ins_get I.hok ea
  obtain ⟨od, J, _⟩ := O.look
  obtain ⟨P, Z, p, hx⟩ := kit_of I ry ty
  obtain ⟨m, hF⟩ := I.fr
  refine PySem.W.cmp_K (op := .Eq) (tb := t) hr.units0 hF I.ok.mod.kin J (Z.ty _ _ I.kIn p) nf hm.at_ hm.fn ?_
  refine wpAny_mono (wpAny_call (run_fnR (us := [.ref a, u]) (vs := [.ref a, y]) F hr pass0 I (.cons rfl (.cons ry .nil)) q)) (fun r s' z => ?_) fun _ _ x => x
  obtain ⟨z', H', I', rz, c, rfl, qz⟩ := z
  cases (show r = Value.bool c from rz)
  exact ⟨.bl c, H', I', rfl, qz⟩
theorem K_eqOth {K : PySem.W.Frag} (hK : X.K = K) (hm : Meth K C "__eq__" f) (F : FnR X.prog X.w K X.mg X.base CX0 n f sp) (hr : Room n X.A) : OpR X (compareOp .Eq) (rEqOth K C sp) := by
  subst hK
  exact op_eqOth hm F hr
theorem K_listOwn {K : PySem.W.Frag} {fi fl : Addr} {spI spL : Sp} (hK : X.K = K) (hc : X.calm = true) (hi : Meth K C "__iter__" fi) (FI : FnR X.prog X.w K X.mg X.base CX0 n fi spI)
    (hl : Meth K C "__len__" fl) (FL : FnR X.prog X.w K X.mg X.base CX0 n fl spL) (hr : Room (n + 3) X.A) : CallR X (.type "list") (rListOwn K C spI spL) := by
  subst hK
  exact call_listOwnT hc hi.at_ hi.fn FI hl FL hr
end
section
variable {H : Hp} {Q : VK} {C a b dx dy t : Addr} {fs gs : List (Str × V)} {sp spI spL : Sp} {y : V} {xs : List V} {K : PySem.W.Frag} {ty : Value} {c : Bool}
def kNeg (Q : VK) : VK := fun z H' => ∃ c, z = .bl c ∧ Q (.bl (!c)) H'
def kYes (Q : VK) : VK := fun z H' => ∃ c, z = .bl c ∧ Q (.bl c) H'
theorem r_neOwn (e : H a = some (.ins C dx fs)) (e' : H b = some (.ins C dy gs)) (q : sp [.ref a, .ref b] H (kNeg Q) E0) : rNeOwn C sp (.ref a) (.ref b) H Q := ⟨a, dx, fs, b, dy, gs, rfl, rfl, e, e', q⟩
theorem r_eqOwn (e : H a = some (.ins C dx fs)) (e' : H b = some (.ins C dy gs)) (q : sp [.ref a, .ref b] H (kYes Q) E0) : rEqOwn C sp (.ref a) (.ref b) H Q := ⟨a, dx, fs, b, dy, gs, rfl, rfl, e, e', q⟩
theorem r_eqOth (e : H a = some (.ins C dx fs)) (h : TyX K H y ty) (n : PySem.W.notFirst K C ty = true) (q : sp [.ref a, y] H (kYes Q) E0) : rEqOth K C sp (.ref a) y H Q := ⟨a, dx, fs, ty, rfl, e, h, n, q⟩
theorem r_kNeg (q : Q (.bl (!c)) H) : kNeg Q (.bl c) H := ⟨c, rfl, q⟩
theorem r_kYes (q : Q (.bl c) H) : kYes Q (.bl c) H := ⟨c, rfl, q⟩
/-- list(o) -/
def kLoI (spL : Sp) (a t : Addr) (xs : List V) (q : Addr) (H0 : Hp) (Q : VK) : VK := fun v H1 => ∃ it, v = .ref it ∧ t ≠ it ∧ H1 it = some (TiO t it 0) ∧ Kp [] H0 H1 ∧
    spL [.ref a] H1 (fun v H2 => ∃ k : Int, v = .int k ∧ 0 ≤ k ∧ k < 1000 ∧ Kp [] H1 H2 ∧ ∀ H3, Kp [it, q] H2 H3 → H3 q = some (.lst xs) → Q (.ref q) H3) E0
def kLoL (it q : Addr) (xs : List V) (H1 : Hp) (Q : VK) : VK := fun v H2 => ∃ k : Int, v = .int k ∧ 0 ≤ k ∧ k < 1000 ∧ Kp [] H1 H2 ∧ ∀ H3, Kp [it, q] H2 H3 → H3 q = some (.lst xs) → Q (.ref q) H3
theorem r_listOwn (e : H a = some (.ins C dx fs)) (ht : SqT K H t xs) (q : ∀ q H0, H q = none → Kp [] H H0 → H0 q = some (.lst []) → spI [.ref a] H0 (kLoI spL a t xs q H0 Q) E0) : rListOwn K C spI spL [.ref a] H Q := ⟨a, dx, fs, t, xs, rfl, e, ht, fun p n => q p _ n (Kp.new n) upd_same⟩
theorem r_kLoI {H0 : Hp} {it q : Addr} (n : t ≠ it) (e : H it = some (TiO t it 0)) (k : Kp [] H0 H) (h : spL [.ref a] H (kLoL it q xs H Q) E0) : kLoI spL a t xs q H0 Q (.ref it) H := ⟨it, rfl, n, e, k, h⟩
theorem r_kLoL {H1 : Hp} {it q : Addr} {k : Int} (k0 : 0 ≤ k) (k1 : k < 1000) (kk : Kp [] H1 H) (h : ∀ H3, Kp [it, q] H H3 → H3 q = some (.lst xs) → Q (.ref q) H3) : kLoL it q xs H1 Q (.int k) H := ⟨k, rfl, k0, k1, kk, h⟩
end
end Rd

set_option maxHeartbeats 4000000
/-! Fam: objects of some classes with a common base: ==, properties, str; super().m(..) of an own class. -/
namespace Rd
open PySem PySem.Spec L2 NdefX PyProof.Rows
/-! ### x == y by the base's __eq__ -/
def rEqFam (K : PySem.W.Frag) (S : Addr → Prop) (sp : Sp) : R2 := fun x y H Q => ∃ a C dx fs t, x = .ref a ∧ H a = some (.ins C dx fs) ∧ S C ∧ TyX K H y t ∧ PySem.W.notFirst K C t = true ∧ sp [.ref a, y] H (kYes Q) E0
def cStrFam (S : Addr → Prop) (sp : Sp) : R1 := fun xs H Q => ∃ a C dx fs, xs = [.ref a] ∧ H a = some (.ins C dx fs) ∧ S C ∧ sp [.ref a] H (fun z H' => ∃ y, z = .str y ∧ Q (.str y) H') E0
def kPropF (S : Addr → Prop) (sp : Sp) (Q : VK) : VK := fun x H1 => ∃ a C dx fs, x = .ref a ∧ H1 a = some (.ins C dx fs) ∧ S C ∧ sp [.ref a] H1 Q E0
def tPropF (S : Addr → Prop) (sp : Sp) (ta : TE) : TE := fun σ H Q => ta σ H (kPropF S sp Q)
section
variable {X : Cx} {n : Nat} {f p g : Addr} {sp : Sp} {S : Addr → Prop} {K : PySem.W.Frag}
theorem K_eqFam (hK : X.K = K) (hm : ∀ C, S C → Meth K C "__eq__" f) (F : FnR X.prog X.w K X.mg X.base CX0 n f sp) (hr : Room n X.A) : OpR X (compareOp .Eq) (rEqFam K S sp) := by
  subst hK
  intro pins s σ H x y v u Q I rx ry h
  obtain ⟨a, C, dx, fs, t, rfl, ea, hS, ty, nf, q⟩ := h
  exact op_eqOth (hm C hS) F hr pins s σ H _ y v u Q I rx ry ⟨a, dx, fs, t, rfl, ea, ty, nf, q⟩
theorem cr_strFam (hm : ∀ C, S C → Meth X.K C "__str__" f) (F : FnR X.prog X.w X.K X.mg X.base CX0 n f sp) (hr : Room (n + 2) X.A) : CallR X (.type "str") (cStrFam S sp) := by
  intro pins s σ H xs us Q I r h
  obtain ⟨a, C, dx, fs, rfl, ea, hS, q⟩ := h
  obtain ⟨u, rfl, ru⟩ := r.one
  cases (show u = Value.ref a from ru)
  obtain ⟨mA, O, _⟩ := ins_get I.hok ea
  obtain ⟨od, J, _⟩ := O.look
  have M := hm C hS
  refine PySem.W.kso_call hr.in1.in1.units0 I.kIn J M.at_ M.fn (wpAny_call (codeAny_mono (F X.A.in1.in1 X.stack s H [.ref a] [.ref a] _ E0 hr.in1.in1 I.env0.in1.in1 (.cons rfl .nil) q) fun r s' z => ?_))
  cases r with
  | error e => exact False.elim z
  | ok fl =>
    cases fl with
    | ret u =>
      obtain ⟨z', H', I', rz, y, rfl, qz⟩ := I.after z
      obtain ⟨t, e⟩ := (show ∃ t, u = Value.str y t from rz)
      subst e
      exact ⟨.str y, H', I', ⟨_, rfl⟩, qz⟩
    | next => exact False.elim z
    | brk => exact False.elim z
    | cont => exact False.elim z
theorem pe_propF {fd : FuncData} {ps : List Str} {e : Expr} {pos : Pos} {ta : TE} {nm : Str} (he : PE X e ta) (hc : ∀ C, S C → Cls X.K C ∧ PropOf X.K C nm p g) (F : FnOk X.prog X.w X.K X.mg X.base CX0 n g fd ps sp) (hr : Room (n + 1) X.A) (hb : Binds X.K fd ps [])
    (hab : attributeBase e nm X.env (eval e X.env) = eval e X.env := by rfl) : PE X (.Attribute e nm pos) (tPropF S sp ta) := by
  refine ⟨fun pins s σ H Q I h => ?_⟩
  refine attr_of hab (thn (he.run pins s σ H _ I h) fun u s1 ⟨x, H1, I1, rx, a, C, dx, fs, ex, ea, hS, q⟩ => ?_)
  subst ex
  obtain rfl : u = Value.ref a := rx
  obtain ⟨c, hp⟩ := hc C hS
  exact getprop_ok (dvs := []) I1 ea c hp F hr hb .nil pass0 q
end
section
variable {H : Hp} {Q : VK} {S : Addr → Prop} {sp : Sp} {K : PySem.W.Frag} {a C dx : Addr} {fs : List (Str × V)} {y : V} {t : Value} {σ : L2.St} {ta : TE}
theorem r_eqFam (e : H a = some (.ins C dx fs)) (hS : S C) (ty : TyX K H y t) (nf : PySem.W.notFirst K C t = true) (q : sp [.ref a, y] H (kYes Q) E0) : rEqFam K S sp (.ref a) y H Q := ⟨a, C, dx, fs, t, rfl, e, hS, ty, nf, q⟩
def kStr (Q : VK) : VK := fun z H' => ∃ y, z = .str y ∧ Q (.str y) H'
theorem r_kStr {y : Str} (q : Q (.str y) H) : kStr Q (.str y) H := ⟨y, rfl, q⟩
theorem r_strFam (e : H a = some (.ins C dx fs)) (hS : S C) (q : sp [.ref a] H (kStr Q) E0) : cStrFam S sp [.ref a] H Q := ⟨a, C, dx, fs, rfl, e, hS, q⟩
theorem r_propF (q : ta σ H (kPropF S sp Q)) : tPropF S sp ta σ H Q := q
theorem r_kPropF (e : H a = some (.ins C dx fs)) (hS : S C) (q : sp [.ref a] H Q E0) : kPropF S sp Q (.ref a) H := ⟨a, C, dx, fs, rfl, e, hS, q⟩
end
/-! ### a body at its own code: plain statements, then super().m(..) -/
structure PEat (X : Cx) (c : Code) (e : Expr) (te : TE) : Prop where
  run : ∀ (pins : List (Addr × Obj)) (s : Shared) (σ : L2.St) (H : Hp) (Q : VK), Inv X pins σ H s → te σ H Q → _root_.PySem.wpAt (model X.prog X.w) X.A c (eval e X.env) (EP X pins σ Q) X.xe s
section
variable {X : Cx} {c : Code} {st : Stmt} {rest : List Stmt} {t u : TS} {e : Expr} {te : TE} {pos : Pos}
theorem qs_cons (a : PS X st t) (b : QS X c rest u) : QS X c (st :: rest) (tSeq t u) := by
  constructor
  intro pins s σ H D I h
  refine _root_.PySem.ks_wpAt_execs_cons (wpAt_of_wpAny (thn (a.run pins s σ H _ I h) fun f s1 w => ?_))
  match f, w with
  | .next, ⟨σ', H', I', w'⟩ => exact b.run pins s1 σ' H' D I' w'
  | .ret _, w => exact w
  | .brk, w => exact w
  | .cont, w => exact w
def tDrp (te : TE) (u : TS) : TS := fun D σ H => te σ H fun _ H1 => u D σ H1
theorem qs_expr (a : PEat X c e te) (b : QS X c rest u) (hi : interactive X.env = false := by rfl) (hs : swapsWith e none pos.line X.env = pure false := by rfl) : QS X c (.Expr e pos :: rest) (tDrp te u) := by
  constructor
  intro pins s σ H D I h
  refine _root_.PySem.ks_wpAt_execs_cons (_root_.PySem.ks_wpAt_Expr_any (_root_.PySem.ks_wpAt_mono (a.run pins s σ H _ I h) (fun v s1 w => ?_) fun _ _ z => z) hi hs)
  obtain ⟨x, H1, I1, r1, q⟩ := w
  exact b.run pins s1 σ H1 D I1 q
theorem r_drp {nx bk ct : L2.St → Hp → Prop} {rt : VK} {σ : L2.St} {H : Hp} (q : te σ H fun _ H1 => u ⟨nx, rt, bk, ct⟩ σ H1) : tDrp te u ⟨nx, rt, bk, ct⟩ σ H := q
end
/-! ### super().m(e, ..) of an own class -/
/-- what is asked of the class at C, in a method of which (its code object at cda) super().name is called: the def at g -/
structure SupO (P : Program) (K : PySem.W.Frag) (mg : Str → Option Value) (C cda : Addr) (name : Str) (g : Addr) : Prop where
  cls : (PySem.W.clsIn K C).isSome = true
  up : PySem.W.ks_superIn K C C name = some (some (.ref g))
  ty : PySem.W.typeIn K (.ref g) = some (.type "function")
  fn : PySem.W.fnIn K g = true
  own : PySem.W.mroIn K C (.ref C) = some true
  opq : PySem.W.nsIn K cStatics "thirdparty.any" = some none
  zs : mg "super" = none
  file : ∃ ccl cdd vs ccs fl tf, K.lookup cda = some ⟨ccl, cdd, .fields vs, ccs⟩ ∧ vs[2]? = some (.str fl tf) ∧ (P.main.file == fl) = true
  top : (P.main.scope.names.lookup ("super" : Str)).isSome = false
def kSupO (sp : Sp) (a : Addr) (Q : VK) : List V → Hp → Prop := fun vs H1 => sp (.ref a :: vs) H1 Q E0
def tSupO (C : Addr) (sp : Sp) (ta : TA) : TE := fun σ H Q => ∃ a dx fs, σ[0]? = some (some (.ref a)) ∧ H a = some (.ins C dx fs) ∧ ta σ H (kSupO sp a Q)
theorem pe_sup {CX : CXT} {P : Program} {w : World} {K : PySem.W.Frag} {mg : Str → Option Value} {base : Heap} {f g cc cda C : Addr} {name qual m : Str} {params : Arguments} {body body' : List Stmt} {scope : Scope} {dV kV doc pm ct oc cl : Value} {an od cld : Option Addr}
    {osl csl : Array (Option Value)} {N : List Str} {A : Around} {outer : List Env} {s0 : Shared} {H0 : Hp} {E : XK} {ar : Arg} {p0 p1 p2 p4 : Pos} {pl : Sem Bool} {e1 : Expr} {es : List Expr} {ta : TA} {sp : Sp} {k : Nat}
    (lk : K.lookup f = some ⟨oc, od, .func (PySem.W.ksFn name qual params body scope dV kV doc pm an (.ref cda) ct cc), osl⟩) (cell : K.lookup cc = some ⟨cl, cld, .cell (some (.ref C)), csl⟩) (Z : SupO P K mg C cda m g)
    (F : FnR P w K mg base CX0 k g sp) (hr : Room k (ncx CX P w K mg base N ⟨name, qual, params, body, scope, [("__class__", cc)], cda⟩ f A outer s0 H0 E).A)
    (hat : (m == ("__class__" : Str)) = false)
    (hks : scope.names.lookup ("super" : Str) = some .globalImplicit) (hkc : scope.names.lookup ("__class__" : Str) = some .free) (hp : (params.posonlyargs ++ params.args).head? = some ar) (hN : N[0]? = some ar.arg)
    (hka : scope.names.lookup ar.arg = some .local) (hk : scope.kind = .function)
    (ha : PA (ncx CX P w K mg base N ⟨name, qual, params, body, scope, [("__class__", cc)], cda⟩ f A outer s0 H0 E) (e1 :: es) ta)
    (he : eval (.Call (.Attribute (.Call (.Name "super" p0) [] [] p1) m p2) (e1 :: es) [] p4) (envF ⟨name, qual, params, body, scope, [("__class__", cc)], cda⟩ f s0.heap.objs.size) = (do
      let ov ← attributeBase (.Call (.Name "super" p0) [] [] p1) m (envF ⟨name, qual, params, body, scope, [("__class__", cc)], cda⟩ f s0.heap.objs.size) (eval (.Call (.Name "super" p0) [] [] p1) (envF ⟨name, qual, params, body, scope, [("__class__", cc)], cda⟩ f s0.heap.objs.size))
      standAt p2.atName
      let (fx, first) ← holding [ov] (getMethod ov m pl)
      callWith p4 fx first (backTo p4 (starEach (e1 :: es) (envF ⟨name, qual, params, body, scope, [("__class__", cc)], cda⟩ f s0.heap.objs.size))) []))
    (hst : starEach (e1 :: es) (envF ⟨name, qual, params, body, scope, [("__class__", cc)], cda⟩ f s0.heap.objs.size) = (false, eval e1 (envF ⟨name, qual, params, body, scope, [("__class__", cc)], cda⟩ f s0.heap.objs.size)) :: starEach es (envF ⟨name, qual, params, body, scope, [("__class__", cc)], cda⟩ f s0.heap.objs.size))
    (hpl : (backTo p4 (starEach es (envF ⟨name, qual, params, body, scope, [("__class__", cc)], cda⟩ f s0.heap.objs.size))).any (·.1) = false) :
    PEat (ncx CX P w K mg base N ⟨name, qual, params, body, scope, [("__class__", cc)], cda⟩ f A outer s0 H0 E) (.func body' (envF ⟨name, qual, params, body, scope, [("__class__", cc)], cda⟩ f s0.heap.objs.size))
      (.Call (.Attribute (.Call (.Name "super" p0) [] [] p1) m p2) (e1 :: es) [] p4) (tSupO C sp ta) := by
  constructor
  intro pins s σ H Q I ⟨a, dx, fs, hσ, hia, q⟩
  have KX := I.kIn
  obtain ⟨mA, O, _⟩ := ins_get I.hok hia
  obtain ⟨odx, J, _⟩ := O.look
  obtain ⟨ccl, cdd, vs, ccs, fl, tf, hcode, hvs, hfile⟩ := Z.file
  refine ks_wpAt_MethodCall (pl := pl) ?_ he
  obtain ⟨hh, gg, d, tk, os⟩ := s
  obtain ⟨cd, hcd⟩ := Option.isSome_iff_exists.mp Z.cls
  obtain ⟨oD, hD1, hD2⟩ : ∃ oD, hh.get? C = some oD ∧ oD.data = .cls cd := by
    unfold PySem.W.clsIn at hcd
    split at hcd
    · rename_i c d cd' sl ho
      cases hcd
      exact ⟨_, KX _ _ ho, rfl⟩
    · cases hcd
  refine ks_wpAt_super_base hks hkc hat rfl (KX _ _ lk) rfl hp rfl (KX _ _ hcode) rfl hvs hfile Z.top ?_
  obtain ⟨mb, hbn, hbv⟩ := I.ok.mod.blt
  have hbo : bootBuiltins "super" = some (.type "super") := by first | rfl | decide +kernel
  refine PySem.W.ks_loadName_global hk hks (Calls.loadGlobal_builtin (I.mod.glob.keeps I.bk) Z.zs (hbn.keeps I.bk) ((hbv ("super" : Str) (by decide +kernel)).trans hbo) ⟨rfl, ?_⟩)
  refine wpAny_loadName_free hk hkc rfl ⟨_, KX _ _ cell, rfl⟩ ?_
  obtain ⟨ml, hns, hl⟩ := I.loc
  obtain ⟨u, ru, lku⟩ := hl 0 ar.arg (.ref a) hN hσ (.inl hka)
  have hm : ml ar.arg = some u := by
    rcases lku with ⟨_, z⟩ | ⟨z, _⟩
    · exact z
    · rcases z with z | z
      · exact absurd (hka.symm.trans z) (by decide)
      · exact absurd (hka.symm.trans z) (by decide)
  obtain rfl : u = Value.ref a := ru
  refine wpAny_loadName_local hk hka hns hm ?_
  refine ks_wpAny_isType_cls hD1 hD2 ⟨rfl, ?_⟩
  refine ks_wpAny_call_super hD1 hD2 J.at_ J.cls (fun c z => ?_) (PySem.W.looks_mroIn KX Z.own) fun h' e1' kp => ?_
  · have := J.no
    unfold PySem.W.notCls at this
    rw [z] at this
    exact Bool.noConfusion this
  have I1 : Inv _ pins σ H ⟨h', gg, d, tk, os⟩ := I.kept (t' := tk) kp
  have KX1 := I1.kIn
  obtain ⟨mA1, O1, _⟩ := ins_get I1.hok hia
  obtain ⟨odx1, J1, _⟩ := O1.look
  obtain ⟨of, hof, hofc⟩ : ∃ of, h'.get? g = some of ∧ of.cls = .type "function" := by
    have ht' : (K.lookup g).map (·.cls) = some (.type "function") := Z.ty
    cases z : K.lookup g with
    | none => rw [z] at ht'; cases ht'
    | some of => rw [z] at ht'; exact ⟨of, KX1 _ _ z, Option.some.inj ht'⟩
  have up := Z.up
  unfold PySem.W.ks_superIn at up
  rw [hcd] at up
  refine ks_wpAny_getMethod_super e1' (PySem.W.looks_opaque KX1 Z.opq) (l₀ := cd.mro) (fun A Q E s k z => wpAny_bind ((PySem.W.looks_clsIn KX1 hcd) A _ E s k (wpAny_pure z))) rfl KX1 up hof hofc (PySem.W.ks_ne KX1 J1 hcd) hat ?_
  have k2 : ∀ b o, h'.get? b = some o → (h'.push (PySem.W.methodObj (.ref g) (.ref a))).get? b = some o := fun b o e => Heap.get?_push_of_some _ e
  have I2 : Inv _ pins σ H ⟨h'.push (PySem.W.methodObj (.ref g) (.ref a)), gg, d, tk + 1, os⟩ := I1.kept (t' := tk + 1) k2
  have hq : (h'.push (PySem.W.methodObj (.ref g) (.ref a))).get? h'.objs.size = some (PySem.W.methodObj (.ref g) (.ref a)) := Heap.get?_push_size _ rfl
  have fp : ∀ b ∈ [h'.objs.size], FpOk (ncx CX P w K mg base N ⟨name, qual, params, body, scope, [("__class__", cc)], cda⟩ f A outer s0 H0 E) pins H b := fun b mb' => by
    rw [List.mem_singleton.mp mb']
    exact I1.fpOk (Nat.le_refl _) (I1.hok.fresh (Nat.le_refl _))
  have I3 := I2.pinned fp fun b mb' => by
    rw [List.mem_singleton.mp mb']
    exact ⟨_, hq, fun v z => by cases z⟩
  have hst' : starEach (e1 :: es) (ncx CX P w K mg base N ⟨name, qual, params, body, scope, [("__class__", cc)], cda⟩ f A outer s0 H0 E).env = (false, eval e1 (envF ⟨name, qual, params, body, scope, [("__class__", cc)], cda⟩ f s0.heap.objs.size)) :: starEach es (envF ⟨name, qual, params, body, scope, [("__class__", cc)], cda⟩ f s0.heap.objs.size) := hst
  have go := ha.run p4 _ _ σ H _ I3 q
  rw [hst'] at go
  rw [hst']
  refine PySem.W.callWith_of (P := PySem.W.MethP K h'.objs.size g (.ref a)) (by show ((false || (backTo p4 (starEach es _)).any (·.1)) || false) = false; rw [hpl]; rfl) (PySem.W.keeps_M Z.fn) (Calls.evalArgs_plain (thn go fun us s3 w3 => ?_))
  obtain ⟨vs3, H1, I4, r, q2⟩ := w3
  have pin := (I4.pin (h'.objs.size, PySem.W.methodObj (.ref g) (.ref a)) (List.mem_append_right _ (List.mem_append_right _ (mem_pinsAt List.mem_cons_self hq)))).1
  refine ⟨⟨pin, I4.kIn⟩, ?_⟩
  have I5 := I4.unpinned
  exact wpAny_call (ks_codeAny_call_bound pin (run_fnR (us := .ref a :: us) (vs := .ref a :: vs3) F hr pass0 I5 (.cons rfl r) q2))
theorem r_supO {C a dx : Addr} {fs : List (Str × V)} {sp : Sp} {ta : TA} {σ : L2.St} {H : Hp} {Q : VK} (e : σ[0]? = some (some (.ref a))) (ha : H a = some (.ins C dx fs)) (q : ta σ H (kSupO sp a Q)) : tSupO C sp ta σ H Q := ⟨a, dx, fs, e, ha, q⟩
end Rd

set_option maxHeartbeats 4000000
/-! StrO: texts: slices, text * number, enumerate(text), min and max of two, str(x) of a number or a text, "".join. -/
namespace Rd
open PySem PySem.Spec PyProof.Rows L2
section
variable {H : Hp} {Q : VK} {X : Cx}
theorem r_slS {z : Str} {lo hi : Option Int} (h : z.length ≤ sizeLine) (q : Q (.str (cutS z lo hi)) H) : rSlS (.str z) lo hi H Q := ⟨z, rfl, h, q⟩
/-! text * number -/
def rMulS : R2 := fun x y H Q => ∃ z n, x = .str z ∧ y = .int n ∧ MulOk z n ∧ Q (.str (Txt.mul z n)) H
theorem op_mulS : OpR X (binaryOp .Mult) rMulS := by
  intro pins s σ H x y v u Q I rx ry h
  obtain ⟨z, n, rfl, rfl, ok, q⟩ := h
  obtain ⟨t, rfl⟩ := rx
  obtain ⟨t', rfl⟩ := ry
  exact SB.mul ok fun t' k => ⟨.str _, H, I.tok k, ⟨_, rfl⟩, q⟩
/-! str(x) of a number or a text -/
def strD : PyData → Str
  | .int i => toString i
  | .str x => x
  | _ => Str.empty
def strDOk : PyData → Prop
  | .int i => i.natAbs.log2 < 1920
  | .str _ => True
  | _ => False
def cStrIS : R1 := fun xs H Q => ∃ x d ex, xs = [x] ∧ Dt ex H x d ∧ strDOk d ∧ Q (.str (strD d)) H
theorem cr_strIS : CallR X (.type "str") cStrIS := by
  intro pins s σ H xs us Q I r h
  obtain ⟨x, d, ex, rfl, hd, ok, q⟩ := h
  cases hd with
  | int i => exact call_str_int pins s σ H _ us Q I r ⟨i, rfl, ok, q⟩
  | str z => exact SkE.call_str_str pins s σ H _ us Q I r ⟨z, rfl, q⟩
  | non => exact ok.elim
  | bl b => exact ok.elim
  | lst _ _ _ => exact ok.elim
  | tup _ _ _ => exact ok.elim
theorem r_strIS {x : V} {d : PyData} {ex : List Addr} (h : Dt ex H x d) (ok : strDOk d) (q : Q (.str (strD d)) H) : cStrIS [x] H Q := ⟨x, d, ex, rfl, h, ok, q⟩
/-! min, max of two texts -/
def slt (a b : Str) : Bool := decide (a.cps.toList < b.cps.toList)
def minS (a b : Str) : Str := if slt b a = true then b else a
def maxS (a b : Str) : Str := if slt a b = true then b else a
def cMin2S : R1 := fun xs H Q => ∃ a b, xs = [.str a, .str b] ∧ Q (.str (minS a b)) H
def cMax2S : R1 := fun xs H Q => ∃ a b, xs = [.str a, .str b] ∧ Q (.str (maxS a b)) H
def strsV (a b : Str) : Nat → Str := fun i => if i = 0 then a else b
theorem cmpOf_strs {prog : Program} {w : World} {A : Around} {a b : Str} {t u : Tok} : CmpOf prog w A .Lt (fun i v => (#[Value.str a t, Value.str b u] : Array Value)[i]? = some v) (fun i j => slt (strsV a b i) (strsV a b j)) := by
  intro i j vi vj s Q E hi hj hQ
  have at2 : ∀ {i : Nat} {v : Value}, (#[Value.str a t, Value.str b u] : Array Value)[i]? = some v → ∃ k, v = Value.str (strsV a b i) k := fun {i v} h => by
    match i, h with
    | 0, h => cases h; exact ⟨_, rfl⟩
    | 1, h => cases h; exact ⟨_, rfl⟩
    | i + 2, h => simp at h
  obtain ⟨k, rfl⟩ := at2 hi
  obtain ⟨k', rfl⟩ := at2 hj
  exact PySem.P.lt_str hQ
theorem cmpOf_strsG {prog : Program} {w : World} {A : Around} {a b : Str} {t u : Tok} : CmpOf prog w A .Gt (fun i v => (#[Value.str a t, Value.str b u] : Array Value)[i]? = some v) (fun i j => slt (strsV a b j) (strsV a b i)) := by
  intro i j vi vj s Q E hi hj hQ
  have at2 : ∀ {i : Nat} {v : Value}, (#[Value.str a t, Value.str b u] : Array Value)[i]? = some v → ∃ k, v = Value.str (strsV a b i) k := fun {i v} h => by
    match i, h with
    | 0, h => cases h; exact ⟨_, rfl⟩
    | 1, h => cases h; exact ⟨_, rfl⟩
    | i + 2, h => simp at h
  obtain ⟨k, rfl⟩ := at2 hi
  obtain ⟨k', rfl⟩ := at2 hj
  exact (show wpAny (model prog w) A (compareOp .Gt (.str (strsV a b i) k) (.str (strsV a b j) k')) Q E s from PySem.P.gt_str hQ)
theorem cr_min2S (hc : X.calm = true) : CallR X (.builtin "min") cMin2S := by
  intro pins s σ H xs us Q I r h
  obtain ⟨a, b, rfl, q⟩ := h
  obtain ⟨u, w', rfl, ⟨t, rfl⟩, ⟨t', rfl⟩⟩ := vals2 r
  have hh := I.ok.hd hc
  have hT : (s.heap.push { cls := .type "tuple", data := .seq #[.str a t, .str b t'] }).IsTuple s.heap.objs.size #[.str a t, .str b t'] := ⟨_, Heap.get?_push_size _ rfl, rfl, 0, rfl⟩
  refine call_min_two (wpAny_pyIter_tuple hT ?_)
  have hsz : (s.heap.push { cls := .type "tuple", data := .seq #[.str a t, .str b t'] }).objs.size = s.heap.objs.size + 1 := Heap.size_push ..
  refine ⟨_, [_, s.heap.objs.size], [_], _, _, _, _, rfl, Walks.tuple (A := X.A.in1) hh _ s.heap.objs.size (by rw [hsz]; exact Nat.ne_of_lt (Nat.lt_succ_self _)) #[.str a t, .str b t'],
    ⟨⟨_, Heap.get?_push_size _ rfl, rfl, rfl⟩, hT.push _⟩, fun d hd => ?_, by simp, cmpOf_strs, fun v h' tk hP hk => ?_⟩
  · show d < ((s.heap.push _).push _).objs.size
    rw [Heap.size_push, hsz]
    rcases List.mem_cons.mp hd with rfl | hd
    · rw [hsz]; exact Nat.lt_succ_self _
    · rcases List.mem_cons.mp hd with rfl | hd
      · exact Nat.lt_succ_of_lt (Nat.lt_succ_self _)
      · cases hd
  · refine ⟨.str (minS a b), H, I.kept fun c o e => hk c o (fun m => ?_) (Heap.get?_push_of_some _ (Heap.get?_push_of_some _ e)), ?_, q⟩
    · have := Heap.lt_size e
      rw [List.mem_singleton.mp m, hsz] at this
      exact absurd this (Nat.not_lt.mpr (Nat.le_succ _))
    · have e : argBest (fun i j => slt (strsV a b i) (strsV a b j)) (#[Value.str a t, Value.str b t'].size - 1) = if slt b a = true then 1 else 0 := rfl
      rw [e] at hP
      unfold minS
      cases c : slt b a
      · rw [c] at hP
        cases hP
        exact ⟨_, rfl⟩
      · rw [c] at hP
        cases hP
        exact ⟨_, rfl⟩
theorem cr_max2S (hc : X.calm = true) : CallR X (.builtin "max") cMax2S := by
  intro pins s σ H xs us Q I r h
  obtain ⟨a, b, rfl, q⟩ := h
  obtain ⟨u, w', rfl, ⟨t, rfl⟩, ⟨t', rfl⟩⟩ := vals2 r
  have hh := I.ok.hd hc
  have hT : (s.heap.push { cls := .type "tuple", data := .seq #[.str a t, .str b t'] }).IsTuple s.heap.objs.size #[.str a t, .str b t'] := ⟨_, Heap.get?_push_size _ rfl, rfl, 0, rfl⟩
  refine call_max_two (wpAny_pyIter_tuple hT ?_)
  have hsz : (s.heap.push { cls := .type "tuple", data := .seq #[.str a t, .str b t'] }).objs.size = s.heap.objs.size + 1 := Heap.size_push ..
  refine ⟨_, [_, s.heap.objs.size], [_], _, _, _, _, rfl, Walks.tuple (A := X.A.in1) hh _ s.heap.objs.size (by rw [hsz]; exact Nat.ne_of_lt (Nat.lt_succ_self _)) #[.str a t, .str b t'],
    ⟨⟨_, Heap.get?_push_size _ rfl, rfl, rfl⟩, hT.push _⟩, fun d hd => ?_, by simp, cmpOf_strsG, fun v h' tk hP hk => ?_⟩
  · show d < ((s.heap.push _).push _).objs.size
    rw [Heap.size_push, hsz]
    rcases List.mem_cons.mp hd with rfl | hd
    · rw [hsz]; exact Nat.lt_succ_self _
    · rcases List.mem_cons.mp hd with rfl | hd
      · exact Nat.lt_succ_of_lt (Nat.lt_succ_self _)
      · cases hd
  · refine ⟨.str (maxS a b), H, I.kept fun c o e => hk c o (fun m => ?_) (Heap.get?_push_of_some _ (Heap.get?_push_of_some _ e)), ?_, q⟩
    · have := Heap.lt_size e
      rw [List.mem_singleton.mp m, hsz] at this
      exact absurd this (Nat.not_lt.mpr (Nat.le_succ _))
    · have e : argBest (fun i j => slt (strsV a b j) (strsV a b i)) (#[Value.str a t, Value.str b t'].size - 1) = if slt a b = true then 1 else 0 := rfl
      rw [e] at hP
      unfold maxS
      cases c : slt a b
      · rw [c] at hP
        cases hP
        exact ⟨_, rfl⟩
      · rw [c] at hP
        cases hP
        exact ⟨_, rfl⟩
theorem r_min2S {a b : Str} (q : Q (.str (minS a b)) H) : cMin2S [.str a, .str b] H Q := ⟨a, b, rfl, q⟩
theorem r_max2S {a b : Str} (q : Q (.str (maxS a b)) H) : cMax2S [.str a, .str b] H Q := ⟨a, b, rfl, q⟩
end
/-! enumerate(text) -/
/-- a text, each sign in a new pair with its place -/
def Ies (x : Str) : It :=
  ⟨fun i _ => i < x.cps.size, fun i H v H' => ∃ T c, v = .ref T ∧ H T = none ∧ H' = upd H T (.tup [.int (i : Nat), .str ⟨#[c]⟩]) ∧ x.cps[i]? = some c, fun i _ => x.cps.size ≤ i⟩
theorem turn_es {P : Program} {w : World} {K : PySem.W.Frag} {elts : List Expr} {kk : Nat} {tpos : Pos} (x : Str) (t : Tok) (e it : Addr) (ty : String) (hty : ty = "str_ascii_iterator" ∨ ty = "str_iterator") :
    Turn P w K (.Tuple elts kk tpos) (Ies x) [e, it] e (fun i h => (∃ old, IsEnum h e it ((i : Nat) : Int) old) ∧ h.IsStrIter it ty x t i ∧ e ≠ it) := by
  have two : ∀ {b : Addr}, b ∈ [e, it] → b = e ∨ b = it := fun {b} hb => by simpa using hb
  have dr : ∀ {A : Around}, A.handled = none → Draws P w A it [it] x.cps.size (fun i v => ∃ c u, x.cps[i]? = some c ∧ v = .str ⟨#[c]⟩ u) (fun i h => h.IsStrIter it ty x t i) := fun {A} hh => by
    rcases hty with z | z
    · rw [z]; exact Draws.strAscii hh it x t
    · rw [z]; exact Draws.strWide hh it x t
  refine ⟨by simp, fun i h st b hb => ?_, fun i h h' st k => ?_, ?_, ?_, fun A i s Q E st q => ?_⟩
  · obtain ⟨⟨old, he⟩, ⟨o, ho, hc, hd⟩, _⟩ := st
    rcases two hb with rfl | rfl
    · exact ⟨_, he, fun v z => nomatch z⟩
    · exact ⟨o, ho, fun v z => by rw [hd] at z; cases z⟩
  · obtain ⟨⟨old, he⟩, hi, hne⟩ := st
    exact ⟨⟨old, k e (by simp) _ he⟩, (let ⟨o, ho, r⟩ := hi; ⟨o, k it (by simp) o ho, r⟩), hne⟩
  · intro X hP hw hK hc i pins s σ H E I hf st hg
    subst hP hw hK
    obtain ⟨⟨old, he⟩, hit, hne⟩ := st
    have big : e < s.heap.objs.size ∧ it < s.heap.objs.size := ⟨Heap.lt_size he, by obtain ⟨_, z, _⟩ := hit; exact Heap.lt_size z⟩
    refine wpAny_pyNext_enum_itemC (dr (A := X.A.in1) (I.ok.hd hc)) he hit hg hne (by simp [hne]) fun y h1 tk hy ho hst hT hsz hk => ?_
    obtain ⟨c, k, hcx, rfl⟩ := hy
    refine ⟨_, rfl, wpAny_letOwnedTupleGo_enum (s := { s with heap := h1, toks := tk + 1 }) ho fun h2 he2 sb => ?_⟩
    have hT2 := (sb.2 _ (Nat.ne_of_gt big.1)).trans hT
    have new : ObjOk X.prog X.w (upd H s.heap.objs.size (.tup [.int (i : Nat), .str ⟨#[c]⟩])) h2 s.heap.objs.size (.tup [.int (i : Nat), .str ⟨#[c]⟩]) := ⟨by show 2 ≤ sizeLine; decide, [.int i tk, .str ⟨#[c]⟩ k], .cons ⟨_, rfl⟩ (.cons ⟨_, rfl⟩ .nil), ⟨_, hT2, rfl, _, rfl⟩⟩
    have I1 : Inv X pins σ (upd H s.heap.objs.size (.tup [.int (i : Nat), .str ⟨#[c]⟩])) { s with heap := h2, toks := tk + 1 } :=
      I.turnedNew (ch := [e, it]) (fun b ob hb z => (sb.2 b (fun w => hb (by simp [w]))).trans (hk b ob (fun w => hb (by simp [w])) (fun w => hb (by simp [w])) z)) hf (Nat.le_refl _) new
    refine ⟨.ref s.heap.objs.size, _, I1, rfl, ⟨_, c, rfl, I.hok.fresh (Nat.le_refl _), rfl, hcx⟩, ⟨⟨.str ⟨#[c]⟩ k, ?_⟩, (let ⟨o, ho, r⟩ := hst; ⟨o, (sb.2 it (Ne.symm hne)).trans ho, r⟩), hne⟩, fun b hb => ?_⟩
    · have e1 : ((i + 1 : Nat) : Int) = (i : Int) + 1 := by omega
      rw [e1]
      exact he2
    · have hb' : b < s.heap.objs.size := (two hb).elim (fun z => z ▸ big.1) fun z => z ▸ big.2
      rw [upd_ne (Nat.ne_of_lt hb')]
      exact (hf b hb).1
  · intro X hP hw hK hc i pins s σ H E I hf st hg
    subst hP hw hK
    obtain ⟨⟨old, he⟩, hit, hne⟩ := st
    have D := dr (A := X.A.in1) (I.ok.hd hc)
    have D' : Draws X.prog X.w X.A.in1 it [it] i (fun _ _ => True) (fun j h => j = i ∧ h.IsStrIter it ty x t i) :=
      ⟨fun _ _ st => let ⟨o, ho, _⟩ := st.2; ⟨o, ho⟩, fun _ _ _ st hk => ⟨st.1, let ⟨o, ho, r⟩ := st.2; ⟨o, hk it (by simp) o ho, r⟩⟩, fun j _ _ _ hj st _ => absurd st.1 (Nat.ne_of_lt hj),
        fun s Q E st hE => by
          have hn : x.cps[i]? = none := Array.getElem?_eq_none hg
          rcases hty with z | z
          · rw [z] at st
            exact wpAny_nextOf_ascii_end (A := X.A.in1) (I.ok.hd hc) st.2 hn hE
          · rw [z] at st
            exact wpAny_nextOf_wide_end (A := X.A.in1) (I.ok.hd hc) st.2 hn hE⟩
    obtain ⟨f0, f1, f2, f3, f4, f5⟩ := hf it (by simp)
    exact wpAny_pyNext_enum_endD D' he ⟨rfl, hit⟩ fun h' eb => ⟨rfl, I.turned (t' := s.toks) (fun b o hb z => eb b o hb z) f0 f1 f3 f4 f5⟩
  · obtain ⟨⟨_, he⟩, _⟩ := st
    exact wpAny_pyIter_enum he q
def cEnumS (R : It → Hp → Prop) : List V → Hp → Prop := fun vs H1 => ∃ x, vs = [.str x] ∧ R (Ies x) H1
def iEnumS (ta : TA) : TI := fun σ H R => ta σ H (cEnumS R)
theorem K_enumS {X : Cx} {K : PySem.W.Frag} (hK : X.K = K) {e : Expr} {ta : TA} {p pos tpos : Pos} {elts : List Expr} {kk : Nat} (hg : Gl X "enumerate") (hm : X.mg "enumerate" = none) (ha : PA X [e] ta) (hs : starEach [e] X.env = [(false, eval e X.env)] := by rfl) :
    PI X (.Tuple elts kk tpos) (.Call (.Name "enumerate" p) [e] [] pos) (iEnumS ta) := by
  subst hK
  constructor
  intro pins s σ H R I h
  refine Call_ (ld_blt I hg hm boot_enumerate (PyProof.Rows.callWith_type1 (thn (ha.run pos pins s σ H _ I h) fun us s1 ⟨vs, H1, I1, r1, q1⟩ => ?_) hs rfl))
  obtain ⟨x, rfl, q⟩ := q1
  obtain ⟨u, rfl, ru⟩ := r1.one
  obtain ⟨t, rfl⟩ := (show ∃ t, u = Value.str x t from ru)
  have fresh : ∀ b ∈ [s1.heap.objs.size + 1, s1.heap.objs.size], FpOk X pins H1 b := fun b m => by
    have le : s1.heap.objs.size ≤ b := by
      rcases List.mem_cons.mp m with z | z
      · omega
      · rw [List.mem_singleton.mp z]
        exact Nat.le_refl _
    exact I1.fpOk le (I1.hok.fresh le)
  have hty : strIterType x = "str_ascii_iterator" ∨ strIterType x = "str_iterator" := by
    unfold strIterType
    split
    · exact .inl rfl
    · exact .inr rfl
  exact call_enumerate_str fun h' he hit _ hk => wpAny_pyIter_enum he ⟨_, _, _, _, H1, rfl, I1.kept (t' := s1.toks) hk, turn_es x t _ _ _ hty, ⟨⟨.none, he⟩, hit, Nat.succ_ne_self _⟩, fresh, q⟩
section
variable {σ : L2.St} {H : Hp} {tr : TA} {R : It → Hp → Prop} {z : Str}
theorem r_enumS (q : tr σ H (cEnumS R)) : iEnumS tr σ H R := q
theorem r_cEnumS (q : R (Ies z) H) : cEnumS R [.str z] H := ⟨z, rfl, q⟩
theorem walk_es : Walk (Ies z) z.cps.size (fun _ => True) (YPair (fun i => some (.int (i : Nat))) (fun i => z.cps[i]?.map fun c => .str ⟨#[c]⟩)) := by
  refine ⟨fun i _ hi _ => hi, fun _ _ => Nat.le_refl _, fun i H v H' _ _ ⟨T, c, h1, h2, h3, h4⟩ => ⟨T, .int (i : Nat), .str ⟨#[c]⟩, h1, h2, h3, rfl, ?_⟩⟩
  show z.cps[i]?.map (fun c => V.str ⟨#[c]⟩) = some (V.str ⟨#[c]⟩)
  rw [h4]
  rfl
end
end Rd

set_option maxHeartbeats 4000000
/-! Fam2: families of classes: their defs as users see them; C(k = v, ..); defs with super() of an own class. -/
namespace Rd
open PySem PySem.Spec L2 NdefX PyProof.Rows
def FamS (l : List Addr) : Addr → Prop := fun C => C ∈ l
theorem FamS.hd {C : Addr} {l : List Addr} : FamS (C :: l) C := List.mem_cons_self
theorem FamS.tl {C D : Addr} {l : List Addr} (h : FamS l C) : FamS (D :: l) C := List.mem_cons_of_mem _ h
theorem fam_nil {p : Addr → Prop} : ∀ C, FamS [] C → p C := fun _ h => nomatch h
theorem fam_cons {p : Addr → Prop} {D : Addr} {l : List Addr} (h : p D) (t : ∀ C, FamS l C → p C) : ∀ C, FamS (D :: l) C → p C := fun C m => by
  rcases List.mem_cons.mp m with e | m
  · exact e ▸ h
  · exact t C m
def UseMF (P : Program) (w : World) (K : PySem.W.Frag) (mg : Str → Option Value) (base : Heap) (n : Nat) (S : Addr → Prop) (m : Str) (sp : Sp) : Prop := ∃ f, FnR P w K mg base CX0 n f sp ∧ ∀ C, S C → Meth K C m f
def UseP (P : Program) (w : World) (K : PySem.W.Frag) (mg : Str → Option Value) (base : Heap) (n : Nat) (S : Addr → Prop) (m : Str) (ps : List Str) (sp : Sp) : Prop := ∃ p g fd, FnOk P w K mg base CX0 n g fd ps sp ∧ Binds K fd ps [] ∧ ∀ C, S C → Cls K C ∧ PropOf K C m p g
/-- a class by its __init__, whose arguments may come by name -/
def UseCK (P : Program) (w : World) (K : PySem.W.Frag) (mg : Str → Option Value) (base : Heap) (n : Nat) (x : Str) (C : Addr) (ps : List Str) (sp : Sp) : Prop := ∃ f fd, FnOk P w K mg base (L2.CX P w) n f fd ps sp ∧ Mk K C f ∧ mg x = some (.ref C) ∧ Binds K fd ps [] ∧
  (∀ (s : Shared) (us ws : List Value), (us ++ ws).length = ps.length → us.length = 1 → BindsTo s fd ⟨us, (ps.drop 1).zip ws⟩ (ps.zip (us ++ ws))) ∧
  ∀ (s : Shared) (us ws : List Value), (us ++ ws).length = ps.length → us.length = 1 → BindsTo s fd ⟨us, (ps.drop 1).reverse.zip ws⟩ (ps.zip (us ++ ws.reverse))
theorem UseCK.x {P : Program} {w : World} {K : PySem.W.Frag} {mg : Str → Option Value} {base : Heap} {n : Nat} {x : Str} {C : Addr} {ps : List Str} {sp : Sp} (U : UseCK P w K mg base n x C ps sp) : UseCX P w K mg base n x C sp := by
  obtain ⟨f, fd, F, M, g, b, _, _⟩ := U
  exact ⟨f, fnrX F b, M, g⟩
theorem passAtL {X : Cx} (σ : L2.St) : PassesAt (L2.CX X.prog X.w) X σ E0 := fun pins H s e s' I c => passL pins σ H s e s' I c
/-! ### C(k = v, ..) -/
def kMakeK (C : Addr) (m : Nat) (sp : Sp) (gV : List V → List V) (E : XK) (Q : VK) : List V → Hp → Prop := fun zs H2 => zs.length = m ∧ ∀ x dx, H2 x = none → H2 dx = none → dx ≠ x → sp (.ref x :: gV zs) (upd (upd H2 dx (.own x)) x (.ins C dx [])) (kMade x Q) E
def tMakeKS (C : Addr) (m : Nat) (sp : Sp) (gV : List V → List V) (E : L2.St → XK) (tk : TA) : TE := fun σ H Q => tk σ H (kMakeK C m sp gV (E σ) Q)
section
variable {X : Cx} {k n : Nat} {C : Addr} {ps ks : List Str} {sp : Sp} {E : L2.St → XK} {x : Str} {p pos : Pos} {kws : List Keyword} {tk : TA}
theorem pe_makeKO {f : Addr} {fd : FuncData} {g : List Value → List Value} {gV : List V → List V} (F : FnOk X.prog X.w X.K X.mg X.base (L2.CX X.prog X.w) k f fd ps sp) (M : Mk X.K C f) (hr : Room (k + 1) X.A) (hg : Gl X x) (hm : X.mg x = some (.ref C))
    (hb : ∀ (s : Shared) (us ws : List Value), us.length = 1 → ws.length = ks.length → BindsTo s fd ⟨us, ks.zip ws⟩ (ps.zip (us ++ g ws))) (hrel : ∀ {zs : List V} {ws : List Value}, Vals zs ws → Vals (gV zs) (g ws)) (hx : ∀ σ, PassesAt (L2.CX X.prog X.w) X σ (E σ)) (hkw : PK X kws tk)
    (hall : (backToKw pos (keywordEach kws X.env)).all (·.1.isSome) = true := by rfl) (hks : (backToKw pos (keywordEach kws X.env)).filterMap (·.1) = ks := by rfl) (hdb : (x == ("__debug__" : Str)) = false := by decide)
    (hpl : ((backTo pos (starEach [] X.env)).any (·.1) || (backToKw pos (keywordEach kws X.env)).any (·.1.isNone)) = false := by rfl) :
    PE X (.Call (.Name x p) [] kws pos) (tMakeKS C ks.length sp gV E tk) := by
  refine ⟨fun pins s σ H Q I h => ?_⟩
  refine wpAny_Call_Name_kw (ld_glob I hg hm ?_ hdb)
  refine PySem.W.callWith_KW0 (h₀ := X.base) I.ok.mod.kin M.kp hall ?_ hpl
  refine thn (hkw.run pos pins s σ H _ I h) fun ws s ⟨zs, H, I, rz, l2, h⟩ => ⟨I.kIn, ?_⟩
  rw [hks]
  have hq := h (s.heap.objs.size + 1) s.heap.objs.size (I.hok.fresh (Nat.le_succ _)) (I.hok.fresh (Nat.le_refl _)) (Nat.ne_of_lt (Nat.lt_succ_self _))
  have I2 := Inv.made (C := C) I
  have r2 : Vals (V.ref (s.heap.objs.size + 1) :: gV zs) (Value.ref (s.heap.objs.size + 1) :: g ws) := .cons rfl (hrel rz)
  refine wpAny_call (make_map (f := f) I.kIn M.makes M.init (beq_iff_eq.mp M.fn) (codeAny_mono (F.run _ X.stack _ _ ⟨[Value.ref (s.heap.objs.size + 1)], ks.zip ws⟩ (Value.ref (s.heap.objs.size + 1) :: g ws) _ _ (E σ) (hr.make C [] (ks.zip ws))
    (I2.env0.make C [] (ks.zip ws)) (hb _ [Value.ref (s.heap.objs.size + 1)] ws rfl (rz.length.symm.trans l2)) r2 hq) fun r s' hq' => ?_))
  cases r with
  | error e => exact hx σ pins _ _ e s' I2 hq'
  | ok fl =>
    cases fl with
    | ret u =>
      obtain ⟨v, H', I3, rv, ev, q3⟩ := I2.after hq'
      subst ev
      exact ⟨rv, ⟨V.ref (s.heap.objs.size + 1), H', I3, rfl, q3⟩⟩
    | next => exact False.elim hq'
    | brk => exact False.elim hq'
    | cont => exact False.elim hq'
/-- all arguments by name, in the def's order -/
theorem pe_makeKS (U : UseCK X.prog X.w X.K X.mg X.base k x C ps sp) (hr : Room (k + 1) X.A) (hg : Gl X x) (hp : ps.length = ks.length + 1) (hps : ps.drop 1 = ks) (hx : ∀ σ, PassesAt (L2.CX X.prog X.w) X σ (E σ)) (hkw : PK X kws tk)
    (hall : (backToKw pos (keywordEach kws X.env)).all (·.1.isSome) = true := by rfl) (hks : (backToKw pos (keywordEach kws X.env)).filterMap (·.1) = ks := by rfl) (hdb : (x == ("__debug__" : Str)) = false := by decide)
    (hpl : ((backTo pos (starEach [] X.env)).any (·.1) || (backToKw pos (keywordEach kws X.env)).any (·.1.isNone)) = false := by rfl) :
    PE X (.Call (.Name x p) [] kws pos) (tMakeKS C ks.length sp id E tk) := by
  obtain ⟨f, fd, F, M, hm, _, hb, _⟩ := U
  refine pe_makeKO (g := id) F M hr hg hm (fun s us ws l1 l2 => ?_) (fun r => r) hx hkw hall hks hdb hpl
  have := hb s us ws (by rw [List.length_append, l1, l2, hp, Nat.add_comm]) l1
  rw [hps] at this
  exact this
/-- all arguments by name, in the other order -/
theorem pe_makeKR (U : UseCK X.prog X.w X.K X.mg X.base k x C ps sp) (hr : Room (k + 1) X.A) (hg : Gl X x) (hp : ps.length = ks.length + 1) (hps : (ps.drop 1).reverse = ks) (hx : ∀ σ, PassesAt (L2.CX X.prog X.w) X σ (E σ)) (hkw : PK X kws tk)
    (hall : (backToKw pos (keywordEach kws X.env)).all (·.1.isSome) = true := by rfl) (hks : (backToKw pos (keywordEach kws X.env)).filterMap (·.1) = ks := by rfl) (hdb : (x == ("__debug__" : Str)) = false := by decide)
    (hpl : ((backTo pos (starEach [] X.env)).any (·.1) || (backToKw pos (keywordEach kws X.env)).any (·.1.isNone)) = false := by rfl) :
    PE X (.Call (.Name x p) [] kws pos) (tMakeKS C ks.length sp List.reverse E tk) := by
  obtain ⟨f, fd, F, M, hm, _, _, hb⟩ := U
  have vrev : ∀ {zs : List V} {ws : List Value}, Vals zs ws → Vals zs.reverse ws.reverse := fun r => by
    induction r with
    | nil => exact .nil
    | cons a _ ih =>
      rw [List.reverse_cons, List.reverse_cons]
      exact ih.append (.cons a .nil)
  refine pe_makeKO (g := List.reverse) F M hr hg hm (fun s us ws l1 l2 => ?_) vrev hx hkw hall hks hdb hpl
  have := hb s us ws (by rw [List.length_append, l1, l2, hp, Nat.add_comm]) l1
  rw [hps] at this
  exact this
end
section
variable {C : Addr} {m : Nat} {sp : Sp} {gV : List V → List V} {E : L2.St → XK} {tk : TA} {σ : L2.St} {H : Hp} {Q : VK} {zs : List V} {Ex : XK}
theorem r_makeKS (q : tk σ H (kMakeK C m sp gV (E σ) Q)) : tMakeKS C m sp gV E tk σ H Q := q
theorem r_kMakeK (h : zs.length = m) (q : ∀ a dx H', H a = none → Kp [] H H' → H' a = some (.ins C dx []) → sp (.ref a :: gV zs) H' (kMade a Q) Ex) : kMakeK C m sp gV Ex Q zs H := ⟨h, fun a dx n n' d =>
  q a dx _ n ((Kp.new n').trans (Kp.new (by rw [upd_ne d.symm]; exact n))) upd_same⟩
end
/-! ### a def of the text in a class over an own class, which calls super().m -/
structure SFunO (P : Program) (K : PySem.W.Frag) (mg : Str → Option Value) (name qual : Str) (st : Stmt) (C f : Addr) (fd : FuncData) (m : Str) (g : Addr) : Prop where
  ex : ∃ (oc kV doc pm ct cl : Value) (od an cld : Option Addr) (cda cc : Addr) (osl csl : Array (Option Value)), fd = PySem.W.ksFn name qual (defArgs st) (defBody st) (defScope st) .none kV doc pm an (.ref cda) ct cc ∧
    K.lookup f = some ⟨oc, od, .func (PySem.W.ksFn name qual (defArgs st) (defBody st) (defScope st) .none kV doc pm an (.ref cda) ct cc), osl⟩ ∧ PySem.W.codeIn K (.ref cda) qual = true ∧ K.lookup cc = some ⟨cl, cld, .cell (some (.ref C)), csl⟩ ∧ SupO P K mg C cda m g
theorem nf_self {K : PySem.W.Frag} {C : Addr} : PySem.W.notFirst K C (.ref C) = true := by
  unfold PySem.W.notFirst
  simp
end Rd

set_option maxHeartbeats 4000000
/-! Tx: more readings as rules: o[i] = v, "".join, isinstance of an own class. -/
namespace Rd
open PySem PySem.Spec L2 StX
section
variable {σ : L2.St} {H : Hp} {Q : VK} {QS : L2.St → Hp → Prop} {to ti te : TE} {t : TSet} {v x : V} {r : V → List V → Hp → VK → Prop} {K : PySem.W.Frag} {z : Str} {p : Addr}
theorem r_gsub (q : to σ H fun o H1 => ti σ H1 fun i H2 => t o i v H2 fun H3 => QS σ H3) : gSub to ti t v σ H QS := q
theorem r_setL {N : Hp → Prop} {xs : List V} {k : Int} {j : Nat} (e : H p = some (.lst xs)) (h : ixN xs.length k = some j) (q : ∀ H', Kp [p] H H' → H' p = some (.lst (xs.set j v)) → N H') : rSetL (.ref p) (.int k) v H N :=
  ⟨p, xs, k, j, rfl, rfl, e, h, q _ (Kp.put (by simp)) upd_same⟩
theorem r_kAndV1 {tb : TE} {b : Bool} (h : b = true) (q : tb σ H Q) : kAndV tb σ Q (.bl b) H := by
  subst h
  exact ⟨true, rfl, q⟩
theorem r_kAndV0 {tb : TE} {b : Bool} (h : b = false) (q : Q (.bl false) H) : kAndV tb σ Q (.bl b) H := by
  subst h
  exact ⟨false, rfl, q⟩
def kM1 (r : V → List V → Hp → VK → Prop) (te : TE) (σ : L2.St) (Q : VK) : VK := fun x H1 => (∃ a, x = .str a) ∧ te σ H1 fun y H2 => r x [y] H2 Q
theorem r_m1 (q : to σ H (kM1 r te σ Q)) : tM1 r to te σ H Q := q
theorem r_kM1 (q : te σ H fun y H2 => r (.str z) [y] H2 Q) : kM1 r te σ Q (.str z) H := ⟨⟨z, rfl⟩, q⟩
def rJoinS (K : PySem.W.Frag) : V → List V → Hp → VK → Prop := fun x xs H Q => ∃ a p, ∃ ys : List Str, x = .str a ∧ xs = [.ref p] ∧ (SqL K H p (ys.map V.str) ∨ SqT K H p (ys.map V.str)) ∧ (ys.map (·.length)).sum + ys.length * a.length ≤ 16777216 ∧ Q (.str (Txt.join a ys)) H
theorem r_joinL {ys : List Str} (h : SqL K H p (ys.map V.str)) (hz : (ys.map (·.length)).sum + ys.length * z.length ≤ 16777216) (q : Q (.str (Txt.join z ys)) H) : rJoinS K (.str z) [.ref p] H Q := ⟨z, p, ys, rfl, rfl, .inl h, hz, q⟩
theorem sum_le {ys : List Str} {m : Nat} (h : ∀ y ∈ ys, y.length ≤ m) : (ys.map (·.length)).sum ≤ ys.length * m := by
  induction ys with
  | nil => exact Nat.zero_le _
  | cons y ys ih =>
    have h1 := h y List.mem_cons_self
    have h2 := ih fun z hz => h z (List.mem_cons_of_mem _ hz)
    rw [List.map_cons, List.sum_cons, List.length_cons, Nat.succ_mul]
    omega
theorem str_length (z : Str) : z.length = z.cps.toList.length := (Array.length_toList).symm
theorem str_append (a b : Str) : (a ++ b).cps = a.cps ++ b.cps := rfl
theorem str_append_length (a b : Str) : (a ++ b).length = a.length + b.length := Array.size_append
end
end Rd

set_option maxHeartbeats 4000000
/-! StatM: C.m(e, ..), m a staticmethod of the class at C. -/
namespace Rd
open PySem PySem.Spec L2 PyProof.Rows
/-- C.m is a staticmethod: its record at p, its def at g -/
structure SMet (K : PySem.W.Frag) (C : Addr) (mc : Value) (m : Str) (p g : Addr) : Prop where
  at_ : PySem.W.findCls K (.ref C) mc m = some (.get (.builtin "staticmethod.__get__") (.ref p) .none (.ref C))
  rc : ∃ rest, PySem.W.recIn K p "staticmethod" = some (.ref g :: rest)
  kp : PySem.W.keepIn K (.ref g) = true
def kSMeth (C : Addr) (sp : Sp) (E : XK) (t : TA) (σ : L2.St) (Q : VK) : VK := fun x H1 => x = .ref C ∧ t σ H1 fun vs H2 => sp vs H2 Q E
def tSMeth (C : Addr) (sp : Sp) (E : L2.St → XK) (ta : TE) (t : TA) : TE := fun σ H Q => ta σ H (kSMeth C sp (E σ) t σ Q)
def UseSM (P : Program) (w : World) (K : PySem.W.Frag) (mg : Str → Option Value) (base : Heap) (n : Nat) (C : Addr) (m : Str) (sp : Sp) : Prop := ∃ mc p g, FnR P w K mg base (L2.CX P w) n g sp ∧ ClX.CRead K C mc ∧ SMet K C mc m p g
section
variable {X : Cx} {k : Nat} {C p g : Addr} {mc : Value} {sp : Sp} {E : L2.St → XK} {o e : Expr} {es : List Expr} {m : Str} {pos apos : Pos} {ta : TE} {t : TA} {pl : Sem Bool}
theorem run_fnAt {CX : CXT} {f : Addr} {pins : List (Addr × Obj)} {σ : L2.St} {H : Hp} {s : Shared} {Q : VK} {E : XK} {us : List Value} {vs : List V} (F : FnR X.prog X.w X.K X.mg X.base CX k f sp) (hr : Room k X.A) (hx : PassesAt CX X σ E) (I : Inv X pins σ H s)
    (r : Vals vs us) (h : sp vs H Q E) : wpAny (model X.prog X.w) X.A (call (.ref f) us) (EP X pins σ Q) X.xe s := by
  refine wpAny_call (codeAny_mono (F X.A X.stack s H us vs Q E hr I.env0 r h) fun z s' hz => ?_)
  match z, hz with
  | .error u, hz => exact hx pins _ _ u s' I hz
  | .ok (.ret u), hz =>
    obtain ⟨v, H', I3, rv, q3⟩ := I.after hz
    exact ⟨v, H', I3, rv, q3⟩
  | .ok .next, hz => exact hz.elim
  | .ok .brk, hz => exact hz.elim
  | .ok .cont, hz => exact hz.elim
theorem pe_smeth (he : PE X o ta) (r : ClX.CRead X.K C mc) (c : SMet X.K C mc m p g) (F : FnR X.prog X.w X.K X.mg X.base (L2.CX X.prog X.w) k g sp) (hr : Room k X.A) (hx : ∀ σ, PassesAt (L2.CX X.prog X.w) X σ (E σ)) (ha : PA X (e :: es) t)
    (hst : starEach (e :: es) X.env = (false, eval e X.env) :: starEach es X.env := by rfl) (hpl : (backTo pos (starEach es X.env)).any (·.1) = false := by rfl)
    (ht : eval (.Call (.Attribute o m apos) (e :: es) [] pos) X.env = (do
      let ov ← eval o X.env
      standAt apos.atName
      let (f, first) ← holding [ov] (getMethod ov m pl)
      callWith pos f first (backTo pos (starEach (e :: es) X.env)) (backToKw pos (keywordEach [] X.env))) := by rfl) :
    PE X (.Call (.Attribute o m apos) (e :: es) [] pos) (tSMeth C sp E ta t) := by
  refine ⟨fun pins s σ H Q I h => ?_⟩
  refine PySem.W.methodCall_KW (pl := pl) (thn (he.run pins s σ H _ I h) fun u s1 ⟨x, H1, I1, rx, ex, q⟩ => ?_) ht
  subst ex
  obtain rfl : u = Value.ref C := rx
  obtain ⟨rest, hp⟩ := c.rc
  refine PySem.W.method_cls I1.kIn r.ga (PySem.W.cls_bind I1.kIn r.rd c.at_ ?_)
  refine wpAny_call (PySem.W.sm_get (s := { s1 with toks := s1.toks + 1 }) I1.kIn hp (PySem.W.handed_on rfl ?_))
  have I2 := I1.tok (s1.toks + 1)
  refine PySem.W.callWith_K (h₀ := X.base) I2.ok.mod.kin c.kp (thn (ha.run pos pins _ σ H1 _ I2 q) fun us s3 ⟨vs, H2, I3, rv, q2⟩ => ⟨I3.kIn, ?_⟩) hst hpl
  exact run_fnAt F hr (hx σ) I3 rv q2
end
section
variable {C : Addr} {sp : Sp} {E : L2.St → XK} {Ex : XK} {ta : TE} {t : TA} {σ : L2.St} {H : Hp} {Q : VK}
theorem r_smeth (q : ta σ H (kSMeth C sp (E σ) t σ Q)) : tSMeth C sp E ta t σ H Q := q
theorem r_kSMeth (q : t σ H fun vs H2 => sp vs H2 Q Ex) : kSMeth C sp Ex t σ Q (.ref C) H := ⟨rfl, q⟩
end
end Rd

namespace My
open PySem L2 Rd StX
def top (i : Nat) : Stmt := PySem.Challenge.pw_silentswaps_k51_slips_read.main.body.getD i (.Pass ⟨0, 0, 0, 0⟩)
local macro_rules | `(tactic| walk_at "s") => `(tactic| (first
  | (with_reducible refine r_seq ?_)
  | (with_reducible refine r_asg ?_)
  | ((with_reducible refine' r_var (v := ?v) ?hv ?_); (case hv => exact rfl))
  | (with_reducible refine r_c ?_)
  | (with_reducible refine r_name ?_)
  | (with_reducible refine r_op ?_)
  | (with_reducible refine r_un ?_)
  | (with_reducible refine r_consA ?_)
  | (with_reducible refine r_nilA ?_)
  | (with_reducible refine r_I0 ?_)
  | (with_reducible refine r_U ?_)
  | (with_reducible refine r_eqI ?_)
  | (with_reducible refine r_neI ?_)
  | (with_reducible refine r_test ?_)
  | (with_reducible refine r_tB ?_)
  | (with_reducible refine r_kB ?_)
  | (with_reducible refine r_ifS ?_)
  | (with_reducible refine r_if ?_)
  | (with_reducible refine r_and ?_)
  | (with_reducible refine r_or ?_)
  | (with_reducible refine r_not ?_)
  | (with_reducible refine r_ret ?_)
  | (with_reducible refine r_retN ?_)
  | (with_reducible refine r_next ?_)
  | (with_reducible refine r_drop ?_)
  | (with_reducible refine r_brk ?_)
  | (with_reducible refine r_cont ?_)
  | (with_reducible refine r_andV ?_)
  | (with_reducible refine r_orV ?_)
  | (with_reducible refine r_notV ?_)
  | (with_reducible refine r_kNotV ?_)
  | (with_reducible refine r_lst ?_)
  | (with_reducible refine r_tup ?_)
  | (with_reducible refine r_dget ?_)
  | (with_reducible refine r_dput ?_)
  | (with_reducible refine r_use ?_)
  | (with_reducible refine r_cb ?_)
  | (with_reducible refine r_par ?_)
  | (with_reducible refine r_int ?_)
  | (with_reducible refine r_abs ?_)
  | (with_reducible refine r_max2 ?_)
  | (with_reducible refine r_min2 ?_)
  | (with_reducible refine r_pnil ?_)
  | (with_reducible refine r_pcons ?_)
  | (with_reducible refine r_eqS ?_)
  | (with_reducible refine r_neS ?_)
  | (with_reducible refine r_for ?_)
  | (with_reducible refine r_rng1 ?_)
  | (with_reducible refine r_rng2 ?_)
  | (with_reducible refine r_wl ?_)
  | (with_reducible refine r_wt ?_)
  | (with_reducible refine r_wq ?_)
  | (with_reducible refine r_ws ?_)
  | (with_reducible refine r_cWS ?_)
  | (with_reducible refine r_enum ?_)
  | (with_reducible refine r_zip ?_)
  | (with_reducible refine r_lc ?_)
  | (with_reducible refine r_dc ?_)
  | ((with_reducible refine r_kTurn ?ht ?_); (case ht => rfl))
  | ((with_reducible refine r_kTurnD ?ht ?_); (case ht => rfl))
  | (with_reducible refine r_yes ?_)
  | ((with_reducible refine r_kKeep1 ?hk ?_); (case hk => rfl))
  | ((with_reducible refine r_kKeepD1 ?hk ?_); (case hk => rfl))
  | (with_reducible refine r_gcons ?_)
  | (with_reducible refine r_gnil ?_)
  | (with_reducible refine r_bm ?_)
  | (with_reducible refine r_bm0 ?_)
  | (with_reducible refine r_fld ?_)
  | (with_reducible refine r_sfld ?_)
  | (with_reducible refine r_methR ?_)
  | (with_reducible refine r_makeR ?_)
  | (with_reducible refine r_chain ?_)))
local macro_rules | `(tactic| walk_at "S") => `(tactic| repeat walk_at "s")
local macro_rules | `(tactic| walk_at "D") => `(tactic| repeat' (first
  | exact AD_nil
  | refine AD_cons ?_ (fun _ _ => ?_)
  | refine ED_tup ?_ (Nat.le_trans (m := 100) (Nat.le_of_ble_eq_true rfl) (by decide))
  | refine ED_lst ?_ (Nat.le_trans (m := 100) (Nat.le_of_ble_eq_true rfl) (by decide))
  | exact ED_c (by constructor)
  | exact ED_var rfl (by constructor)))
local macro_rules | `(tactic| walk_at "N") => `(tactic| repeat' (first
  | exact AN_nil
  | refine AN_cons ?_ (fun _ _ => ?_)
  | refine EN_tup ?_ (Nat.le_trans (m := 100) (Nat.le_of_ble_eq_true rfl) (by decide))
  | refine EN_lst ?_ (Nat.le_trans (m := 100) (Nat.le_of_ble_eq_true rfl) (by decide))
  | exact EN_c (fun _ => by constructor)
  | exact EN_var rfl (fun _ => by constructor)))

/-- what the walk asks of the module's names -/
structure Txt (K : PySem.W.Frag) (mg : Str → Option Value) (C_Swap : Addr) (C_Leave : Addr) (C_Double : Addr) (C_Names : Addr) (C_Drop : Addr) (C_BadSlip : Addr) (C_Slip : Addr) (G_SLIP_WORDS : Addr) (G_RESERVED : Addr) : Prop where
  z_ValueError : mg "ValueError" = none
  z_LookupError : mg "LookupError" = none
  z_all : mg "all" = none
  z_enumerate : mg "enumerate" = none
  z_range : mg "range" = none
  z_tuple : mg "tuple" = none
  z_dict : mg "dict" = none
  z_int : mg "int" = none
  z_list : mg "list" = none
  z_len : mg "len" = none
  z_sorted : mg "sorted" = none
  z_isinstance : mg "isinstance" = none
  z_max : mg "max" = none
  z_str : mg "str" = none
  z_min : mg "min" = none
  z_abs : mg "abs" = none
  z_super : mg "super" = none
  z_bool : mg "bool" = none
  c_Swap : Cls K C_Swap
  v_Swap : ∃ u, mg "Swap" = some u ∧ RelV (.ref C_Swap) u
  na_Swap_parts : NoAttr K C_Swap "parts"
  c_Leave : Cls K C_Leave
  v_Leave : ∃ u, mg "Leave" = some u ∧ RelV (.ref C_Leave) u
  na_Leave_parts : NoAttr K C_Leave "parts"
  c_Double : Cls K C_Double
  v_Double : ∃ u, mg "Double" = some u ∧ RelV (.ref C_Double) u
  na_Double_parts : NoAttr K C_Double "parts"
  c_Names : Cls K C_Names
  v_Names : ∃ u, mg "Names" = some u ∧ RelV (.ref C_Names) u
  na_Names_parts : NoAttr K C_Names "parts"
  c_Drop : Cls K C_Drop
  v_Drop : ∃ u, mg "Drop" = some u ∧ RelV (.ref C_Drop) u
  na_Drop_parts : NoAttr K C_Drop "parts"
  v_BadSlip : ∃ u, mg "BadSlip" = some u ∧ RelV (.ref C_BadSlip) u
  v_Slip : ∃ u, mg "Slip" = some u ∧ RelV (.ref C_Slip) u
  i_BadSlip : ExcC K C_BadSlip
  fc_Slip : ∀ C, (FamS [C_Swap, C_Leave, C_Double, C_Names, C_Drop]) C → Cls K C
  fn_Slip_parts : ∀ C, (FamS [C_Swap, C_Leave, C_Double, C_Names, C_Drop]) C → NoAttr K C "parts"
  cl_Slip : ∀ C, (FamS [C_Swap, C_Leave, C_Double, C_Names, C_Drop]) C → PySem.W.findIn K (.ref C) "__class__" = some (some (.builtin "object.__class__"))
  ob_Slip : ∀ C, (FamS [C_Swap, C_Leave, C_Double, C_Names, C_Drop]) C → PySem.W.mroIn K C (.type "object") = some true
  ki_Slip : ∀ C, (FamS [C_Swap, C_Leave, C_Double, C_Names, C_Drop]) C → PySem.W.kitOne K (.ref C) (.ref C_Slip) = some true
  gt_Slip : PySem.W.specialIn K (.builtin "object.__class__") "__get__" = some (some (.builtin "getset_descriptor.__get__"))
  tk_Slip : PySem.W.takesIn K (.builtin "object.__class__") = some true
  nf_Slip : ∀ C, (FamS [C_Swap, C_Leave, C_Double, C_Names, C_Drop]) C → ∀ D, (FamS [C_Swap, C_Leave, C_Double, C_Names, C_Drop]) D → PySem.W.notFirst K C (.ref D) = true
  g_SLIP_WORDS : ∃ u, mg "SLIP_WORDS" = some u ∧ RelV (.ref G_SLIP_WORDS) u
  q_SLIP_WORDS : ∀ H, SqT K H G_SLIP_WORDS [V.str "swap", V.str "leave", V.str "double", V.str "names", V.str "drop"]
  g_LETTERS : ∃ u, mg "LETTERS" = some u ∧ RelV (.str "abcdefghijklmnopqrstuvwxyz") u
  g_RESERVED : ∃ u, mg "RESERVED" = some u ∧ RelV (.ref G_RESERVED) u
  q_RESERVED : ∀ H, SqT K H G_RESERVED [V.str "kind", V.str "def", V.str "set", V.str "ask", V.str "call", V.str "again", V.str "check", V.str "mean", V.str "if", V.str "else", V.str "end", V.str "return", V.str "refuse", V.str "is", V.str "self", V.str "cls"]
section
variable {P : Program} {w : World} {K : PySem.W.Frag} {mg : Str → Option Value} {base : Heap}
variable {C_Swap : Addr} {C_Leave : Addr} {C_Double : Addr} {C_Names : Addr} {C_Drop : Addr} {C_BadSlip : Addr} {C_Slip : Addr} {G_SLIP_WORDS : Addr} {G_RESERVED : Addr}

open NdefX
local macro_rules | `(tactic| walk_at "s") => `(tactic| (first
  | (with_reducible refine r_sl ?_)
  | (with_reducible refine r_kS1 ?_)
  | (with_reducible refine r_kS2 ?_)
  | (with_reducible refine r_kS3 ?_)
  | (with_reducible refine r_noPart ?_)
  | (with_reducible refine r_part ?_)
  | (with_reducible refine r_kPart ?_)
  | (with_reducible refine r_gsub ?_)
  | (with_reducible refine r_m1 ?_)
  | (with_reducible refine r_kM1 ?_)
  | (with_reducible refine r_propF ?_)
  | (with_reducible refine r_drp ?_)
  | (with_reducible refine r_min2S ?_)
  | (with_reducible refine r_max2S ?_)
  | (with_reducible refine r_enumS ?_)
  | (with_reducible refine r_cEnumS ?_)
  | (with_reducible refine r_makeKS ?_)
  | (with_reducible refine r_makeS ?_)))

local macro_rules | `(tactic| walk_at "s") => `(tactic| (first
  | (with_reducible refine r_smeth ?_)
  | (with_reducible refine r_kSMeth ?_)))

theorem kit_self {K : PySem.W.Frag} {C : Addr} : PySem.W.kitOne K (.ref C) (.ref C) = some true := by
  unfold PySem.W.kitOne
  rw [if_pos]
  exact beq_self_eq_true _
/-! ### the draws: a list of two numbers -/
def BagL (H : Hp) (p : Addr) : Prop := ∃ d b : Int, H p = some (.lst [.int d, .int b])
theorem BagL.kp {H H' : Hp} {p : Addr} {ex : List Addr} (b : BagL H p) (k : Kp ex H H') (m : p ∉ ex) : BagL H' p := by
  obtain ⟨d, s, e⟩ := b
  exact ⟨d, s, k _ _ e m⟩
theorem BagL.some {H : Hp} {p : Addr} (b : BagL H p) : ∃ o, H p = Option.some o := by
  obtain ⟨d, s, e⟩ := b
  exact ⟨_, e⟩
theorem cdivw {i j : Int} (h : 0 < j) (h2 : j < 2 ^ 200) : CDivW i j := wide_div h (by omega : j.natAbs < 2 ^ 200) (by decide) (by decide)
/-- _law_bag(script, at): a new bag -/
def sp__law_bag (K : PySem.W.Frag) : Sp := fun vs H Q _ => ∃ (a : Addr) (ns : List Int) (k : Nat), vs = [.ref a, .int (k : Int)] ∧ SqL K H a (ns.map V.int) ∧ ns.length ≤ 63 ∧ k ≤ 1000 ∧
  ∀ p H', H p = none → Kp [] H H' → BagL H' p → Q (.ref p) H'
/-- _law_take(bag, many): some number from 0 to below many; nothing but the bag changes -/
def sp__law_take (_K : PySem.W.Frag) : Sp := fun vs H Q _ => ∃ (p : Addr) (m : Int), vs = [.ref p, .int m] ∧ BagL H p ∧ 0 < m ∧ m < 2 ^ 200 ∧
  ∀ (r : Int) H', 0 ≤ r → r < m → Kp [p] H H' → BagL H' p → Q (.int r) H'
abbrev s__law_take : Stmt := top 24
theorem sc__law_take : FnScope ["_law_bag_here", "_law_many", "_law_digit"] ["_law_bag_here", "_law_many"] (defScope s__law_take) :=
  ⟨rfl, rfl, rfl, by decide +kernel, rfl, by decide +kernel, by decide +kernel⟩
theorem ok__law_take {f : Addr} {fd : FuncData} (F : Fun K "_law_take" "_law_take" s__law_take f fd) (T : Txt K mg C_Swap C_Leave C_Double C_Names C_Drop C_BadSlip C_Slip G_SLIP_WORDS G_RESERVED) :
    FnOk P w K mg base CX0 2 f fd ["_law_bag_here", "_law_many"] (sp__law_take K) := by
  refine F.ok sc__law_take (fun vs H Q E h => ?_) (fun cdv A outer s H vs Q E hr h => ?_)
  · obtain ⟨p, m, rfl, _⟩ := h
    rfl
  · obtain ⟨p, m, rfl, hb, h0, h1, q⟩ := h
    obtain ⟨d, b, e⟩ := hb
    have hu := hu_of hr
    have hu64 := hr.units
    refine ⟨_, (pss_cons (ps_if (pt_cmpR op_gt (pe_ix (K_ixL (K := K) rfl) (pv 0) pe_int (fun _ _ => rfl)) pe_int (nomark _))
          (pss_cons (ps_set (i := 2) sc__law_take.nd rfl (by first | exact Or.inl rfl | exact Or.inr rfl) (pe_op op_modN (pe_callTy cr_int (by rfl) T.z_int (by decide +kernel) (pa_cons (pe_ix (K_ixL (K := K) rfl) (pv 0) pe_int (fun _ _ => rfl)) pa_nil)) (pv 1)))
          (pss_cons (ps_asg (pe_op op_fdivW (pe_ix (K_ixL (K := K) rfl) (pv 0) pe_int (fun _ _ => rfl)) (pv 1)) (pg_sub (pv 0) pe_int set_list))
          (pss_one (ps_ret (pv 2)))))
          pss_nil)
        (pss_cons (ps_asg (pe_op op_modN (pe_callTy cr_int (by rfl) T.z_int (by decide +kernel) (pa_cons (pe_op op_add (pe_op op_mul (pe_ix (K_ixL (K := K) rfl) (pv 0) pe_int (fun _ _ => rfl)) pe_int) pe_int) pa_nil)) pe_int) (pg_sub (pv 0) pe_int set_list))
        (pss_one (ps_ret (pe_op op_modN (pe_op op_fdivW (pe_op op_modN (pe_callTy cr_int (by rfl) T.z_int (by decide +kernel) (pa_cons (pe_op op_mul (pe_op op_fdivW (pe_ix (K_ixL (K := K) rfl) (pv 0) pe_int (fun _ _ => rfl)) pe_int) pe_int) pa_nil)) pe_int) pe_int) (pv 1)))))), ?_⟩
    walk_at "S"
    refine r_ixL (SqL.of e) (atI_nat (j := 0) rfl) ?_
    walk_at "S"
    refine r_kIfS (fun c => ?_) (fun c => ?_)
    · walk_at "S"
      refine r_ixL (SqL.of e) (atI_nat (j := 0) rfl) ?_
      walk_at "S"
      refine r_I (by omega) ?_
      walk_at "S"
      refine r_ixL (SqL.of e) (atI_nat (j := 0) rfl) ?_
      walk_at "S"
      refine r_I (cdivw h0 h1) ?_
      walk_at "S"
      refine r_setL e rfl fun H1 k1 e1 => ?_
      walk_at "S"
      exact q _ _ (Int.fmod_nonneg_of_pos _ h0) (Int.fmod_lt_of_pos _ h0) k1 ⟨_, _, e1⟩
    · walk_at "S"
      refine r_ixL (SqL.of e) (atI_nat (j := 1) rfl) ?_
      walk_at "S"
      refine r_I (.inr (by decide)) ?_
      walk_at "S"
      refine r_I (by decide) ?_
      walk_at "S"
      refine r_setL e rfl fun H1 k1 e1 => ?_
      walk_at "S"
      refine r_ixL (SqL.of e1) (atI_nat (j := 1) rfl) ?_
      walk_at "S"
      refine r_I (cdivw (by decide) (by decide)) ?_
      walk_at "S"
      refine r_I (.inr (by decide)) ?_
      walk_at "S"
      refine r_I (by decide) ?_
      walk_at "S"
      refine r_I (cdivw (by decide) (by decide)) ?_
      walk_at "S"
      refine r_I (by omega) ?_
      exact q _ _ (Int.fmod_nonneg_of_pos _ h0) (Int.fmod_lt_of_pos _ h0) k1 ⟨_, _, e1⟩
abbrev s__law_bag : Stmt := top 23
theorem sc__law_bag : FnScope ["_law_script", "_law_at", "_law_cell", "_law_blend", "_law_k", "_law_each"] ["_law_script", "_law_at"] (defScope s__law_bag) :=
  ⟨rfl, rfl, rfl, by decide +kernel, rfl, by decide +kernel, by decide +kernel⟩
theorem ok__law_bag {f : Addr} {fd : FuncData} (F : Fun K "_law_bag" "_law_bag" s__law_bag f fd) (T : Txt K mg C_Swap C_Leave C_Double C_Names C_Drop C_BadSlip C_Slip G_SLIP_WORDS G_RESERVED) :
    FnOk P w K mg base CX0 2 f fd ["_law_script", "_law_at"] (sp__law_bag K) := by
  refine F.ok sc__law_bag (fun vs H Q E h => ?_) (fun cdv A outer s H vs Q E hr h => ?_)
  · obtain ⟨a, ns, k, rfl, _⟩ := h
    rfl
  · obtain ⟨a, ns, k, rfl, hS, hn, hk, q⟩ := h
    have hu := hu_of hr
    have hu64 := hr.units
    refine ⟨_, (pss_cons (ps_set (i := 2) sc__law_bag.nd rfl (by first | exact Or.inl rfl | exact Or.inr rfl) (pe_cutE (pe_ifExp (pt_cmpR op_lt (pv 1) (pe_callB (K_len (K := K) rfl) (by rfl) T.z_len (by decide +kernel) (pa_cons (pv 0) pa_nil)) (nomark _)) (pe_ix (K_ixL (K := K) rfl) (pv 0) (pv 1) (fun _ _ => rfl)) pe_int)))
        (pss_cons (ps_set (i := 3) sc__law_bag.nd rfl (by first | exact Or.inl rfl | exact Or.inr rfl) (pe_op op_add (pe_op op_mul pe_int (pv 1)) pe_int))
        (pss_cons (ps_for PassesOwn.never (by rfl) (K_enum (K := K) rfl (by rfl) T.z_enumerate (pa_cons (pe_slice (K_slL (K := K) rfl) (pv 0) po_none (po_some pe_int)) pa_nil)) (K_gtup (K := K) (n := 2) rfl (by rfl) (pgs_cons (pg_name (i := 4) sc__law_bag.nd rfl (by first | exact Or.inl rfl | exact Or.inr rfl)) (pgs_cons (pg_name (i := 5) sc__law_bag.nd rfl (by first | exact Or.inl rfl | exact Or.inr rfl)) pgs_nil)))
          (pss_one (ps_set (i := 3) sc__law_bag.nd rfl (by first | exact Or.inl rfl | exact Or.inr rfl) (pe_op op_modN (pe_callTy cr_int (by rfl) T.z_int (by decide +kernel) (pa_cons (pe_op op_add (pe_op op_add (pe_op op_add (pe_op op_mul (pv 3) pe_int) (pe_op op_modN (pe_callTy cr_int (by rfl) T.z_int (by decide +kernel) (pa_cons (pv 5) pa_nil)) pe_int)) (pe_op op_mul pe_int (pv 4))) pe_int) pa_nil)) pe_int))))
        (pss_one (ps_ret (pe_lst (pa_cons (pe_ifExp (pt_cmpR op_ge (pe_callB cr_abs (by rfl) T.z_abs (by decide +kernel) (pa_cons (pv 2) pa_nil)) (pe_op op_pow pe_int pe_int) (nomark _)) (pe_callB cr_abs (by rfl) T.z_abs (by decide +kernel) (pa_cons (pv 2) pa_nil)) pe_int) (pa_cons (pv 3) pa_nil)))))))), ?_⟩
    walk_at "S"
    refine r_cutE (fun x H' => H = H' ∧ ∃ z, x = V.int z) ?_ ?_
    · walk_at "S"
      refine r_lenL hS ?_
      walk_at "S"
      refine r_kIf (fun c => ?_) (fun c => ?_)
      all_goals walk_at "S"
      · have c' : (k : Int) < ((ns.map V.int).length : Nat) := of_decide_eq_true c
        obtain ⟨v, hv, hm, _⟩ := atI_in (l := ns.map V.int) (i := (k : Int)) (by omega) c'
        obtain ⟨z, _, rfl⟩ := List.mem_map.mp hm
        exact r_ixL hS hv ⟨rfl, z, rfl⟩
      · exact ⟨rfl, 0, rfl⟩
    rintro x H' ⟨rfl, z, rfl⟩
    walk_at "S"
    refine r_I (.inl (by decide)) ?_
    walk_at "S"
    refine r_slL hS fun l H1 nl k1 e1 => ?_
    rw [show (some (40 : Int)) = some ((40 : Nat) : Int) from rfl, cut_to] at e1
    refine r_cEnum (SqL.of e1) ?_
    have hlen : ((ns.map V.int).take 40).length ≤ 40 := List.length_take_le _ _
    refine r_kFor (walk_enum (xs := (ns.map V.int).take 40)) (fun i σ' H' => ∃ (b : Int) (v4 v5 : Option V), σ' = [some (.ref a), some (.int (k : Int)), some (.int z), some (.int b), v4, v5] ∧ Kp [] H1 H') ⟨_, none, none, rfl, Kp.refl _ _⟩ (fun i σ' H' _ h => ?_) ?_ ?_
    · obtain ⟨_, _, _, _, k2⟩ := h
      exact SqL.of (k2 _ _ e1 not_nil)
    · rintro i x σ' H2 H3 hi ⟨b, v4, v5, rfl, k2⟩ ⟨t, u, v, rfl, nt, rfl, hu, hx⟩
      cases hu
      have hx' : (ns.map V.int)[i]? = some v := by
        have e : ((ns.map V.int).take 40)[i]? = some v := hx
        rw [List.getElem?_take] at e
        split at e
        · exact e
        · cases e
      obtain ⟨y, _, rfl⟩ := map_at hx'
      refine r_gtup (SqT.of upd_same) rfl ?_
      walk_at "S"
      refine r_I (.inr (by decide)) ?_
      walk_at "S"
      refine r_I (by decide) ?_
      walk_at "S"
      refine r_I (.inl (by decide)) ?_
      walk_at "S"
      refine r_I (by decide) ?_
      walk_at "S"
      exact ⟨_, _, _, rfl, k2.trans (Kp.new nt)⟩
    · rintro σ' H2 ⟨b, v4, v5, rfl, k2⟩
      walk_at "S"
      refine r_I ⟨by decide, by decide, by decide⟩ ?_
      walk_at "S"
      refine r_kIf (fun c => ?_) (fun c => ?_)
      all_goals
        walk_at "S"
        refine r_kLst (xs := [V.int _, V.int _]) (by show 2 ≤ sizeLine; decide) fun p H3 np k3 e3 => ?_
        exact q p H3 ((k1.trans k2).free np not_nil) ((k1.trans k2).trans k3) ⟨_, _, e3⟩
/-- _law_of(bag, some), some a list: one of its items -/
def sp__law_of (K : PySem.W.Frag) : Sp := fun vs H Q _ => ∃ (p a : Addr) (xs : List V), vs = [.ref p, .ref a] ∧ BagL H p ∧ SqL K H a xs ∧ a ≠ p ∧ 0 < xs.length ∧ xs.length ≤ 1000000 ∧
  ∀ (v : V) H', v ∈ xs → Kp [p] H H' → BagL H' p → Q v H'
abbrev s__law_of : Stmt := top 25
theorem sc__law_of : FnScope ["_law_bag_here", "_law_some"] ["_law_bag_here", "_law_some"] (defScope s__law_of) :=
  ⟨rfl, rfl, rfl, by decide +kernel, rfl, by decide +kernel, by decide +kernel⟩
theorem ok__law_of {f : Addr} {fd : FuncData} (F : Fun K "_law_of" "_law_of" s__law_of f fd) (T : Txt K mg C_Swap C_Leave C_Double C_Names C_Drop C_BadSlip C_Slip G_SLIP_WORDS G_RESERVED) (U__law_take : Use P w K mg base 2 "_law_take" ["_law_bag_here", "_law_many"] (sp__law_take K)) :
    FnOk P w K mg base CX0 4 f fd ["_law_bag_here", "_law_some"] (sp__law_of K) := by
  refine F.ok sc__law_of (fun vs H Q E h => ?_) (fun cdv A outer s H vs Q E hr h => ?_)
  · obtain ⟨p, a, xs, rfl, _⟩ := h
    rfl
  · obtain ⟨p, a, xs, rfl, hb, hS, hap, h0, h1, q⟩ := h
    have hu := hu_of hr
    have hu64 := hr.units
    refine ⟨_, (pss_one (ps_ret (pe_ix (K_ixL (K := K) rfl) (pv 1) (pe_use U__law_take (hr.mono (by first | decide | omega)) (by rfl) (pa_cons (pv 0) (pa_cons (pe_callB (K_len (K := K) rfl) (by rfl) T.z_len (by decide +kernel) (pa_cons (pv 1) pa_nil)) pa_nil))) (fun _ _ => rfl)))), ?_⟩
    walk_at "S"
    refine r_lenL hS ?_
    walk_at "S"
    refine ⟨p, _, rfl, hb, by omega, by omega, fun r H1 r0 r1 k1 b1 => ?_⟩
    obtain ⟨v, hv, hm, _⟩ := atI_in (l := xs) r0 r1
    refine r_ixL (sql_kp hS k1 (not_one hap)) hv ?_
    exact q v H1 hm k1 b1

/-! ### slips: objects of five classes, each with its parts -/
def SlipAt (S : Addr → Prop) (H : Hp) (a : Addr) (ds : List PyData) : Prop := ∃ C dx p, S C ∧ H a = some (.ins C dx [("parts", .ref p)]) ∧ Dt [] H (.ref p) (.tuple ds)
theorem SlipAt.kp {S : Addr → Prop} {H H' : Hp} {a : Addr} {ds : List PyData} (h : SlipAt S H a ds) (k : Kp [] H H') : SlipAt S H' a ds := by
  obtain ⟨C, dx, p, hS, e, d⟩ := h
  exact ⟨C, dx, p, hS, k _ _ e not_nil, d.mono k⟩
/-- behind __init__: the parts are a new tuple -/
def kParts (Q : VK) (H : Hp) (a C dx : Addr) (ws : List V) : Prop := ∀ p H', H p = none → Kp [a] H H' → H' a = some (.ins C dx [("parts", .ref p)]) → H' p = some (.tup ws) → Q .non H'
/-- a new slip, as its maker sees it -/
theorem parts_made {S : Addr → Prop} {Q : VK} {H H1 : Hp} {a C dx : Addr} {ws : List V} {ds : List PyData} (hS : S C) (n : H a = none) (k : Kp [] H H1) (al : ∀ H', DtAll [] H' ws ds) (q : ∀ H', Kp [] H H' → SlipAt S H' a ds → Q (.ref a) H') : kParts (kMade a Q) H1 a C dx ws := fun p H' _ k2 ea ep =>
  r_kMade (q H' (Kp.drop (k.nil.trans k2) n) ⟨C, dx, p, hS, ea, .tup not_nil ep (al H')⟩)
def spb_Slip___init__ (S : Addr → Prop) : Sp := fun vs H Q _ => ∃ a p C dx, vs = [.ref a, .ref p] ∧ H a = some (.ins C dx []) ∧ S C ∧ ∀ H', Kp [a] H H' → H' a = some (.ins C dx [("parts", .ref p)]) → Q .non H'
def sp_Slip___init__ (S : Addr → Prop) : Sp := fun vs H Q _ => ∃ a C dx ws, vs = .ref a :: ws ∧ H a = some (.ins C dx []) ∧ S C ∧ ws.length ≤ 1000 ∧ kParts Q H a C dx ws
abbrev s_Slip___init__ : Stmt := inClass (top 14) 0
theorem sc_Slip___init__ : FnScope ["self", "parts"] ["self", "parts"] (defScope s_Slip___init__) :=
  ⟨rfl, rfl, rfl, by decide +kernel, rfl, by decide +kernel, by decide +kernel⟩
theorem ok_Slip___init__ {f : Addr} {fd : FuncData} (F : Fun K "__init__" "Slip.__init__" s_Slip___init__ f fd) (T : Txt K mg C_Swap C_Leave C_Double C_Names C_Drop C_BadSlip C_Slip G_SLIP_WORDS G_RESERVED) :
    FnR P w K mg base CX0 2 f (sp_Slip___init__ (FamS [C_Swap, C_Leave, C_Double, C_Names, C_Drop])) := by
  obtain ⟨oc, od, kV, doc, pm, an, cdv, ct, osl, rfl, lk, hcd⟩ := F.ex
  refine FnR.imp (fn_star (ps := ["self"]) (pv := "parts") lk hcd sc_Slip___init__ cxUp_none (bind_star1 (B := fun us => bindArgs (PySem.W.fnOf "__init__" "Slip.__init__" (defArgs s_Slip___init__) (defBody s_Slip___init__) (defScope s_Slip___init__) .none kV doc pm an cdv ct) ⟨us, []⟩) (fun _ => rfl) (fun _ _ _ => rfl)) (sp := spb_Slip___init__ (FamS [C_Swap, C_Leave, C_Double, C_Names, C_Drop])) (fun A outer s H vs Q E hr h => ?_)) (fun vs H Q E h => ?_)
  · obtain ⟨a, p, C, dx, rfl, ha, hS, q⟩ := h
    have hu := hu_of hr
    have hu64 := hr.units
    refine ⟨_, (pss_one (ps_fld (pv 0) (pv 1) rfl)), ?_⟩
    walk_at "S"
    exact r_kSF ha (T.fc_Slip C hS) (T.fn_Slip_parts C hS) (by decide : 0 < 1000) fun H' k e => q H' k e
  · obtain ⟨a, C, dx, ws, rfl, ha, hS, hl, q⟩ := h
    refine ⟨[.ref a], ws, rfl, rfl, Nat.le_trans hl (by decide), fun p np => ⟨a, p, C, dx, rfl, (Kp.new (ex := []) np) _ _ ha not_nil, hS, fun H' k e => ?_⟩⟩
    have ap : p ≠ a := fun z => by
      rw [z, ha] at np
      cases np
    exact q p H' np ((Kp.new np).trans k) e (k _ _ upd_same (not_one ap))
def sp_Slip_key (S : Addr → Prop) : Sp := fun vs H Q _ => ∃ a ds, vs = [.ref a] ∧ SlipAt S H a ds ∧ ∀ p, Dt [] H (.ref p) (.tuple ds) → Q (.ref p) H
abbrev s_Slip_key : Stmt := inClass (top 14) 1
theorem sc_Slip_key : FnScope ["self"] ["self"] (defScope s_Slip_key) :=
  ⟨rfl, rfl, rfl, by decide +kernel, rfl, by decide +kernel, by decide +kernel⟩
theorem ok_Slip_key {f : Addr} {fd : FuncData} (F : Fun K "key" "Slip.key" s_Slip_key f fd) (T : Txt K mg C_Swap C_Leave C_Double C_Names C_Drop C_BadSlip C_Slip G_SLIP_WORDS G_RESERVED) :
    FnOk P w K mg base CX0 2 f fd ["self"] (sp_Slip_key (FamS [C_Swap, C_Leave, C_Double, C_Names, C_Drop])) := by
  refine F.ok sc_Slip_key (fun vs H Q E h => ?_) (fun cdv A outer s H vs Q E hr h => ?_)
  · obtain ⟨a, ds, rfl, _⟩ := h
    rfl
  · obtain ⟨a, ds, rfl, ⟨C, dx, p, hS, e, d⟩, q⟩ := h
    have hu := hu_of hr
    have hu64 := hr.units
    refine ⟨_, (pss_one (ps_ret (K_fld (K := K) rfl (pv 0) rfl))), ?_⟩
    walk_at "S"
    exact r_kFld e (T.fc_Slip C hS) (T.fn_Slip_parts C hS) rfl (q p d)
def sp_Slip___eq__ (K : PySem.W.Frag) (S : Addr → Prop) (CB : Addr) : Sp := fun vs H Q _ => ∃ a ds y, vs = [.ref a, y] ∧ SlipAt S H a ds ∧ Shp 1 (.tuple ds) ∧
  ((∃ b es, y = .ref b ∧ SlipAt S H b es ∧ Shp 1 (.tuple es) ∧ Q (.bl (PyData.eqv (.tuple ds) (.tuple es))) H) ∨ (∃ t, TyX K H y t ∧ PySem.W.kitOne K t (.ref CB) = some false ∧ Q (.bl false) H))
abbrev s_Slip___eq__ : Stmt := inClass (top 14) 2
theorem sc_Slip___eq__ : FnScope ["self", "other"] ["self", "other"] (defScope s_Slip___eq__) :=
  ⟨rfl, rfl, rfl, by decide +kernel, rfl, by decide +kernel, by decide +kernel⟩
theorem ok_Slip___eq__ {f : Addr} {fd : FuncData} (F : Fun K "__eq__" "Slip.__eq__" s_Slip___eq__ f fd) (T : Txt K mg C_Swap C_Leave C_Double C_Names C_Drop C_BadSlip C_Slip G_SLIP_WORDS G_RESERVED) :
    FnOk P w K mg base CX0 2 f fd ["self", "other"] (sp_Slip___eq__ K (FamS [C_Swap, C_Leave, C_Double, C_Names, C_Drop]) C_Slip) := by
  refine F.ok sc_Slip___eq__ (fun vs H Q E h => ?_) (fun cdv A outer s H vs Q E hr h => ?_)
  · obtain ⟨a, ds, y, rfl, _⟩ := h
    rfl
  · obtain ⟨a, ds, y, rfl, ⟨C, dx, p, hS, e, d⟩, sd, hc⟩ := h
    have hu := hu_of hr
    have hu64 := hr.units
    refine ⟨_, (pss_one (ps_ret (pe_and (pe_callB (K_isi (K := K) rfl) (by rfl) T.z_isinstance (by decide +kernel) (pa_cons (pv 1) (pa_cons (pe_globE T.v_Slip (by rfl)) pa_nil))) (pe_one (pe_cmpR (K_eqD (K := K) rfl hu64) (K_fld (K := K) rfl (pv 0) rfl) (K_fld (K := K) rfl (pv 1) rfl) (nomark _)))))), ?_⟩
    walk_at "S"
    rcases hc with ⟨b, es, rfl, ⟨C', dy, p', hS', e', d'⟩, se, q⟩ | ⟨t, ty, kf, q⟩
    · refine ⟨.ref b, .ref C_Slip, .ref C', .ref C_Slip, true, rfl, .own _, .base (.ins e' (T.fc_Slip C' hS') (T.cl_Slip C' hS') T.gt_Slip T.tk_Slip (T.ob_Slip C' hS')), T.ki_Slip C' hS', ?_⟩
      refine r_kAndV (fun _ => ?_) (fun z => nomatch z)
      walk_at "S"
      refine r_kFld e (T.fc_Slip C hS) (T.fn_Slip_parts C hS) rfl ?_
      walk_at "S"
      refine r_kFld e' (T.fc_Slip C' hS') (T.fn_Slip_parts C' hS') rfl ?_
      exact r_eqD d d' sd se (by decide) q
    · refine ⟨y, .ref C_Slip, t, .ref C_Slip, false, rfl, .own _, ty, kf, ?_⟩
      exact r_kAndV (fun z => nomatch z) (fun _ => q)
def slipWords : List Str := ["swap", "leave", "double", "names", "drop"]
/-- the text of a slip -/
def slipText (k : Nat) (ds : List PyData) : Str := Txt.join " " (slipWords.getD k "" :: ds.map strD)
def sp_Slip___str__ (S : Addr → Prop) : Sp := fun vs H Q _ => ∃ (a : Addr) (k : Nat) (ds : List PyData), vs = [.ref a] ∧ SlipAt S H a (.int (k : Int) :: ds) ∧ k < 5 ∧ ds ≠ [] ∧ ds.length ≤ 2 ∧ (∀ d ∈ ds, strDOk d ∧ (strD d).length ≤ 1000) ∧ ∀ H', Kp [] H H' → Q (.str (slipText k ds)) H'
theorem cut_1 {xs : List V} : cutV xs (some 1) none = xs.drop 1 := cut_from 1
abbrev s_Slip___str__ : Stmt := inClass (top 14) 3
theorem sc_Slip___str__ : FnScope ["self", "part"] ["self"] (defScope s_Slip___str__) :=
  ⟨rfl, rfl, rfl, by decide +kernel, rfl, by decide +kernel, by decide +kernel⟩
theorem ok_Slip___str__ {f : Addr} {fd : FuncData} (F : Fun K "__str__" "Slip.__str__" s_Slip___str__ f fd) (T : Txt K mg C_Swap C_Leave C_Double C_Names C_Drop C_BadSlip C_Slip G_SLIP_WORDS G_RESERVED) :
    FnOk P w K mg base CX0 2 f fd ["self"] (sp_Slip___str__ (FamS [C_Swap, C_Leave, C_Double, C_Names, C_Drop])) := by
  refine F.ok sc_Slip___str__ (fun vs H Q E h => ?_) (fun cdv A outer s H vs Q E hr h => ?_)
  · obtain ⟨a, k, ds, rfl, _⟩ := h
    rfl
  · obtain ⟨a, k, ds, rfl, ⟨C, dx, p, hS, e, d⟩, hk, hne, h2, hok, q⟩ := h
    have hu := hu_of hr
    have hu64 := hr.units
    refine ⟨_, (pss_one (ps_ret (K_join (K := K) rfl pe_str (pe_op op_cat (pe_lst (pa_cons (pe_ix (K_ixT (K := K) rfl) (pe_globE T.g_SLIP_WORDS (by rfl)) (pe_ix (K_ixT (K := K) rfl) (K_fld (K := K) rfl (pv 0) rfl) pe_int (fun _ _ => rfl)) (fun _ _ => rfl)) pa_nil)) (pe_lc (own := [("part", 1)]) (by rfl) sc_Slip___str__.nd (K_pit (K := K) rfl (pe_slice (K_slT (K := K) rfl) (K_fld (K := K) rfl (pv 0) rfl) (po_some pe_int) po_none)) (blkOk_by (own := [("part", 1)]) (N := ["self", "part"]) (sc := defScope s_Slip___str__) (by decide +kernel)) (fun _ _ _ _ _ => (pg_name (i := 1) sc_Slip___str__.nd rfl (by first | exact Or.inl rfl | exact Or.inr rfl))) (fun _ _ _ _ _ => pts_nil) (fun _ _ _ _ _ => (pe_callTy cr_strIS (by rfl) T.z_str (by decide +kernel) (pa_cons (pv 1) pa_nil)))))))), ?_⟩
    have hC := T.fc_Slip C hS
    have hN := T.fn_Slip_parts C hS
    obtain ⟨p', xs, ep, _, et, al⟩ := d.tuple
    cases ep
    cases al with
    | cons h0 al =>
    rename_i vs
    cases h0
    have hlen := al.length
    have hpos : 0 < ds.length := List.length_pos_iff.mpr hne
    walk_at "S"
    refine r_kFld e hC hN rfl ?_
    walk_at "S"
    refine r_ixT (SqT.of et) (atI_nat (j := 0) rfl) ?_
    walk_at "S"
    have hw : atI (slipWords.map V.str) (k : Int) = some (V.str (slipWords.getD k "")) := by
      refine atI_nat ?_
      match k, hk with
      | 0, _ => rfl
      | 1, _ => rfl
      | 2, _ => rfl
      | 3, _ => rfl
      | 4, _ => rfl
    refine r_ixT (T.q_SLIP_WORDS H) hw ?_
    walk_at "S"
    refine r_kLst (xs := [V.str (slipWords.getD k "")]) (by show 1 ≤ sizeLine; decide) fun l H1 nl k1 el => ?_
    walk_at "S"
    refine r_kFld (k1 _ _ e not_nil) hC hN rfl ?_
    walk_at "S"
    refine r_slT (SqT.of (k1 _ _ et not_nil)) (fun z => ?_) fun b H2 nb k2 eb => ?_
    · have z1 : (if (1 : Int) < 0 then ((1 : Int) + ((V.int (k : Int) :: vs).length : Int)).toNat else min ((1 : Int).toNat) (V.int (k : Int) :: vs).length) = 0 := z.1
      rw [if_neg (by decide), List.length_cons] at z1
      have : (1 : Int).toNat = 1 := rfl
      omega
    rw [cut_1] at eb
    have eb : H2 b = some (.tup vs) := eb
    have al2 := al.mono (k1.trans k2)
    refine r_cWT (SqT.of eb) ?_
    refine r_kLcT (fun D j ac H' => Kp [] H2 H' ∧ ac = ((ds.take j).map strD).map V.str) (fun D H' nD k e => ⟨k, rfl⟩) (fun D j ac H' _ h => SqT.of (h.1 _ _ eb not_nil)) ?_ ?_
    · rintro D j ac x H4 nD hx eD ⟨k4, rfl⟩
      obtain ⟨d, hd, hxd⟩ := al2.at hx
      walk_at "S"
      refine r_strIS (hxd.mono k4) (hok d (mem_at hd)).1 ?_
      refine r_kApp eD ?_ fun H5 k5 e5 => ⟨k4.step nD k5, ?_⟩
      · rw [List.length_map, List.length_map, List.length_take]
        have : 10 < sizeLine := by decide
        omega
      · rw [take_map _ hd, List.map_append]
        rfl
    rintro D ac H3 nD eD ⟨k3, rfl⟩
    rw [hlen, List.take_length] at eD
    walk_at "S"
    have el3 := (k2.trans k3) _ _ el not_nil
    refine r_cat el3 eD ?_ fun r H5 nr k5 er => ?_
    · rw [List.length_map, List.length_map]
      have : 10 < sizeLine := by decide
      show 1 + ds.length ≤ sizeLine
      omega
    walk_at "S"
    have hsum : (((slipWords.getD k "" :: ds.map strD).map (·.length)).sum ≤ 3000) := by
      have h1 := sum_le (ys := ds.map strD) (m := 1000) fun y hy => by
        obtain ⟨d, hd, rfl⟩ := List.mem_map.mp hy
        exact (hok d hd).2
      rw [List.length_map] at h1
      have h3 : (slipWords.getD k "").length ≤ 6 := by
        match k, hk with
        | 0, _ => decide
        | 1, _ => decide
        | 2, _ => decide
        | 3, _ => decide
        | 4, _ => decide
      rw [List.map_cons, List.sum_cons]
      omega
    refine ⟨" ", r, slipWords.getD k "" :: ds.map strD, rfl, rfl, .inl (SqL.of er), ?_, ?_⟩
    · have h4 : (slipWords.getD k "" :: ds.map strD).length ≤ 3 := by
        rw [List.length_cons, List.length_map]
        omega
      have h5 : (Str.ofString " ").length = 1 := rfl
      rw [h5]
      omega
    · exact q H5 (k1.trans (k2.trans (k3.trans k5)))
abbrev s_BadSlip___init__ : Stmt := inClass (top 5) 0
theorem ok_BadSlip___init__ {f : Addr} {fd : FuncData} {C : Addr} (F : SFun P K mg "BadSlip.__init__" s_BadSlip___init__ C f fd) (nf : PySem.W.findIn K (.ref C) "what" = some none) : FnOk P w K mg base CX0 1 f fd ["self", "what"] (sp_exc1 "what" C) := by
  obtain ⟨oc, kV, doc, pm, ct, cl, od, an, cld, cda, cc, osl, csl, rfl, lk, hcd, cell, Z⟩ := F.ex
  refine fn_sup (N := ["self", "what", "__class__"]) lk hcd cell (nscope_by (by decide +kernel)) (fun vs H Q E h => ?_) (fun A outer s H vs Q E hr h => ?_)
  · obtain ⟨a, v, rfl, _⟩ := h
    rfl
  · obtain ⟨a, v, rfl, ha, q⟩ := h
    exact ⟨_, qs_sup (params := defArgs s_BadSlip___init__) (body := defBody s_BadSlip___init__) (scope := defScope s_BadSlip___init__) (pl := _) lk cell Z rfl rfl rfl rfl rfl rfl rfl rfl rfl rfl (qs_of (pss_one (ps_ost (pv 0) (pv 1) rfl))), r_sup rfl ha (r_ost rfl rfl Z.oex nf ha q)⟩
def mnI (i j : Int) : Int := if j < i then j else i
def mxI (i j : Int) : Int := if j > i then j else i
/-- an exchange of places -/
def sp_Swap___init__ (C CB : Addr) : Sp := fun vs H Q E => ∃ a dx i j, vs = [.ref a, .int i, .int j] ∧ H a = some (.ins C dx []) ∧ (i ≠ j → kParts Q H a C dx [.int 0, .int (mnI i j), .int (mxI i j)]) ∧
  (i = j → ∀ d H', H d = none → Kp [] H H' → H' d = some (.xd [("what", .int i)]) → E (.ref CB) (some d) H')
/-- an exchange of names -/
def sp_Names___init__ (C CB : Addr) : Sp := fun vs H Q E => ∃ a dx i j, vs = [.ref a, .str i, .str j] ∧ H a = some (.ins C dx []) ∧ (i ≠ j → kParts Q H a C dx [.int 3, .str (minS i j), .str (maxS i j)]) ∧
  (i = j → ∀ d H', H d = none → Kp [] H H' → H' d = some (.xd [("what", .str i)]) → E (.ref CB) (some d) H')
def sp_Leave___init__ (C : Addr) : Sp := fun vs H Q _ => ∃ a dx v, vs = [.ref a, v] ∧ H a = some (.ins C dx []) ∧ kParts Q H a C dx [.int 1, v]
def sp_Double___init__ (C : Addr) : Sp := fun vs H Q _ => ∃ a dx v, vs = [.ref a, v] ∧ H a = some (.ins C dx []) ∧ kParts Q H a C dx [.int 2, v]
def sp_Drop___init__ (C : Addr) : Sp := fun vs H Q _ => ∃ a dx v, vs = [.ref a, v] ∧ H a = some (.ins C dx []) ∧ kParts Q H a C dx [.int 4, v]
abbrev s_Swap___init__ : Stmt := inClass (top 15) 0
theorem ok_Swap___init__ {f : Addr} {fd : FuncData} {fs_Slip : Addr} (F : SFunO P K mg "__init__" "Swap.__init__" s_Swap___init__ C_Swap f fd "__init__" fs_Slip) (T : Txt K mg C_Swap C_Leave C_Double C_Names C_Drop C_BadSlip C_Slip G_SLIP_WORDS G_RESERVED) (R_Slip___init__ : FnR P w K mg base CX0 2 fs_Slip (sp_Slip___init__ (FamS [C_Swap, C_Leave, C_Double, C_Names, C_Drop]))) (U_BadSlip : Exc1 P w K mg base 1 "BadSlip" "what" C_BadSlip) :
    FnOk P w K mg base (L2.CX P w) 4 f fd ["self", "first", "second"] (sp_Swap___init__ C_Swap C_BadSlip) := by
  obtain ⟨oc, kV, doc, pm, ct, cl, od, an, cld, cda, cc, osl, csl, rfl, lk, hcd, cell, Z⟩ := F.ex
  refine fn_sup (N := ["self", "first", "second", "__class__"]) lk hcd cell (nscope_by (by decide +kernel)) (fun vs H Q E h => ?_) (fun A outer s H vs Q E hr h => ?_)
  · obtain ⟨a, dx, i, j, rfl, _⟩ := h
    rfl
  · obtain ⟨a, dx, i, j, rfl, ha, h1, h2⟩ := h
    have hu := hu_of hr
    have hu64 := hr.units
    refine ⟨_, (qs_cons (ps_if (pt_cmpR op_eq (pv 1) (pv 2) (nomark _))
          (pss_one (ps_raise1 U_BadSlip (hr.mono (by first | decide | omega)) (by rfl) (takes_of rfl rfl rfl rfl) (by rfl) (pa_cons (pv 1) pa_nil)))
          pss_nil)
        (qs_expr (pe_sup (params := defArgs s_Swap___init__) (body := defBody s_Swap___init__) (scope := defScope s_Swap___init__) (pl := _) lk cell Z R_Slip___init__ (hr.mono (by first | decide | omega)) (by decide) rfl rfl rfl rfl rfl rfl (pa_cons pe_int (pa_cons (pe_callB (cr_min2 rfl) (by rfl) T.z_min (by decide +kernel) (pa_cons (pv 1) (pa_cons (pv 2) pa_nil))) (pa_cons (pe_callB (cr_max2 rfl) (by rfl) T.z_max (by decide +kernel) (pa_cons (pv 1) (pa_cons (pv 2) pa_nil))) pa_nil))) rfl rfl rfl)
        (qs_of pss_nil))), ?_⟩
    walk_at "S"
    refine r_kIfS (fun c => ?_) (fun c => ?_)
    · refine r_raise1 ?_
      walk_at "S"
      exact r_kMkO fun d H' nd k e => h2 (of_decide_eq_true c) d H' nd k e
    · walk_at "S"
      refine r_supO rfl ha ?_
      walk_at "S"
      exact ⟨a, C_Swap, dx, _, rfl, ha, .hd, by show 3 ≤ 1000; decide, h1 (of_decide_eq_false c)⟩
abbrev s_Names___init__ : Stmt := inClass (top 18) 0
theorem ok_Names___init__ {f : Addr} {fd : FuncData} {fs_Slip : Addr} (F : SFunO P K mg "__init__" "Names.__init__" s_Names___init__ C_Names f fd "__init__" fs_Slip) (T : Txt K mg C_Swap C_Leave C_Double C_Names C_Drop C_BadSlip C_Slip G_SLIP_WORDS G_RESERVED) (R_Slip___init__ : FnR P w K mg base CX0 2 fs_Slip (sp_Slip___init__ (FamS [C_Swap, C_Leave, C_Double, C_Names, C_Drop]))) (U_BadSlip : Exc1 P w K mg base 1 "BadSlip" "what" C_BadSlip) :
    FnOk P w K mg base (L2.CX P w) 4 f fd ["self", "first", "second"] (sp_Names___init__ C_Names C_BadSlip) := by
  obtain ⟨oc, kV, doc, pm, ct, cl, od, an, cld, cda, cc, osl, csl, rfl, lk, hcd, cell, Z⟩ := F.ex
  refine fn_sup (N := ["self", "first", "second", "__class__"]) lk hcd cell (nscope_by (by decide +kernel)) (fun vs H Q E h => ?_) (fun A outer s H vs Q E hr h => ?_)
  · obtain ⟨a, dx, i, j, rfl, _⟩ := h
    rfl
  · obtain ⟨a, dx, i, j, rfl, ha, h1, h2⟩ := h
    have hu := hu_of hr
    have hu64 := hr.units
    refine ⟨_, (qs_cons (ps_if (pt_cmpR op_eq (pv 1) (pv 2) (nomark _))
          (pss_one (ps_raise1 U_BadSlip (hr.mono (by first | decide | omega)) (by rfl) (takes_of rfl rfl rfl rfl) (by rfl) (pa_cons (pv 1) pa_nil)))
          pss_nil)
        (qs_expr (pe_sup (params := defArgs s_Names___init__) (body := defBody s_Names___init__) (scope := defScope s_Names___init__) (pl := _) lk cell Z R_Slip___init__ (hr.mono (by first | decide | omega)) (by decide) rfl rfl rfl rfl rfl rfl (pa_cons pe_int (pa_cons (pe_callB (cr_min2S rfl) (by rfl) T.z_min (by decide +kernel) (pa_cons (pv 1) (pa_cons (pv 2) pa_nil))) (pa_cons (pe_callB (cr_max2S rfl) (by rfl) T.z_max (by decide +kernel) (pa_cons (pv 1) (pa_cons (pv 2) pa_nil))) pa_nil))) rfl rfl rfl)
        (qs_of pss_nil))), ?_⟩
    walk_at "S"
    refine r_kIfS (fun c => ?_) (fun c => ?_)
    · refine r_raise1 ?_
      walk_at "S"
      exact r_kMkO fun d H' nd k e => h2 (of_decide_eq_true c) d H' nd k e
    · walk_at "S"
      refine r_supO rfl ha ?_
      walk_at "S"
      exact ⟨a, C_Names, dx, _, rfl, ha, .tl (.tl (.tl .hd)), by show 3 ≤ 1000; decide, h1 (of_decide_eq_false c)⟩
abbrev s_Leave___init__ : Stmt := inClass (top 16) 0
theorem ok_Leave___init__ {f : Addr} {fd : FuncData} {fs_Slip : Addr} (F : SFunO P K mg "__init__" "Leave.__init__" s_Leave___init__ C_Leave f fd "__init__" fs_Slip) (T : Txt K mg C_Swap C_Leave C_Double C_Names C_Drop C_BadSlip C_Slip G_SLIP_WORDS G_RESERVED) (R_Slip___init__ : FnR P w K mg base CX0 2 fs_Slip (sp_Slip___init__ (FamS [C_Swap, C_Leave, C_Double, C_Names, C_Drop]))) :
    FnOk P w K mg base (L2.CX P w) 4 f fd ["self", "place"] (sp_Leave___init__ C_Leave) := by
  obtain ⟨oc, kV, doc, pm, ct, cl, od, an, cld, cda, cc, osl, csl, rfl, lk, hcd, cell, Z⟩ := F.ex
  refine fn_sup (N := ["self", "place", "__class__"]) lk hcd cell (nscope_by (by decide +kernel)) (fun vs H Q E h => ?_) (fun A outer s H vs Q E hr h => ?_)
  · obtain ⟨a, dx, v, rfl, _⟩ := h
    rfl
  · obtain ⟨a, dx, v, rfl, ha, h1⟩ := h
    have hu := hu_of hr
    have hu64 := hr.units
    refine ⟨_, (qs_expr (pe_sup (params := defArgs s_Leave___init__) (body := defBody s_Leave___init__) (scope := defScope s_Leave___init__) (pl := _) lk cell Z R_Slip___init__ (hr.mono (by first | decide | omega)) (by decide) rfl rfl rfl rfl rfl rfl (pa_cons pe_int (pa_cons (pv 1) pa_nil)) rfl rfl rfl)
        (qs_of pss_nil)), ?_⟩
    walk_at "S"
    refine r_supO rfl ha ?_
    walk_at "S"
    exact ⟨a, C_Leave, dx, _, rfl, ha, .tl .hd, by show 2 ≤ 1000; decide, h1⟩
abbrev s_Double___init__ : Stmt := inClass (top 17) 0
theorem ok_Double___init__ {f : Addr} {fd : FuncData} {fs_Slip : Addr} (F : SFunO P K mg "__init__" "Double.__init__" s_Double___init__ C_Double f fd "__init__" fs_Slip) (T : Txt K mg C_Swap C_Leave C_Double C_Names C_Drop C_BadSlip C_Slip G_SLIP_WORDS G_RESERVED) (R_Slip___init__ : FnR P w K mg base CX0 2 fs_Slip (sp_Slip___init__ (FamS [C_Swap, C_Leave, C_Double, C_Names, C_Drop]))) :
    FnOk P w K mg base (L2.CX P w) 4 f fd ["self", "place"] (sp_Double___init__ C_Double) := by
  obtain ⟨oc, kV, doc, pm, ct, cl, od, an, cld, cda, cc, osl, csl, rfl, lk, hcd, cell, Z⟩ := F.ex
  refine fn_sup (N := ["self", "place", "__class__"]) lk hcd cell (nscope_by (by decide +kernel)) (fun vs H Q E h => ?_) (fun A outer s H vs Q E hr h => ?_)
  · obtain ⟨a, dx, v, rfl, _⟩ := h
    rfl
  · obtain ⟨a, dx, v, rfl, ha, h1⟩ := h
    have hu := hu_of hr
    have hu64 := hr.units
    refine ⟨_, (qs_expr (pe_sup (params := defArgs s_Double___init__) (body := defBody s_Double___init__) (scope := defScope s_Double___init__) (pl := _) lk cell Z R_Slip___init__ (hr.mono (by first | decide | omega)) (by decide) rfl rfl rfl rfl rfl rfl (pa_cons pe_int (pa_cons (pv 1) pa_nil)) rfl rfl rfl)
        (qs_of pss_nil)), ?_⟩
    walk_at "S"
    refine r_supO rfl ha ?_
    walk_at "S"
    exact ⟨a, C_Double, dx, _, rfl, ha, .tl (.tl .hd), by show 2 ≤ 1000; decide, h1⟩
abbrev s_Drop___init__ : Stmt := inClass (top 19) 0
theorem ok_Drop___init__ {f : Addr} {fd : FuncData} {fs_Slip : Addr} (F : SFunO P K mg "__init__" "Drop.__init__" s_Drop___init__ C_Drop f fd "__init__" fs_Slip) (T : Txt K mg C_Swap C_Leave C_Double C_Names C_Drop C_BadSlip C_Slip G_SLIP_WORDS G_RESERVED) (R_Slip___init__ : FnR P w K mg base CX0 2 fs_Slip (sp_Slip___init__ (FamS [C_Swap, C_Leave, C_Double, C_Names, C_Drop]))) :
    FnOk P w K mg base (L2.CX P w) 4 f fd ["self", "word"] (sp_Drop___init__ C_Drop) := by
  obtain ⟨oc, kV, doc, pm, ct, cl, od, an, cld, cda, cc, osl, csl, rfl, lk, hcd, cell, Z⟩ := F.ex
  refine fn_sup (N := ["self", "word", "__class__"]) lk hcd cell (nscope_by (by decide +kernel)) (fun vs H Q E h => ?_) (fun A outer s H vs Q E hr h => ?_)
  · obtain ⟨a, dx, v, rfl, _⟩ := h
    rfl
  · obtain ⟨a, dx, v, rfl, ha, h1⟩ := h
    have hu := hu_of hr
    have hu64 := hr.units
    refine ⟨_, (qs_expr (pe_sup (params := defArgs s_Drop___init__) (body := defBody s_Drop___init__) (scope := defScope s_Drop___init__) (pl := _) lk cell Z R_Slip___init__ (hr.mono (by first | decide | omega)) (by decide) rfl rfl rfl rfl rfl rfl (pa_cons pe_int (pa_cons (pv 1) pa_nil)) rfl rfl rfl)
        (qs_of pss_nil)), ?_⟩
    walk_at "S"
    refine r_supO rfl ha ?_
    walk_at "S"
    exact ⟨a, C_Drop, dx, _, rfl, ha, .tl (.tl (.tl (.tl .hd))), by show 2 ≤ 1000; decide, h1⟩

/-! ### drawn names -/
def SignOk (c : Nat) : Prop := 97 ≤ c ∧ c ≤ 122
/-- a name of at most n signs, with an x -/
def NameX (n : Nat) (w : Str) : Prop := 120 ∈ w.cps.toList ∧ (∀ c ∈ w.cps.toList, SignOk c) ∧ w.length ≤ n
def lawLetters : Str := "abcdefghijklmnopqrstuvw"
theorem lawLetters_ok : ∀ c ∈ lawLetters.cps.toList, SignOk c := by
  have e : lawLetters.cps.toList = [97, 98, 99, 100, 101, 102, 103, 104, 105, 106, 107, 108, 109, 110, 111, 112, 113, 114, 115, 116, 117, 118, 119] := by decide +kernel
  rw [e]
  intro c hc
  simp only [List.mem_cons, List.not_mem_nil, or_false] at hc
  unfold SignOk
  omega
theorem lawLetters_len : lawLetters.cps.toList.length = 23 := by decide +kernel
theorem app_list (a b : Str) : (a ++ b).cps.toList = a.cps.toList ++ b.cps.toList := Array.toList_append
theorem empty_list : (Str.ofString "").cps.toList = [] := by decide +kernel
theorem join_empty' : ∀ ys : List Str, (Str.join (Str.ofString "") ys).cps.toList = (ys.map fun y => y.cps.toList).flatten
  | [] => rfl
  | [y] => by
    show y.cps.toList = _
    simp
  | y :: z :: ys => by
    have ih := join_empty' (z :: ys)
    show ((y ++ Str.ofString "") ++ Str.join (Str.ofString "") (z :: ys)).cps.toList = _
    rw [app_list, app_list, ih, empty_list, List.append_nil]
    simp
theorem join_empty (ys : List Str) : (Txt.join (Str.ofString "") ys).cps.toList = (ys.map fun y => y.cps.toList).flatten := by
  rw [TL.join_eq]
  exact join_empty' ys
theorem cut_mem {z : Str} {lo hi : Option Int} : ∀ c ∈ (cutS z lo hi).cps.toList, c ∈ z.cps.toList := fun c h => by
  have h' : c ∈ ((z.cps.toList.drop (HT.sIx z.length 0 lo)).take (HT.sIx z.length z.length hi - HT.sIx z.length 0 lo)) := h
  exact List.mem_of_mem_drop (List.mem_of_mem_take h')
theorem mul_ok {c : Nat} {n : Int} (h : n = 1 ∨ n = 2) : MulOk ⟨#[c]⟩ n := by
  rcases h with rfl | rfl
  · exact ⟨by decide, fun _ z => by simp at z, fun _ z => by simp at z⟩
  · exact ⟨by decide, fun _ _ => by show ¬ (((1 : Nat) : Int) > (2 ^ 63 - 1) / 2); decide, fun _ _ => by
      show decide (1 * 2 > sizeLine) = false
      decide⟩
theorem mul_list {c : Nat} {n : Int} (h : n = 1 ∨ n = 2) : (∀ x ∈ (Txt.mul ⟨#[c]⟩ n).cps.toList, x = c) ∧ (Txt.mul ⟨#[c]⟩ n).length ≤ 2 := by
  rcases h with rfl | rfl
  · refine ⟨fun x hx => ?_, ?_⟩
    · have hx : x ∈ [c] := hx
      simpa using hx
    · show (#[c] : Array Nat).size ≤ 2
      simp
  · refine ⟨fun x hx => ?_, ?_⟩
    · have hx : x ∈ [c, c] := hx
      simpa using hx
    · show (#[c, c] : Array Nat).size ≤ 2
      simp
def sp__law_words (_K : PySem.W.Frag) : Sp := fun vs H Q _ => ∃ (p : Addr), vs = [.ref p] ∧ BagL H p ∧
  ∀ (l : Addr) (ws : List Str) H', H l = none → Kp [p] H H' → H' l = some (.lst (ws.map V.str)) → BagL H' p → ws.length = 23 → (∀ w ∈ ws, NameX 7 w) → Q (.ref l) H'
abbrev s__law_words : Stmt := top 27
theorem sc__law_words : FnScope ["_law_bag_here", "_law_letters", "_law_turn", "_law_body", "_law_at", "_law_more", "_law_k", "_law_tag"] ["_law_bag_here"] (defScope s__law_words) :=
  ⟨rfl, rfl, rfl, by decide +kernel, rfl, by decide +kernel, by decide +kernel⟩
theorem ok__law_words {f : Addr} {fd : FuncData} (F : Fun K "_law_words" "_law_words" s__law_words f fd) (T : Txt K mg C_Swap C_Leave C_Double C_Names C_Drop C_BadSlip C_Slip G_SLIP_WORDS G_RESERVED) (U__law_take : Use P w K mg base 2 "_law_take" ["_law_bag_here", "_law_many"] (sp__law_take K)) :
    FnOk P w K mg base CX0 4 f fd ["_law_bag_here"] (sp__law_words K) := by
  refine F.ok sc__law_words (fun vs H Q E h => ?_) (fun cdv A outer s H vs Q E hr h => ?_)
  · obtain ⟨p, rfl, _⟩ := h
    rfl
  · obtain ⟨p, rfl, hb, q⟩ := h
    have hu := hu_of hr
    have hu64 := hr.units
    refine ⟨_, (pss_cons (ps_set (i := 1) sc__law_words.nd rfl (by first | exact Or.inl rfl | exact Or.inr rfl) pe_str)
        (pss_cons (ps_set (i := 3) sc__law_words.nd rfl (by first | exact Or.inl rfl | exact Or.inr rfl) (K_join (K := K) rfl pe_str (pe_lc (own := [("_law_turn", 2)]) (by rfl) sc__law_words.nd (pi_range1 (by rfl) T.z_range (pa_cons (pe_use U__law_take (hr.mono (by first | decide | omega)) (by rfl) (pa_cons (pv 0) (pa_cons pe_int pa_nil))) pa_nil)) (blkOk_by (own := [("_law_turn", 2)]) (N := ["_law_bag_here", "_law_letters", "_law_turn", "_law_body", "_law_at", "_law_more", "_law_k", "_law_tag"]) (sc := defScope s__law_words) (by decide +kernel)) (fun _ _ _ _ _ => (pg_name (i := 2) sc__law_words.nd rfl (by first | exact Or.inl rfl | exact Or.inr rfl))) (fun _ _ _ _ _ => pts_nil) (fun _ _ _ _ _ => (pe_ix ix_str (pv 1) (pe_use U__law_take (hr.mono (by first | decide | omega)) (by rfl) (pa_cons (pv 0) (pa_cons pe_int pa_nil))) (fun _ _ => rfl))))))
        (pss_cons (ps_asg (pe_tup (pa_cons (pe_use U__law_take (hr.mono (by first | decide | omega)) (by rfl) (pa_cons (pv 0) (pa_cons (pe_op op_add (pe_callB cr_lenS (by rfl) T.z_len (by decide +kernel) (pa_cons (pv 3) pa_nil)) pe_int) pa_nil))) (pa_cons (pe_use U__law_take (hr.mono (by first | decide | omega)) (by rfl) (pa_cons (pv 0) (pa_cons pe_int pa_nil))) pa_nil))) (K_gtup (K := K) (n := 2) rfl (by rfl) (pgs_cons (pg_name (i := 4) sc__law_words.nd rfl (by first | exact Or.inl rfl | exact Or.inr rfl)) (pgs_cons (pg_name (i := 5) sc__law_words.nd rfl (by first | exact Or.inl rfl | exact Or.inr rfl)) pgs_nil))))
        (pss_one (ps_ret (pe_lc (own := [("_law_k", 6), ("_law_tag", 7)]) (by rfl) sc__law_words.nd (K_enumS (K := K) rfl (by rfl) T.z_enumerate (pa_cons (pv 1) pa_nil)) (blkOk_by (own := [("_law_k", 6), ("_law_tag", 7)]) (N := ["_law_bag_here", "_law_letters", "_law_turn", "_law_body", "_law_at", "_law_more", "_law_k", "_law_tag"]) (sc := defScope s__law_words) (by decide +kernel)) (fun _ _ _ _ _ => (K_gtup (K := K) (n := 2) rfl (by rfl) (pgs_cons (pg_name (i := 6) sc__law_words.nd rfl (by first | exact Or.inl rfl | exact Or.inr rfl)) (pgs_cons (pg_name (i := 7) sc__law_words.nd rfl (by first | exact Or.inl rfl | exact Or.inr rfl)) pgs_nil)))) (fun _ _ _ _ _ => pts_nil) (fun _ _ _ _ _ => (pe_op op_addT (pe_op op_addT (pe_op op_addT (pe_slice sl_str (pv 3) po_none (po_some (pv 4))) (pe_op op_mulS (pv 7) (pe_op op_add pe_int (pe_op op_mul (pv 5) (pe_op op_modN (pe_callTy cr_int (by rfl) T.z_int (by decide +kernel) (pa_cons (pv 6) pa_nil)) pe_int))))) pe_str) (pe_slice sl_str (pv 3) (po_some (pv 4)) po_none))))))))), ?_⟩
    have big : 1000 ≤ sizeLine := by decide
    have hpD : ∀ {H1 : Hp} {D : Addr}, BagL H1 p → H1 D = none → D ≠ p := fun {H1 D} b n => by
      obtain ⟨o, ho⟩ := b.some
      exact ne_none ho n |>.symm.symm
    walk_at "S"
    refine ⟨p, _, rfl, hb, by decide, by decide, fun r H1 r0 r1 k1 b1 => ?_⟩
    refine r_cRng1 (by omega) ?_
    refine r_kLcR (fun D i acc H' => ∃ ys : List Str, acc = ys.map V.str ∧ Kp [p] H1 H' ∧ BagL H' p ∧ ys.length = i ∧ ∀ y ∈ ys, (∀ c ∈ y.cps.toList, SignOk c) ∧ y.length ≤ 1) (fun D H' nD k e => ⟨[], rfl, k.nil, b1.kp k not_nil, rfl, fun y m => nomatch m⟩) ?_ ?_
    · rintro D i acc H2 nD hi eD ⟨ys, rfl, k2, b2, hy, hys⟩
      have Dp := hpD b1 nD
      walk_at "S"
      refine ⟨p, _, rfl, b2, by decide, by decide, fun m H3 m0 m1 k3 b3 => ?_⟩
      obtain ⟨c, hc, hm, _⟩ := atI_in (l := lawLetters.cps.toList) m0 (by rw [lawLetters_len]; exact m1)
      refine r_ixS (z := lawLetters) (by decide) hc ?_
      refine r_kApp (k3 _ _ eD (not_one Dp)) ?_ fun H4 k4 e4 => ⟨ys ++ [⟨#[c]⟩], by rw [List.map_append]; rfl, (k2.trans k3).step nD k4, b3.kp k4 (not_one Dp.symm), by rw [List.length_append, hy]; rfl, fun y hm' => ?_⟩
      · rw [List.length_map]
        omega
      · rcases List.mem_append.mp hm' with h | h
        · exact hys y h
        · rw [List.mem_singleton.mp h]
          refine ⟨fun c' hc' => ?_, Nat.le_refl 1⟩
          have hc' : c' ∈ [c] := hc'
          rw [List.mem_singleton.mp hc']
          exact lawLetters_ok c hm
    rintro D acc H2 nD eD ⟨ys, rfl, k2, b2, hy, hys⟩
    have Dp := hpD b1 nD
    have hs := sum_le (ys := ys) (m := 1) fun y hy => (hys y hy).2
    have e0 : (Str.ofString "").length = 0 := rfl
    refine ⟨"", D, ys, rfl, rfl, .inl (SqL.of eD), ?_, ?_⟩
    · rw [e0]
      omega
    generalize hB : Txt.join (Str.ofString "") ys = B
    have hBl : B.cps.toList = (ys.map fun y => y.cps.toList).flatten := hB ▸ join_empty ys
    have hBok : ∀ c ∈ B.cps.toList, SignOk c := fun c hc => by
      rw [hBl] at hc
      obtain ⟨l, hl, hcl⟩ := List.mem_flatten.mp hc
      obtain ⟨y, my, rfl⟩ := List.mem_map.mp hl
      exact (hys y my).1 c hcl
    have hBlen : B.length ≤ 4 := by
      rw [Rd.str_length, hBl, List.length_flatten, List.map_map]
      have : (ys.map (List.length ∘ fun y : Str => y.cps.toList)) = ys.map (·.length) := List.map_congr_left fun y _ => (Rd.str_length y).symm
      rw [this]
      omega
    walk_at "S"
    refine r_lenS (by omega) ?_
    walk_at "S"
    refine ⟨p, _, rfl, b2, by omega, by omega, fun at' H3 at0 at1 k3 b3 => ?_⟩
    walk_at "S"
    refine ⟨p, _, rfl, b3, by decide, by decide, fun mo H4 mo0 mo1 k4 b4 => ?_⟩
    walk_at "S"
    refine r_kTup (xs := [V.int at', V.int mo]) (by show 2 ≤ sizeLine; decide) fun t H5 nt k5 et => ?_
    refine r_gtup (SqT.of et) rfl ?_
    walk_at "S"
    have b5 := b4.kp k5 not_nil
    refine r_kLc walk_es (fun D2 i acc H' => ∃ ws : List Str, acc = ws.map V.str ∧ Kp [p] H5 H' ∧ BagL H' p ∧ ws.length = i ∧ ∀ w ∈ ws, NameX 7 w) (fun D2 H' nD2 k e => ⟨[], rfl, k.nil, b5.kp k not_nil, rfl, fun w m => nomatch m⟩) (fun _ _ _ _ _ _ => trivial) ?_ ?_
    · rintro D2 i acc x H6 H7 nD2 hi eD2 ⟨ws, rfl, k6, b6, hw, hws⟩ ⟨t2, u, v, rfl, nt2, rfl, hu, hx⟩
      cases hu
      have Dp2 := hpD b5 nD2
      obtain ⟨c, hc, hv⟩ : ∃ c, lawLetters.cps[i]? = some c ∧ v = .str ⟨#[c]⟩ := by
        have hx : lawLetters.cps[i]?.map (fun c => V.str ⟨#[c]⟩) = some v := hx
        cases hcc : lawLetters.cps[i]? with
        | none =>
          rw [hcc] at hx
          cases hx
        | some c =>
          rw [hcc] at hx
          exact ⟨c, rfl, (Option.some.inj hx).symm⟩
      subst hv
      have hcm : SignOk c := lawLetters_ok c (by
        have := Array.mem_of_getElem? hc
        exact Array.mem_toList_iff.mpr this)
      refine r_gtup (SqT.of upd_same) rfl ?_
      walk_at "S"
      refine r_slS (by omega) ?_
      walk_at "S"
      refine r_I (by decide) ?_
      have e2 : ((i : Int)).fmod 2 = 0 ∨ ((i : Int)).fmod 2 = 1 := by
        have h0 := Int.fmod_nonneg_of_pos (i : Int) (b := 2) (by decide)
        have h1 := Int.fmod_lt_of_pos (i : Int) (b := 2) (by decide)
        omega
      have em : mo = 0 ∨ mo = 1 := by omega
      have en : 1 + mo * ((i : Int)).fmod 2 = 1 ∨ 1 + mo * ((i : Int)).fmod 2 = 2 := by
        rcases e2 with h | h <;> rcases em with h' | h' <;> rw [h, h'] <;> decide
      walk_at "S"
      refine r_I (.inl (by omega)) ?_
      walk_at "S"
      refine ⟨_, _, rfl, rfl, mul_ok en, ?_⟩
      obtain ⟨hml, hmn⟩ := mul_list (c := c) en
      generalize Txt.mul ⟨#[c]⟩ (1 + mo * ((i : Int)).fmod 2) = M at hml hmn
      have hl1 := Nat.le_trans (cutS_length B none (some at')) hBlen
      have hl2 := Nat.le_trans (cutS_length B (some at') none) hBlen
      have hx1 : (Str.ofString "x").length = 1 := rfl
      refine r_addT (by omega) ?_
      walk_at "S"
      refine r_addT (by rw [str_append_length, hx1]; omega) ?_
      walk_at "S"
      refine r_slS (by omega) ?_
      refine r_addT (by rw [str_append_length, str_append_length, hx1]; omega) ?_
      have kk : Kp [] H6 (upd H6 t2 (.tup [.int (i : Nat), .str ⟨#[c]⟩])) := Kp.new nt2
      refine r_kApp (kk _ _ eD2 not_nil) ?_ fun H8 k8 e8 => ⟨ws ++ [_], by rw [List.map_append]; rfl, (k6.trans kk.nil).step nD2 k8, (b6.kp kk not_nil).kp k8 (not_one Dp2.symm), by rw [List.length_append, hw]; rfl, fun w hm' => ?_⟩
      · rw [List.length_map]
        have hi : i < lawLetters.cps.size := hi
        have : lawLetters.cps.size = 23 := by decide +kernel
        omega
      · rcases List.mem_append.mp hm' with h | h
        · exact hws w h
        · rw [List.mem_singleton.mp h]
          have ex : (Str.ofString "x").cps.toList = [120] := by decide +kernel
          refine ⟨?_, fun c' hc' => ?_, ?_⟩
          · rw [app_list, app_list, app_list, ex]
            simp
          · rw [app_list, app_list, app_list, ex] at hc'
            simp only [List.mem_append, List.mem_singleton] at hc'
            rcases hc' with ((h | h) | h) | h
            · exact hBok c' (cut_mem c' h)
            · rw [hml c' h]
              exact hcm
            · rw [h]
              exact ⟨by decide, by decide⟩
            · exact hBok c' (cut_mem c' h)
          · rw [str_append_length, str_append_length, str_append_length, hx1]
            have h1 : (cutS B none (some at')).length + (cutS B (some at') none).length ≤ 4 := by
              have e1 : (cutS B none (some at')).length = (B.cps.toList.take at'.toNat).length := by
                rw [Rd.str_length]
                have : at' = ((at'.toNat : Nat) : Int) := by omega
                have e : (cutS B none (some at')).cps.toList = (B.cps.toList.drop (HT.sIx B.length 0 none)).take (HT.sIx B.length B.length (some at') - HT.sIx B.length 0 none) := rfl
                rw [e, this, HT.sIx_nat, HT.sIx_none, List.drop_zero, Nat.sub_zero, List.length_take, List.length_take, Int.toNat_natCast, Rd.str_length]
                omega
              have e3 : (cutS B (some at') none).length = (B.cps.toList.drop at'.toNat).length := by
                rw [Rd.str_length]
                have : at' = ((at'.toNat : Nat) : Int) := by omega
                have e : (cutS B (some at') none).cps.toList = (B.cps.toList.drop (HT.sIx B.length 0 (some at'))).take (HT.sIx B.length B.length none - HT.sIx B.length 0 (some at')) := rfl
                rw [e, this, HT.sIx_nat, HT.sIx_none, List.length_take, List.length_drop, List.length_drop, Int.toNat_natCast, Rd.str_length]
                omega
              rw [e1, e3, List.length_take, List.length_drop, ← Rd.str_length]
              omega
            omega
    · rintro D2 acc H6 nD2 eD2 ⟨ws, rfl, k6, b6, hw, hws⟩
      have k05 : Kp [p] H H5 := (k1.trans k2).trans ((k3.trans k4).trans k5.nil)
      exact q D2 ws H6 (k05.free nD2 (not_one (hpD b5 nD2))) (k05.trans k6) eD2 b6 (by rw [hw]; decide +kernel) hws

/-! ### a slip's parts -/
/-- what a slip's parts are: a number of its kind, then numbers or texts -/
structure PartsOk (k : Nat) (ds : List PyData) : Prop where
  lt : k < 5
  ne : ds ≠ []
  two : ds.length ≤ 2
  ok : ∀ d ∈ ds, strDOk d ∧ (strD d).length ≤ 1000 ∧ Shp 0 d ∧ isBool d = false
theorem PartsOk.shp {k : Nat} {ds : List PyData} (h : PartsOk k ds) : Shp 1 (.tuple (.int (k : Int) :: ds)) := Shp.tuple (n := 0) fun d m => by
  rcases List.mem_cons.mp m with e | m
  · rw [e]
    exact Shp.int _ 0
  · exact (h.ok d m).2.2.1
theorem PartsOk.bool {k : Nat} {ds : List PyData} (h : PartsOk k ds) : ∀ d ∈ (PyData.int (k : Int) :: ds), isBool d = false := fun d m => by
  rcases List.mem_cons.mp m with e | m
  · rw [e]
    rfl
  · exact (h.ok d m).2.2.2
theorem eqv_self {n : Nat} {d : PyData} (s : Shp n d) : PyData.eqv d d = true := SeqAt.eqv_refl d s.1
theorem any_false : ∀ (n : Nat), (List.replicate n false).any id = false
  | 0 => rfl
  | n + 1 => by
    rw [List.replicate_succ, List.any_cons, any_false n]
    rfl

/-! ### the order of texts; texts of slips; == of parts -/
theorem lt_tri : ∀ a b : List Nat, ¬ a < b → ¬ b < a → a = b
  | [], [], _, _ => rfl
  | [], _ :: _, h, _ => absurd (List.nil_lt_cons _ _) h
  | _ :: _, [], _, h => absurd (List.nil_lt_cons _ _) h
  | x :: a, y :: b, h1, h2 => by
    rw [List.cons_lt_cons_iff] at h1 h2
    have e : x = y := by
      rcases Nat.lt_trichotomy x y with h | h | h
      · exact absurd (.inl h) h1
      · exact h
      · exact absurd (.inl h) h2
    subst e
    rw [lt_tri a b (fun h => h1 (.inr ⟨rfl, h⟩)) (fun h => h2 (.inr ⟨rfl, h⟩))]
theorem lt_asy : ∀ a b : List Nat, a < b → ¬ b < a
  | [], [], h, _ => absurd h (List.not_lt_nil _)
  | [], _ :: _, _, h => absurd h (List.not_lt_nil _)
  | _ :: _, [], h, _ => absurd h (List.not_lt_nil _)
  | x :: a, y :: b, h1, h2 => by
    rw [List.cons_lt_cons_iff] at h1 h2
    rcases h1 with h1 | ⟨rfl, h1⟩
    · rcases h2 with h2 | ⟨rfl, h2⟩ <;> omega
    · rcases h2 with h2 | ⟨_, h2⟩
      · omega
      · exact lt_asy a b h1 h2
theorem str_ext {a b : Str} (h : a.cps.toList = b.cps.toList) : a = b := by
  obtain ⟨x⟩ := a
  obtain ⟨y⟩ := b
  exact congrArg Str.mk (Array.toList_inj.mp h)
theorem slt_tri {a b : Str} (h1 : slt a b = false) (h2 : slt b a = false) : a = b := str_ext (lt_tri _ _ (of_decide_eq_false h1) (of_decide_eq_false h2))
theorem slt_asy {a b : Str} (h1 : slt a b = true) : slt b a = false := decide_eq_false (lt_asy _ _ (of_decide_eq_true h1))
theorem minS_comm (a b : Str) : minS a b = minS b a := by
  unfold minS
  cases h1 : slt a b
  · cases h2 : slt b a
    · rw [slt_tri h1 h2]
    · rfl
  · rw [slt_asy h1]
    rfl
theorem maxS_comm (a b : Str) : maxS a b = maxS b a := by
  unfold maxS
  cases h1 : slt a b
  · cases h2 : slt b a
    · rw [slt_tri h1 h2]
    · rfl
  · rw [slt_asy h1]
    rfl
theorem mnI_comm (a b : Int) : mnI a b = mnI b a := by
  unfold mnI
  split <;> split <;> omega
theorem mxI_comm (a b : Int) : mxI a b = mxI b a := by
  unfold mxI
  split <;> split <;> omega
theorem minS_or (a b : Str) : minS a b = a ∨ minS a b = b := by
  unfold minS
  split
  · exact .inr rfl
  · exact .inl rfl
theorem maxS_or (a b : Str) : maxS a b = a ∨ maxS a b = b := by
  unfold maxS
  split
  · exact .inr rfl
  · exact .inl rfl
/-- the other one is the lesser or the greater -/
theorem mm_snd (a b : Str) : minS a b = b ∨ maxS a b = b := by
  unfold minS maxS
  cases h1 : slt a b
  · cases h2 : slt b a
    · exact .inl (slt_tri h1 h2)
    · exact .inl rfl
  · exact .inr rfl
theorem str_assoc (a b c : Str) : a ++ b ++ c = a ++ (b ++ c) := congrArg Str.mk Array.append_assoc
theorem text2 (k : Nat) (d : PyData) (w : Str) (h : w = slipWords.getD k "" ++ Str.ofString " ") : w ++ strD d = slipText k [d] := by
  unfold slipText
  rw [TL.join_eq, h]
  rfl
theorem text3 (k : Nat) (d e : PyData) (w : Str) (h : w = slipWords.getD k "" ++ Str.ofString " ") : w ++ strD d ++ Str.ofString " " ++ strD e = slipText k [d, e] := by
  unfold slipText
  rw [TL.join_eq, h]
  show _ = slipWords.getD k "" ++ Str.ofString " " ++ (strD d ++ Str.ofString " " ++ strD e)
  simp only [str_assoc]
theorem eqv3 (a b c a' b' c' : PyData) : PyData.eqv (.tuple [a, b, c]) (.tuple [a', b', c']) = (PyData.eqv a a' && (PyData.eqv b b' && (PyData.eqv c c' && true))) := rfl
theorem eqv2 (a b a' b' : PyData) : PyData.eqv (.tuple [a, b]) (.tuple [a', b']) = (PyData.eqv a a' && (PyData.eqv b b' && true)) := rfl
theorem eqvI (a b : Int) : PyData.eqv (.int a) (.int b) = (a == b) := rfl
theorem eqvS (a b : Str) : PyData.eqv (.str a) (.str b) = (a == b) := rfl
theorem digit_ok (i : Int) (h0 : 0 ≤ i) (h1 : i ≤ 10) : i.natAbs.log2 < 1920 ∧ (strD (.int i)).length ≤ 1000 := by
  obtain ⟨n, rfl⟩ : ∃ n : Nat, i = n := ⟨i.toNat, by omega⟩
  have hn : n ≤ 10 := by omega
  match n, hn with
  | 0, _ => exact ⟨by decide, by decide +kernel⟩
  | 1, _ => exact ⟨by decide, by decide +kernel⟩
  | 2, _ => exact ⟨by decide, by decide +kernel⟩
  | 3, _ => exact ⟨by decide, by decide +kernel⟩
  | 4, _ => exact ⟨by decide, by decide +kernel⟩
  | 5, _ => exact ⟨by decide, by decide +kernel⟩
  | 6, _ => exact ⟨by decide, by decide +kernel⟩
  | 7, _ => exact ⟨by decide, by decide +kernel⟩
  | 8, _ => exact ⟨by decide, by decide +kernel⟩
  | 9, _ => exact ⟨by decide, by decide +kernel⟩
  | 10, _ => exact ⟨by decide, by decide +kernel⟩
theorem partI {i : Int} (h0 : 0 ≤ i) (h1 : i ≤ 10) : strDOk (.int i) ∧ (strD (.int i)).length ≤ 1000 ∧ Shp 0 (.int i) ∧ isBool (.int i) = false := ⟨(digit_ok i h0 h1).1, (digit_ok i h0 h1).2, Shp.int i 0, rfl⟩
theorem NameX.strOk {n : Nat} {w : Str} (h : NameX n w) : PyData.strOk w = true := strOk_of (m := 122) (fun c hc => (h.2.1 c hc).2) (by decide)
theorem NameX.mono {n m : Nat} {w : Str} (h : NameX n w) (le : n ≤ m) : NameX m w := ⟨h.1, h.2.1, Nat.le_trans h.2.2 le⟩
theorem NameX.y {n : Nat} {w : Str} (h : NameX n w) : NameX (n + 1) (w ++ Str.ofString "y") := by
  have ey : (Str.ofString "y").cps.toList = [121] := by decide +kernel
  refine ⟨?_, fun c hc => ?_, ?_⟩
  · rw [app_list]
    exact List.mem_append_left _ h.1
  · rw [app_list, ey] at hc
    rcases List.mem_append.mp hc with m | m
    · exact h.2.1 c m
    · rw [List.mem_singleton.mp m]
      exact ⟨by decide, by decide⟩
  · rw [str_append_length]
    exact Nat.succ_le_succ h.2.2
theorem ne_y (w : Str) : w ≠ w ++ Str.ofString "y" := fun e => by
  have := congrArg Str.length e
  rw [str_append_length] at this
  have h1 : (Str.ofString "y").length = 1 := rfl
  omega
theorem partS {n : Nat} {w : Str} (h : NameX n w) (hn : n ≤ 1000) : strDOk (.str w) ∧ (strD (.str w)).length ≤ 1000 ∧ Shp 0 (.str w) ∧ isBool (.str w) = false := ⟨trivial, Nat.le_trans h.2.2 hn, Shp.str h.strOk 0, rfl⟩
theorem minS_name {n : Nat} {a b : Str} (ha : NameX n a) (hb : NameX n b) : NameX n (minS a b) := by
  rcases minS_or a b with h | h
  · rw [h]; exact ha
  · rw [h]; exact hb
theorem maxS_name {n : Nat} {a b : Str} (ha : NameX n a) (hb : NameX n b) : NameX n (maxS a b) := by
  rcases maxS_or a b with h | h
  · rw [h]; exact ha
  · rw [h]; exact hb
def yy : Str := Str.ofString "yy"
theorem not_yy {n : Nat} {w : Str} (h : NameX n w) : w ≠ yy := fun e => by
  have h1 := h.1
  have ey : yy.cps.toList = [121, 121] := by decide +kernel
  rw [e, ey] at h1
  exact absurd h1 (by decide)
/-- names, one of them "yy", are others than two names with x -/
theorem yy_other {n : Nat} {a c d : Str} (hc : NameX n c) (hd : NameX n d) : (minS a yy == minS c d && (maxS a yy == maxS c d && true)) = false := by
  rw [Bool.and_true]
  cases h1 : (minS a yy == minS c d) with
  | false => rfl
  | true =>
    cases h2 : (maxS a yy == maxS c d) with
    | false => rfl
    | true =>
      have e1 := beq_iff_eq.mp h1
      have e2 := beq_iff_eq.mp h2
      exfalso
      rcases mm_snd a yy with h | h
      · rw [h] at e1
        exact not_yy (minS_name hc hd) e1.symm
      · rw [h] at e2
        exact not_yy (maxS_name hc hd) e2.symm

/-! ### slips as their users make and compare them -/
section
variable {H : Hp} {Q : VK} {i j : Int} {x y : Str} {v : V} {d : PyData}
abbrev swapD (i j : Int) : List PyData := [.int 0, .int (mnI i j), .int (mxI i j)]
abbrev namesD (x y : Str) : List PyData := [.int 3, .str (minS x y), .str (maxS x y)]
theorem swap_made {S : Addr → Prop} {CB C : Addr} {a dx : Addr} {H1 : Hp} (hS : S C) (n : H a = none) (k : Kp [] H H1) (e : H1 a = some (.ins C dx [])) (ne : i ≠ j) (q : ∀ a H', Kp [] H H' → SlipAt S H' a (swapD i j) → Q (.ref a) H') : sp_Swap___init__ C CB [.ref a, .int i, .int j] H1 (kMade a Q) E0 :=
  ⟨a, dx, i, j, rfl, e, fun _ => parts_made hS n k (fun _ => .cons (.int _) (.cons (.int _) (.cons (.int _) .nil))) (fun H' => q a H'), fun z => absurd z ne⟩
theorem names_made {S : Addr → Prop} {CB C : Addr} {a dx : Addr} {H1 : Hp} (hS : S C) (n : H a = none) (k : Kp [] H H1) (e : H1 a = some (.ins C dx [])) (ne : x ≠ y) (q : ∀ a H', Kp [] H H' → SlipAt S H' a (namesD x y) → Q (.ref a) H') : sp_Names___init__ C CB [.ref a, .str x, .str y] H1 (kMade a Q) E0 :=
  ⟨a, dx, x, y, rfl, e, fun _ => parts_made hS n k (fun _ => .cons (.int _) (.cons (.str _) (.cons (.str _) .nil))) (fun H' => q a H'), fun z => absurd z ne⟩
theorem r_eqSlips {S : Addr → Prop} {CB : Addr} {a b : Addr} {ds es : List PyData} (fc : ∀ C, S C → Cls K C) (cl : ∀ C, S C → PySem.W.findIn K (.ref C) "__class__" = some (some (.builtin "object.__class__"))) (gt : PySem.W.specialIn K (.builtin "object.__class__") "__get__" = some (some (.builtin "getset_descriptor.__get__"))) (tk : PySem.W.takesIn K (.builtin "object.__class__") = some true)
    (ob : ∀ C, S C → PySem.W.mroIn K C (.type "object") = some true) (nf : ∀ C, S C → ∀ D, S D → PySem.W.notFirst K C (.ref D) = true)
    (hA : SlipAt S H a ds) (hB : SlipAt S H b es) (s1 : Shp 1 (.tuple ds)) (s2 : Shp 1 (.tuple es)) (q : Q (.bl (PyData.eqv (.tuple ds) (.tuple es))) H) : rEqFam K S (sp_Slip___eq__ K S CB) (.ref a) (.ref b) H Q := by
  obtain ⟨C, dx, p, hS, e, _⟩ := id hA
  obtain ⟨D, dy, p', hS', e', _⟩ := id hB
  exact r_eqFam e hS (.base (.ins e' (fc D hS') (cl D hS') gt tk (ob D hS'))) (nf C hS D hS') ⟨a, ds, .ref b, rfl, hA, s1, .inl ⟨b, es, rfl, hB, s2, _, rfl, q⟩⟩
theorem swap_ok {i j : Int} (h0 : 0 ≤ i) (h1 : i ≤ 10) (g0 : 0 ≤ j) (g1 : j ≤ 10) : PartsOk 0 [.int (mnI i j), .int (mxI i j)] := ⟨by decide, (fun z => nomatch z), Nat.le_refl 2, fun d m => by
  have e1 : 0 ≤ mnI i j ∧ mnI i j ≤ 10 := by
    unfold mnI
    split <;> omega
  have e2 : 0 ≤ mxI i j ∧ mxI i j ≤ 10 := by
    unfold mxI
    split <;> omega
  rcases List.mem_cons.mp m with rfl | m
  · exact partI e1.1 e1.2
  · rw [List.mem_singleton.mp m]
    exact partI e2.1 e2.2⟩
theorem names_ok {n : Nat} {x y : Str} (hx : NameX n x) (hy : NameX n y) (hn : n ≤ 1000) : PartsOk 3 [.str (minS x y), .str (maxS x y)] := ⟨by decide, (fun z => nomatch z), Nat.le_refl 2, fun d m => by
  rcases List.mem_cons.mp m with rfl | m
  · exact partS (minS_name hx hy) hn
  · rw [List.mem_singleton.mp m]
    exact partS (maxS_name hx hy) hn⟩
theorem shp_swap (i j : Int) : Shp 1 (.tuple (swapD i j)) := Shp.tuple (n := 0) fun d m => by
  simp only [List.mem_cons, List.not_mem_nil, or_false] at m
  rcases m with rfl | rfl | rfl <;> exact Shp.int _ 0
theorem shp_names {x y : Str} (hx : PyData.strOk x = true) (hy : PyData.strOk y = true) : Shp 1 (.tuple (namesD x y)) := Shp.tuple (n := 0) fun d m => by
  simp only [List.mem_cons, List.not_mem_nil, or_false] at m
  rcases m with rfl | rfl | rfl
  · exact Shp.int _ 0
  · rcases minS_or x y with h | h <;> rw [h] <;> first | exact Shp.str hx 0 | exact Shp.str hy 0
  · rcases maxS_or x y with h | h <;> rw [h] <;> first | exact Shp.str hx 0 | exact Shp.str hy 0
end
theorem one_ok {k : Nat} {d : PyData} (hk : k < 5) (h : strDOk d ∧ (strD d).length ≤ 1000 ∧ Shp 0 d ∧ isBool d = false) : PartsOk k [d] := ⟨hk, (fun z => nomatch z), (by decide : 1 ≤ 2), fun e m => by
  rw [List.mem_singleton.mp m]
  exact h⟩
def partD (x : Nat × PyData) : List PyData := [.int (x.1 : Int), x.2]
theorem leave_made {S : Addr → Prop} {C a dx : Addr} {H H1 : Hp} {Q : VK} {v : V} {d : PyData} {k : Nat} (hS : S C) (n : H a = none) (kp : Kp [] H H1) (hv : ∀ H', Dt [] H' v d) (q : ∀ a H', Kp [] H H' → SlipAt S H' a (partD (k, d)) → Q (.ref a) H') : kParts (kMade a Q) H1 a C dx [.int (k : Int), v] :=
  parts_made hS n kp (fun H' => .cons (.int _) (.cons (hv H') .nil)) (fun H' => q a H')

/-! ### names: one to eight letters a to z, none of them reserved -/
def reserved : List Str := ["kind", "def", "set", "ask", "call", "again", "check", "mean", "if", "else", "end", "return", "refuse", "is", "self", "cls"]
def letters : Str := "abcdefghijklmnopqrstuvwxyz"
def NameOk (w : Str) : Prop := 1 ≤ w.cps.toList.length ∧ w.cps.toList.length ≤ 8 ∧ (∀ c ∈ w.cps.toList, 97 ≤ c ∧ c ≤ 122) ∧ w ∉ reserved

/-! ### words and names of data -/
theorem letters_iff (c : Nat) : c ∈ letters.cps.toList ↔ 97 ≤ c ∧ c ≤ 122 := by
  have e : letters.cps.toList = List.range' 97 26 := by decide +kernel
  rw [e, List.mem_range'_1]
  omega
def isWord : PyData → Bool
  | .str w => decide (1 ≤ w.length) && decide (w.length ≤ 8) && w.cps.toList.all fun c => decide (c ∈ letters.cps.toList)
  | _ => false
def isName : PyData → Bool
  | .str w => isWord (.str w) && !decide (w ∈ reserved)
  | _ => false
theorem isWord_eq (w : Str) : isWord (.str w) = (decide (1 ≤ w.length) && decide (w.length ≤ 8) && w.cps.toList.all fun c => decide (c ∈ letters.cps.toList)) := rfl
theorem isName_eq (w : Str) : isName (.str w) = (isWord (.str w) && !decide (w ∈ reserved)) := rfl
theorem isName_iff (w : Str) : isName (.str w) = true ↔ NameOk w := by
  have e : isName (.str w) = ((decide (1 ≤ w.length) && decide (w.length ≤ 8) && w.cps.toList.all fun c => decide (c ∈ letters.cps.toList)) && !decide (w ∈ reserved)) := rfl
  unfold NameOk
  rw [e, str_length]
  simp only [Bool.and_eq_true, decide_eq_true_eq, List.all_eq_true, Bool.not_eq_true', decide_eq_false_iff_not, letters_iff]
  constructor
  · rintro ⟨⟨⟨a, b⟩, c⟩, d⟩
    exact ⟨a, b, c, d⟩
  · rintro ⟨a, b, c, d⟩
    exact ⟨⟨⟨a, b⟩, c⟩, d⟩
theorem isName_str {d : PyData} (h : isName d = true) : ∃ w, d = .str w := by
  cases d <;> first | exact ⟨_, rfl⟩ | cases h
def sp_is_word : Sp := fun vs H Q _ => ∃ (v : V) (d : PyData), vs = [v] ∧ Dt [] H v d ∧ (∀ w, d = .str w → w.length ≤ 1000) ∧ ∀ H', Kp [] H H' → Q (.bl (isWord d)) H'
def sp_is_name : Sp := fun vs H Q _ => ∃ (v : V) (d : PyData), vs = [v] ∧ Dt [] H v d ∧ (∀ w, d = .str w → w.length ≤ 1000) ∧ ∀ H', Kp [] H H' → Q (.bl (isName d)) H'
abbrev s_is_word : Stmt := top 10
theorem sc_is_word : FnScope ["thing", "char"] ["thing"] (defScope s_is_word) :=
  ⟨rfl, rfl, rfl, by decide +kernel, rfl, by decide +kernel, by decide +kernel⟩
theorem ok_is_word {f : Addr} {fd : FuncData} (F : Fun K "is_word" "is_word" s_is_word f fd) (T : Txt K mg C_Swap C_Leave C_Double C_Names C_Drop C_BadSlip C_Slip G_SLIP_WORDS G_RESERVED) :
    FnOk P w K mg base CX0 2 f fd ["thing"] (sp_is_word) := by
  refine F.ok sc_is_word (fun vs H Q E h => ?_) (fun cdv A outer s H vs Q E hr h => ?_)
  · obtain ⟨v, d, rfl, _⟩ := h
    rfl
  · obtain ⟨v, d, rfl, hD, hz, q⟩ := h
    have hu := hu_of hr
    have hu64 := hr.units
    refine ⟨_, (pss_cons (ps_if (pt_cutT (PW.pt (pw_or (pt_not (pt_val (pe_callB (K_isi (K := K) rfl) (by rfl) T.z_isinstance (by decide +kernel) (pa_cons (pv 0) (pa_cons (pe_bltn (v := .ty "str") (u := .type "str") (by rfl) T.z_str (by decide +kernel) rfl) pa_nil))))) (pw_or1 (pt_not (pt_chain op_le op_le pe_int (pe_callB cr_lenS (by rfl) T.z_len (by decide +kernel) (pa_cons (pv 0) pa_nil)) pe_int))))))
          (pss_one (ps_ret pe_bl))
          pss_nil)
        (pss_one (ps_ret (pe_callB (K_all (K := K) rfl rfl) (by rfl) T.z_all (by decide +kernel) (pa_cons (pe_lc (own := [("char", 1)]) (by rfl) sc_is_word.nd (pi_str (pv 0)) (blkOk_by (own := [("char", 1)]) (N := ["thing", "char"]) (sc := defScope s_is_word) (by decide +kernel)) (fun _ _ _ _ _ => (pg_name (i := 1) sc_is_word.nd rfl (by first | exact Or.inl rfl | exact Or.inr rfl))) (fun _ _ _ _ _ => pts_nil) (fun _ _ _ _ _ => (pe_cmpR op_inS (pv 1) (pe_globE T.g_LETTERS (by rfl)) (by with_unfolding_all rfl)))) pa_nil))))), ?_⟩
    walk_at "S"
    refine r_cutT (fun b H' => H = H' ∧ ∀ c, b = c → (c = true → isWord d = false) ∧ (c = false → ∃ w, d = .str w ∧ v = .str w ∧ 1 ≤ w.length ∧ w.length ≤ 8)) ?_ ?_
    · walk_at "S"
      refine r_isiStr hD ?_
      walk_at "S"
      refine r_kOr (fun c => ?_) (fun c => ?_)
      · refine ⟨rfl, fun _ e => ⟨fun _ => ?_, fun z => ?_⟩⟩
        · cases d <;> first | rfl | cases c
        · rw [← e] at z
          cases z
      have c' : isStr d = true := by simpa using c
      obtain ⟨w, rfl⟩ : ∃ w, d = .str w := by
        cases d <;> first | exact ⟨_, rfl⟩ | cases c'
      cases hD
      walk_at "S"
      refine r_lenS (Nat.le_trans (hz w rfl) (by decide)) ?_
      walk_at "S"
      refine r_kCh (fun c1 => ?_) (fun c1 => ?_)
      all_goals walk_at "S"
      · refine ⟨rfl, fun e he => ⟨fun z => ?_, fun z => ⟨w, rfl, rfl, ?_⟩⟩⟩
        · subst he
          have : ¬ w.length ≤ 8 := fun y => by
            have : decide (((w.length : Nat) : Int) ≤ 8) = true := decide_eq_true (by omega)
            rw [this] at z
            cases z
          rw [isWord_eq, decide_eq_false this]
          simp
        · subst he
          have h1 : (1 : Int) ≤ ((w.length : Nat) : Int) := of_decide_eq_true c1
          have h2 : decide (((w.length : Nat) : Int) ≤ 8) = true := by simpa using z
          have h2 := of_decide_eq_true h2
          omega
      · refine ⟨rfl, fun e he => ⟨fun z => ?_, fun z => ?_⟩⟩
        · have h1 : ¬ (1 : Int) ≤ ((w.length : Nat) : Int) := of_decide_eq_false c1
          rw [isWord_eq, decide_eq_false (show ¬ 1 ≤ w.length by omega)]
          simp
        · subst he
          cases z
    rintro b H' ⟨rfl, hb⟩
    refine r_kIfS (fun c => ?_) (fun c => ?_)
    all_goals walk_at "S"
    · rw [← (hb b rfl).1 c]
      exact q H (Kp.refl _ _)
    · obtain ⟨w, rfl, rfl, h1, h8⟩ := (hb b rfl).2 c
      walk_at "S"
      refine r_kLcS (fun D i acc H2 => Kp [] H H2 ∧ acc = ((w.cps.toList.take i).map fun c => decide (c ∈ letters.cps.toList)).map V.bl) (fun D H2 nD k7 e7 => ⟨k7, rfl⟩) ?_ ?_
      · rintro D i acc c H2 nD hd eD ⟨k7, rfl⟩
        walk_at "S"
        refine r_inC (z := letters) ?_
        refine r_kApp eD ?_ fun H3 k8 e8 => ⟨k7.step nD k8, ?_⟩
        · rw [List.length_map, List.length_map, List.length_take]
          have e := str_length w
          have : 8 < sizeLine := by decide
          omega
        · rw [take_map _ hd, List.map_append]
          rfl
      · rintro D acc H2 nD eD ⟨k7, rfl⟩
        rw [List.take_length] at eD
        walk_at "S"
        refine r_all (SqL.of eD) ?_
        have e : isWord (.str w) = ((w.cps.toList.map fun c => decide (c ∈ letters.cps.toList)).all id) := by
          rw [isWord_eq, decide_eq_true h1, decide_eq_true h8, List.all_map]
          rfl
        rw [← e]
        exact q H2 k7
abbrev s_is_name : Stmt := top 11
theorem sc_is_name : FnScope ["thing"] ["thing"] (defScope s_is_name) :=
  ⟨rfl, rfl, rfl, by decide +kernel, rfl, by decide +kernel, by decide +kernel⟩
theorem ok_is_name {f : Addr} {fd : FuncData} (F : Fun K "is_name" "is_name" s_is_name f fd) (T : Txt K mg C_Swap C_Leave C_Double C_Names C_Drop C_BadSlip C_Slip G_SLIP_WORDS G_RESERVED) (U_is_word : Use P w K mg base 2 "is_word" ["thing"] (sp_is_word)) :
    FnOk P w K mg base CX0 4 f fd ["thing"] (sp_is_name) := by
  refine F.ok sc_is_name (fun vs H Q E h => ?_) (fun cdv A outer s H vs Q E hr h => ?_)
  · obtain ⟨v, d, rfl, _⟩ := h
    rfl
  · obtain ⟨v, d, rfl, hD, hz, q⟩ := h
    have hu := hu_of hr
    have hu64 := hr.units
    refine ⟨_, (pss_one (ps_ret (pe_and (pe_use U_is_word (hr.mono (by first | decide | omega)) (by rfl) (pa_cons (pv 0) pa_nil)) (pe_one (pe_cmpR (K_notIn (K := K) rfl) (pv 0) (pe_globE T.g_RESERVED (by rfl)) (by with_unfolding_all rfl)))))), ?_⟩
    walk_at "S"
    refine ⟨v, d, rfl, hD, hz, fun H1 k1 => ?_⟩
    refine r_kAndV (fun c => ?_) (fun c => ?_)
    · obtain ⟨w, rfl⟩ : ∃ w, d = .str w := by
        cases d <;> first | exact ⟨_, rfl⟩ | cases c
      cases hD
      walk_at "S"
      refine r_ninT (ws := reserved) (T.q_RESERVED H1) ?_
      have e : isName (.str w) = !decide (w ∈ reserved) := by
        rw [isName_eq, c]
        rfl
      rw [← e]
      exact q H1 k1
    · have e : isName d = false := by
        cases d <;> first | rfl | (rw [isName_eq, c]; rfl)
      rw [← e]
      exact q H1 k1

end
/-! ### the slip that some pieces of a text tell -/
open PySem.Spec in
def digits : Str := "0123456789"
def isPlace (p : Str) : Bool := decide (p.length = 1) && p.cps.toList.all fun c => decide (c ∈ digits.cps.toList)
def digOf (p : Str) : Int := ((p.cps.toList.getD 0 48 : Nat) : Int) - 48
def nameB (p : Str) : Bool := isName (.str p)
/-- the key of the slip, or none -/
def slipKey : List Str → Option (Nat × List PyData)
  | [w, a, b] =>
    if w = "swap" then (if (isPlace a && isPlace b && !decide (a = b)) = true then some (0, [.int (mnI (digOf a) (digOf b)), .int (mxI (digOf a) (digOf b))]) else none)
    else if w = "names" then (if (nameB a && nameB b && !decide (a = b)) = true then some (3, [.str (minS a b), .str (maxS a b)]) else none) else none
  | [w, a] =>
    if w = "leave" then (if isPlace a = true then some (1, [.int (digOf a)]) else none)
    else if w = "double" then (if isPlace a = true then some (2, [.int (digOf a)]) else none)
    else if w = "drop" then (if nameB a = true then some (4, [.str a]) else none) else none
  | _ => none
/-- the five shapes -/
inductive Tells : List Str → Nat → List PyData → Prop
  | swap {a b : Str} : isPlace a = true → isPlace b = true → a ≠ b → Tells ["swap", a, b] 0 [.int (mnI (digOf a) (digOf b)), .int (mxI (digOf a) (digOf b))]
  | names {a b : Str} : nameB a = true → nameB b = true → a ≠ b → Tells ["names", a, b] 3 [.str (minS a b), .str (maxS a b)]
  | leave {a : Str} : isPlace a = true → Tells ["leave", a] 1 [.int (digOf a)]
  | double {a : Str} : isPlace a = true → Tells ["double", a] 2 [.int (digOf a)]
  | drop {a : Str} : nameB a = true → Tells ["drop", a] 4 [.str a]
theorem w_ne : (("names" : Str) = "swap") = False ∧ (("double" : Str) = "leave") = False ∧ (("drop" : Str) = "leave") = False ∧ (("drop" : Str) = "double") = False := by
  refine ⟨?_, ?_, ?_, ?_⟩ <;> exact eq_false (by decide +kernel)
theorem Tells.key {ps : List Str} {k : Nat} {ds : List PyData} (h : Tells ps k ds) : slipKey ps = some (k, ds) := by
  cases h with
  | swap h1 h2 h3 => simp [slipKey, h1, h2, h3]
  | names h1 h2 h3 => simp [slipKey, w_ne, h1, h2, h3]
  | leave h1 => simp [slipKey, h1]
  | double h1 => simp [slipKey, w_ne, h1]
  | drop h1 => simp [slipKey, w_ne, h1]
theorem Tells.of {ps : List Str} {k : Nat} {ds : List PyData} (h : slipKey ps = some (k, ds)) : Tells ps k ds := by
  unfold slipKey at h
  split at h
  · split at h
    · rename_i e
      subst e
      split at h
      · rename_i c
        simp only [Bool.and_eq_true, Bool.not_eq_true', decide_eq_false_iff_not] at c
        cases h
        exact .swap c.1.1 c.1.2 c.2
      · cases h
    · split at h
      · rename_i e
        subst e
        split at h
        · rename_i c
          simp only [Bool.and_eq_true, Bool.not_eq_true', decide_eq_false_iff_not] at c
          cases h
          exact .names c.1.1 c.1.2 c.2
        · cases h
      · cases h
  · split at h
    · rename_i e
      subst e
      split at h
      · rename_i c
        cases h
        exact .leave c
      · cases h
    · split at h
      · rename_i e
        subst e
        split at h
        · rename_i c
          cases h
          exact .double c
        · cases h
      · split at h
        · rename_i e
          subst e
          split at h
          · rename_i c
            cases h
            exact .drop c
          · cases h
        · cases h
  · cases h
/-! the steps by which it is found -/
def manyOf (w : Str) : Nat := if w ∈ ([("swap" : Str), "names"] : List Str) then 3 else 2
def byPlace (w : Str) : Bool := decide (w ∈ ([("swap" : Str), "leave", "double"] : List Str))
def okP (w p : Str) : Bool := if byPlace w = true then isPlace p else nameB p
/-- what is left when the word and the number of pieces are right -/
theorem shape_of {w : Str} {rest : List Str} (hw : w ∈ slipWords) (hl : (w :: rest).length = manyOf w) :
    (∃ a b, (w = "swap" ∨ w = "names") ∧ rest = [a, b]) ∨ (∃ a, (w = "leave" ∨ w = "double" ∨ w = "drop") ∧ rest = [a]) := by
  have two : rest.length = 2 → ∃ a b, rest = [a, b] := fun h => by
    match rest, h with
    | [a, b], _ => exact ⟨a, b, rfl⟩
  have one : rest.length = 1 → ∃ a, rest = [a] := fun h => by
    match rest, h with
    | [a], _ => exact ⟨a, rfl⟩
  have hw' : w = "swap" ∨ w = "leave" ∨ w = "double" ∨ w = "names" ∨ w = "drop" := by
    simpa [slipWords] using hw
  have m0 : manyOf "swap" = 3 := by decide +kernel
  have m1 : manyOf "names" = 3 := by decide +kernel
  have m2 : manyOf "leave" = 2 := by decide +kernel
  have m3 : manyOf "double" = 2 := by decide +kernel
  have m4 : manyOf "drop" = 2 := by decide +kernel
  rw [List.length_cons] at hl
  rcases hw' with rfl | rfl | rfl | rfl | rfl
  · rw [m0] at hl
    obtain ⟨a, b, e⟩ := two (by omega)
    exact .inl ⟨a, b, .inl rfl, e⟩
  · rw [m2] at hl
    obtain ⟨a, e⟩ := one (by omega)
    exact .inr ⟨a, .inl rfl, e⟩
  · rw [m3] at hl
    obtain ⟨a, e⟩ := one (by omega)
    exact .inr ⟨a, .inr (.inl rfl), e⟩
  · rw [m1] at hl
    obtain ⟨a, b, e⟩ := two (by omega)
    exact .inl ⟨a, b, .inr rfl, e⟩
  · rw [m4] at hl
    obtain ⟨a, e⟩ := one (by omega)
    exact .inr ⟨a, .inr (.inr rfl), e⟩
theorem key_word {w : Str} {rest : List Str} (h : slipKey (w :: rest) ≠ none) : w ∈ slipWords ∧ (w :: rest).length = manyOf w := by
  cases e : slipKey (w :: rest) with
  | none => exact absurd e h
  | some x =>
    obtain ⟨k, ds⟩ := x
    have m0 : manyOf "swap" = 3 := by decide +kernel
    have m1 : manyOf "names" = 3 := by decide +kernel
    have m2 : manyOf "leave" = 2 := by decide +kernel
    have m3 : manyOf "double" = 2 := by decide +kernel
    have m4 : manyOf "drop" = 2 := by decide +kernel
    cases Tells.of e with
    | swap h1 h2 h3 => exact ⟨by simp [slipWords], by rw [m0]; rfl⟩
    | names h1 h2 h3 => exact ⟨by simp [slipWords], by rw [m1]; rfl⟩
    | leave h1 => exact ⟨by simp [slipWords], by rw [m2]; rfl⟩
    | double h1 => exact ⟨by simp [slipWords], by rw [m3]; rfl⟩
    | drop h1 => exact ⟨by simp [slipWords], by rw [m4]; rfl⟩
theorem by0 : byPlace "swap" = true ∧ byPlace "leave" = true ∧ byPlace "double" = true ∧ byPlace "names" = false ∧ byPlace "drop" = false := by decide +kernel
theorem key_all {w : Str} {rest : List Str} (h : slipKey (w :: rest) ≠ none) : rest.all (okP w) = true := by
  cases e : slipKey (w :: rest) with
  | none => exact absurd e h
  | some x =>
    obtain ⟨k, ds⟩ := x
    cases Tells.of e with
    | swap h1 h2 h3 => simp [okP, by0, h1, h2]
    | names h1 h2 h3 => simp [okP, by0, h1, h2]
    | leave h1 => simp [okP, by0, h1]
    | double h1 => simp [okP, by0, h1]
    | drop h1 => simp [okP, by0, h1]
theorem key_dup {w a : Str} {rest : List Str} (h : slipKey (w :: a :: rest) ≠ none) : a ∉ rest := by
  cases e : slipKey (w :: a :: rest) with
  | none => exact absurd e h
  | some x =>
    obtain ⟨k, ds⟩ := x
    cases Tells.of e with
    | swap h1 h2 h3 => simpa using h3
    | names h1 h2 h3 => simpa using h3
    | leave h1 => exact List.not_mem_nil
    | double h1 => exact List.not_mem_nil
    | drop h1 => exact List.not_mem_nil
theorem key_some {w a : Str} {rest : List Str} (hw : w ∈ slipWords) (hl : (w :: a :: rest).length = manyOf w) (ha : (a :: rest).all (okP w) = true) (hd : a ∉ rest) : ∃ k ds, slipKey (w :: a :: rest) = some (k, ds) := by
  rcases shape_of hw hl with ⟨x, y, hw', e⟩ | ⟨x, hw', e⟩
  · cases e
    simp only [List.all_cons, List.all_nil, Bool.and_true, Bool.and_eq_true] at ha
    have hd : a ≠ y := by simpa using hd
    rcases hw' with rfl | rfl
    · simp only [okP, by0, if_true] at ha
      exact ⟨_, _, (Tells.swap ha.1 ha.2 hd).key⟩
    · simp only [okP, by0] at ha
      exact ⟨_, _, (Tells.names (by simpa using ha.1) (by simpa using ha.2) hd).key⟩
  · cases e
    simp only [List.all_cons, List.all_nil, Bool.and_true] at ha
    rcases hw' with rfl | rfl | rfl
    · simp only [okP, by0, if_true] at ha
      exact ⟨_, _, (Tells.leave ha).key⟩
    · simp only [okP, by0, if_true] at ha
      exact ⟨_, _, (Tells.double ha).key⟩
    · simp only [okP, by0] at ha
      exact ⟨_, _, (Tells.drop (by simpa using ha)).key⟩
/-! places -/
theorem digits_list : digits.cps.toList = [48, 49, 50, 51, 52, 53, 54, 55, 56, 57] := by decide +kernel
theorem place_at {p : Str} (h : isPlace p = true) : ∃ c, 48 ≤ c ∧ c ≤ 57 ∧ p = ⟨#[c]⟩ := by
  unfold isPlace at h
  rw [Bool.and_eq_true, decide_eq_true_eq] at h
  obtain ⟨h1, h2⟩ := h
  rw [Rd.str_length] at h1
  cases e : p.cps.toList with
  | nil =>
    rw [e] at h1
    cases h1
  | cons c r =>
    rw [e] at h1 h2
    have hr : r = [] := by
      cases r with
      | nil => rfl
      | cons _ _ => simp at h1
    subst hr
    rw [List.all_cons, List.all_nil, Bool.and_true, decide_eq_true_eq, digits_list] at h2
    simp only [List.mem_cons, List.not_mem_nil, or_false] at h2
    exact ⟨c, by omega, by omega, str_ext e⟩
theorem place_one {c : Nat} (h0 : 48 ≤ c) (h1 : c ≤ 57) : isPlace ⟨#[c]⟩ = true := by
  have hm : c ∈ digits.cps.toList := by
    rw [digits_list]
    simp only [List.mem_cons, List.not_mem_nil, or_false]
    omega
  show (decide (1 = 1) && (decide (c ∈ digits.cps.toList) && true)) = true
  rw [decide_eq_true hm]
  rfl
theorem dig_one (c : Nat) : digOf ⟨#[c]⟩ = (c : Int) - 48 := rfl
theorem dig_range {p : Str} (h : isPlace p = true) : 0 ≤ digOf p ∧ digOf p ≤ 9 := by
  obtain ⟨c, h0, h1, rfl⟩ := place_at h
  rw [dig_one]
  omega
theorem dig_inj {p q : Str} (h : isPlace p = true) (g : isPlace q = true) (e : digOf p = digOf q) : p = q := by
  obtain ⟨c, h0, h1, rfl⟩ := place_at h
  obtain ⟨d, g0, g1, rfl⟩ := place_at g
  rw [dig_one, dig_one] at e
  have : c = d := by omega
  rw [this]
theorem dig_text {p : Str} (h : isPlace p = true) : PySem.intText? p = some (digOf p) ∧ p.length ≤ 640 := by
  obtain ⟨c, h0, h1, rfl⟩ := place_at h
  refine ⟨?_, by show 1 ≤ 640; decide⟩
  rw [dig_one]
  obtain ⟨n, rfl⟩ : ∃ n, c = 48 + n := ⟨c - 48, by omega⟩
  have hn : n ≤ 9 := by omega
  match n, hn with
  | 0, _ => decide +kernel
  | 1, _ => decide +kernel
  | 2, _ => decide +kernel
  | 3, _ => decide +kernel
  | 4, _ => decide +kernel
  | 5, _ => decide +kernel
  | 6, _ => decide +kernel
  | 7, _ => decide +kernel
  | 8, _ => decide +kernel
  | 9, _ => decide +kernel
/-- the sign of a number from 0 to 9 -/
theorem text_dig {i : Int} (h0 : 0 ≤ i) (h1 : i ≤ 9) : isPlace (strD (.int i)) = true ∧ digOf (strD (.int i)) = i := by
  obtain ⟨n, rfl⟩ : ∃ n : Nat, i = n := ⟨i.toNat, by omega⟩
  have hn : n ≤ 9 := by omega
  match n, hn with
  | 0, _ => exact ⟨by decide +kernel, by decide +kernel⟩
  | 1, _ => exact ⟨by decide +kernel, by decide +kernel⟩
  | 2, _ => exact ⟨by decide +kernel, by decide +kernel⟩
  | 3, _ => exact ⟨by decide +kernel, by decide +kernel⟩
  | 4, _ => exact ⟨by decide +kernel, by decide +kernel⟩
  | 5, _ => exact ⟨by decide +kernel, by decide +kernel⟩
  | 6, _ => exact ⟨by decide +kernel, by decide +kernel⟩
  | 7, _ => exact ⟨by decide +kernel, by decide +kernel⟩
  | 8, _ => exact ⟨by decide +kernel, by decide +kernel⟩
  | 9, _ => exact ⟨by decide +kernel, by decide +kernel⟩
theorem nameB_ok {p : Str} (h : nameB p = true) : (∀ c ∈ p.cps.toList, 97 ≤ c ∧ c ≤ 122) ∧ p.length ≤ 8 := by
  have h2 := (isName_iff p).mp h
  exact ⟨h2.2.2.1, by rw [Rd.str_length]; exact h2.2.1⟩
theorem nameX_B {n : Nat} {w : Str} (h : NameX n w) (hn : n ≤ 8) : nameB w = true := by
  refine (isName_iff w).mpr ⟨?_, ?_, h.2.1, fun m => ?_⟩
  · exact List.length_pos_of_mem h.1
  · rw [← Rd.str_length]
    exact Nat.le_trans h.2.2 hn
  · have no : ∀ r ∈ reserved, 120 ∉ r.cps.toList := by decide +kernel
    exact no w m h.1
theorem minB {a b : Str} (ha : nameB a = true) (hb : nameB b = true) : nameB (minS a b) = true ∧ nameB (maxS a b) = true := by
  constructor
  · rcases minS_or a b with h | h <;> rw [h] <;> assumption
  · rcases maxS_or a b with h | h <;> rw [h] <;> assumption
theorem mm_ne {a b : Str} (h : a ≠ b) : minS a b ≠ maxS a b := by
  unfold minS maxS
  cases h1 : slt b a
  · cases h2 : slt a b
    · exact absurd (slt_tri h2 h1) h
    · exact h
  · rw [slt_asy h1]
    exact h.symm
theorem mm_idem {a b : Str} (h : a ≠ b) : minS (minS a b) (maxS a b) = minS a b ∧ maxS (minS a b) (maxS a b) = maxS a b := by
  unfold minS maxS
  cases h1 : slt b a
  · cases h2 : slt a b
    · exact absurd (slt_tri h2 h1) h
    · simp [h1, h2]
  · simp [h1, slt_asy h1]
theorem mi_ne {a b : Int} (h : a ≠ b) : mnI a b < mxI a b := by
  unfold mnI mxI
  split <;> split <;> omega
theorem mi_idem {a b : Int} : mnI (mnI a b) (mxI a b) = mnI a b ∧ mxI (mnI a b) (mxI a b) = mxI a b := by
  unfold mnI mxI
  constructor <;> (repeat' split) <;> omega
/-- a slip in its own form -/
def KeyOk (k : Nat) (ds : List PyData) : Prop := Tells (slipWords.getD k "" :: ds.map strD) k ds
theorem partN {w : Str} (h : nameB w = true) : strDOk (.str w) ∧ (strD (.str w)).length ≤ 1000 ∧ Shp 0 (.str w) ∧ isBool (.str w) = false := by
  have h1 := nameB_ok h
  exact ⟨trivial, Nat.le_trans h1.2 (by decide), Shp.str (strOk_of (m := 122) (fun c hc => (h1.1 c hc).2) (by decide)) 0, rfl⟩
theorem KeyOk.swap {i j : Int} (h0 : 0 ≤ i) (h1 : i ≤ 9) (g0 : 0 ≤ j) (g1 : j ≤ 9) (ne : i ≠ j) : KeyOk 0 [.int (mnI i j), .int (mxI i j)] := by
  have e1 : 0 ≤ mnI i j ∧ mnI i j ≤ 9 := by
    unfold mnI
    split <;> omega
  have e2 : 0 ≤ mxI i j ∧ mxI i j ≤ 9 := by
    unfold mxI
    split <;> omega
  have t1 := text_dig e1.1 e1.2
  have t2 := text_dig e2.1 e2.2
  have t := Tells.swap t1.1 t2.1 (fun e => by
    have := congrArg digOf e
    rw [t1.2, t2.2] at this
    have := mi_ne ne
    omega)
  rw [t1.2, t2.2, mi_idem.1, mi_idem.2] at t
  exact t
theorem KeyOk.names {a b : Str} (ha : nameB a = true) (hb : nameB b = true) (ne : a ≠ b) : KeyOk 3 [.str (minS a b), .str (maxS a b)] := by
  have t := Tells.names (minB ha hb).1 (minB ha hb).2 (mm_ne ne)
  rw [(mm_idem ne).1, (mm_idem ne).2] at t
  exact t
theorem KeyOk.leave {i : Int} (h0 : 0 ≤ i) (h1 : i ≤ 9) : KeyOk 1 [.int i] := by
  have t1 := text_dig h0 h1
  have t := Tells.leave t1.1
  rw [t1.2] at t
  exact t
theorem KeyOk.double {i : Int} (h0 : 0 ≤ i) (h1 : i ≤ 9) : KeyOk 2 [.int i] := by
  have t1 := text_dig h0 h1
  have t := Tells.double t1.1
  rw [t1.2] at t
  exact t
theorem KeyOk.drop {a : Str} (h : nameB a = true) : KeyOk 4 [.str a] := Tells.drop h
theorem Tells.own {ps : List Str} {k : Nat} {ds : List PyData} (h : Tells ps k ds) : KeyOk k ds := by
  cases h with
  | swap h1 h2 h3 => exact KeyOk.swap (dig_range h1).1 (dig_range h1).2 (dig_range h2).1 (dig_range h2).2 fun e => h3 (dig_inj h1 h2 e)
  | names h1 h2 h3 => exact KeyOk.names h1 h2 h3
  | leave h1 => exact KeyOk.leave (dig_range h1).1 (dig_range h1).2
  | double h1 => exact KeyOk.double (dig_range h1).1 (dig_range h1).2
  | drop h1 => exact KeyOk.drop h1
theorem Tells.parts {ps : List Str} {k : Nat} {ds : List PyData} (h : Tells ps k ds) : PartsOk k ds := by
  cases h with
  | swap h1 h2 h3 => exact swap_ok (dig_range h1).1 (by have := (dig_range h1).2; omega) (dig_range h2).1 (by have := (dig_range h2).2; omega)
  | names h1 h2 h3 => exact ⟨by decide, (fun z => nomatch z), Nat.le_refl 2, fun d m => by
      rcases List.mem_cons.mp m with rfl | m
      · exact partN (minB h1 h2).1
      · rw [List.mem_singleton.mp m]
        exact partN (minB h1 h2).2⟩
  | leave h1 => exact one_ok (k := 1) (by decide) (partI (dig_range h1).1 (by have := (dig_range h1).2; omega))
  | double h1 => exact one_ok (k := 2) (by decide) (partI (dig_range h1).1 (by have := (dig_range h1).2; omega))
  | drop h1 => exact one_ok (k := 4) (by decide) (partN h1)
theorem Tells.free {ps : List Str} {k : Nat} {ds : List PyData} (h : Tells ps k ds) : ps ≠ [] ∧ ∀ p ∈ ps, 32 ∉ p.cps.toList := by
  have pl : ∀ {p : Str}, isPlace p = true → 32 ∉ p.cps.toList := fun {p} hp m => by
    obtain ⟨c, h0, h1, rfl⟩ := place_at hp
    have : 32 ∈ [c] := m
    rw [List.mem_singleton] at this
    omega
  have nm : ∀ {p : Str}, nameB p = true → 32 ∉ p.cps.toList := fun {p} hp m => by
    have := (nameB_ok hp).1 32 m
    omega
  have ws : ∀ w ∈ slipWords, 32 ∉ w.cps.toList := by decide +kernel
  cases h with
  | swap h1 h2 h3 =>
    refine ⟨(fun z => nomatch z), fun p m => ?_⟩
    simp only [List.mem_cons, List.not_mem_nil, or_false] at m
    rcases m with rfl | rfl | rfl
    · exact ws _ (by simp [slipWords])
    · exact pl h1
    · exact pl h2
  | names h1 h2 h3 =>
    refine ⟨(fun z => nomatch z), fun p m => ?_⟩
    simp only [List.mem_cons, List.not_mem_nil, or_false] at m
    rcases m with rfl | rfl | rfl
    · exact ws _ (by simp [slipWords])
    · exact nm h1
    · exact nm h2
  | leave h1 =>
    refine ⟨(fun z => nomatch z), fun p m => ?_⟩
    simp only [List.mem_cons, List.not_mem_nil, or_false] at m
    rcases m with rfl | rfl
    · exact ws _ (by simp [slipWords])
    · exact pl h1
  | double h1 =>
    refine ⟨(fun z => nomatch z), fun p m => ?_⟩
    simp only [List.mem_cons, List.not_mem_nil, or_false] at m
    rcases m with rfl | rfl
    · exact ws _ (by simp [slipWords])
    · exact pl h1
  | drop h1 =>
    refine ⟨(fun z => nomatch z), fun p m => ?_⟩
    simp only [List.mem_cons, List.not_mem_nil, or_false] at m
    rcases m with rfl | rfl
    · exact ws _ (by simp [slipWords])
    · exact nm h1
/-- pieces without blanks, joined by blanks and split again -/
theorem split_join_blank {ps : List Str} (hne : ps ≠ []) (h : ∀ p ∈ ps, 32 ∉ p.cps.toList) : Txt.split (Txt.join (Str.ofString " ") ps) (Str.ofString " ") = ps := by
  have eb : (Str.ofString " ") = SX.S [32] := by decide +kernel
  have em : ps = (ps.map fun p => p.cps.toList).map SX.S := by
    rw [List.map_map]
    have : (SX.S ∘ fun p : Str => p.cps.toList) = id := funext fun p => str_ext rfl
    rw [this, List.map_id]
  rw [eb]
  rw [em, SX.join_S, SX.split_S (List.cons_ne_nil _ _) rfl, SX.spl_join]
  · intro z
    exact hne (List.map_eq_nil_iff.mp z)
  · intro p m
    obtain ⟨q, hq, rfl⟩ := List.mem_map.mp m
    exact h q hq
theorem KeyOk.again {k : Nat} {ds : List PyData} (h : KeyOk k ds) : slipKey (Txt.split (slipText k ds) (Str.ofString " ")) = some (k, ds) := by
  have f := Tells.free h
  unfold slipText
  rw [split_join_blank f.1 f.2]
  exact Tells.key h

section
variable {P : Program} {w : World} {K : PySem.W.Frag} {mg : Str → Option Value} {base : Heap}
variable {C_Swap : Addr} {C_Leave : Addr} {C_Double : Addr} {C_Names : Addr} {C_Drop : Addr} {C_BadSlip : Addr} {C_Slip : Addr} {G_SLIP_WORDS : Addr} {G_RESERVED : Addr}
local macro_rules | `(tactic| walk_at "s") => `(tactic| (first
  | (with_reducible refine r_sl ?_)
  | (with_reducible refine r_kS1 ?_)
  | (with_reducible refine r_kS2 ?_)
  | (with_reducible refine r_kS3 ?_)
  | (with_reducible refine r_noPart ?_)
  | (with_reducible refine r_part ?_)
  | (with_reducible refine r_kPart ?_)
  | (with_reducible refine r_gsub ?_)
  | (with_reducible refine r_m1 ?_)
  | (with_reducible refine r_kM1 ?_)
  | (with_reducible refine r_propF ?_)
  | (with_reducible refine r_drp ?_)
  | (with_reducible refine r_min2S ?_)
  | (with_reducible refine r_max2S ?_)
  | (with_reducible refine r_enumS ?_)
  | (with_reducible refine r_cEnumS ?_)
  | (with_reducible refine r_makeKS ?_)
  | (with_reducible refine r_makeS ?_)))

local macro_rules | `(tactic| walk_at "s") => `(tactic| (first
  | (with_reducible refine r_smeth ?_)
  | (with_reducible refine r_kSMeth ?_)))

/-! ### is_place, slip_of, Slip.read -/
theorem inS_one {p : Str} {H : Hp} {Q : VK} (h : p.length = 1) (q : Q (.bl (p.cps.toList.all fun c => decide (c ∈ digits.cps.toList))) H) : rInS (.str p) (.str digits) H Q := by
  rw [Rd.str_length] at h
  cases e : p.cps.toList with
  | nil =>
    rw [e] at h
    cases h
  | cons c r =>
    rw [e] at h
    have hr : r = [] := by
      cases r with
      | nil => rfl
      | cons _ _ => simp at h
    subst hr
    have ep : p = ⟨#[c]⟩ := str_ext e
    subst ep
    refine r_inC (z := digits) ?_
    have : (([c] : List Nat).all fun c => decide (c ∈ digits.cps.toList)) = decide (c ∈ digits.cps.toList) := by simp
    rw [← this]
    exact q
def sp_is_place : Sp := fun vs H Q _ => ∃ p : Str, vs = [.str p] ∧ p.length ≤ 1000 ∧ Q (.bl (isPlace p)) H
theorem place_and {p : Str} : (((p.length : Nat) : Int) = 1) ↔ p.length = 1 := by omega
abbrev s_is_place : Stmt := top 20
theorem sc_is_place : FnScope ["piece"] ["piece"] (defScope s_is_place) :=
  ⟨rfl, rfl, rfl, by decide +kernel, rfl, by decide +kernel, by decide +kernel⟩
theorem ok_is_place {f : Addr} {fd : FuncData} (F : Fun K "is_place" "is_place" s_is_place f fd) (T : Txt K mg C_Swap C_Leave C_Double C_Names C_Drop C_BadSlip C_Slip G_SLIP_WORDS G_RESERVED) :
    FnOk P w K mg base CX0 2 f fd ["piece"] (sp_is_place) := by
  refine F.ok sc_is_place (fun vs H Q E h => ?_) (fun cdv A outer s H vs Q E hr h => ?_)
  · obtain ⟨p, rfl, _⟩ := h
    rfl
  · obtain ⟨p, rfl, hl, q⟩ := h
    have hu := hu_of hr
    have hu64 := hr.units
    refine ⟨_, (pss_one (ps_ret (pe_and (pe_cmpR op_eq (pe_callB cr_lenS (by rfl) T.z_len (by decide +kernel) (pa_cons (pv 0) pa_nil)) pe_int (nomark _)) (pe_one (pe_cmpR op_inS (pv 0) pe_str (by with_unfolding_all rfl)))))), ?_⟩
    walk_at "S"
    refine r_lenS (Nat.le_trans hl (by decide)) ?_
    walk_at "S"
    refine r_kAndV (fun c => ?_) (fun c => ?_)
    · have c := of_decide_eq_true c
      have c1 : p.length = 1 := by omega
      walk_at "S"
      refine inS_one c1 ?_
      have e : isPlace p = (p.cps.toList.all fun c => decide (c ∈ digits.cps.toList)) := by
        unfold isPlace
        rw [decide_eq_true c1, Bool.true_and]
      rw [← e]
      exact q
    · have c := of_decide_eq_false c
      have e : isPlace p = false := by
        unfold isPlace
        rw [decide_eq_false (by omega), Bool.false_and]
      rw [← e]
      exact q
def sp_slip_of (S : Addr → Prop) : Sp := fun vs H Q _ => ∃ (L : Addr) (ps : List Str) (k : Nat) (ds : List PyData), vs = [.ref L] ∧ H L = some (.lst (ps.map V.str)) ∧ Tells ps k ds ∧ ∀ a H', Kp [] H H' → SlipAt S H' a (.int (k : Int) :: ds) → Q (.ref a) H'
theorem w0 : decide (("swap" : Str) = "swap") = true ∧ decide (("leave" : Str) = "swap") = false ∧ decide (("double" : Str) = "swap") = false ∧ decide (("names" : Str) = "swap") = false ∧ decide (("drop" : Str) = "swap") = false := by decide +kernel
theorem w1 : decide (("leave" : Str) = "leave") = true ∧ decide (("double" : Str) = "leave") = false ∧ decide (("names" : Str) = "leave") = false ∧ decide (("drop" : Str) = "leave") = false := by decide +kernel
theorem w2 : decide (("double" : Str) = "double") = true ∧ decide (("names" : Str) = "double") = false ∧ decide (("drop" : Str) = "double") = false := by decide +kernel
theorem w3 : decide (("names" : Str) = "names") = true ∧ decide (("drop" : Str) = "names") = false := by decide +kernel
abbrev s_slip_of : Stmt := top 21
theorem sc_slip_of : FnScope ["pieces"] ["pieces"] (defScope s_slip_of) :=
  ⟨rfl, rfl, rfl, by decide +kernel, rfl, by decide +kernel, by decide +kernel⟩
theorem ok_slip_of {f : Addr} {fd : FuncData} (F : Fun K "slip_of" "slip_of" s_slip_of f fd) (T : Txt K mg C_Swap C_Leave C_Double C_Names C_Drop C_BadSlip C_Slip G_SLIP_WORDS G_RESERVED) (U_Swap___init__ : UseCK P w K mg base 4 "Swap" C_Swap ["self", "first", "second"] (sp_Swap___init__ C_Swap C_BadSlip)) (U_Leave___init__ : UseCK P w K mg base 4 "Leave" C_Leave ["self", "place"] (sp_Leave___init__ C_Leave)) (U_Double___init__ : UseCK P w K mg base 4 "Double" C_Double ["self", "place"] (sp_Double___init__ C_Double)) (U_Names___init__ : UseCK P w K mg base 4 "Names" C_Names ["self", "first", "second"] (sp_Names___init__ C_Names C_BadSlip)) (U_Drop___init__ : UseCK P w K mg base 4 "Drop" C_Drop ["self", "word"] (sp_Drop___init__ C_Drop)) :
    FnOk P w K mg base CX0 6 f fd ["pieces"] (sp_slip_of (FamS [C_Swap, C_Leave, C_Double, C_Names, C_Drop])) := by
  refine F.ok sc_slip_of (fun vs H Q E h => ?_) (fun cdv A outer s H vs Q E hr h => ?_)
  · obtain ⟨L, ps, k, ds, rfl, _⟩ := h
    rfl
  · obtain ⟨L, ps, k, ds, rfl, eL, hT, q⟩ := h
    obtain ⟨f_Swap___init__, R_Swap___init__, M_Swap___init__, g_Swap___init__⟩ := U_Swap___init__.x
    obtain ⟨f_Leave___init__, R_Leave___init__, M_Leave___init__, g_Leave___init__⟩ := U_Leave___init__.x
    obtain ⟨f_Double___init__, R_Double___init__, M_Double___init__, g_Double___init__⟩ := U_Double___init__.x
    obtain ⟨f_Names___init__, R_Names___init__, M_Names___init__, g_Names___init__⟩ := U_Names___init__.x
    obtain ⟨f_Drop___init__, R_Drop___init__, M_Drop___init__, g_Drop___init__⟩ := U_Drop___init__.x
    have hu := hu_of hr
    have hu64 := hr.units
    refine ⟨_, (pss_cons (ps_if (pt_cmpR op_eq (pe_ix (K_ixL (K := K) rfl) (pv 0) pe_int (fun _ _ => rfl)) pe_str (nomark _))
          (pss_one (ps_ret (pe_makeR M_Swap___init__ R_Swap___init__ (hr.mono (by first | decide | omega)) (by rfl) g_Swap___init__ passL (pa_cons (pe_callTy call_int_str (by rfl) T.z_int (by decide +kernel) (pa_cons (pe_ix (K_ixL (K := K) rfl) (pv 0) pe_int (fun _ _ => rfl)) pa_nil)) (pa_cons (pe_callTy call_int_str (by rfl) T.z_int (by decide +kernel) (pa_cons (pe_ix (K_ixL (K := K) rfl) (pv 0) pe_int (fun _ _ => rfl)) pa_nil)) pa_nil)))))
          pss_nil)
        (pss_cons (ps_if (pt_cmpR op_eq (pe_ix (K_ixL (K := K) rfl) (pv 0) pe_int (fun _ _ => rfl)) pe_str (nomark _))
          (pss_one (ps_ret (pe_makeR M_Leave___init__ R_Leave___init__ (hr.mono (by first | decide | omega)) (by rfl) g_Leave___init__ passL (pa_cons (pe_callTy call_int_str (by rfl) T.z_int (by decide +kernel) (pa_cons (pe_ix (K_ixL (K := K) rfl) (pv 0) pe_int (fun _ _ => rfl)) pa_nil)) pa_nil))))
          pss_nil)
        (pss_cons (ps_if (pt_cmpR op_eq (pe_ix (K_ixL (K := K) rfl) (pv 0) pe_int (fun _ _ => rfl)) pe_str (nomark _))
          (pss_one (ps_ret (pe_makeR M_Double___init__ R_Double___init__ (hr.mono (by first | decide | omega)) (by rfl) g_Double___init__ passL (pa_cons (pe_callTy call_int_str (by rfl) T.z_int (by decide +kernel) (pa_cons (pe_ix (K_ixL (K := K) rfl) (pv 0) pe_int (fun _ _ => rfl)) pa_nil)) pa_nil))))
          pss_nil)
        (pss_cons (ps_if (pt_cmpR op_eq (pe_ix (K_ixL (K := K) rfl) (pv 0) pe_int (fun _ _ => rfl)) pe_str (nomark _))
          (pss_one (ps_ret (pe_makeR M_Names___init__ R_Names___init__ (hr.mono (by first | decide | omega)) (by rfl) g_Names___init__ passL (pa_cons (pe_ix (K_ixL (K := K) rfl) (pv 0) pe_int (fun _ _ => rfl)) (pa_cons (pe_ix (K_ixL (K := K) rfl) (pv 0) pe_int (fun _ _ => rfl)) pa_nil)))))
          pss_nil)
        (pss_one (ps_ret (pe_makeR M_Drop___init__ R_Drop___init__ (hr.mono (by first | decide | omega)) (by rfl) g_Drop___init__ passL (pa_cons (pe_ix (K_ixL (K := K) rfl) (pv 0) pe_int (fun _ _ => rfl)) pa_nil)))))))), ?_⟩
    have ix : ∀ {j : Nat} {w : Str} {Q : VK}, ps[j]? = some w → Q (.str w) H → rIxL K (.ref L) (.int (j : Nat)) H Q := fun {j w Q} e q => r_ixL (SqL.of eL) (atI_nat (by rw [List.getElem?_map, e]; rfl)) q
    walk_at "S"
    cases hT with
    | @swap a b ha hb ne =>
      refine ix (j := 0) rfl ?_
      walk_at "S"
      refine r_kIfS1 w0.1 ?_
      walk_at "S"
      refine ix (j := 1) rfl ?_
      walk_at "S"
      refine ⟨_, _, rfl, (dig_text ha).1, (dig_text ha).2, ?_⟩
      walk_at "S"
      refine ix (j := 2) rfl ?_
      walk_at "S"
      refine ⟨_, _, rfl, (dig_text hb).1, (dig_text hb).2, ?_⟩
      walk_at "S"
      exact r_kMake fun o dx H1 n1 k1 e1 => swap_made .hd n1 k1 e1 (fun e => ne (dig_inj ha hb e)) fun o H1 k1 s1 => q o H1 k1 s1
    | @names a b ha hb ne =>
      refine ix (j := 0) rfl ?_
      walk_at "S"
      refine r_kIfS0 w0.2.2.2.1 ?_
      walk_at "S"
      refine ix (j := 0) rfl ?_
      walk_at "S"
      refine r_kIfS0 w1.2.2.1 ?_
      walk_at "S"
      refine ix (j := 0) rfl ?_
      walk_at "S"
      refine r_kIfS0 w2.2.1 ?_
      walk_at "S"
      refine ix (j := 0) rfl ?_
      walk_at "S"
      refine r_kIfS1 w3.1 ?_
      walk_at "S"
      refine ix (j := 1) rfl ?_
      walk_at "S"
      refine ix (j := 2) rfl ?_
      walk_at "S"
      exact r_kMake fun o dx H1 n1 k1 e1 => names_made (.tl (.tl (.tl .hd))) n1 k1 e1 ne fun o H1 k1 s1 => q o H1 k1 s1
    | @leave a ha =>
      refine ix (j := 0) rfl ?_
      walk_at "S"
      refine r_kIfS0 w0.2.1 ?_
      walk_at "S"
      refine ix (j := 0) rfl ?_
      walk_at "S"
      refine r_kIfS1 w1.1 ?_
      walk_at "S"
      refine ix (j := 1) rfl ?_
      walk_at "S"
      refine ⟨_, _, rfl, (dig_text ha).1, (dig_text ha).2, ?_⟩
      walk_at "S"
      exact r_kMake fun o dx H1 n1 k1 e1 => ⟨o, dx, _, rfl, e1, leave_made (k := 1) (d := .int (digOf a)) (.tl .hd) n1 k1 (fun _ => .int _) fun o H1 k1 s1 => q o H1 k1 s1⟩
    | @double a ha =>
      refine ix (j := 0) rfl ?_
      walk_at "S"
      refine r_kIfS0 w0.2.2.1 ?_
      walk_at "S"
      refine ix (j := 0) rfl ?_
      walk_at "S"
      refine r_kIfS0 w1.2.1 ?_
      walk_at "S"
      refine ix (j := 0) rfl ?_
      walk_at "S"
      refine r_kIfS1 w2.1 ?_
      walk_at "S"
      refine ix (j := 1) rfl ?_
      walk_at "S"
      refine ⟨_, _, rfl, (dig_text ha).1, (dig_text ha).2, ?_⟩
      walk_at "S"
      exact r_kMake fun o dx H1 n1 k1 e1 => ⟨o, dx, _, rfl, e1, leave_made (k := 2) (d := .int (digOf a)) (.tl (.tl .hd)) n1 k1 (fun _ => .int _) fun o H1 k1 s1 => q o H1 k1 s1⟩
    | @drop a ha =>
      refine ix (j := 0) rfl ?_
      walk_at "S"
      refine r_kIfS0 w0.2.2.2.2 ?_
      walk_at "S"
      refine ix (j := 0) rfl ?_
      walk_at "S"
      refine r_kIfS0 w1.2.2.2 ?_
      walk_at "S"
      refine ix (j := 0) rfl ?_
      walk_at "S"
      refine r_kIfS0 w2.2.2 ?_
      walk_at "S"
      refine ix (j := 0) rfl ?_
      walk_at "S"
      refine r_kIfS0 w3.2 ?_
      walk_at "S"
      refine ix (j := 1) rfl ?_
      walk_at "S"
      exact r_kMake fun o dx H1 n1 k1 e1 => ⟨o, dx, _, rfl, e1, leave_made (k := 4) (d := .str a) (.tl (.tl (.tl (.tl .hd)))) n1 k1 (fun _ => .str _) fun o H1 k1 s1 => q o H1 k1 s1⟩
theorem mem_sum {x : Nat} : ∀ {l : List Nat}, x ∈ l → x ≤ l.sum
  | [], h => nomatch h
  | y :: l, h => by
    rw [List.sum_cons]
    rcases List.mem_cons.mp h with rfl | h
    · omega
    · have := mem_sum h
      omega
/-- the pieces of a text -/
theorem pieces_ok (z : Str) : ∃ w rest, Txt.split z (Str.ofString " ") = w :: rest ∧ (w :: rest).length ≤ z.length + 1 ∧ ∀ p ∈ w :: rest, p.length ≤ z.length + 1 := by
  have h1 := PyProof.Rows.split_pos z (Str.ofString " ")
  have h2 := PyProof.Rows.split_weight z (Str.ofString " ") (by decide)
  cases e : Txt.split z (Str.ofString " ") with
  | nil =>
    rw [e] at h1
    cases h1
  | cons w rest =>
    rw [e] at h2
    refine ⟨w, rest, rfl, by omega, fun p m => ?_⟩
    have := mem_sum (List.mem_map.mpr ⟨p, m, rfl⟩ : p.length ∈ (w :: rest).map (·.length))
    omega
def sp_Slip_read (S : Addr → Prop) (CB : Addr) : Sp := fun vs H Q E => ∃ (v : V) (d : PyData), vs = [v] ∧ Dt [] H v d ∧ (∀ z, d = .str z → z.length ≤ 500) ∧
  (∀ z k ds, d = .str z → slipKey (Txt.split z (Str.ofString " ")) = some (k, ds) → ∀ a H', Kp [] H H' → SlipAt S H' a (.int (k : Int) :: ds) → Q (.ref a) H') ∧
  ((∀ z, d = .str z → slipKey (Txt.split z (Str.ofString " ")) = none) → ∀ e H', H e = none → Kp [] H H' → H' e = some (.xd [("what", v)]) → E (.ref CB) (some e) H')
abbrev s_Slip_read : Stmt := inClass (top 14) 9
theorem sc_Slip_read : FnScope ["text", "pieces", "many", "by_place", "piece"] ["text"] (defScope s_Slip_read) :=
  ⟨rfl, rfl, rfl, by decide +kernel, rfl, by decide +kernel, by decide +kernel⟩
theorem ok_Slip_read {f : Addr} {fd : FuncData} (F : Fun K "read" "Slip.read" s_Slip_read f fd) (T : Txt K mg C_Swap C_Leave C_Double C_Names C_Drop C_BadSlip C_Slip G_SLIP_WORDS G_RESERVED) (U_is_name : Use P w K mg base 4 "is_name" ["thing"] (sp_is_name)) (U_is_place : Use P w K mg base 2 "is_place" ["piece"] (sp_is_place)) (U_slip_of : Use P w K mg base 6 "slip_of" ["pieces"] (sp_slip_of (FamS [C_Swap, C_Leave, C_Double, C_Names, C_Drop]))) (U_BadSlip : Exc1 P w K mg base 1 "BadSlip" "what" C_BadSlip) :
    FnOk P w K mg base (L2.CX P w) 8 f fd ["text"] (sp_Slip_read (FamS [C_Swap, C_Leave, C_Double, C_Names, C_Drop]) C_BadSlip) := by
  refine F.okX sc_Slip_read (fun vs H Q E h => ?_) (fun cdv A outer s H vs Q E hr h => ?_)
  · obtain ⟨v, d, rfl, _⟩ := h
    rfl
  · obtain ⟨v, d, rfl, hD, hz, q1, q2⟩ := h
    have hu := hu_of hr
    have hu64 := hr.units
    refine ⟨_, (pss_cons (ps_if (pt_not (pt_val (pe_callB (K_isi (K := K) rfl) (by rfl) T.z_isinstance (by decide +kernel) (pa_cons (pv 0) (pa_cons (pe_bltn (v := .ty "str") (u := .type "str") (by rfl) T.z_str (by decide +kernel) rfl) pa_nil)))))
          (pss_one (ps_raise1 U_BadSlip (hr.mono (by first | decide | omega)) (by rfl) (takes_of rfl rfl rfl rfl) (by rfl) (pa_cons (pv 0) pa_nil)))
          pss_nil)
        (pss_cons (ps_set (i := 1) sc_Slip_read.nd rfl (by first | exact Or.inl rfl | exact Or.inr rfl) (pe_split (pv 0) pe_str))
        (pss_cons (ps_set (i := 2) sc_Slip_read.nd rfl (by first | exact Or.inl rfl | exact Or.inr rfl) (pe_cutE (pe_ifExp (pt_cmpR (K_in (K := K) rfl) (pe_ix (K_ixL (K := K) rfl) (pv 1) pe_int (fun _ _ => rfl)) (pe_tup (pa_cons pe_str (pa_cons pe_str pa_nil))) (by with_unfolding_all rfl)) pe_int pe_int)))
        (pss_cons (ps_if (pt_cutT (PW.pt (pw_or (pt_cmpR (K_notIn (K := K) rfl) (pe_ix (K_ixL (K := K) rfl) (pv 1) pe_int (fun _ _ => rfl)) (pe_globE T.g_SLIP_WORDS (by rfl)) (by with_unfolding_all rfl)) (pw_or1 (pt_cmpR op_ne (pe_callB (K_len (K := K) rfl) (by rfl) T.z_len (by decide +kernel) (pa_cons (pv 1) pa_nil)) (pv 2) (nomark _))))))
          (pss_one (ps_raise1 U_BadSlip (hr.mono (by first | decide | omega)) (by rfl) (takes_of rfl rfl rfl rfl) (by rfl) (pa_cons (pv 0) pa_nil)))
          pss_nil)
        (pss_cons (ps_set (i := 3) sc_Slip_read.nd rfl (by first | exact Or.inl rfl | exact Or.inr rfl) (pe_cmpR (K_in (K := K) rfl) (pe_ix (K_ixL (K := K) rfl) (pv 1) pe_int (fun _ _ => rfl)) (pe_tup (pa_cons pe_str (pa_cons pe_str (pa_cons pe_str pa_nil)))) (by with_unfolding_all rfl)))
        (pss_cons (ps_if (pt_not (pt_val (pe_callB (K_all (K := K) rfl rfl) (by rfl) T.z_all (by decide +kernel) (pa_cons (pe_lc (own := [("piece", 4)]) (by rfl) sc_Slip_read.nd (K_pil (K := K) rfl (pe_slice (K_slL (K := K) rfl) (pv 1) (po_some pe_int) po_none)) (blkOk_by (own := [("piece", 4)]) (N := ["text", "pieces", "many", "by_place", "piece"]) (sc := defScope s_Slip_read) (by decide +kernel)) (fun _ _ _ _ _ => (pg_name (i := 4) sc_Slip_read.nd rfl (by first | exact Or.inl rfl | exact Or.inr rfl))) (fun _ _ _ _ _ => pts_nil) (fun _ _ _ _ _ => (pe_ifExp (pt_val (pv 3)) (pe_use U_is_place (hr.mono (by first | decide | omega)) (by rfl) (pa_cons (pv 4) pa_nil)) (pe_use U_is_name (hr.mono (by first | decide | omega)) (by rfl) (pa_cons (pv 4) pa_nil))))) pa_nil))))
          (pss_one (ps_raise1 U_BadSlip (hr.mono (by first | decide | omega)) (by rfl) (takes_of rfl rfl rfl rfl) (by rfl) (pa_cons (pv 0) pa_nil)))
          pss_nil)
        (pss_cons (ps_if (pt_cmpR (K_in (K := K) rfl) (pe_ix (K_ixL (K := K) rfl) (pv 1) pe_int (fun _ _ => rfl)) (pe_slice (K_slL (K := K) rfl) (pv 1) (po_some pe_int) po_none) (by with_unfolding_all rfl))
          (pss_one (ps_raise1 U_BadSlip (hr.mono (by first | decide | omega)) (by rfl) (takes_of rfl rfl rfl rfl) (by rfl) (pa_cons (pv 0) pa_nil)))
          pss_nil)
        (pss_one (ps_ret (pe_use U_slip_of (hr.mono (by first | decide | omega)) (by rfl) (pa_cons (pv 1) pa_nil))))))))))), ?_⟩
    have big : 5000 ≤ sizeLine := by decide
    walk_at "S"
    refine r_isiStr hD ?_
    walk_at "S"
    refine r_kIfS (fun c => ?_) (fun c => ?_)
    · refine r_raise1 ?_
      walk_at "S"
      refine r_kMkO fun e H' ne k eE => q2 (fun z hz => ?_) e H' ne k eE
      subst hz
      cases c
    have c' : isStr d = true := by simpa using c
    obtain ⟨z, rfl⟩ : ∃ z, d = .str z := by
      cases d <;> first | exact ⟨_, rfl⟩ | cases c'
    have hz := hz z rfl
    cases hD
    obtain ⟨w, rest, hp, hlen, hpl⟩ := pieces_ok z
    have none_of : slipKey (w :: rest) = none → ∀ {Hc : Hp}, Kp [] H Hc → kMkO C_BadSlip "what" (fun cls d H' => E cls d H') [.str z] Hc := fun hn {Hc} kc =>
      r_kMkO fun e H' ne k eE => q2 (fun z' hz' => by cases hz'; rw [hp]; exact hn) e H' (kc.free ne not_nil) (kc.trans k) eE
    walk_at "S"
    refine ⟨z, " ", rfl, rfl, by decide, by omega, fun L nL => ?_⟩
    have k1 : Kp [] H (upd H L (.lst ((Txt.split z (Str.ofString " ")).map V.str))) := Kp.new nL
    have e1 : upd H L (.lst ((Txt.split z (Str.ofString " ")).map V.str)) L = some (.lst ((Txt.split z (Str.ofString " ")).map V.str)) := upd_same
    generalize upd H L (.lst ((Txt.split z (Str.ofString " ")).map V.str)) = H1 at k1 e1
    rw [hp] at e1
    have ix0 : ∀ {Hc : Hp} {Q : VK}, Kp [] H1 Hc → Q (.str w) Hc → rIxL K (.ref L) (.int 0) Hc Q := fun k q => r_ixL (SqL.of (k _ _ e1 not_nil)) (atI_nat (j := 0) rfl) q
    walk_at "S"
    refine r_cutE (fun x H' => Kp [] H1 H' ∧ x = .int ((manyOf w : Nat) : Int)) ?_ ?_
    · walk_at "S"
      refine ix0 (Kp.refl _ _) ?_
      walk_at "S"
      refine r_kTup (xs := ([("swap" : Str), "names"]).map V.str) (by show 2 ≤ sizeLine; decide) fun t H2 nt k2 et => ?_
      refine r_inT (SqT.of et) ?_
      walk_at "S"
      refine r_kIf (fun c => ?_) (fun c => ?_)
      all_goals walk_at "S"
      · refine ⟨k2, ?_⟩
        have : manyOf w = 3 := if_pos (of_decide_eq_true c)
        rw [this]
        rfl
      · refine ⟨k2, ?_⟩
        have : manyOf w = 2 := if_neg (of_decide_eq_false c)
        rw [this]
        rfl
    rintro x H2 ⟨k2, rfl⟩
    walk_at "S"
    refine r_cutT (fun b H' => H2 = H' ∧ b = !(decide (w ∈ slipWords) && decide ((w :: rest).length = manyOf w))) ?_ ?_
    · walk_at "S"
      refine ix0 k2 ?_
      walk_at "S"
      refine r_ninT (ws := slipWords) (T.q_SLIP_WORDS H2) ?_
      walk_at "S"
      refine r_kOr (fun c => ?_) (fun c => ?_)
      · have c : decide (w ∈ slipWords) = false := by simpa using c
        refine ⟨rfl, ?_⟩
        rw [c]
        rfl
      · have c : decide (w ∈ slipWords) = true := by simpa using c
        walk_at "S"
        refine r_lenL (SqL.of (k2 _ _ e1 not_nil)) ?_
        walk_at "S"
        refine ⟨rfl, ?_⟩
        rw [c, Bool.true_and, List.length_map]
        congr 1
        by_cases h : (w :: rest).length = manyOf w
        · rw [decide_eq_true h, decide_eq_true (congrArg (fun n : Nat => (n : Int)) h)]
        · rw [decide_eq_false h]
          exact decide_eq_false fun z => h (by omega)
    rintro b H' ⟨rfl, rfl⟩
    refine r_kIfS (fun c => ?_) (fun c => ?_)
    · refine r_raise1 ?_
      walk_at "S"
      refine none_of ?_ (k1.trans k2)
      cases hn : slipKey (w :: rest) with
      | none => rfl
      | some x =>
        have h := key_word (w := w) (rest := rest) (by rw [hn]; exact fun z => nomatch z)
        rw [decide_eq_true h.1, decide_eq_true h.2] at c
        cases c
    have c2 : decide (w ∈ slipWords) = true ∧ decide ((w :: rest).length = manyOf w) = true := by
      rw [Bool.not_eq_false', Bool.and_eq_true] at c
      exact c
    have hw := of_decide_eq_true c2.1
    have hl := of_decide_eq_true c2.2
    obtain ⟨a, r2, rfl⟩ : ∃ a r2, rest = a :: r2 := by
      rcases shape_of hw hl with ⟨x, y, _, e⟩ | ⟨x, _, e⟩
      · exact ⟨_, _, e⟩
      · exact ⟨_, _, e⟩
    walk_at "S"
    refine ix0 k2 ?_
    walk_at "S"
    refine r_kTup (xs := ([("swap" : Str), "leave", "double"]).map V.str) (by show 3 ≤ sizeLine; decide) fun t H3 nt k3 et => ?_
    refine r_inT (SqT.of et) ?_
    walk_at "S"
    have k13 := k2.trans k3
    refine r_slL (SqL.of (k13 _ _ e1 not_nil)) fun L2 H4 nL2 k4 e4 => ?_
    rw [cut_1] at e4
    have e4 : H4 L2 = some (.lst ((a :: r2).map V.str)) := e4
    refine r_cWL (SqL.of e4) ?_
    refine r_kLcL (fun D i ac H' => Kp [] H4 H' ∧ ac = (((a :: r2).take i).map (okP w)).map V.bl) (fun D H' nD k e => ⟨k, rfl⟩) (fun D i ac H' _ h => SqL.of (h.1 _ _ e4 not_nil)) ?_ ?_
    · rintro D i ac x H5 nD hx eD ⟨k5, rfl⟩
      obtain ⟨p, hpx, rfl⟩ := map_at hx
      have hpl' : p.length ≤ 1000 := by
        have := hpl p (List.mem_cons_of_mem _ (mem_at hpx))
        omega
      walk_at "S"
      have fin : ∀ (H6 : Hp) (b : Bool), Kp [] H5 H6 → b = okP w p → kApp D (kN (fun ac H' => Kp [] H4 H' ∧ ac = (((a :: r2).take (i + 1)).map (okP w)).map V.bl) D) (.bl b) H6 := fun H6 b k6 hb => by
        refine r_kApp (k6 _ _ eD not_nil) ?_ fun H7 k7 e7 => ⟨(k5.trans k6).step nD k7, ?_⟩
        · rw [List.length_map, List.length_map, List.length_take]
          have h5 : (a :: r2).length ≤ 501 := by
            rw [List.length_cons] at hlen
            omega
          omega
        · rw [hb, take_map _ hpx, List.map_append]
          rfl
      refine r_kIf (fun c => ?_) (fun c => ?_)
      · walk_at "S"
        refine ⟨p, rfl, hpl', ?_⟩
        exact fin H5 _ (Kp.refl _ _) (by unfold okP; rw [if_pos (show byPlace w = true from c)])
      · walk_at "S"
        refine ⟨.str p, .str p, rfl, .str p, fun z hz => ?_, fun H6 k6 => ?_⟩
        · cases hz
          exact hpl'
        · exact fin H6 _ k6 (by unfold okP; rw [if_neg (by rw [show byPlace w = false from c]; simp)]; rfl)
    rintro D ac H5 nD eD ⟨k5, rfl⟩
    have eD : H5 D = some (.lst (((a :: r2).map (okP w)).map V.bl)) := by
      have e : (((a :: r2).map V.str).length) = (a :: r2).length := List.length_map _
      rw [e, List.take_length] at eD
      exact eD
    walk_at "S"
    refine r_all (SqL.of eD) ?_
    have eall : (((a :: r2).map (okP w)).all id) = (a :: r2).all (okP w) := by
      rw [List.all_map]
      rfl
    rw [eall]
    walk_at "S"
    have k15 := k13.trans (k4.trans k5)
    refine r_kIfS (fun c => ?_) (fun c => ?_)
    · refine r_raise1 ?_
      walk_at "S"
      refine none_of ?_ (k1.trans k15)
      cases hn : slipKey (w :: a :: r2) with
      | none => rfl
      | some x =>
        have h := key_all (w := w) (rest := a :: r2) (by rw [hn]; exact fun z => nomatch z)
        rw [h] at c
        cases c
    have hall : (a :: r2).all (okP w) = true := by simpa using c
    walk_at "S"
    refine r_ixL (SqL.of (k15 _ _ e1 not_nil)) (atI_nat (j := 1) rfl) ?_
    walk_at "S"
    refine r_slL (SqL.of (k15 _ _ e1 not_nil)) fun L3 H6 nL3 k6 e6 => ?_
    rw [show (some (2 : Int)) = some ((2 : Nat) : Int) from rfl, cut_from] at e6
    have e6 : H6 L3 = some (.lst (r2.map V.str)) := e6
    refine r_inL (SqL.of e6) ?_
    walk_at "S"
    have k16 := k15.trans k6
    refine r_kIfS (fun c => ?_) (fun c => ?_)
    · refine r_raise1 ?_
      walk_at "S"
      refine none_of ?_ (k1.trans k16)
      cases hn : slipKey (w :: a :: r2) with
      | none => rfl
      | some x =>
        have h := key_dup (w := w) (a := a) (rest := r2) (by rw [hn]; exact fun z => nomatch z)
        exact absurd (of_decide_eq_true c) h
    · walk_at "S"
      obtain ⟨k, ds, hk⟩ := key_some hw hl hall (of_decide_eq_false c)
      refine ⟨L, _, k, ds, rfl, k16 _ _ e1 not_nil, Tells.of hk, fun o H7 k7 s7 => ?_⟩
      exact q1 z k ds rfl (by rw [hp]; exact hk) o H7 (k1.trans (k16.trans k7)) s7

/-! ### the law's own reading -/
theorem perm_two {α : Type} {ys : List α} {a b : α} (h : ys.Perm [a, b]) : ys = [a, b] ∨ ys = [b, a] := by
  have hl := h.length_eq
  match ys, hl with
  | [x, y], _ =>
    have hx : x ∈ [a, b] := h.subset List.mem_cons_self
    simp only [List.mem_cons, List.not_mem_nil, or_false] at hx
    rcases hx with rfl | rfl
    · have := (List.Perm.cons_inv h)
      rw [List.perm_singleton] at this
      left
      rw [this]
    · have h2 : [x, y].Perm [x, a] := h.trans (List.Perm.swap x a [])
      have := List.Perm.cons_inv h2
      rw [List.perm_singleton] at this
      right
      rw [this]
theorem sort_two {ys : List Str} {a b : Str} (h : ys.Perm [a, b]) (s : PyProof.Rows.sortedS ys = true) : ys = [minS a b, maxS a b] := by
  have go : ∀ {x y : Str}, PyProof.Rows.sortedS [x, y] = true → slt y x = false := fun {x y} h => by
    have h' : (!PySem.Spec.ltCps y.cps.toList x.cps.toList && true) = true := h
    rw [Bool.and_true, PyProof.Rows.ltCps_eq] at h'
    unfold slt
    simpa using h'
  rcases perm_two h with rfl | rfl
  · have h1 := go s
    unfold minS maxS
    rw [h1]
    cases h2 : slt a b
    · rw [slt_tri h2 h1]
      rfl
    · rfl
  · have h1 := go s
    unfold minS maxS
    rw [h1]
    cases h2 : slt b a
    · rw [slt_tri h2 h1]
      rfl
    · rfl
theorem sort_twoI {ys : List Int} {a b : Int} (h : ys.Perm [a, b]) (s : ys.Pairwise (· ≤ ·)) : ys = [mnI a b, mxI a b] := by
  rcases perm_two h with rfl | rfl
  · have h1 : a ≤ b := (List.pairwise_cons.mp s).1 b List.mem_cons_self
    unfold mnI mxI
    rw [if_neg (by omega)]
    by_cases c : b > a
    · rw [if_pos c]
    · rw [if_neg c, show a = b by omega]
  · have h1 : b ≤ a := (List.pairwise_cons.mp s).1 a List.mem_cons_self
    unfold mnI mxI
    rw [if_neg (by omega : ¬ b > a)]
    by_cases c : b < a
    · rw [if_pos c]
    · rw [if_neg c, show a = b by omega]
theorem r_sortS {K : PySem.W.Frag} {H : Hp} {Q : VK} {a : Addr} {xs : List Str} (h : SqL K H a (xs.map V.str)) (hl : xs.length < 64) (q : ∀ (ys : List Str) (p : Addr) (H' : Hp), ys.Perm xs → PyProof.Rows.sortedS ys = true → H p = none → Kp [] H H' → H' p = some (.lst (ys.map V.str)) → Q (.ref p) H') : rSortedS K [.ref a] H Q :=
  ⟨a, xs, rfl, h, hl, fun ys p hp hs n => q ys p _ hp hs n (Kp.new n) upd_same⟩
theorem r_sortI {K : PySem.W.Frag} {H : Hp} {Q : VK} {a : Addr} {xs : List Int} (h : SqL K H a (xs.map V.int)) (q : ∀ (ys : List Int) (p : Addr) (H' : Hp), ys.Perm xs → ys.Pairwise (· ≤ ·) → H p = none → Kp [] H H' → H' p = some (.lst (ys.map V.int)) → Q (.ref p) H') : rSortedI K [.ref a] H Q :=
  ⟨a, xs, rfl, h, fun ys p hp hs n => q ys p _ hp hs n (Kp.new n) upd_same⟩
theorem lt_idxS {n : Str} : ∀ {l : List Str} {m : Nat} {z : Str}, m < l.idxOf n → l[m]? = some z → z ≠ n
  | [], m, z, _, e => by simp at e
  | x :: l, m, z, h, e => by
    rw [List.idxOf_cons] at h
    by_cases c : x = n
    · subst c
      simp at h
    · have c' : (x == n) = false := beq_eq_false_iff_ne.mpr c
      rw [c'] at h
      cases m with
      | zero =>
        cases e
        exact c
      | succ m => exact lt_idxS (l := l) (m := m) (Nat.lt_of_succ_lt_succ h) e
theorem r_indexS {K : PySem.W.Frag} {H : Hp} {Q : VK} {p : Addr} {ws : List Str} {z : Str} (h : SqL K H p (ws.map V.str)) (m : z ∈ ws) (q : Q (.int (ws.idxOf z : Nat)) H) : rIndex K (.ref p) [.str z] H Q := by
  have hi := List.idxOf_lt_length_of_mem m
  have e : ws[ws.idxOf z]? = some z := by rw [List.getElem?_eq_getElem hi, List.getElem_idxOf]
  refine ⟨p, _, .str z, ws.idxOf z, .str z, rfl, rfl, h, rfl, Rd.flat_strs ws, ?_, ?_, fun j z' hj hz => ?_, q⟩
  · rw [List.getElem?_map, e]
    rfl
  · rw [eqV_str]
    exact decide_eq_true rfl
  · obtain ⟨y, hy, rfl⟩ := map_at hz
    rw [eqV_str]
    exact decide_eq_false (lt_idxS hj hy)
theorem idx_words : slipWords.idxOf ("swap" : Str) = 0 ∧ slipWords.idxOf ("leave" : Str) = 1 ∧ slipWords.idxOf ("double" : Str) = 2 ∧ slipWords.idxOf ("names" : Str) = 3 ∧ slipWords.idxOf ("drop" : Str) = 4 := by decide +kernel
/-- what the sorted rest tells -/
inductive Due (w : Str) (rest : List Str) : List V → Prop
  | two {x y : V} {ds : List PyData} : scal x y = true → (x = y → slipKey (w :: rest) = none) → (x ≠ y → slipKey (w :: rest) = some (slipWords.idxOf w, ds)) → (∀ H, DtAll [] H [x, y] ds) → Due w rest [x, y]
  | one {x : V} {ds : List PyData} : slipKey (w :: rest) = some (slipWords.idxOf w, ds) → (∀ H, DtAll [] H [x] ds) → Due w rest [x]
theorem due_names {w : Str} {rest ys : List Str} (hw : w ∈ slipWords) (hl : (w :: rest).length = manyOf w) (hb : byPlace w = false) (ha : rest.all nameB = true) (hp : ys.Perm rest) (hs : PyProof.Rows.sortedS ys = true) : Due w rest (ys.map V.str) := by
  rcases shape_of hw hl with ⟨a, b, hw', rfl⟩ | ⟨a, hw', rfl⟩
  · rcases hw' with rfl | rfl
    · exact absurd hb (by rw [by0.1]; exact fun z => nomatch z)
    · simp only [List.all_cons, List.all_nil, Bool.and_true, Bool.and_eq_true] at ha
      rw [sort_two hp hs]
      refine Due.two (ds := [.str (minS a b), .str (maxS a b)]) rfl (fun e => ?_) (fun ne => ?_) fun H => .cons (.str _) (.cons (.str _) .nil)
      · have e := V.str.inj e
        cases hk : slipKey ["names", a, b] with
        | none => rfl
        | some x =>
          exfalso
          obtain ⟨k, ds⟩ := x
          cases Tells.of hk with
          | names h1 h2 h3 => exact mm_ne h3 e
      · rw [idx_words.2.2.2.1]
        refine (Tells.names ha.1 ha.2 fun e => ne ?_).key
        rw [e]
        unfold minS maxS
        split <;> rfl
  · have hy : ys = [a] := List.perm_singleton.mp hp
    subst hy
    simp only [List.all_cons, List.all_nil, Bool.and_true] at ha
    rcases hw' with rfl | rfl | rfl
    · exact absurd hb (by rw [by0.2.1]; exact fun z => nomatch z)
    · exact absurd hb (by rw [by0.2.2.1]; exact fun z => nomatch z)
    · refine Due.one (ds := [.str a]) ?_ fun H => .cons (.str _) .nil
      rw [idx_words.2.2.2.2]
      exact (Tells.drop ha).key
theorem due_places {w : Str} {rest : List Str} {ys : List Int} (hw : w ∈ slipWords) (hl : (w :: rest).length = manyOf w) (hb : byPlace w = true) (ha : rest.all isPlace = true) (hp : ys.Perm (rest.map digOf)) (hs : ys.Pairwise (· ≤ ·)) : Due w rest (ys.map V.int) := by
  rcases shape_of hw hl with ⟨a, b, hw', rfl⟩ | ⟨a, hw', rfl⟩
  · rcases hw' with rfl | rfl
    · simp only [List.all_cons, List.all_nil, Bool.and_true, Bool.and_eq_true] at ha
      rw [sort_twoI hp hs]
      refine Due.two (ds := [.int (mnI (digOf a) (digOf b)), .int (mxI (digOf a) (digOf b))]) rfl (fun e => ?_) (fun ne => ?_) fun H => .cons (.int _) (.cons (.int _) .nil)
      · have e := V.int.inj e
        cases hk : slipKey ["swap", a, b] with
        | none => rfl
        | some x =>
          exfalso
          obtain ⟨k, ds⟩ := x
          cases Tells.of hk with
          | swap h1 h2 h3 =>
            have := mi_ne fun z => h3 (dig_inj h1 h2 z)
            omega
      · rw [idx_words.1]
        refine (Tells.swap ha.1 ha.2 fun e => ne ?_).key
        rw [e]
        simp [mnI, mxI]
    · exact absurd hb (by rw [by0.2.2.2.1]; exact fun z => nomatch z)
  · have hy : ys = [digOf a] := List.perm_singleton.mp hp
    subst hy
    simp only [List.all_cons, List.all_nil, Bool.and_true] at ha
    rcases hw' with rfl | rfl | rfl
    · refine Due.one (ds := [.int (digOf a)]) ?_ fun H => .cons (.int _) .nil
      rw [idx_words.2.1]
      exact (Tells.leave ha).key
    · refine Due.one (ds := [.int (digOf a)]) ?_ fun H => .cons (.int _) .nil
      rw [idx_words.2.2.1]
      exact (Tells.double ha).key
    · exact absurd hb (by rw [by0.2.2.2.2]; exact fun z => nomatch z)
theorem not_place {w : Str} (hw : w ∈ slipWords) : decide (w ∈ ([("names" : Str), "drop"] : List Str)) = !byPlace w := by
  have : ∀ w ∈ slipWords, decide (w ∈ ([("names" : Str), "drop"] : List Str)) = !byPlace w := by decide +kernel
  exact this w hw
theorem reserved_split : Txt.split "kind def set ask call again check mean if else end return refuse is self cls" " " = reserved := by decide +kernel
def sp__law_is_name : Sp := fun vs H Q _ => ∃ z : Str, vs = [.str z] ∧ z.length ≤ 1000 ∧ ∀ H', Kp [] H H' → Q (.bl (nameB z)) H'
abbrev s__law_is_name : Stmt := top 28
theorem sc__law_is_name : FnScope ["_law_text", "_law_reserved", "_law_letters", "_law_char"] ["_law_text"] (defScope s__law_is_name) :=
  ⟨rfl, rfl, rfl, by decide +kernel, rfl, by decide +kernel, by decide +kernel⟩
theorem ok__law_is_name {f : Addr} {fd : FuncData} (F : Fun K "_law_is_name" "_law_is_name" s__law_is_name f fd) (T : Txt K mg C_Swap C_Leave C_Double C_Names C_Drop C_BadSlip C_Slip G_SLIP_WORDS G_RESERVED) :
    FnOk P w K mg base CX0 2 f fd ["_law_text"] (sp__law_is_name) := by
  refine F.ok sc__law_is_name (fun vs H Q E h => ?_) (fun cdv A outer s H vs Q E hr h => ?_)
  · obtain ⟨z, rfl, _⟩ := h
    rfl
  · obtain ⟨z, rfl, hz, q⟩ := h
    have hu := hu_of hr
    have hu64 := hr.units
    refine ⟨_, (pss_cons (ps_set (i := 1) sc__law_is_name.nd rfl (by first | exact Or.inl rfl | exact Or.inr rfl) (pe_split pe_str pe_str))
        (pss_cons (ps_set (i := 2) sc__law_is_name.nd rfl (by first | exact Or.inl rfl | exact Or.inr rfl) pe_str)
        (pss_one (ps_ret (pe_and (pe_chain op_le op_le pe_int (pe_callB cr_lenS (by rfl) T.z_len (by decide +kernel) (pa_cons (pv 0) pa_nil)) pe_int) (pe_and (pe_callB (K_all (K := K) rfl rfl) (by rfl) T.z_all (by decide +kernel) (pa_cons (pe_lc (own := [("_law_char", 3)]) (by rfl) sc__law_is_name.nd (pi_str (pv 0)) (blkOk_by (own := [("_law_char", 3)]) (N := ["_law_text", "_law_reserved", "_law_letters", "_law_char"]) (sc := defScope s__law_is_name) (by decide +kernel)) (fun _ _ _ _ _ => (pg_name (i := 3) sc__law_is_name.nd rfl (by first | exact Or.inl rfl | exact Or.inr rfl))) (fun _ _ _ _ _ => pts_nil) (fun _ _ _ _ _ => (pe_cmpR op_inS (pv 3) (pv 2) (by with_unfolding_all rfl)))) pa_nil)) (pe_one (pe_cmpR (K_notIn (K := K) rfl) (pv 0) (pv 1) (by with_unfolding_all rfl))))))))), ?_⟩
    have big : 5000 ≤ sizeLine := by decide
    walk_at "S"
    refine ⟨_, " ", rfl, rfl, by decide, by decide, fun L nL => ?_⟩
    rw [reserved_split]
    have k1 : Kp [] H (upd H L (.lst (reserved.map V.str))) := Kp.new nL
    have e1 : upd H L (.lst (reserved.map V.str)) L = some (.lst (reserved.map V.str)) := upd_same
    generalize upd H L (.lst (reserved.map V.str)) = H1 at k1 e1
    walk_at "S"
    refine r_lenS (by omega) ?_
    walk_at "S"
    have eB : nameB z = ((decide (1 ≤ z.length) && decide (z.length ≤ 8) && z.cps.toList.all fun c => decide (c ∈ letters.cps.toList)) && !decide (z ∈ reserved)) := rfl
    refine r_kCh (fun c1 => ?_) (fun c1 => ?_)
    · walk_at "S"
      have h1 := of_decide_eq_true c1
      refine r_kAndV (fun c2 => ?_) (fun c2 => ?_)
      · have h2 := of_decide_eq_true c2
        walk_at "S"
        refine r_kLcS (fun D i acc H2 => Kp [] H1 H2 ∧ acc = ((z.cps.toList.take i).map fun c => decide (c ∈ letters.cps.toList)).map V.bl) (fun D H2 nD k7 e7 => ⟨k7, rfl⟩) ?_ ?_
        · rintro D i acc c H2 nD hd eD ⟨k7, rfl⟩
          walk_at "S"
          refine r_inC (z := letters) ?_
          refine r_kApp eD ?_ fun H3 k8 e8 => ⟨k7.step nD k8, ?_⟩
          · rw [List.length_map, List.length_map, List.length_take]
            have e := Rd.str_length z
            omega
          · rw [take_map _ hd, List.map_append]
            rfl
        · rintro D acc H2 nD eD ⟨k7, rfl⟩
          rw [List.take_length] at eD
          walk_at "S"
          refine r_all (SqL.of eD) ?_
          have e : ((z.cps.toList.map fun c => decide (c ∈ letters.cps.toList)).all id) = z.cps.toList.all fun c => decide (c ∈ letters.cps.toList) := by
            rw [List.all_map]
            rfl
          rw [e]
          refine r_kAndV (fun c3 => ?_) (fun c3 => ?_)
          · walk_at "S"
            refine r_notInL (SqL.of (k7 _ _ e1 not_nil)) ?_
            have : nameB z = !decide (z ∈ reserved) := by
              rw [eB, decide_eq_true (show 1 ≤ z.length by omega), decide_eq_true (show z.length ≤ 8 by omega), c3]
              rfl
            rw [← this]
            exact q H2 (k1.trans k7)
          · have : nameB z = false := by
              rw [eB, c3, Bool.and_false]
              rfl
            rw [← this]
            exact q H2 (k1.trans k7)
      · have h2 := of_decide_eq_false c2
        have : nameB z = false := by
          rw [eB, decide_eq_false (show ¬ z.length ≤ 8 by omega)]
          simp
        rw [← this]
        exact q H1 k1
    · have h1 := of_decide_eq_false c1
      have : nameB z = false := by
        rw [eB, decide_eq_false (show ¬ 1 ≤ z.length by omega)]
        simp
      refine r_kAndV0 rfl ?_
      rw [← this]
      exact q H1 k1
def sp__law_due : Sp := fun vs H Q _ => ∃ z : Str, vs = [.str z] ∧ z.length ≤ 500 ∧
  (∀ k ds, slipKey (Txt.split z (Str.ofString " ")) = some (k, ds) → ∀ t H', Kp [] H H' → Dt [] H' (.ref t) (.tuple (.int (k : Int) :: ds)) → Q (.ref t) H') ∧ (slipKey (Txt.split z (Str.ofString " ")) = none → ∀ H', Kp [] H H' → Q .non H')
theorem r_kBMl' {K : PySem.W.Frag} {r : V → List V → Hp → VK → Prop} {tr : TA} {σ : L2.St} {Q : VK} {H : Hp} {p : Addr} {xs : List V} (h : SqL K H p xs) (q : tr σ H fun ys H2 => r (.ref p) ys H2 Q) : kBM K "list" r tr σ Q (.ref p) H := ⟨.inl ⟨rfl, _, h⟩, q⟩
abbrev s__law_due : Stmt := top 29
theorem sc__law_due : FnScope ["_law_text", "_law_parts", "_law_many", "_law_part", "_law_rest"] ["_law_text"] (defScope s__law_due) :=
  ⟨rfl, rfl, rfl, by decide +kernel, rfl, by decide +kernel, by decide +kernel⟩
theorem ok__law_due {f : Addr} {fd : FuncData} (F : Fun K "_law_due" "_law_due" s__law_due f fd) (T : Txt K mg C_Swap C_Leave C_Double C_Names C_Drop C_BadSlip C_Slip G_SLIP_WORDS G_RESERVED) (U__law_is_name : Use P w K mg base 2 "_law_is_name" ["_law_text"] (sp__law_is_name)) :
    FnOk P w K mg base CX0 4 f fd ["_law_text"] (sp__law_due) := by
  refine F.ok sc__law_due (fun vs H Q E h => ?_) (fun cdv A outer s H vs Q E hr h => ?_)
  · obtain ⟨z, rfl, _⟩ := h
    rfl
  · obtain ⟨z, rfl, hz, q1, q2⟩ := h
    have hu := hu_of hr
    have hu64 := hr.units
    refine ⟨_, (pss_cons (ps_set (i := 1) sc__law_due.nd rfl (by first | exact Or.inl rfl | exact Or.inr rfl) (pe_split (pv 0) pe_str))
        (pss_cons (ps_set (i := 2) sc__law_due.nd rfl (by first | exact Or.inl rfl | exact Or.inr rfl) (pe_cutE (pe_ifExp (pt_cmpR (K_in (K := K) rfl) (pe_ix (K_ixL (K := K) rfl) (pv 1) pe_int (fun _ _ => rfl)) (pe_tup (pa_cons pe_str (pa_cons pe_str pa_nil))) (by with_unfolding_all rfl)) pe_int pe_int)))
        (pss_cons (ps_if (pt_cutT (PW.pt (pw_or (pt_cmpR (K_notIn (K := K) rfl) (pe_ix (K_ixL (K := K) rfl) (pv 1) pe_int (fun _ _ => rfl)) (pe_tup (pa_cons pe_str (pa_cons pe_str (pa_cons pe_str (pa_cons pe_str (pa_cons pe_str pa_nil)))))) (by with_unfolding_all rfl)) (pw_or1 (pt_cmpR op_ne (pe_callB (K_len (K := K) rfl) (by rfl) T.z_len (by decide +kernel) (pa_cons (pv 1) pa_nil)) (pv 2) (nomark _))))))
          (pss_one (ps_ret pe_non))
          pss_nil)
        (pss_cutS (ps_if (pt_cmpR (K_in (K := K) rfl) (pe_ix (K_ixL (K := K) rfl) (pv 1) pe_int (fun _ _ => rfl)) (pe_tup (pa_cons pe_str (pa_cons pe_str pa_nil))) (by with_unfolding_all rfl))
          (pss_cons (ps_if (pt_not (pt_val (pe_callB (K_all (K := K) rfl rfl) (by rfl) T.z_all (by decide +kernel) (pa_cons (pe_lc (own := [("_law_part", 3)]) (by rfl) sc__law_due.nd (K_pil (K := K) rfl (pe_slice (K_slL (K := K) rfl) (pv 1) (po_some pe_int) po_none)) (blkOk_by (own := [("_law_part", 3)]) (N := ["_law_text", "_law_parts", "_law_many", "_law_part", "_law_rest"]) (sc := defScope s__law_due) (by decide +kernel)) (fun _ _ _ _ _ => (pg_name (i := 3) sc__law_due.nd rfl (by first | exact Or.inl rfl | exact Or.inr rfl))) (fun _ _ _ _ _ => pts_nil) (fun _ _ _ _ _ => (pe_use U__law_is_name (hr.mono (by first | decide | omega)) (by rfl) (pa_cons (pv 3) pa_nil)))) pa_nil))))
            (pss_one (ps_ret pe_non))
            pss_nil)
          (pss_one (ps_set (i := 4) sc__law_due.nd rfl (by first | exact Or.inl rfl | exact Or.inr rfl) (pe_callB (K_sortedS (K := K) rfl) (by rfl) T.z_sorted (by decide +kernel) (pa_cons (pe_slice (K_slL (K := K) rfl) (pv 1) (po_some pe_int) po_none) pa_nil)))))
          (pss_cons (ps_if (pt_not (pt_val (pe_callB (K_all (K := K) rfl rfl) (by rfl) T.z_all (by decide +kernel) (pa_cons (pe_lc (own := [("_law_part", 3)]) (by rfl) sc__law_due.nd (K_pil (K := K) rfl (pe_slice (K_slL (K := K) rfl) (pv 1) (po_some pe_int) po_none)) (blkOk_by (own := [("_law_part", 3)]) (N := ["_law_text", "_law_parts", "_law_many", "_law_part", "_law_rest"]) (sc := defScope s__law_due) (by decide +kernel)) (fun _ _ _ _ _ => (pg_name (i := 3) sc__law_due.nd rfl (by first | exact Or.inl rfl | exact Or.inr rfl))) (fun _ _ _ _ _ => pts_nil) (fun _ _ _ _ _ => (pe_and (pe_cmpR op_eq (pe_callB cr_lenS (by rfl) T.z_len (by decide +kernel) (pa_cons (pv 3) pa_nil)) pe_int (nomark _)) (pe_one (pe_cmpR op_inS (pv 3) pe_str (by with_unfolding_all rfl)))))) pa_nil))))
            (pss_one (ps_ret pe_non))
            pss_nil)
          (pss_one (ps_set (i := 4) sc__law_due.nd rfl (by first | exact Or.inl rfl | exact Or.inr rfl) (pe_callB (K_sortedI (K := K) rfl) (by rfl) T.z_sorted (by decide +kernel) (pa_cons (pe_lc (own := [("_law_part", 3)]) (by rfl) sc__law_due.nd (K_pil (K := K) rfl (pe_slice (K_slL (K := K) rfl) (pv 1) (po_some pe_int) po_none)) (blkOk_by (own := [("_law_part", 3)]) (N := ["_law_text", "_law_parts", "_law_many", "_law_part", "_law_rest"]) (sc := defScope s__law_due) (by decide +kernel)) (fun _ _ _ _ _ => (pg_name (i := 3) sc__law_due.nd rfl (by first | exact Or.inl rfl | exact Or.inr rfl))) (fun _ _ _ _ _ => pts_nil) (fun _ _ _ _ _ => (pe_callTy call_int_str (by rfl) T.z_int (by decide +kernel) (pa_cons (pv 3) pa_nil)))) pa_nil))))))
        (pss_cons (ps_if (pt_cutT (PW.pt (pw_and (pt_cmpR op_eq (pe_callB (K_len (K := K) rfl) (by rfl) T.z_len (by decide +kernel) (pa_cons (pv 4) pa_nil)) pe_int (nomark _)) (pw_and1 (pt_cmpR op_eq (pe_ix (K_ixL (K := K) rfl) (pv 4) pe_int (fun _ _ => rfl)) (pe_ix (K_ixL (K := K) rfl) (pv 4) pe_int (fun _ _ => rfl)) (nomark _))))))
          (pss_one (ps_ret pe_non))
          pss_nil)
        (pss_one (ps_ret (pe_callTy (K_tuple (K := K) rfl) (by rfl) T.z_tuple (by decide +kernel) (pa_cons (pe_op op_cat (pe_lst (pa_cons (K_bm (K := K) rfl PySem.F.plainAttrs_list PySem.F.slot_list_index PySem.F.type_list_index (K_index (K := K) rfl) (pe_lst (pa_cons pe_str (pa_cons pe_str (pa_cons pe_str (pa_cons pe_str (pa_cons pe_str pa_nil)))))) (pa_cons (pe_ix (K_ixL (K := K) rfl) (pv 1) pe_int (fun _ _ => rfl)) pa_nil)) pa_nil)) (pv 4)) pa_nil))))))))), ?_⟩
    have big : 5000 ≤ sizeLine := by decide
    obtain ⟨w, rest, hp, hlen, hpl⟩ := pieces_ok z
    walk_at "S"
    refine ⟨z, " ", rfl, rfl, by decide, by omega, fun L nL => ?_⟩
    have k1 : Kp [] H (upd H L (.lst ((Txt.split z (Str.ofString " ")).map V.str))) := Kp.new nL
    have e1 : upd H L (.lst ((Txt.split z (Str.ofString " ")).map V.str)) L = some (.lst ((Txt.split z (Str.ofString " ")).map V.str)) := upd_same
    generalize upd H L (.lst ((Txt.split z (Str.ofString " ")).map V.str)) = H1 at k1 e1
    rw [hp] at e1 q1 q2
    have ix0 : ∀ {Hc : Hp} {Q : VK}, Kp [] H1 Hc → Q (.str w) Hc → rIxL K (.ref L) (.int 0) Hc Q := fun k q => r_ixL (SqL.of (k _ _ e1 not_nil)) (atI_nat (j := 0) rfl) q
    walk_at "S"
    refine r_cutE (fun x H' => Kp [] H1 H' ∧ x = .int ((manyOf w : Nat) : Int)) ?_ ?_
    · walk_at "S"
      refine ix0 (Kp.refl _ _) ?_
      walk_at "S"
      refine r_kTup (xs := ([("swap" : Str), "names"]).map V.str) (by show 2 ≤ sizeLine; decide) fun t H2 nt k2 et => ?_
      refine r_inT (SqT.of et) ?_
      walk_at "S"
      refine r_kIf (fun c => ?_) (fun c => ?_)
      all_goals walk_at "S"
      · refine ⟨k2, ?_⟩
        have : manyOf w = 3 := if_pos (of_decide_eq_true c)
        rw [this]
        rfl
      · refine ⟨k2, ?_⟩
        have : manyOf w = 2 := if_neg (of_decide_eq_false c)
        rw [this]
        rfl
    rintro x H2 ⟨k2, rfl⟩
    walk_at "S"
    refine r_cutT (fun b H' => Kp [] H2 H' ∧ b = !(decide (w ∈ slipWords) && decide ((w :: rest).length = manyOf w))) ?_ ?_
    · walk_at "S"
      refine ix0 k2 ?_
      walk_at "S"
      refine r_kTup (xs := slipWords.map V.str) (by show 5 ≤ sizeLine; decide) fun t H3 nt k3 et => ?_
      refine r_ninT (ws := slipWords) (SqT.of et) ?_
      walk_at "S"
      refine r_kOr (fun c => ?_) (fun c => ?_)
      · have c : decide (w ∈ slipWords) = false := by simpa using c
        refine ⟨k3, ?_⟩
        rw [c]
        rfl
      · have c : decide (w ∈ slipWords) = true := by simpa using c
        walk_at "S"
        refine r_lenL (SqL.of ((k2.trans k3) _ _ e1 not_nil)) ?_
        walk_at "S"
        refine ⟨k3, ?_⟩
        rw [c, Bool.true_and, List.length_map]
        congr 1
        by_cases h : (w :: rest).length = manyOf w
        · rw [decide_eq_true h, decide_eq_true (congrArg (fun n : Nat => (n : Int)) h)]
        · rw [decide_eq_false h]
          exact decide_eq_false fun z => h (by omega)
    rintro b H3 ⟨k3, rfl⟩
    have k13 := k2.trans k3
    refine r_kIfS (fun c => ?_) (fun c => ?_)
    · walk_at "S"
      refine q2 ?_ H3 (k1.trans k13)
      cases hn : slipKey (w :: rest) with
      | none => rfl
      | some x =>
        have h := key_word (w := w) (rest := rest) (by rw [hn]; exact fun z => nomatch z)
        rw [decide_eq_true h.1, decide_eq_true h.2] at c
        cases c
    have c2 : decide (w ∈ slipWords) = true ∧ decide ((w :: rest).length = manyOf w) = true := by
      rw [Bool.not_eq_false', Bool.and_eq_true] at c
      exact c
    have hw := of_decide_eq_true c2.1
    have hl := of_decide_eq_true c2.2
    have h2r : rest.length ≤ 2 := by
      rcases shape_of hw hl with ⟨x, y, _, e⟩ | ⟨x, _, e⟩ <;> rw [e] <;> simp
    walk_at "S"
    refine r_cutS (fun σ' H' => ∃ (R : Addr) (xs : List V) (v3 : Option V), Due w rest xs ∧ Kp [] H3 H' ∧ H' R = some (.lst xs) ∧ σ' = [some (.str z), some (.ref L), some (.int ((manyOf w : Nat) : Int)), v3, some (.ref R)]) ?_ ?_
    · walk_at "S"
      refine ix0 k13 ?_
      walk_at "S"
      refine r_kTup (xs := ([("names" : Str), "drop"]).map V.str) (by show 2 ≤ sizeLine; decide) fun t H4 nt k4 et => ?_
      refine r_inT (SqT.of et) ?_
      rw [not_place hw]
      walk_at "S"
      have k14 := k13.trans k4
      refine r_kIfS (fun c => ?_) (fun c => ?_)
      · have hb : byPlace w = false := by simpa using c
        walk_at "S"
        refine r_slL (SqL.of (k14 _ _ e1 not_nil)) fun L2 H5 nL2 k5 e5 => ?_
        rw [cut_1] at e5
        have e5 : H5 L2 = some (.lst (rest.map V.str)) := e5
        refine r_cWL (SqL.of e5) ?_
        refine r_kLcL (fun D i ac H' => Kp [] H5 H' ∧ ac = ((rest.take i).map nameB).map V.bl) (fun D H' nD k e => ⟨k, rfl⟩) (fun D i ac H' _ h => SqL.of (h.1 _ _ e5 not_nil)) ?_ ?_
        · rintro D i ac x H6 nD hx eD ⟨k6, rfl⟩
          obtain ⟨p, hpx, rfl⟩ := map_at hx
          have hpl' : p.length ≤ 1000 := by
            have := hpl p (List.mem_cons_of_mem _ (mem_at hpx))
            omega
          walk_at "S"
          refine ⟨p, rfl, hpl', fun H7 k7 => ?_⟩
          refine r_kApp (k7 _ _ eD not_nil) ?_ fun H8 k8 e8 => ⟨(k6.trans k7).step nD k8, ?_⟩
          · rw [List.length_map, List.length_map, List.length_take]
            omega
          · rw [take_map _ hpx, List.map_append]
            rfl
        rintro D ac H6 nD eD ⟨k6, rfl⟩
        have eD : H6 D = some (.lst ((rest.map nameB).map V.bl)) := by
          have e : (rest.map V.str).length = rest.length := List.length_map _
          rw [e, List.take_length] at eD
          exact eD
        walk_at "S"
        refine r_all (SqL.of eD) ?_
        have eall : ((rest.map nameB).all id) = rest.all nameB := by
          rw [List.all_map]
          rfl
        rw [eall]
        walk_at "S"
        have k36 := k4.trans (k5.trans k6)
        have okn : ∀ p, okP w p = nameB p := fun p => by
          unfold okP
          rw [hb]
          rfl
        refine r_kIfS (fun c => ?_) (fun c => ?_)
        · walk_at "S"
          refine q2 ?_ H6 (k1.trans (k13.trans k36))
          cases hn : slipKey (w :: rest) with
          | none => rfl
          | some x =>
            have h := key_all (w := w) (rest := rest) (by rw [hn]; exact fun z => nomatch z)
            rw [show okP w = nameB from funext okn] at h
            rw [h] at c
            cases c
        have hall : rest.all nameB = true := by simpa using c
        walk_at "S"
        refine r_slL (SqL.of ((k13.trans k36) _ _ e1 not_nil)) fun L3 H7 nL3 k7 e7 => ?_
        rw [cut_1] at e7
        have e7 : H7 L3 = some (.lst (rest.map V.str)) := e7
        walk_at "S"
        refine r_sortS (SqL.of e7) (by omega) fun ys R H8 hperm hs nR k8 e8 => ?_
        walk_at "S"
        exact ⟨R, _, _, due_names hw hl hb hall hperm hs, k36.trans (k7.trans k8), e8, rfl⟩
      · have hb : byPlace w = true := by simpa using c
        walk_at "S"
        refine r_slL (SqL.of (k14 _ _ e1 not_nil)) fun L2 H5 nL2 k5 e5 => ?_
        rw [cut_1] at e5
        have e5 : H5 L2 = some (.lst (rest.map V.str)) := e5
        refine r_cWL (SqL.of e5) ?_
        refine r_kLcL (fun D i ac H' => Kp [] H5 H' ∧ ac = ((rest.take i).map isPlace).map V.bl) (fun D H' nD k e => ⟨k, rfl⟩) (fun D i ac H' _ h => SqL.of (h.1 _ _ e5 not_nil)) ?_ ?_
        · rintro D i ac x H6 nD hx eD ⟨k6, rfl⟩
          obtain ⟨p, hpx, rfl⟩ := map_at hx
          have hpl' : p.length ≤ 1000 := by
            have := hpl p (List.mem_cons_of_mem _ (mem_at hpx))
            omega
          have fin : ∀ b : Bool, b = isPlace p → kApp D (kN (fun ac H' => Kp [] H5 H' ∧ ac = ((rest.take (i + 1)).map isPlace).map V.bl) D) (.bl b) H6 := fun b hb => by
            refine r_kApp eD ?_ fun H7 k7 e7 => ⟨k6.step nD k7, ?_⟩
            · rw [List.length_map, List.length_map, List.length_take]
              omega
            · rw [hb, take_map _ hpx, List.map_append]
              rfl
          walk_at "S"
          refine r_lenS (by omega) ?_
          walk_at "S"
          refine r_kAndV (fun c => ?_) (fun c => ?_)
          · have c := of_decide_eq_true c
            have c1 : p.length = 1 := by omega
            walk_at "S"
            refine inS_one c1 (fin _ ?_)
            unfold isPlace
            rw [decide_eq_true c1, Bool.true_and]
          · have c := of_decide_eq_false c
            refine fin false ?_
            unfold isPlace
            rw [decide_eq_false (by omega), Bool.false_and]
        rintro D ac H6 nD eD ⟨k6, rfl⟩
        have eD : H6 D = some (.lst ((rest.map isPlace).map V.bl)) := by
          have e : (rest.map V.str).length = rest.length := List.length_map _
          rw [e, List.take_length] at eD
          exact eD
        walk_at "S"
        refine r_all (SqL.of eD) ?_
        have eall : ((rest.map isPlace).all id) = rest.all isPlace := by
          rw [List.all_map]
          rfl
        rw [eall]
        walk_at "S"
        have k36 := k4.trans (k5.trans k6)
        have okn : ∀ p, okP w p = isPlace p := fun p => by
          unfold okP
          rw [hb]
          rfl
        refine r_kIfS (fun c => ?_) (fun c => ?_)
        · walk_at "S"
          refine q2 ?_ H6 (k1.trans (k13.trans k36))
          cases hn : slipKey (w :: rest) with
          | none => rfl
          | some x =>
            have h := key_all (w := w) (rest := rest) (by rw [hn]; exact fun z => nomatch z)
            rw [show okP w = isPlace from funext okn] at h
            rw [h] at c
            cases c
        have hall : rest.all isPlace = true := by simpa using c
        walk_at "S"
        refine r_slL (SqL.of ((k13.trans k36) _ _ e1 not_nil)) fun L3 H7 nL3 k7 e7 => ?_
        rw [cut_1] at e7
        have e7 : H7 L3 = some (.lst (rest.map V.str)) := e7
        refine r_cWL (SqL.of e7) ?_
        refine r_kLcL (fun D i ac H' => Kp [] H7 H' ∧ ac = ((rest.take i).map digOf).map V.int) (fun D H' nD k e => ⟨k, rfl⟩) (fun D i ac H' _ h => SqL.of (h.1 _ _ e7 not_nil)) ?_ ?_
        · rintro D i ac x H8 nD hx eD ⟨k8, rfl⟩
          obtain ⟨p, hpx, rfl⟩ := map_at hx
          have hpp := List.all_eq_true.mp hall p (mem_at hpx)
          walk_at "S"
          refine ⟨p, digOf p, rfl, (dig_text hpp).1, (dig_text hpp).2, ?_⟩
          refine r_kApp eD ?_ fun H9 k9 e9 => ⟨k8.step nD k9, ?_⟩
          · rw [List.length_map, List.length_map, List.length_take]
            omega
          · rw [take_map _ hpx, List.map_append]
            rfl
        rintro D2 ac H8 nD2 eD2 ⟨k8, rfl⟩
        have eD2 : H8 D2 = some (.lst ((rest.map digOf).map V.int)) := by
          have e : (rest.map V.str).length = rest.length := List.length_map _
          rw [e, List.take_length] at eD2
          exact eD2
        walk_at "S"
        refine r_sortI (SqL.of eD2) fun ys R H9 hperm hs nR k9 e9 => ?_
        walk_at "S"
        exact ⟨R, _, _, due_places hw hl hb hall hperm hs, k36.trans (k7.trans (k8.trans k9)), e9, rfl⟩
    rintro σ' H4 ⟨R, xs, v3, hdue, k4, eR, rfl⟩
    have k04 := k1.trans (k13.trans k4)
    walk_at "S"
    have fin : ∀ (ds : List PyData) (H5 : Hp), Kp [] H4 H5 → slipKey (w :: rest) = some (slipWords.idxOf w, ds) → (∀ H, DtAll [] H xs ds) → xs.length ≤ 2 →
        tRet (tCB (cTuple K) (tCons (tOp rCat (tLst (tCons (tBM K "list" (rIndex K) (tLst (tCons (tC (V.str "swap")) (tCons (tC (V.str "leave")) (tCons (tC (V.str "double")) (tCons (tC (V.str "names")) (tCons (tC (V.str "drop")) tNil)))))) (tCons (tOp (rIxL K) (tVar 1) (tC (V.int 0))) tNil)) tNil)) (tVar 4)) tNil))
          { nx := fun _ H' => Q .non H', rt := Q } [some (.str z), some (.ref L), some (.int ((manyOf w : Nat) : Int)), v3, some (.ref R)] H5 := fun ds H5 k5 hk hds hx2 => by
      walk_at "S"
      refine r_kLst (xs := slipWords.map V.str) (by show 5 ≤ sizeLine; decide) fun W H6 nW k6 eW => ?_
      refine r_kBMl (SqL.of eW) ?_
      walk_at "S"
      refine ix0 (k13.trans (k4.trans (k5.trans k6))) ?_
      walk_at "S"
      refine r_indexS (SqL.of eW) hw ?_
      walk_at "S"
      refine r_kLst (xs := [V.int ((slipWords.idxOf w : Nat) : Int)]) (by show 1 ≤ sizeLine; decide) fun I H7 nI k7 eI => ?_
      walk_at "S"
      refine r_cat eI ((k5.trans (k6.trans k7)) _ _ eR not_nil) (by show 1 + xs.length ≤ sizeLine; omega) fun C H8 nC k8 eC => ?_
      walk_at "S"
      refine r_tupleL (SqL.of eC) fun t H9 nt k9 et => ?_
      exact q1 _ ds hk t H9 (k04.trans (k5.trans (k6.trans (k7.trans (k8.trans k9))))) (.tup not_nil et (.cons (.int _) (hds H9)))
    refine r_cutT (fun b H' => Kp [] H4 H' ∧ ((b = true → slipKey (w :: rest) = none) ∧ (b = false → ∃ ds, slipKey (w :: rest) = some (slipWords.idxOf w, ds) ∧ (∀ H, DtAll [] H xs ds) ∧ xs.length ≤ 2))) ?_ ?_
    · walk_at "S"
      refine r_lenL (SqL.of eR) ?_
      walk_at "S"
      cases hdue with
      | @two x y ds hs he hn hal =>
        refine r_kAnd1 (decide_eq_true rfl) ?_
        walk_at "S"
        refine r_ixL (SqL.of eR) (atI_nat (j := 0) rfl) ?_
        walk_at "S"
        refine r_ixL (SqL.of eR) (atI_nat (j := 1) rfl) ?_
        refine r_eq hs ?_
        walk_at "S"
        refine ⟨Kp.refl _ _, fun c => he (of_decide_eq_true c), fun c => ⟨ds, hn (of_decide_eq_false c), hal, Nat.le_refl 2⟩⟩
      | @one x ds hk hal =>
        refine r_kAnd0 (decide_eq_false (by show ¬ ((1 : Nat) : Int) = 2; decide)) ?_
        exact ⟨Kp.refl _ _, fun c => Bool.noConfusion c, fun _ => ⟨ds, hk, hal, by show 1 ≤ 2; decide⟩⟩
    rintro b H5 ⟨k5, ht, hf⟩
    refine r_kIfS (fun c => ?_) (fun c => ?_)
    · walk_at "S"
      exact q2 (ht c) H5 (k04.trans k5)
    · walk_at "S"
      obtain ⟨ds, hk, hal, hx⟩ := hf c
      exact fin ds H5 k5 hk hal hx

/-! ### _law_agrees, _law_refuses, _law_bent -/
def kM0 (r : V → List V → Hp → VK → Prop) (Q : VK) : VK := fun x H1 => (∃ a, x = .str a) ∧ r x [] H1 Q
theorem r_m0 {r : V → List V → Hp → VK → Prop} {to : TE} {σ : L2.St} {H : Hp} {Q : VK} (q : to σ H (kM0 r Q)) : tM0 r to σ H Q := q
theorem r_kM0 {r : V → List V → Hp → VK → Prop} {H : Hp} {Q : VK} {z : Str} (q : r (.str z) [] H Q) : kM0 r Q (.str z) H := ⟨⟨z, rfl⟩, q⟩
local macro_rules | `(tactic| walk_at "s") => `(tactic| (first
  | (with_reducible refine r_m0 ?_)
  | (with_reducible refine r_kM0 ?_)))
def sp__law_agrees : Sp := fun vs H Q _ => ∃ z : Str, vs = [.str z] ∧ z.length ≤ 500 ∧ PyData.strOk z = true ∧ ∀ H', Kp [] H H' → Q (.bl true) H'
theorem text_len {k : Nat} {ds : List PyData} (h : PartsOk k ds) (hs : ∀ d ∈ ds, (strD d).length ≤ 8) : (slipText k ds).length ≤ 500 := by
  unfold slipText
  rw [TL.join_eq]
  have h1 := StrLaws.join_length_le (Str.ofString " ") (slipWords.getD k "" :: ds.map strD)
  have h2 := sum_le (ys := ds.map strD) (m := 8) fun y hy => by
    obtain ⟨d, hd, rfl⟩ := List.mem_map.mp hy
    exact hs d hd
  have h3 : (slipWords.getD k "").length ≤ 6 := by
    have hk := h.lt
    match k, hk with
    | 0, _ => decide
    | 1, _ => decide
    | 2, _ => decide
    | 3, _ => decide
    | 4, _ => decide
  have h4 := h.two
  have h5 : (Str.ofString " ").length = 1 := rfl
  rw [List.length_map] at h2
  rw [List.map_cons, List.sum_cons, List.length_cons, List.length_map, h5] at h1
  omega
theorem Tells.short {ps : List Str} {k : Nat} {ds : List PyData} (h : Tells ps k ds) : ∀ d ∈ ds, (strD d).length ≤ 8 := by
  have one : ∀ {i : Int}, 0 ≤ i → i ≤ 9 → (strD (.int i)).length ≤ 8 := fun {i} h0 h1 => by
    obtain ⟨c, _, _, e⟩ := place_at (text_dig h0 h1).1
    rw [e]
    show 1 ≤ 8
    decide
  cases h with
  | @swap a b h1 h2 h3 =>
    have r1 := dig_range h1
    have r2 := dig_range h2
    have e1 : 0 ≤ mnI (digOf a) (digOf b) ∧ mnI (digOf a) (digOf b) ≤ 9 := by
      unfold mnI
      split <;> omega
    have e2 : 0 ≤ mxI (digOf a) (digOf b) ∧ mxI (digOf a) (digOf b) ≤ 9 := by
      unfold mxI
      split <;> omega
    intro d m
    rcases List.mem_cons.mp m with rfl | m
    · exact one e1.1 e1.2
    · rw [List.mem_singleton.mp m]
      exact one e2.1 e2.2
  | names h1 h2 h3 =>
    intro d m
    rcases List.mem_cons.mp m with rfl | m
    · exact (nameB_ok (minB h1 h2).1).2
    · rw [List.mem_singleton.mp m]
      exact (nameB_ok (minB h1 h2).2).2
  | leave h1 =>
    intro d m
    rw [List.mem_singleton.mp m]
    exact one (dig_range h1).1 (dig_range h1).2
  | double h1 =>
    intro d m
    rw [List.mem_singleton.mp m]
    exact one (dig_range h1).1 (dig_range h1).2
  | drop h1 =>
    intro d m
    rw [List.mem_singleton.mp m]
    exact (nameB_ok h1).2
abbrev s__law_agrees : Stmt := top 30
theorem sc__law_agrees : FnScope ["_law_text", "_law_due_here", "_law_seen", "e"] ["_law_text"] (defScope s__law_agrees) :=
  ⟨rfl, rfl, rfl, by decide +kernel, rfl, by decide +kernel, by decide +kernel⟩
theorem ok__law_agrees {f : Addr} {fd : FuncData} (F : Fun K "_law_agrees" "_law_agrees" s__law_agrees f fd) (T : Txt K mg C_Swap C_Leave C_Double C_Names C_Drop C_BadSlip C_Slip G_SLIP_WORDS G_RESERVED) (U_Slip_key : UseP P w K mg base 2 (FamS [C_Swap, C_Leave, C_Double, C_Names, C_Drop]) "key" ["self"] (sp_Slip_key (FamS [C_Swap, C_Leave, C_Double, C_Names, C_Drop]))) (U_Slip___str__ : UseMF P w K mg base 2 (FamS [C_Swap, C_Leave, C_Double, C_Names, C_Drop]) "__str__" (sp_Slip___str__ (FamS [C_Swap, C_Leave, C_Double, C_Names, C_Drop]))) (U_Slip_read : UseSM P w K mg base 8 C_Slip "read" (sp_Slip_read (FamS [C_Swap, C_Leave, C_Double, C_Names, C_Drop]) C_BadSlip)) (U__law_due : Use P w K mg base 4 "_law_due" ["_law_text"] (sp__law_due)) (U_BadSlip : Exc1 P w K mg base 1 "BadSlip" "what" C_BadSlip) :
    FnOk P w K mg base CX0 10 f fd ["_law_text"] (sp__law_agrees) := by
  refine F.ok sc__law_agrees (fun vs H Q E h => ?_) (fun cdv A outer s H vs Q E hr h => ?_)
  · obtain ⟨z, rfl, _⟩ := h
    rfl
  · obtain ⟨z, rfl, hz, hok, q⟩ := h
    obtain ⟨p_Slip_key, g_Slip_key, fd_Slip_key, F_Slip_key, B_Slip_key, C_Slip_key⟩ := U_Slip_key
    obtain ⟨f_Slip___str__, R_Slip___str__, M_Slip___str__⟩ := U_Slip___str__
    obtain ⟨mc_Slip_read, p_Slip_read, g_Slip_read, R_Slip_read, Q_Slip_read, S_Slip_read⟩ := U_Slip_read
    have hu := hu_of hr
    have hu64 := hr.units
    refine ⟨_, (pss_cons (ps_par (i := 1) (j := 2) (by rfl) sc__law_agrees.nd rfl rfl (by decide) rfl rfl (pa_cons (pe_use U__law_due (hr.mono (by first | decide | omega)) (by rfl) (pa_cons (pv 0) pa_nil)) (pa_cons pe_non pa_nil)) (by rfl))
        (pss_cons (ps_try_as (i := 3) (Wout := fun _ _ _ _ => False) rfl rfl sc__law_agrees.nd rfl rfl ⟨rfl, by decide, Or.inl U_BadSlip.gC⟩ takes0
          (fun W pn xe tk _ => (pss_one (ps_set (i := 2) sc__law_agrees.nd rfl (by first | exact Or.inl rfl | exact Or.inr rfl) (pe_smeth (pe_globE T.v_Slip (by rfl)) Q_Slip_read S_Slip_read R_Slip_read (hr.mono (by first | decide | omega)) (fun σ => passAt tk σ) (pa_cons (pv 0) pa_nil)))))
          (fun a oe cls d pn hz hf => (pss_one (ps_ret (pe_and (pe_cmpR op_isNo (pv 1) pe_non (nomark _)) (pe_one (pe_cmpR (K_eqD (K := K) rfl hu64) (pe_xf U_BadSlip.xf U_BadSlip.nof hz hf (pv 3)) (pv 0) (nomark _))))))))
        (pss_one (ps_ret (pe_and (pe_cmpR op_notNo (pv 1) pe_non (nomark _)) (pe_and (pe_callB (K_isi (K := K) rfl) (by rfl) T.z_isinstance (by decide +kernel) (pa_cons (pv 2) (pa_cons (pe_globE T.v_Slip (by rfl)) pa_nil))) (pe_and (pe_cmpR (K_eqD (K := K) rfl hu64) (pe_propF (S := (FamS [C_Swap, C_Leave, C_Double, C_Names, C_Drop])) (pv 2) C_Slip_key F_Slip_key (hr.mono (by first | decide | omega)) B_Slip_key rfl) (pv 1) (nomark _)) (pe_one (pe_cmpR (K_eqD (K := K) rfl hu64) (pe_use U__law_due (hr.mono (by first | decide | omega)) (by rfl) (pa_cons (pe_callTy (cr_strFam (S := (FamS [C_Swap, C_Leave, C_Double, C_Names, C_Drop])) M_Slip___str__ R_Slip___str__ (hr.mono (by first | decide | omega))) (by rfl) T.z_str (by decide +kernel) (pa_cons (pv 2) pa_nil)) pa_nil)) (pv 1) (nomark _)))))))))), ?_⟩
    walk_at "S"
    cases hk : slipKey (Txt.split z (Str.ofString " ")) with
    | none =>
      refine ⟨z, rfl, hz, (fun k ds h => by rw [hk] at h; cases h), fun _ H1 k1 => ?_⟩
      walk_at "S"
      refine ⟨_, _, rfl, ?_⟩
      walk_at "S"
      refine ⟨.str z, .str z, rfl, .str z, (fun z' h => by cases h; exact hz), fun z' k ds h hk' => ?_, fun _ e H2 ne k2 e2 => ?_⟩
      · cases h
        rw [hk] at hk'
        cases hk'
      refine ⟨true, U_BadSlip.te, fun _ a0 _ => ?_, fun z => Bool.noConfusion z⟩
      walk_at "S"
      refine r_isNo ?_
      refine r_kAndV1 (decide_eq_true rfl) ?_
      walk_at "S"
      refine r_xf ?_
      walk_at "S"
      refine r_kXf e2 rfl ?_
      walk_at "S"
      refine r_eqD1 (ex := []) (ex' := []) (.str _) (.str _) (Shp.str hok 0) (by decide) ?_
      exact q H2 (k1.trans k2)
    | some x =>
      obtain ⟨k, ds⟩ := x
      have hT := Tells.of hk
      have hP := hT.parts
      have hO := hT.own
      refine ⟨z, rfl, hz, fun k' ds' h t H1 k1 ht => ?_, (fun h => by rw [hk] at h; cases h)⟩
      rw [hk] at h
      cases h
      walk_at "S"
      refine ⟨_, _, rfl, ?_⟩
      walk_at "S"
      refine ⟨.str z, .str z, rfl, .str z, (fun z' h => by cases h; exact hz), fun z' k' ds' h hk' a H2 k2 hA => ?_, fun h => absurd (hk.symm.trans (h z rfl)) (fun z => nomatch z)⟩
      cases h
      rw [hk] at hk'
      cases hk'
      walk_at "S"
      refine r_notNo ?_
      refine r_kAndV1 (by rw [decide_eq_false (fun z => nomatch z)]; rfl) ?_
      walk_at "S"
      obtain ⟨C, dx, p, hS, e, d⟩ := id hA
      refine ⟨.ref a, .ref C_Slip, .ref C, .ref C_Slip, true, rfl, .own _, .base (.ins e (T.fc_Slip C hS) (T.cl_Slip C hS) T.gt_Slip T.tk_Slip (T.ob_Slip C hS)), T.ki_Slip C hS, ?_⟩
      refine r_kAndV1 rfl ?_
      walk_at "S"
      refine r_kPropF e hS ⟨a, _, rfl, hA, fun p d => ?_⟩
      walk_at "S"
      have ht2 := ht.mono k2
      refine r_eqD1 d ht2 hP.shp (by decide) ?_
      refine r_kAndV1 rfl ?_
      walk_at "S"
      refine r_strFam e hS ⟨a, k, ds, rfl, hA, hP.lt, hP.ne, hP.two, fun d m => ⟨(hP.ok d m).1, (hP.ok d m).2.1⟩, fun H3 k3 => r_kStr ?_⟩
      walk_at "S"
      refine ⟨slipText k ds, rfl, text_len hP hT.short, fun k' ds' h t' H4 k4 ht' => ?_, (fun h => by rw [hO.again] at h; cases h)⟩
      rw [hO.again] at h
      cases h
      walk_at "S"
      refine r_eqD1 ht' (ht2.mono (k3.trans k4)) hP.shp (by decide) ?_
      exact q H4 (k1.trans (k2.trans (k3.trans k4)))
def sp__law_refuses : Sp := fun vs H Q _ => ∃ (v : V) (d : PyData) (n : Nat), vs = [v] ∧ Dt [] H v d ∧ isStr d = false ∧ Shp n d ∧ n ≤ 64 ∧ ∀ H', Kp [] H H' → Q (.bl true) H'
abbrev s__law_refuses : Stmt := top 31
theorem sc__law_refuses : FnScope ["_law_thing", "e"] ["_law_thing"] (defScope s__law_refuses) :=
  ⟨rfl, rfl, rfl, by decide +kernel, rfl, by decide +kernel, by decide +kernel⟩
theorem ok__law_refuses {f : Addr} {fd : FuncData} (F : Fun K "_law_refuses" "_law_refuses" s__law_refuses f fd) (T : Txt K mg C_Swap C_Leave C_Double C_Names C_Drop C_BadSlip C_Slip G_SLIP_WORDS G_RESERVED) (U_Slip_read : UseSM P w K mg base 8 C_Slip "read" (sp_Slip_read (FamS [C_Swap, C_Leave, C_Double, C_Names, C_Drop]) C_BadSlip)) (U_BadSlip : Exc1 P w K mg base 1 "BadSlip" "what" C_BadSlip) :
    FnOk P w K mg base CX0 10 f fd ["_law_thing"] (sp__law_refuses) := by
  refine F.ok sc__law_refuses (fun vs H Q E h => ?_) (fun cdv A outer s H vs Q E hr h => ?_)
  · obtain ⟨v, d, n, rfl, _⟩ := h
    rfl
  · obtain ⟨v, d, n, rfl, hD, hs, hn, h64, q⟩ := h
    obtain ⟨mc_Slip_read, p_Slip_read, g_Slip_read, R_Slip_read, Q_Slip_read, S_Slip_read⟩ := U_Slip_read
    have hu := hu_of hr
    have hu64 := hr.units
    refine ⟨_, (pss_cons (ps_try_as (i := 1) (Wout := fun _ _ _ _ => False) rfl rfl sc__law_refuses.nd rfl rfl ⟨rfl, by decide, Or.inl U_BadSlip.gC⟩ takes0
          (fun W pn xe tk _ => (pss_one (ps_expr (pe_smeth (pe_globE T.v_Slip (by rfl)) Q_Slip_read S_Slip_read R_Slip_read (hr.mono (by first | decide | omega)) (fun σ => passAt tk σ) (pa_cons (pv 0) pa_nil)))))
          (fun a oe cls d pn hz hf => (pss_one (ps_ret (pe_and (pe_cmpR op_eq (pe_callB (K_isi (K := K) rfl) (by rfl) T.z_isinstance (by decide +kernel) (pa_cons (pe_xf U_BadSlip.xf U_BadSlip.nof hz hf (pv 1)) (pa_cons (pe_bltn (v := .ty "bool") (u := .type "bool") (by rfl) T.z_bool (by decide +kernel) rfl) pa_nil))) (pe_callB (K_isi (K := K) rfl) (by rfl) T.z_isinstance (by decide +kernel) (pa_cons (pv 0) (pa_cons (pe_bltn (v := .ty "bool") (u := .type "bool") (by rfl) T.z_bool (by decide +kernel) rfl) pa_nil))) (nomark _)) (pe_one (pe_cmpR (K_eqD (K := K) rfl hu64) (pe_xf U_BadSlip.xf U_BadSlip.nof hz hf (pv 1)) (pv 0) (nomark _))))))))
        (pss_one (ps_ret pe_bl))), ?_⟩
    have no : ∀ z, d ≠ .str z := fun z e => by
      rw [e] at hs
      cases hs
    walk_at "S"
    refine ⟨v, d, rfl, hD, fun z h => absurd h (no z), fun z k ds h => absurd h (no z), fun _ e H2 ne k2 e2 => ?_⟩
    refine ⟨true, U_BadSlip.te, fun _ a0 _ => ?_, fun z => Bool.noConfusion z⟩
    have hD2 := hD.mono k2
    walk_at "S"
    refine r_xf ?_
    walk_at "S"
    refine r_kXf e2 rfl ?_
    walk_at "S"
    refine r_isiBool hD2 ?_
    walk_at "S"
    refine r_isiBool hD2 ?_
    refine r_eqB ?_
    refine r_kAndV1 (decide_eq_true rfl) ?_
    walk_at "S"
    refine r_xf ?_
    walk_at "S"
    refine r_kXf e2 rfl ?_
    walk_at "S"
    refine r_eqD1 hD2 hD2 hn h64 ?_
    exact q H2 k2
/-- plain signs -/
def Asc (z : Str) : Prop := ∀ c ∈ z.cps.toList, c < 128
theorem Asc.app {a b : Str} (h : Asc a) (g : Asc b) : Asc (a ++ b) := fun c m => by
  rw [app_list] at m
  exact (List.mem_append.mp m).elim (h c) (g c)
theorem Asc.cut {a : Str} {lo hi : Option Int} (h : Asc a) : Asc (cutS a lo hi) := fun c m => h c (cut_mem c m)
theorem Asc.ok {a : Str} (h : Asc a) : PyData.strOk a = true := strOk_of (m := 127) (fun c hc => by have := h c hc; omega) (by decide)
theorem str_S (a : Str) : SX.S a.cps.toList = a := str_ext rfl
theorem Asc.upper {a : Str} (h : Asc a) : Asc (Txt.upper a) ∧ (Txt.upper a).length = a.length := by
  have e : Txt.upper a = SX.S (a.cps.toList.map PyProof.Rows.up1) := by
    have := SX.upper_S (a := a.cps.toList) (List.all_eq_true.mpr fun c m => decide_eq_true (h c m))
    rw [str_S] at this
    exact this
  rw [e]
  refine ⟨fun c m => ?_, ?_⟩
  · have m : c ∈ a.cps.toList.map PyProof.Rows.up1 := m
    obtain ⟨x, hx, rfl⟩ := List.mem_map.mp m
    have := h x hx
    unfold PyProof.Rows.up1
    split <;> omega
  · show ((a.cps.toList.map PyProof.Rows.up1).toArray).size = a.cps.size
    rw [List.size_toArray, List.length_map, Array.length_toList]
theorem par_sub {S : List Nat} : ∀ {l acc p q : List Nat}, TL.par S acc l = some (p, q) → (∀ x ∈ p, x ∈ acc ∨ x ∈ l) ∧ p.length ≤ acc.length + l.length
  | [], _, _, _, h => by cases h
  | c :: r, acc, p, q, h => by
    unfold TL.par at h
    split at h
    · cases h
      exact ⟨fun x m => .inl m, by omega⟩
    · obtain ⟨h1, h2⟩ := par_sub h
      refine ⟨fun x m => ?_, ?_⟩
      · rcases h1 x m with m | m
        · rcases List.mem_append.mp m with m | m
          · exact .inl m
          · rw [List.mem_singleton.mp m]
            exact .inr List.mem_cons_self
        · exact .inr (List.mem_cons_of_mem _ m)
      · rw [List.length_append, List.length_singleton] at h2
        rw [List.length_cons]
        omega
theorem part_ok {a : Str} (h : Asc a) : Asc (Txt.partition a (Str.ofString " ")).1 ∧ (Txt.partition a (Str.ofString " ")).1.length ≤ a.length := by
  have eb : (Str.ofString " ") = SX.S [32] := by decide +kernel
  cases hp : TL.par [32] [] a.cps.toList with
  | none =>
    have e := SX.partition_none (a := a.cps.toList) (b := [32]) (List.cons_ne_nil _ _) hp
    rw [str_S, ← eb] at e
    rw [e]
    exact ⟨h, Nat.le_refl _⟩
  | some x =>
    obtain ⟨p, q⟩ := x
    have e := SX.partition_some (a := a.cps.toList) (b := [32]) (List.cons_ne_nil _ _) hp
    rw [str_S, ← eb] at e
    rw [e]
    obtain ⟨h1, h2⟩ := par_sub hp
    refine ⟨fun c m => ?_, ?_⟩
    · rcases h1 c m with m | m
      · cases m
      · exact h c m
    · show (p.toArray).size ≤ a.cps.size
      rw [List.length_nil, Array.length_toList, Nat.zero_add] at h2
      simpa using h2
def bentSigns : List Str := [" ", "0", "7", "10", "a", "if", "is", "-", "swap ", "X", "1 ", ",", "return", "abcdefghi"]
theorem bent_ok : ∀ w ∈ bentSigns, Asc w ∧ w.length ≤ 9 := by
  have : ∀ w ∈ bentSigns, (w.cps.toList.all fun c => decide (c < 128)) = true ∧ w.length ≤ 9 := by decide +kernel
  intro w m
  obtain ⟨h1, h2⟩ := this w m
  exact ⟨fun c hc => of_decide_eq_true (List.all_eq_true.mp h1 c hc), h2⟩
def sp__law_bent : Sp := fun vs H Q _ => ∃ (p : Addr) (z : Str), vs = [.ref p, .str z] ∧ BagL H p ∧ Asc z ∧ z.length ≤ 100 ∧ ∀ (w : Str) H', Asc w → w.length ≤ 300 → Kp [p] H H' → BagL H' p → Q (.str w) H'
abbrev s__law_bent : Stmt := top 32
theorem sc__law_bent : FnScope ["_law_bag_here", "_law_text", "_law_at", "_law_choice", "_law_sign"] ["_law_bag_here", "_law_text"] (defScope s__law_bent) :=
  ⟨rfl, rfl, rfl, by decide +kernel, rfl, by decide +kernel, by decide +kernel⟩
theorem ok__law_bent {f : Addr} {fd : FuncData} (F : Fun K "_law_bent" "_law_bent" s__law_bent f fd) (T : Txt K mg C_Swap C_Leave C_Double C_Names C_Drop C_BadSlip C_Slip G_SLIP_WORDS G_RESERVED) (U__law_take : Use P w K mg base 2 "_law_take" ["_law_bag_here", "_law_many"] (sp__law_take K)) (U__law_of : Use P w K mg base 4 "_law_of" ["_law_bag_here", "_law_some"] (sp__law_of K)) :
    FnOk P w K mg base CX0 6 f fd ["_law_bag_here", "_law_text"] (sp__law_bent) := by
  refine F.ok sc__law_bent (fun vs H Q E h => ?_) (fun cdv A outer s H vs Q E hr h => ?_)
  · obtain ⟨p, z, rfl, _⟩ := h
    rfl
  · obtain ⟨p, z, rfl, hb, hA, hz, q⟩ := h
    have hu := hu_of hr
    have hu64 := hr.units
    refine ⟨_, (pss_cons (ps_par (i := 2) (j := 3) (by rfl) sc__law_bent.nd rfl rfl (by decide) rfl rfl (pa_cons (pe_use U__law_take (hr.mono (by first | decide | omega)) (by rfl) (pa_cons (pv 0) (pa_cons (pe_op op_add (pe_callB cr_lenS (by rfl) T.z_len (by decide +kernel) (pa_cons (pv 1) pa_nil)) pe_int) pa_nil))) (pa_cons (pe_use U__law_take (hr.mono (by first | decide | omega)) (by rfl) (pa_cons (pv 0) (pa_cons pe_int pa_nil))) pa_nil)) (by rfl))
        (pss_cons (ps_set (i := 4) sc__law_bent.nd rfl (by first | exact Or.inl rfl | exact Or.inr rfl) (pe_use U__law_of (hr.mono (by first | decide | omega)) (by rfl) (pa_cons (pv 0) (pa_cons (pe_lst (pa_cons pe_str (pa_cons pe_str (pa_cons pe_str (pa_cons pe_str (pa_cons pe_str (pa_cons pe_str (pa_cons pe_str (pa_cons pe_str (pa_cons pe_str (pa_cons pe_str (pa_cons pe_str (pa_cons pe_str (pa_cons pe_str (pa_cons pe_str pa_nil))))))))))))))) pa_nil))))
        (pss_cons (ps_if (pt_cmpR op_eq (pv 3) pe_int (nomark _))
          (pss_one (ps_ret (pe_op op_addT (pe_slice sl_str (pv 1) po_none (po_some (pv 2))) (pe_slice sl_str (pv 1) (po_some (pe_op op_add (pv 2) pe_int)) po_none))))
          pss_nil)
        (pss_cons (ps_if (pt_cmpR op_eq (pv 3) pe_int (nomark _))
          (pss_one (ps_ret (pe_op op_addT (pe_op op_addT (pe_slice sl_str (pv 1) po_none (po_some (pv 2))) (pv 4)) (pe_slice sl_str (pv 1) (po_some (pe_op op_add (pv 2) pe_int)) po_none))))
          pss_nil)
        (pss_cons (ps_if (pt_cmpR op_eq (pv 3) pe_int (nomark _))
          (pss_one (ps_ret (pe_op op_addT (pe_slice sl_str (pv 1) po_none (po_some (pv 2))) (pe_upper (pe_slice sl_str (pv 1) (po_some (pv 2)) po_none)))))
          pss_nil)
        (pss_cons (ps_if (pt_cmpR op_eq (pv 3) pe_int (nomark _))
          (pss_one (ps_ret (pe_op op_addT (pe_op op_addT (pe_ix (K_ixT (K := K) rfl) (pe_partition (pv 1) pe_str) pe_int (fun _ _ => rfl)) pe_str) (pv 4))))
          pss_nil)
        (pss_cons (ps_if (pt_cmpR op_eq (pv 3) pe_int (nomark _))
          (pss_one (ps_ret (pe_op op_addT (pe_op op_addT (pv 1) pe_str) (pv 4))))
          pss_nil)
        (pss_one (ps_ret (pe_op op_addT (pe_op op_addT (pe_slice sl_str (pv 1) po_none (po_some (pv 2))) (pv 4)) (pe_slice sl_str (pv 1) (po_some (pv 2)) po_none))))))))))), ?_⟩
    have big : 5000 ≤ sizeLine := by decide
    have b1 : Asc (Str.ofString " ") := by
      intro c m
      have e : (Str.ofString " ").cps.toList = [32] := by decide +kernel
      rw [e, List.mem_singleton] at m
      omega
    have l1 : (Str.ofString " ").length = 1 := rfl
    walk_at "S"
    refine r_lenS (by omega) ?_
    walk_at "S"
    refine ⟨p, _, rfl, hb, by omega, by omega, fun at' H1 at0 at1 k1 b1' => ?_⟩
    walk_at "S"
    refine ⟨p, _, rfl, b1', by decide, by decide, fun ch H2 ch0 ch1 k2 b2 => ?_⟩
    walk_at "S"
    refine ⟨_, _, rfl, ?_⟩
    walk_at "S"
    refine r_kLst (xs := bentSigns.map V.str) (by show 14 ≤ sizeLine; decide) fun W H3 nW k3 eW => ?_
    walk_at "S"
    have b3 := b2.kp k3 not_nil
    have Wp : W ≠ p := by
      obtain ⟨o, ho⟩ := b2.some
      exact ne_none ho nW
    refine ⟨p, W, _, rfl, b3, SqL.of eW, Wp, by show 0 < 14; decide, by show 14 ≤ 1000000; decide, fun sv H4 hm k4 b4 => ?_⟩
    obtain ⟨sg, hsg, rfl⟩ := List.mem_map.mp hm
    obtain ⟨hsA, hsl⟩ := bent_ok sg hsg
    have k04 : Kp [p] H H4 := (k1.trans k2).trans (k3.nil.trans k4)
    have cl : ∀ lo hi, (cutS z lo hi).length ≤ 100 := fun lo hi => Nat.le_trans (cutS_length z lo hi) hz
    walk_at "S"
    refine r_kIfS (fun c => ?_) (fun c => ?_)
    · walk_at "S"
      refine r_slS (by omega) ?_
      walk_at "S"
      refine r_slS (by omega) ?_
      have h1 := cl none (some at')
      have h2 := cl (some (at' + 1)) none
      refine r_addT (by omega) ?_
      exact q _ H4 (hA.cut.app hA.cut) (by rw [str_append_length]; omega) k04 b4
    walk_at "S"
    refine r_kIfS (fun c => ?_) (fun c => ?_)
    · walk_at "S"
      refine r_slS (by omega) ?_
      walk_at "S"
      have h1 := cl none (some at')
      have h2 := cl (some (at' + 1)) none
      refine r_addT (by omega) ?_
      walk_at "S"
      refine r_slS (by omega) ?_
      refine r_addT (by rw [str_append_length]; omega) ?_
      exact q _ H4 ((hA.cut.app hsA).app hA.cut) (by rw [str_append_length, str_append_length]; omega) k04 b4
    walk_at "S"
    refine r_kIfS (fun c => ?_) (fun c => ?_)
    · walk_at "S"
      refine r_slS (by omega) ?_
      walk_at "S"
      refine r_slS (by omega) ?_
      walk_at "S"
      have h1 := cl none (some at')
      have h2 := cl (some at') none
      have hu := (hA.cut (lo := some at') (hi := none)).upper
      have hu2 := hu.2
      refine ⟨_, rfl, rfl, Nat.le_trans h2 (by decide), ?_⟩
      refine r_addT (by omega) ?_
      exact q _ H4 (hA.cut.app hu.1) (by rw [str_append_length]; omega) k04 b4
    walk_at "S"
    have hpt := part_ok hA
    have hpt2 := hpt.2
    refine r_kIfS (fun c => ?_) (fun c => ?_)
    · walk_at "S"
      refine ⟨z, " ", rfl, rfl, by decide, by omega, fun t nt => ?_⟩
      have k5 : Kp [] H4 (upd H4 t (.tup [.str (Txt.partition z (Str.ofString " ")).1, .str (Txt.partition z (Str.ofString " ")).2.1, .str (Txt.partition z (Str.ofString " ")).2.2])) := Kp.new nt
      have e5 : upd H4 t (.tup [.str (Txt.partition z (Str.ofString " ")).1, .str (Txt.partition z (Str.ofString " ")).2.1, .str (Txt.partition z (Str.ofString " ")).2.2]) t = some _ := upd_same
      generalize upd H4 t (.tup [.str (Txt.partition z (Str.ofString " ")).1, .str (Txt.partition z (Str.ofString " ")).2.1, .str (Txt.partition z (Str.ofString " ")).2.2]) = H5 at k5 e5
      walk_at "S"
      refine r_ixT (SqT.of e5) (atI_nat (j := 0) rfl) ?_
      walk_at "S"
      refine r_addT (by omega) ?_
      walk_at "S"
      refine r_addT (by rw [str_append_length]; omega) ?_
      exact q _ H5 ((hpt.1.app b1).app hsA) (by rw [str_append_length, str_append_length]; omega) (k04.trans k5.nil) (b4.kp k5 not_nil)
    walk_at "S"
    refine r_kIfS (fun c => ?_) (fun c => ?_)
    · walk_at "S"
      refine r_addT (by omega) ?_
      walk_at "S"
      refine r_addT (by rw [str_append_length]; omega) ?_
      exact q _ H4 ((hA.app b1).app hsA) (by rw [str_append_length, str_append_length]; omega) k04 b4
    walk_at "S"
    refine r_slS (by omega) ?_
    walk_at "S"
    have h1 := cl none (some at')
    have h2 := cl (some at') none
    refine r_addT (by omega) ?_
    walk_at "S"
    refine r_slS (by omega) ?_
    refine r_addT (by rw [str_append_length]; omega) ?_
    exact q _ H4 ((hA.cut.app hsA).app hA.cut) (by rw [str_append_length, str_append_length]; omega) k04 b4

/-! ### the law -/
def thingsD : List PyData := [.none, .bool true, .int 0, .int 12, .list [], .list [.str "leave", .int 0], .tuple [.str "leave", .int 0], .list [.str "leave 0"]]
theorem things_ok : ∀ d ∈ thingsD, isStr d = false ∧ Shp 1 d := by
  have s1 : Shp 0 (.str (Str.ofString "leave")) := Shp.str (by decide +kernel) 0
  have s2 : Shp 0 (.str (Str.ofString "leave 0")) := Shp.str (by decide +kernel) 0
  intro d m
  simp only [thingsD, List.mem_cons, List.not_mem_nil, or_false] at m
  rcases m with rfl | rfl | rfl | rfl | rfl | rfl | rfl | rfl
  · exact ⟨rfl, Shp.none 1⟩
  · exact ⟨rfl, Shp.bool _ 1⟩
  · exact ⟨rfl, Shp.int _ 1⟩
  · exact ⟨rfl, Shp.int _ 1⟩
  · exact ⟨rfl, Shp.list (n := 0) fun d m => nomatch m⟩
  · refine ⟨rfl, Shp.list (n := 0) fun d m => ?_⟩
    simp only [List.mem_cons, List.not_mem_nil, or_false] at m
    rcases m with rfl | rfl
    · exact s1
    · exact Shp.int _ 0
  · refine ⟨rfl, Shp.tuple (n := 0) fun d m => ?_⟩
    simp only [List.mem_cons, List.not_mem_nil, or_false] at m
    rcases m with rfl | rfl
    · exact s1
    · exact Shp.int _ 0
  · refine ⟨rfl, Shp.list (n := 0) fun d m => ?_⟩
    rw [List.mem_singleton.mp m]
    exact s2
theorem all_true : ∀ (n : Nat), (List.replicate n true).all id = true
  | 0 => rfl
  | n + 1 => by
    rw [List.replicate_succ, List.all_cons, all_true n]
    rfl
theorem rep_succ (n : Nat) : (List.replicate (n + 1) true).map V.bl = (List.replicate n true).map V.bl ++ [V.bl true] := by
  rw [List.replicate_succ', List.map_append]
  rfl
theorem rep_len (n : Nat) : ((List.replicate n true).map V.bl).length = n := by rw [List.length_map, List.length_replicate]
theorem flat_all {H H' : Hp} : ∀ {xs : List V} {ds : List PyData}, DtAll [] H xs ds → (∀ d ∈ ds, strDOk d) → DtAll [] H' xs ds
  | _, [], h, _ => by cases h; exact .nil
  | _, d :: ds, h, f => by
    cases h with
    | cons h0 h1 =>
      refine .cons ?_ (flat_all h1 fun d m => f d (List.mem_cons_of_mem _ m))
      have := f d List.mem_cons_self
      cases h0 with
      | int i => exact .int i
      | str z => exact .str z
      | non => exact this.elim
      | bl b => exact this.elim
      | lst _ _ _ => exact this.elim
      | tup _ _ _ => exact this.elim
/-- a slip stays where a list changes -/
theorem SlipAt.but {S : Addr → Prop} {H H' : Hp} {a M : Addr} {k : Nat} {ds : List PyData} {xs : List V} (h : SlipAt S H a (.int (k : Int) :: ds)) (hM : H M = some (.lst xs)) (hk : Kp [M] H H') (f : ∀ d ∈ ds, strDOk d) : SlipAt S H' a (.int (k : Int) :: ds) := by
  obtain ⟨C, dx, p, hS, e, d⟩ := h
  obtain ⟨p', ys, ep, _, et, al⟩ := d.tuple
  cases ep
  refine ⟨C, dx, p, hS, hk _ _ e (not_one fun z => ?_), .tup not_nil (hk _ _ et (not_one fun z => ?_)) ?_⟩
  · rw [z, hM] at e
    cases e
  · rw [z, hM] at et
    cases et
  · cases al with
    | cons h0 h1 =>
      cases h0
      exact .cons (.int _) (flat_all h1 f)
def MadeOk (S : Addr → Prop) (H : Hp) (xs : List V) : Prop := ∀ x ∈ xs, ∃ (a : Addr) (k : Nat) (ds : List PyData), x = .ref a ∧ SlipAt S H a (.int (k : Int) :: ds) ∧ KeyOk k ds ∧ PartsOk k ds
theorem MadeOk.kp {S : Addr → Prop} {H H' : Hp} {xs : List V} (h : MadeOk S H xs) (k : Kp [] H H') : MadeOk S H' xs := fun x m => by
  obtain ⟨a, n, ds, e, s, r⟩ := h x m
  exact ⟨a, n, ds, e, s.kp k, r⟩
theorem MadeOk.but {S : Addr → Prop} {H H' : Hp} {M : Addr} {xs ys : List V} (h : MadeOk S H xs) (hM : H M = some (.lst ys)) (k : Kp [M] H H') : MadeOk S H' xs := fun x m => by
  obtain ⟨a, n, ds, e, s, r1, r2⟩ := h x m
  exact ⟨a, n, ds, e, s.but hM k (fun d m => (r2.ok d m).1), r1, r2⟩
theorem MadeOk.snoc {S : Addr → Prop} {H : Hp} {xs : List V} {x : V} (h : MadeOk S H xs) (g : MadeOk S H [x]) : MadeOk S H (xs ++ [x]) := fun y m => (List.mem_append.mp m).elim (h y) (g y)
theorem made_one {S : Addr → Prop} {H : Hp} {a : Addr} {k : Nat} {ds : List PyData} (s : SlipAt S H a (.int (k : Int) :: ds)) (o : KeyOk k ds) : MadeOk S H [.ref a] := fun x m => by
  rw [List.mem_singleton.mp m]
  exact ⟨a, k, ds, rfl, s, o, Tells.parts o⟩
theorem asc_lit (s : Str) (h : (s.cps.toList.all fun c => decide (c < 128)) = true) : Asc s := fun c m => of_decide_eq_true (List.all_eq_true.mp h c m)
theorem NameX.asc {n : Nat} {w : Str} (h : NameX n w) : Asc w := fun c m => by
  have := (h.2.1 c m).2
  omega
theorem dig_asc {i : Int} (h0 : 0 ≤ i) (h1 : i ≤ 9) : Asc (strD (.int i)) ∧ (strD (.int i)).length = 1 := by
  obtain ⟨c, c0, c1, e⟩ := place_at (text_dig h0 h1).1
  rw [e]
  refine ⟨fun x m => ?_, rfl⟩
  have m : x ∈ [c] := m
  rw [List.mem_singleton] at m
  omega
/-- a text of plain signs, not long -/
def Row (n : Nat) (w : Str) : Prop := Asc w ∧ w.length ≤ n
theorem Row.app {n m : Nat} {a b : Str} (h : Row n a) (g : Row m b) : Row (n + m) (a ++ b) := ⟨h.1.app g.1, by rw [str_append_length]; exact Nat.add_le_add h.2 g.2⟩
theorem Row.mono {n m : Nat} {a : Str} (h : Row n a) (le : n ≤ m) : Row m a := ⟨h.1, Nat.le_trans h.2 le⟩
def endTexts : List Str := ["", " ", "swap", "leave", "drop", "names"]
theorem end_ok : ∀ w ∈ endTexts, Row 300 w := by
  have : ∀ w ∈ endTexts, (w.cps.toList.all fun c => decide (c < 128)) = true ∧ w.length ≤ 300 := by decide +kernel
  intro w m
  exact ⟨asc_lit w (this w m).1, (this w m).2⟩
def sp_law (K : PySem.W.Frag) : Sp := fun vs H Q _ => ∃ (a : Addr) (ns : List Int), vs = [.ref a] ∧ SqL K H a (ns.map V.int) ∧ ns.length ≤ 63 ∧ ∀ H', Q (.bl true) H'
abbrev s_law : Stmt := top 33
theorem sc_law : FnScope ["_law_script", "_law_thing", "_law_at", "_law_bag_here", "_law_words_here", "_law_one", "_law_two", "_law_low", "_law_high", "_law_rows", "_law_made", "_law_slip", "_law_turn", "_law_text"] ["_law_script"] (defScope s_law) :=
  ⟨rfl, rfl, rfl, by decide +kernel, rfl, by decide +kernel, by decide +kernel⟩
theorem ok_law {f : Addr} {fd : FuncData} (F : Fun K "law" "law" s_law f fd) (T : Txt K mg C_Swap C_Leave C_Double C_Names C_Drop C_BadSlip C_Slip G_SLIP_WORDS G_RESERVED) (U_Slip___eq__ : UseMF P w K mg base 2 (FamS [C_Swap, C_Leave, C_Double, C_Names, C_Drop]) "__eq__" (sp_Slip___eq__ K (FamS [C_Swap, C_Leave, C_Double, C_Names, C_Drop]) C_Slip)) (U_Slip___str__ : UseMF P w K mg base 2 (FamS [C_Swap, C_Leave, C_Double, C_Names, C_Drop]) "__str__" (sp_Slip___str__ (FamS [C_Swap, C_Leave, C_Double, C_Names, C_Drop]))) (U_Swap___init__ : UseCK P w K mg base 4 "Swap" C_Swap ["self", "first", "second"] (sp_Swap___init__ C_Swap C_BadSlip)) (U_Leave___init__ : UseCK P w K mg base 4 "Leave" C_Leave ["self", "place"] (sp_Leave___init__ C_Leave)) (U_Double___init__ : UseCK P w K mg base 4 "Double" C_Double ["self", "place"] (sp_Double___init__ C_Double)) (U_Names___init__ : UseCK P w K mg base 4 "Names" C_Names ["self", "first", "second"] (sp_Names___init__ C_Names C_BadSlip)) (U_Drop___init__ : UseCK P w K mg base 4 "Drop" C_Drop ["self", "word"] (sp_Drop___init__ C_Drop)) (U_Slip_read : UseSM P w K mg base 8 C_Slip "read" (sp_Slip_read (FamS [C_Swap, C_Leave, C_Double, C_Names, C_Drop]) C_BadSlip)) (U__law_bag : Use P w K mg base 2 "_law_bag" ["_law_script", "_law_at"] (sp__law_bag K)) (U__law_take : Use P w K mg base 2 "_law_take" ["_law_bag_here", "_law_many"] (sp__law_take K)) (U__law_of : Use P w K mg base 4 "_law_of" ["_law_bag_here", "_law_some"] (sp__law_of K)) (U__law_words : Use P w K mg base 4 "_law_words" ["_law_bag_here"] (sp__law_words K)) (U__law_agrees : Use P w K mg base 10 "_law_agrees" ["_law_text"] (sp__law_agrees)) (U__law_refuses : Use P w K mg base 10 "_law_refuses" ["_law_thing"] (sp__law_refuses)) (U__law_bent : Use P w K mg base 6 "_law_bent" ["_law_bag_here", "_law_text"] (sp__law_bent)) :
    FnOk P w K mg base CX0 12 f fd ["_law_script"] (sp_law K) := by
  refine F.ok sc_law (fun vs H Q E h => ?_) (fun cdv A outer s H vs Q E hr h => ?_)
  · obtain ⟨a, ns, rfl, _⟩ := h
    rfl
  · obtain ⟨a, ns, rfl, hS, hl, q⟩ := h
    obtain ⟨f_Slip___eq__, R_Slip___eq__, M_Slip___eq__⟩ := U_Slip___eq__
    obtain ⟨f_Slip___str__, R_Slip___str__, M_Slip___str__⟩ := U_Slip___str__
    obtain ⟨f_Swap___init__, R_Swap___init__, M_Swap___init__, g_Swap___init__⟩ := U_Swap___init__.x
    obtain ⟨f_Leave___init__, R_Leave___init__, M_Leave___init__, g_Leave___init__⟩ := U_Leave___init__.x
    obtain ⟨f_Double___init__, R_Double___init__, M_Double___init__, g_Double___init__⟩ := U_Double___init__.x
    obtain ⟨f_Names___init__, R_Names___init__, M_Names___init__, g_Names___init__⟩ := U_Names___init__.x
    obtain ⟨f_Drop___init__, R_Drop___init__, M_Drop___init__, g_Drop___init__⟩ := U_Drop___init__.x
    obtain ⟨mc_Slip_read, p_Slip_read, g_Slip_read, R_Slip_read, Q_Slip_read, S_Slip_read⟩ := U_Slip_read
    have hu := hu_of hr
    have hu64 := hr.units
    refine ⟨_, (pss_cons (ps_if (pt_not (pt_val (pe_callB (K_all (K := K) rfl rfl) (by rfl) T.z_all (by decide +kernel) (pa_cons (pe_lc (own := [("_law_thing", 1)]) (by rfl) sc_law.nd (K_pil (K := K) rfl (pe_lst (pa_cons pe_non (pa_cons pe_bl (pa_cons pe_int (pa_cons pe_int (pa_cons (pe_lst pa_nil) (pa_cons (pe_lst (pa_cons pe_str (pa_cons pe_int pa_nil))) (pa_cons (pe_tup (pa_cons pe_str (pa_cons pe_int pa_nil))) (pa_cons (pe_lst (pa_cons pe_str pa_nil)) pa_nil)))))))))) (blkOk_by (own := [("_law_thing", 1)]) (N := ["_law_script", "_law_thing", "_law_at", "_law_bag_here", "_law_words_here", "_law_one", "_law_two", "_law_low", "_law_high", "_law_rows", "_law_made", "_law_slip", "_law_turn", "_law_text"]) (sc := defScope s_law) (by decide +kernel)) (fun _ _ _ _ _ => (pg_name (i := 1) sc_law.nd rfl (by first | exact Or.inl rfl | exact Or.inr rfl))) (fun _ _ _ _ _ => pts_nil) (fun _ _ _ _ _ => (pe_use U__law_refuses (hr.mono (by first | decide | omega)) (by rfl) (pa_cons (pv 1) pa_nil)))) pa_nil))))
          (pss_one (ps_ret pe_bl))
          pss_nil)
        (pss_cons (ps_for PassesOwn.never (by rfl) (pi_range1 (by rfl) T.z_range (pa_cons (pe_callB (cr_max2 rfl) (by rfl) T.z_max (by decide +kernel) (pa_cons pe_int (pa_cons (pe_callB (cr_min2 rfl) (by rfl) T.z_min (by decide +kernel) (pa_cons pe_int (pa_cons (pe_callB (K_len (K := K) rfl) (by rfl) T.z_len (by decide +kernel) (pa_cons (pv 0) pa_nil)) pa_nil))) pa_nil))) pa_nil)) (pg_name (i := 2) sc_law.nd rfl (by first | exact Or.inl rfl | exact Or.inr rfl))
          (pss_cons (ps_set (i := 3) sc_law.nd rfl (by first | exact Or.inl rfl | exact Or.inr rfl) (pe_use U__law_bag (hr.mono (by first | decide | omega)) (by rfl) (pa_cons (pv 0) (pa_cons (pv 2) pa_nil))))
          (pss_cons (ps_set (i := 4) sc_law.nd rfl (by first | exact Or.inl rfl | exact Or.inr rfl) (pe_use U__law_words (hr.mono (by first | decide | omega)) (by rfl) (pa_cons (pv 3) pa_nil)))
          (pss_cons (ps_par (i := 5) (j := 6) (by rfl) sc_law.nd rfl rfl (by decide) rfl rfl (pa_cons (pe_use U__law_take (hr.mono (by first | decide | omega)) (by rfl) (pa_cons (pv 3) (pa_cons pe_int pa_nil))) (pa_cons (pe_use U__law_take (hr.mono (by first | decide | omega)) (by rfl) (pa_cons (pv 3) (pa_cons pe_int pa_nil))) pa_nil)) (by rfl))
          (pss_cons (ps_par (i := 7) (j := 8) (by rfl) sc_law.nd rfl rfl (by decide) rfl rfl (pa_cons (pe_use U__law_of (hr.mono (by first | decide | omega)) (by rfl) (pa_cons (pv 3) (pa_cons (pv 4) pa_nil))) (pa_cons (pe_use U__law_of (hr.mono (by first | decide | omega)) (by rfl) (pa_cons (pv 3) (pa_cons (pv 4) pa_nil))) pa_nil)) (by rfl))
          (pss_cons (ps_set (i := 9) sc_law.nd rfl (by first | exact Or.inl rfl | exact Or.inr rfl) (pe_lst (pa_cons (pe_op op_addT (pe_op op_addT (pe_op op_addT pe_str (pe_callTy cr_strI (by rfl) T.z_str (by decide +kernel) (pa_cons (pv 5) pa_nil))) pe_str) (pe_callTy cr_strI (by rfl) T.z_str (by decide +kernel) (pa_cons (pv 6) pa_nil))) (pa_cons (pe_op op_addT pe_str (pe_callTy cr_strI (by rfl) T.z_str (by decide +kernel) (pa_cons (pv 5) pa_nil))) (pa_cons (pe_op op_addT pe_str (pe_callTy cr_strI (by rfl) T.z_str (by decide +kernel) (pa_cons (pv 6) pa_nil))) (pa_cons (pe_op op_addT pe_str (pv 7)) pa_nil))))))
          (pss_cons (ps_set (i := 9) sc_law.nd rfl (by first | exact Or.inl rfl | exact Or.inr rfl) (pe_op op_cat (pv 9) (pe_lst (pa_cons (pe_op op_addT (pe_op op_addT (pe_op op_addT pe_str (pv 7)) pe_str) (pv 8)) (pa_cons (pe_op op_addT (pe_op op_addT (pe_op op_addT pe_str (pv 8)) pe_str) (pv 7)) (pa_cons (pe_op op_addT (pe_op op_addT (pe_op op_addT pe_str (pe_callTy cr_strI (by rfl) T.z_str (by decide +kernel) (pa_cons (pv 6) pa_nil))) pe_str) (pe_callTy cr_strI (by rfl) T.z_str (by decide +kernel) (pa_cons (pv 5) pa_nil))) pa_nil))))))
          (pss_cons (ps_set (i := 10) sc_law.nd rfl (by first | exact Or.inl rfl | exact Or.inr rfl) (pe_lst (pa_cons (pe_makeR M_Leave___init__ R_Leave___init__ (hr.mono (by first | decide | omega)) (by rfl) g_Leave___init__ passL (pa_cons (pv 5) pa_nil)) (pa_cons (pe_makeR M_Double___init__ R_Double___init__ (hr.mono (by first | decide | omega)) (by rfl) g_Double___init__ passL (pa_cons (pv 6) pa_nil)) (pa_cons (pe_makeR M_Drop___init__ R_Drop___init__ (hr.mono (by first | decide | omega)) (by rfl) g_Drop___init__ passL (pa_cons (pv 7) pa_nil)) pa_nil)))))
          (pss_cutS (ps_if (pt_cmpR op_ne (pv 5) (pv 6) (nomark _))
            (pss_one (ps_expr (K_bm (K := K) rfl PySem.F.plainAttrs_list PySem.F.slot_list_append PySem.F.type_list_append mt_append (pv 10) (pa_cons (pe_makeR M_Swap___init__ R_Swap___init__ (hr.mono (by first | decide | omega)) (by rfl) g_Swap___init__ passL (pa_cons (pv 5) (pa_cons (pv 6) pa_nil))) pa_nil))))
            pss_nil)
          (pss_cutS (ps_if (pt_cmpR op_ne (pv 7) (pv 8) (nomark _))
            (pss_one (ps_expr (K_bm (K := K) rfl PySem.F.plainAttrs_list PySem.F.slot_list_append PySem.F.type_list_append mt_append (pv 10) (pa_cons (pe_makeR M_Names___init__ R_Names___init__ (hr.mono (by first | decide | omega)) (by rfl) g_Names___init__ passL (pa_cons (pv 7) (pa_cons (pv 8) pa_nil))) pa_nil))))
            pss_nil)
          (pss_cons (ps_if (pt_not (pt_val (pe_callB (K_all (K := K) rfl rfl) (by rfl) T.z_all (by decide +kernel) (pa_cons (pe_lc (own := [("_law_slip", 11)]) (by rfl) sc_law.nd (K_pil (K := K) rfl (pv 10)) (blkOk_by (own := [("_law_slip", 11)]) (N := ["_law_script", "_law_thing", "_law_at", "_law_bag_here", "_law_words_here", "_law_one", "_law_two", "_law_low", "_law_high", "_law_rows", "_law_made", "_law_slip", "_law_turn", "_law_text"]) (sc := defScope s_law) (by decide +kernel)) (fun _ _ _ _ _ => (pg_name (i := 11) sc_law.nd rfl (by first | exact Or.inl rfl | exact Or.inr rfl))) (fun _ _ _ _ _ => pts_nil) (fun _ _ _ _ _ => (pe_cmpR (K_eqFam (K := K) (S := (FamS [C_Swap, C_Leave, C_Double, C_Names, C_Drop])) rfl M_Slip___eq__ R_Slip___eq__ (hr.mono (by first | decide | omega))) (pe_smeth (pe_globE T.v_Slip (by rfl)) Q_Slip_read S_Slip_read R_Slip_read (hr.mono (by first | decide | omega)) (fun σ => passAtL σ) (pa_cons (pe_callTy (cr_strFam (S := (FamS [C_Swap, C_Leave, C_Double, C_Names, C_Drop])) M_Slip___str__ R_Slip___str__ (hr.mono (by first | decide | omega))) (by rfl) T.z_str (by decide +kernel) (pa_cons (pv 11) pa_nil)) pa_nil)) (pv 11) (nomark _)))) pa_nil))))
            (pss_one (ps_ret pe_bl))
            pss_nil)
          (pss_cons (ps_for PassesOwn.never (by rfl) (pi_range1 (by rfl) T.z_range (pa_cons pe_int pa_nil)) (pg_name (i := 12) sc_law.nd rfl (by first | exact Or.inl rfl | exact Or.inr rfl))
            (pss_one (ps_expr (K_bm (K := K) rfl PySem.F.plainAttrs_list PySem.F.slot_list_append PySem.F.type_list_append mt_append (pv 9) (pa_cons (pe_use U__law_bent (hr.mono (by first | decide | omega)) (by rfl) (pa_cons (pv 3) (pa_cons (pe_use U__law_of (hr.mono (by first | decide | omega)) (by rfl) (pa_cons (pv 3) (pa_cons (pe_slice (K_slL (K := K) rfl) (pv 9) po_none (po_some pe_int)) pa_nil))) pa_nil))) pa_nil)))))
          (pss_one (ps_if (pt_not (pt_val (pe_callB (K_all (K := K) rfl rfl) (by rfl) T.z_all (by decide +kernel) (pa_cons (pe_lc (own := [("_law_text", 13)]) (by rfl) sc_law.nd (K_pil (K := K) rfl (pe_op op_cat (pv 9) (pe_lst (pa_cons pe_str (pa_cons pe_str (pa_cons pe_str (pa_cons pe_str (pa_cons pe_str (pa_cons pe_str pa_nil))))))))) (blkOk_by (own := [("_law_text", 13)]) (N := ["_law_script", "_law_thing", "_law_at", "_law_bag_here", "_law_words_here", "_law_one", "_law_two", "_law_low", "_law_high", "_law_rows", "_law_made", "_law_slip", "_law_turn", "_law_text"]) (sc := defScope s_law) (by decide +kernel)) (fun _ _ _ _ _ => (pg_name (i := 13) sc_law.nd rfl (by first | exact Or.inl rfl | exact Or.inr rfl))) (fun _ _ _ _ _ => pts_nil) (fun _ _ _ _ _ => (pe_use U__law_agrees (hr.mono (by first | decide | omega)) (by rfl) (pa_cons (pv 13) pa_nil)))) pa_nil))))
            (pss_one (ps_ret pe_bl))
            pss_nil))))))))))))))
        (pss_one (ps_ret pe_bl)))), ?_⟩
    have big : 5000 ≤ sizeLine := by decide
    have eqS := fun {H : Hp} {Q : VK} {a b : Addr} {ds es : List PyData} => r_eqSlips (H := H) (Q := Q) (a := a) (b := b) (ds := ds) (es := es) (CB := C_Slip) T.fc_Slip T.cl_Slip T.gt_Slip T.tk_Slip T.ob_Slip T.nf_Slip
    walk_at "S"
    refine r_kLst (xs := []) (Nat.zero_le _) fun l1 G1 m1 g1 f1 => ?_
    walk_at "S"
    refine r_kLst (xs := [V.str "leave", V.int 0]) (by show 2 ≤ sizeLine; decide) fun l2 G2 m2 g2 f2 => ?_
    walk_at "S"
    refine r_kTup (xs := [V.str "leave", V.int 0]) (by show 2 ≤ sizeLine; decide) fun l3 G3 m3 g3 f3 => ?_
    walk_at "S"
    refine r_kLst (xs := [V.str "leave 0"]) (by show 1 ≤ sizeLine; decide) fun l4 G4 m4 g4 f4 => ?_
    walk_at "S"
    refine r_kLst (xs := [V.non, V.bl true, V.int 0, V.int 12, V.ref l1, V.ref l2, V.ref l3, V.ref l4]) (by show 8 ≤ sizeLine; decide) fun L G5 m5 g5 f5 => ?_
    have al : DtAll [] G5 [V.non, V.bl true, V.int 0, V.int 12, V.ref l1, V.ref l2, V.ref l3, V.ref l4] thingsD :=
      .cons .non (.cons (.bl _) (.cons (.int _) (.cons (.int _) (.cons (.lst not_nil ((g2.trans (g3.trans (g4.trans g5))) _ _ f1 not_nil) .nil)
        (.cons (.lst not_nil ((g3.trans (g4.trans g5)) _ _ f2 not_nil) (.cons (.str _) (.cons (.int _) .nil))) (.cons (.tup not_nil ((g4.trans g5) _ _ f3 not_nil) (.cons (.str _) (.cons (.int _) .nil))) (.cons (.lst not_nil (g5 _ _ f4 not_nil) (.cons (.str _) .nil)) .nil)))))))
    have g05 := g1.trans (g2.trans (g3.trans (g4.trans g5)))
    generalize [V.non, V.bl true, V.int 0, V.int 12, V.ref l1, V.ref l2, V.ref l3, V.ref l4] = things at f5 al
    refine r_cWL (SqL.of f5) ?_
    refine r_kLcL (fun D i ac H' => Kp [] G5 H' ∧ ac = (List.replicate i true).map V.bl) (fun D H' nD k e => ⟨k, rfl⟩) (fun D i ac H' _ h => SqL.of (h.1 _ _ f5 not_nil)) ?_ ?_
    · rintro D i ac x H2 nD hx eD ⟨k2, rfl⟩
      obtain ⟨d, hd, hxd⟩ := al.at hx
      have hok := things_ok d (mem_at hd)
      walk_at "S"
      refine ⟨x, d, 1, rfl, hxd.mono k2, hok.1, hok.2, by decide, fun H3 k3 => ?_⟩
      refine r_kApp (k3 _ _ eD not_nil) ?_ fun H4 k4 e4 => ⟨(k2.trans k3).step nD k4, (rep_succ i).symm⟩
      have h1 := lt_at hd
      have h2 : thingsD.length = 8 := rfl
      rw [rep_len]
      omega
    rintro D ac G6 nD eD ⟨g6, rfl⟩
    walk_at "S"
    refine r_all (SqL.of eD) ?_
    rw [all_true]
    walk_at "S"
    refine r_kIfS0 rfl ?_
    walk_at "S"
    have hS6 := (g05.trans g6).sql hS
    have g06 := g05.trans g6
    refine r_lenL hS6 ?_
    walk_at "S"
    have hlen : (ns.map V.int).length = ns.length := List.length_map _
    refine r_cRng1 ?_ ?_
    · rw [hlen]
      split <;> split <;> omega
    refine r_kForR (fun i σ' H' => ∃ v1 v2 v3 v4 v5 v6 v7 v8 v9 v10 v11 v12 v13, σ' = [some (.ref a), v1, v2, v3, v4, v5, v6, v7, v8, v9, v10, v11, v12, v13] ∧ Kp [] G6 H') ⟨_, _, _, _, _, _, _, _, _, _, _, _, _, rfl, Kp.refl _ _⟩ ?_ ?_
    · rintro i σ' H1 hi ⟨v1, v2, v3, v4, v5, v6, v7, v8, v9, v10, v11, v12, v13, rfl, k1⟩
      have hi63 : i ≤ 63 := by
        rw [hlen] at hi
        split at hi <;> split at hi <;> omega
      walk_at "S"
      refine ⟨a, ns, i, rfl, k1.sql hS6, hl, by omega, fun p H2 np k2 b2 => ?_⟩
      walk_at "S"
      refine ⟨p, rfl, b2, fun W ws H3 nW k3 eW b3 hws hok => ?_⟩
      have Wp : W ≠ p := by
        obtain ⟨o, ho⟩ := b2.some
        exact ne_none ho nW
      walk_at "S"
      refine ⟨p, 10, rfl, b3, by decide, by decide, fun one H4 o0 o1 k4 b4 => ?_⟩
      walk_at "S"
      refine ⟨p, 10, rfl, b4, by decide, by decide, fun two H5 t0 t1 k5 b5 => ?_⟩
      walk_at "S"
      refine ⟨_, _, rfl, ?_⟩
      walk_at "S"
      have eW5 := k5 _ _ (k4 _ _ eW (not_one Wp)) (not_one Wp)
      have hwl : (ws.map V.str).length = 23 := by rw [List.length_map, hws]
      refine ⟨p, W, _, rfl, b5, SqL.of eW5, Wp, by omega, by omega, fun lo H6 hlo k6 b6 => ?_⟩
      obtain ⟨low, mlow, rfl⟩ := List.mem_map.mp hlo
      walk_at "S"
      refine ⟨p, W, _, rfl, b6, SqL.of (k6 _ _ eW5 (not_one Wp)), Wp, by omega, by omega, fun hi' H7 hhi k7 b7 => ?_⟩
      obtain ⟨high, mhigh, rfl⟩ := List.mem_map.mp hhi
      walk_at "S"
      refine ⟨_, _, rfl, ?_⟩
      walk_at "S"
      have k17 : Kp [] H1 H7 := Kp.drop (l := p) (k2.nil.trans (k3.trans (k4.trans (k5.trans (k6.trans k7))))) np
      have nl := hok low mlow
      have nh := hok high mhigh
      have o9 : one ≤ 9 := by omega
      have t9 : two ≤ 9 := by omega
      have d1 := dig_asc o0 o9
      have d2 := dig_asc t0 t9
      have z1 := (digit_ok one o0 (by omega)).1
      have z2 := (digit_ok two t0 (by omega)).1
      have e1 := d1.2
      have e2 := d2.2
      have ll := nl.2.2
      have lh := nh.2.2
      have c0 : (Str.ofString " ").length = 1 := rfl
      have c1 : (Str.ofString "swap ").length = 5 := rfl
      have c2 : (Str.ofString "leave ").length = 6 := rfl
      have c3 : (Str.ofString "double ").length = 7 := rfl
      have c4 : (Str.ofString "drop ").length = 5 := rfl
      have c5 : (Str.ofString "names ").length = 6 := rfl
      refine r_strI z1 ?_
      refine r_addT (b := strD (.int one)) (by omega) ?_
      walk_at "S"
      refine r_addT (by rw [str_append_length]; omega) ?_
      walk_at "S"
      refine r_strI z2 ?_
      refine r_addT (b := strD (.int two)) (by rw [str_append_length, str_append_length]; omega) ?_
      walk_at "S"
      refine r_strI z1 ?_
      refine r_addT (b := strD (.int one)) (by omega) ?_
      walk_at "S"
      refine r_strI z2 ?_
      refine r_addT (b := strD (.int two)) (by omega) ?_
      walk_at "S"
      refine r_addT (by omega) ?_
      walk_at "S"
      refine r_kLst (xs := [Str.ofString "swap " ++ strD (.int one) ++ Str.ofString " " ++ strD (.int two), Str.ofString "leave " ++ strD (.int one), Str.ofString "double " ++ strD (.int two), Str.ofString "drop " ++ low].map V.str) (by show 4 ≤ sizeLine; decide) fun R1 H8 nR1 k8 eR1 => ?_
      walk_at "S"
      refine r_addT (by omega) ?_
      walk_at "S"
      refine r_addT (by rw [str_append_length]; omega) ?_
      walk_at "S"
      refine r_addT (by rw [str_append_length, str_append_length]; omega) ?_
      walk_at "S"
      refine r_addT (by omega) ?_
      walk_at "S"
      refine r_addT (by rw [str_append_length]; omega) ?_
      walk_at "S"
      refine r_addT (by rw [str_append_length, str_append_length]; omega) ?_
      walk_at "S"
      refine r_strI z2 ?_
      refine r_addT (b := strD (.int two)) (by omega) ?_
      walk_at "S"
      refine r_addT (by rw [str_append_length]; omega) ?_
      walk_at "S"
      refine r_strI z1 ?_
      refine r_addT (b := strD (.int one)) (by rw [str_append_length, str_append_length]; omega) ?_
      walk_at "S"
      refine r_kLst (xs := [Str.ofString "names " ++ low ++ Str.ofString " " ++ high, Str.ofString "names " ++ high ++ Str.ofString " " ++ low, Str.ofString "swap " ++ strD (.int two) ++ Str.ofString " " ++ strD (.int one)].map V.str) (by show 3 ≤ sizeLine; decide) fun R2 H9 nR2 k9 eR2 => ?_
      refine r_cat (k9 _ _ eR1 not_nil) eR2 (by show 4 + 3 ≤ sizeLine; decide) fun R H10 nR k10 eR => ?_
      have rows_ok : ∀ w ∈ [Str.ofString "swap " ++ strD (.int one) ++ Str.ofString " " ++ strD (.int two), Str.ofString "leave " ++ strD (.int one), Str.ofString "double " ++ strD (.int two), Str.ofString "drop " ++ low] ++ [Str.ofString "names " ++ low ++ Str.ofString " " ++ high, Str.ofString "names " ++ high ++ Str.ofString " " ++ low, Str.ofString "swap " ++ strD (.int two) ++ Str.ofString " " ++ strD (.int one)], Row 100 w := by
        have x0 : Row 1 (Str.ofString " ") := ⟨asc_lit _ (by decide +kernel), by omega⟩
        have x1 : Row 5 (Str.ofString "swap ") := ⟨asc_lit _ (by decide +kernel), by omega⟩
        have x2 : Row 6 (Str.ofString "leave ") := ⟨asc_lit _ (by decide +kernel), by omega⟩
        have x3 : Row 7 (Str.ofString "double ") := ⟨asc_lit _ (by decide +kernel), by omega⟩
        have x4 : Row 5 (Str.ofString "drop ") := ⟨asc_lit _ (by decide +kernel), by omega⟩
        have x5 : Row 6 (Str.ofString "names ") := ⟨asc_lit _ (by decide +kernel), by omega⟩
        have y1 : Row 1 (strD (.int one)) := ⟨d1.1, by omega⟩
        have y2 : Row 1 (strD (.int two)) := ⟨d2.1, by omega⟩
        have y3 : Row 7 low := ⟨nl.asc, ll⟩
        have y4 : Row 7 high := ⟨nh.asc, lh⟩
        intro w m
        simp only [List.cons_append, List.nil_append, List.mem_cons, List.not_mem_nil, or_false] at m
        rcases m with rfl | rfl | rfl | rfl | rfl | rfl | rfl
        · exact (((x1.app y1).app x0).app y2).mono (by decide)
        · exact (x2.app y1).mono (by decide)
        · exact (x3.app y2).mono (by decide)
        · exact (x4.app y3).mono (by decide)
        · exact (((x5.app y3).app x0).app y4).mono (by decide)
        · exact (((x5.app y4).app x0).app y3).mono (by decide)
        · exact (((x1.app y2).app x0).app y1).mono (by decide)
      rw [← List.map_append] at eR
      generalize hrows : [Str.ofString "swap " ++ strD (.int one) ++ Str.ofString " " ++ strD (.int two), Str.ofString "leave " ++ strD (.int one), Str.ofString "double " ++ strD (.int two), Str.ofString "drop " ++ low] ++ [Str.ofString "names " ++ low ++ Str.ofString " " ++ high, Str.ofString "names " ++ high ++ Str.ofString " " ++ low, Str.ofString "swap " ++ strD (.int two) ++ Str.ofString " " ++ strD (.int one)] = rows at eR rows_ok
      have hrl : rows.length = 7 := by
        rw [← hrows]
        rfl
      have k710 := k8.trans (k9.trans k10)
      have b10 := b7.kp k710 not_nil
      have Rp : R ≠ p := by
        obtain ⟨o, ho⟩ := (b7.kp (k8.trans k9) not_nil).some
        exact ne_none ho nR
      walk_at "S"
      refine r_kMake fun o1 dx H11 n1 j1 f1 => ⟨o1, dx, _, rfl, f1, leave_made (S := FamS [C_Swap, C_Leave, C_Double, C_Names, C_Drop]) (k := 1) (d := .int one) (.tl .hd) n1 j1 (fun _ => .int _) fun o1 H11 j1 s1 => ?_⟩
      walk_at "S"
      refine r_kMake fun o2 dx H12 n2 j2 f2 => ⟨o2, dx, _, rfl, f2, leave_made (S := FamS [C_Swap, C_Leave, C_Double, C_Names, C_Drop]) (k := 2) (d := .int two) (.tl (.tl .hd)) n2 j2 (fun _ => .int _) fun o2 H12 j2 s2 => ?_⟩
      walk_at "S"
      refine r_kMake fun o3 dx H13 n3 j3 f3 => ⟨o3, dx, _, rfl, f3, leave_made (S := FamS [C_Swap, C_Leave, C_Double, C_Names, C_Drop]) (k := 4) (d := .str low) (.tl (.tl (.tl (.tl .hd)))) n3 j3 (fun _ => .str _) fun o3 H13 j3 s3 => ?_⟩
      walk_at "S"
      refine r_kLst (xs := [V.ref o1, V.ref o2, V.ref o3]) (by show 3 ≤ sizeLine; decide) fun M H14 nM j4 eM => ?_
      have j14 := j1.trans (j2.trans (j3.trans j4))
      have nB := nameX_B nl (by decide)
      have nB2 := nameX_B nh (by decide)
      have mk : MadeOk (FamS [C_Swap, C_Leave, C_Double, C_Names, C_Drop]) H14 [V.ref o1, V.ref o2, V.ref o3] := fun x m => by
        rcases List.mem_cons.mp m with rfl | m
        · exact made_one (s1.kp (j2.trans (j3.trans j4))) (KeyOk.leave o0 o9) _ List.mem_cons_self
        · rcases List.mem_cons.mp m with rfl | m
          · exact made_one (s2.kp (j3.trans j4)) (KeyOk.double t0 t9) _ List.mem_cons_self
          · rw [List.mem_singleton.mp m]
            exact made_one (s3.kp j4) (KeyOk.drop nB) _ List.mem_cons_self
      have MR : M ≠ R := by
        exact (ne_none ((j1.trans (j2.trans j3)) _ _ eR not_nil) nM)
      have Mp : M ≠ p := by
        obtain ⟨o, ho⟩ := (b10.kp (j1.trans (j2.trans j3)) not_nil).some
        exact ne_none ho nM
      walk_at "S"
      refine r_cutS (fun σ' H' => ∃ xs v1 v11 v12 v13, σ' = [some (.ref a), v1, some (.int (i : Int)), some (.ref p), some (.ref W), some (.int one), some (.int two), some (.str low), some (.str high), some (.ref R), some (.ref M), v11, v12, v13] ∧ H' M = some (.lst xs) ∧ xs.length ≤ 4 ∧ MadeOk (FamS [C_Swap, C_Leave, C_Double, C_Names, C_Drop]) H' xs ∧ Kp [M] H14 H') ?_ ?_
      · walk_at "S"
        refine r_kIfS (fun c => ?_) (fun c => ?_)
        · have ne : one ≠ two := by simpa using c
          walk_at "S"
          refine r_kBMl (SqL.of eM) ?_
          walk_at "S"
          refine r_kMake fun o4 dx H15 n4 j5 f4 => swap_made (S := FamS [C_Swap, C_Leave, C_Double, C_Names, C_Drop]) .hd n4 j5 f4 ne fun o4 H15 j5 s4 => ?_
          walk_at "S"
          refine r_append (j5 _ _ eM not_nil) (by show 3 < sizeLine; decide) fun H16 j6 e6 => ?_
          walk_at "S"
          exact ⟨_, _, _, _, _, rfl, e6, by show 4 ≤ 4; decide, ((mk.kp j5).snoc (made_one s4 (KeyOk.swap o0 o9 t0 t9 ne))).but (j5 _ _ eM not_nil) j6, j5.nil.trans j6⟩
        · walk_at "S"
          exact ⟨_, _, _, _, _, rfl, eM, by show 3 ≤ 4; decide, mk, Kp.refl _ _⟩
      rintro σ' H15 ⟨xs, v1, v11, v12, v13, rfl, eM15, hx4, mk15, j15⟩
      refine r_cutS (fun σ' H' => ∃ xs v1 v11 v12 v13, σ' = [some (.ref a), v1, some (.int (i : Int)), some (.ref p), some (.ref W), some (.int one), some (.int two), some (.str low), some (.str high), some (.ref R), some (.ref M), v11, v12, v13] ∧ H' M = some (.lst xs) ∧ xs.length ≤ 5 ∧ MadeOk (FamS [C_Swap, C_Leave, C_Double, C_Names, C_Drop]) H' xs ∧ Kp [M] H15 H') ?_ ?_
      · walk_at "S"
        refine r_kIfS (fun c => ?_) (fun c => ?_)
        · have ne : low ≠ high := by simpa using c
          walk_at "S"
          refine r_kBMl (SqL.of eM15) ?_
          walk_at "S"
          refine r_kMake fun o4 dx H16 n4 j5 f4 => names_made (S := FamS [C_Swap, C_Leave, C_Double, C_Names, C_Drop]) (C := C_Names) (.tl (.tl (.tl .hd))) n4 j5 f4 ne fun o4 H16 j5 s4 => ?_
          walk_at "S"
          refine r_append (j5 _ _ eM15 not_nil) (by omega) fun H17 j6 e6 => ?_
          walk_at "S"
          exact ⟨_, _, _, _, _, rfl, e6, by rw [List.length_append]; exact Nat.succ_le_succ hx4, ((mk15.kp j5).snoc (made_one s4 (KeyOk.names nB nB2 ne))).but (j5 _ _ eM15 not_nil) j6, j5.nil.trans j6⟩
        · walk_at "S"
          exact ⟨_, _, _, _, _, rfl, eM15, by omega, mk15, Kp.refl _ _⟩
      rintro σ' H16 ⟨ys, w1, w11, w12, w13, rfl, eM16, hx5, mk16, j16⟩
      walk_at "S"
      refine r_cWL (SqL.of eM16) ?_
      refine r_kLcL (fun D m ac H' => Kp [] H16 H' ∧ ac = (List.replicate m true).map V.bl) (fun D H' nD k e => ⟨k, rfl⟩) (fun D m ac H' _ h => SqL.of (h.1 _ _ eM16 not_nil)) ?_ ?_
      · rintro D m ac x H17 nD hx eD ⟨j17, rfl⟩
        obtain ⟨o, k, ds, rfl, hA, hO, hP⟩ := mk16 x (mem_at hx)
        have hA17 := hA.kp j17
        obtain ⟨C, dx, pp, hSC, eo, _⟩ := id hA17
        walk_at "S"
        refine r_strFam eo hSC ⟨o, k, ds, rfl, hA17, hP.lt, hP.ne, hP.two, fun d m => ⟨(hP.ok d m).1, (hP.ok d m).2.1⟩, fun H18 j18 => r_kStr ?_⟩
        walk_at "S"
        refine ⟨.str (slipText k ds), .str (slipText k ds), rfl, .str _, (fun z h => by cases h; exact text_len hP (Tells.short hO)), fun z k' ds' h hk' b H19 j19 hB => ?_, fun h => ?_⟩
        · cases h
          rw [hO.again] at hk'
          cases hk'
          walk_at "S"
          refine eqS hB (hA17.kp (j18.trans j19)) hP.shp hP.shp ?_
          rw [eqv_self hP.shp]
          refine r_kApp ((j18.trans j19) _ _ eD not_nil) ?_ fun H20 j20 e20 => ⟨(j17.trans (j18.trans j19)).step nD j20, (rep_succ m).symm⟩
          have := lt_at hx
          rw [rep_len]
          omega
        · have := hO.again.symm.trans (h _ rfl)
          cases this
      rintro D ac H17 nD eD ⟨j17, rfl⟩
      walk_at "S"
      refine r_all (SqL.of eD) ?_
      rw [all_true]
      walk_at "S"
      refine r_kIfS0 rfl ?_
      walk_at "S"
      refine r_cRng1 (by decide) ?_
      have j10 : Kp [M] H10 H17 := (j14.nil.trans (j15.trans j16)).trans j17.nil
      have eR17 := j10 _ _ eR (not_one MR.symm)
      have b17 : BagL H17 p := b10.kp j10 (not_one Mp.symm)
      have nM10 : H10 M = none := (j1.trans (j2.trans j3)).free nM not_nil
      have j10' : Kp [] H10 H17 := Kp.drop j10 nM10
      refine r_kForR (fun t σ' H' => ∃ v1 v11 v12 v13 more, σ' = [some (.ref a), v1, some (.int (i : Int)), some (.ref p), some (.ref W), some (.int one), some (.int two), some (.str low), some (.str high), some (.ref R), some (.ref M), v11, v12, v13] ∧ H' R = some (.lst ((rows ++ more).map V.str)) ∧ more.length = t ∧ (∀ w ∈ more, Row 300 w) ∧ BagL H' p ∧ Kp [p, R] H17 H') ⟨_, _, _, _, [], rfl, by rw [List.append_nil]; exact eR17, rfl, (fun w m => nomatch m), b17, Kp.refl _ _⟩ ?_ ?_
      · rintro t σ' H18 ht ⟨v1, v11, v12, v13, more, rfl, eR18, hmt, hmo, b18, j18⟩
        have ht : t < 12 := ht
        walk_at "S"
        refine r_kBMl (SqL.of eR18) ?_
        walk_at "S"
        refine r_slL (SqL.of eR18) fun l H19 nl19 j19 e19 => ?_
        rw [show (some (7 : Int)) = some ((7 : Nat) : Int) from rfl, cut_to, ← List.map_take, List.take_append_of_le_length (by omega), List.take_of_length_le (by omega)] at e19
        have lp : l ≠ p := by
          obtain ⟨o, ho⟩ := b18.some
          exact ne_none ho nl19
        have lR : l ≠ R := ne_none eR18 nl19
        walk_at "S"
        refine ⟨p, l, _, rfl, b18.kp j19 not_nil, SqL.of e19, lp, by rw [List.length_map]; omega, by rw [List.length_map]; omega, fun v H20 hv j20 b20 => ?_⟩
        obtain ⟨z, hz, rfl⟩ := List.mem_map.mp hv
        have hzr := rows_ok z hz
        walk_at "S"
        refine ⟨p, z, rfl, b20, hzr.1, hzr.2, fun w H21 hwA hwl j21 b21 => ?_⟩
        have eR21 := j21 _ _ (j20 _ _ (j19 _ _ eR18 not_nil) (not_one Rp)) (not_one Rp)
        walk_at "S"
        refine r_append eR21 ?_ fun H22 j22 e22 => ?_
        · rw [List.length_map, List.length_append]
          omega
        walk_at "S"
        have jj : Kp [p, R] H18 H22 := (j19.nil.trans ((j20.trans j21).mono fun b m => by rw [List.mem_singleton.mp m]; exact List.mem_cons_self)).trans (j22.mono fun b m => by rw [List.mem_singleton.mp m]; exact List.mem_cons_of_mem _ List.mem_cons_self)
        refine ⟨_, _, _, _, more ++ [w], rfl, ?_, by rw [List.length_append, hmt]; rfl, fun w' m => ?_, b21.kp j22 (not_one Rp.symm), j18.trans jj⟩
        · rw [e22, ← List.append_assoc, List.map_append (l₁ := rows ++ more)]
          rfl
        · rcases List.mem_append.mp m with m | m
          · exact hmo w' m
          · rw [List.mem_singleton.mp m]
            exact ⟨hwA, hwl⟩
      · rintro σ' H18 ⟨v1, v11, v12, v13, more, rfl, eR18, hmt, hmo, b18, j18⟩
        walk_at "S"
        refine r_kLst (xs := endTexts.map V.str) (by show 6 ≤ sizeLine; decide) fun l H19 nl19 j19 e19 => ?_
        refine r_cat (j19 _ _ eR18 not_nil) e19 ?_ fun l2 H20 nl20 j20 e20 => ?_
        · rw [List.length_map, List.length_append]
          show _ + 6 ≤ sizeLine
          omega
        rw [← List.map_append] at e20
        have tx_ok : ∀ w ∈ rows ++ more ++ endTexts, Row 300 w := fun w m => by
          rcases List.mem_append.mp m with m | m
          · rcases List.mem_append.mp m with m | m
            · exact (rows_ok w m).mono (by decide)
            · exact hmo w m
          · exact end_ok w m
        have tx_len : (rows ++ more ++ endTexts).length = 25 := by
          rw [List.length_append, List.length_append, hrl, hmt]
          rfl
        generalize rows ++ more ++ endTexts = tx at e20 tx_ok tx_len
        refine r_cWL (SqL.of e20) ?_
        refine r_kLcL (fun D m ac H' => Kp [] H20 H' ∧ ac = (List.replicate m true).map V.bl) (fun D H' nD k e => ⟨k, rfl⟩) (fun D m ac H' _ h => SqL.of (h.1 _ _ e20 not_nil)) ?_ ?_
        · rintro D m ac x H21 nD hx eD ⟨j21, rfl⟩
          obtain ⟨z, hz, rfl⟩ := map_at hx
          have hzr := tx_ok z (mem_at hz)
          walk_at "S"
          refine ⟨z, rfl, Nat.le_trans hzr.2 (by decide), hzr.1.ok, fun H22 j22 => ?_⟩
          refine r_kApp (j22 _ _ eD not_nil) ?_ fun H23 j23 e23 => ⟨(j21.trans j22).step nD j23, (rep_succ m).symm⟩
          have := lt_at hz
          rw [rep_len]
          omega
        rintro D ac H21 nD eD ⟨j21, rfl⟩
        walk_at "S"
        refine r_all (SqL.of eD) ?_
        rw [all_true]
        walk_at "S"
        refine r_kIfS0 rfl ?_
        walk_at "S"
        have k1R : Kp [] H1 H10 := k17.trans k710
        have nR1 : H1 R = none := (k17.trans (k8.trans k9)).free nR not_nil
        have fin : Kp [p, R] H1 H21 := ((k1R.trans j10').nil.trans j18).trans (j19.trans (j20.trans j21)).nil
        exact ⟨_, _, _, _, _, _, _, _, _, _, _, _, _, rfl, k1.trans (Kp.drop (Kp.drop fin np) nR1)⟩
    · rintro σ' H1 ⟨v1, v2, v3, v4, v5, v6, v7, v8, v9, v10, v11, v12, v13, rfl, k1⟩
      walk_at "S"
      exact q H1

end
theorem all_mk {l : PySem.W.OpenLaw} {w : World} {K : PySem.W.Frag} {h : Heap} {mg : Str → Option Value} {fa f1 f2 f3 f4 f5 f6 f7 f8 f9 f10 f11 f12 f13 f14 f15 f16 f17 f18 f19 f20 f21 f22 f23 f24 C_Swap C_Leave C_Double C_Names C_Drop C_BadSlip C_Slip G_SLIP_WORDS G_RESERVED : Addr} (X : K.In h) (G : h.Ns mainGlobals mg) (hfa : mg "law" = some (.ref fa))
    {od1 an1 od2 an2 od3 an3 od4 an4 od5 an5 od6 an6 od7 an7 od8 an8 od9 an9 od10 an10 od11 an11 od12 an12 od13 an13 od14 an14 od15 an15 od16 an16 od17 an17 od18 an18 od19 an19 od20 an20 od21 an21 od22 an22 od23 an23 od24 an24 : Option Addr} {sl1 sl2 sl3 sl4 sl5 sl6 sl7 sl8 sl9 sl10 sl11 sl12 sl13 sl14 sl15 sl16 sl17 sl18 sl19 sl20 sl21 sl22 sl23 sl24 : Array (Option Value)} {oc1 kV1 dc1 pm1 cd1 ct1 oc2 kV2 dc2 pm2 cd2 ct2 oc3 kV3 dc3 pm3 cd3 ct3 oc4 kV4 dc4 pm4 cd4 ct4 oc5 kV5 dc5 pm5 cd5 ct5 oc6 kV6 dc6 pm6 cd6 ct6 oc7 kV7 dc7 pm7 cd7 ct7 oc8 kV8 dc8 pm8 cd8 ct8 oc9 kV9 dc9 pm9 cd9 ct9 oc10 kV10 dc10 pm10 cd10 ct10 oc11 kV11 dc11 pm11 ct11 oc12 kV12 dc12 pm12 ct12 oc13 kV13 dc13 pm13 ct13 oc14 kV14 dc14 pm14 ct14 oc15 kV15 dc15 pm15 ct15 oc16 kV16 dc16 pm16 cd16 ct16 oc17 kV17 dc17 pm17 cd17 ct17 oc18 kV18 dc18 pm18 cd18 ct18 oc19 kV19 dc19 pm19 cd19 ct19 oc20 kV20 dc20 pm20 cd20 ct20 oc21 kV21 dc21 pm21 cd21 ct21 oc22 kV22 dc22 pm22 cd22 ct22 oc23 kV23 dc23 pm23 cd23 ct23 oc24 kV24 dc24 pm24 cd24 ct24 : Value} {tk_SLIP_WORDS_0 tk_SLIP_WORDS_1 tk_SLIP_WORDS_2 tk_SLIP_WORDS_3 tk_SLIP_WORDS_4 tk_LETTERS tk_RESERVED_0 tk_RESERVED_1 tk_RESERVED_2 tk_RESERVED_3 tk_RESERVED_4 tk_RESERVED_5 tk_RESERVED_6 tk_RESERVED_7 tk_RESERVED_8 tk_RESERVED_9 tk_RESERVED_10 tk_RESERVED_11 tk_RESERVED_12 tk_RESERVED_13 tk_RESERVED_14 tk_RESERVED_15 : Tok} {nm_BadSlip q_BadSlip fl_BadSlip : Str} {N_BadSlip f_BadSlip cda_BadSlip cc_BadSlip : Addr} {bs_BadSlip bm_BadSlip sub_BadSlip : List Value} {sn_BadSlip : List Str} {ab_BadSlip : Bool} {col_BadSlip : Option Bool} {dd_BadSlip od_BadSlip an_BadSlip cld_BadSlip cdd_BadSlip : Option Addr} {m0_BadSlip m1_BadSlip m2_BadSlip m3_BadSlip m5_BadSlip : Option Value} {oc_BadSlip kV_BadSlip dc_BadSlip pm_BadSlip ct_BadSlip cl_BadSlip ccl_BadSlip : Value} {osl_BadSlip csl_BadSlip ccs_BadSlip : Array (Option Value)} {vs_BadSlip : Array Value} {tf_BadSlip : Tok} {p3 : Addr} {rs3 : List Value} {cda11 cc11 : Addr} {cl11 ccl11 : Value} {cld11 cdd11 : Option Addr} {csl11 ccs11 : Array (Option Value)} {vs11 : Array Value} {fl11 : Str} {tf11 : Tok} {cda12 cc12 : Addr} {cl12 ccl12 : Value} {cld12 cdd12 : Option Addr} {csl12 ccs12 : Array (Option Value)} {vs12 : Array Value} {fl12 : Str} {tf12 : Tok} {cda13 cc13 : Addr} {cl13 ccl13 : Value} {cld13 cdd13 : Option Addr} {csl13 ccs13 : Array (Option Value)} {vs13 : Array Value} {fl13 : Str} {tf13 : Tok} {cda14 cc14 : Addr} {cl14 ccl14 : Value} {cld14 cdd14 : Option Addr} {csl14 ccs14 : Array (Option Value)} {vs14 : Array Value} {fl14 : Str} {tf14 : Tok} {cda15 cc15 : Addr} {cl15 ccl15 : Value} {cld15 cdd15 : Option Addr} {csl15 ccs15 : Array (Option Value)} {vs15 : Array Value} {fl15 : Str} {tf15 : Tok} {p21 : Addr} {rs21 : List Value} {od_SLIP_WORDS od_RESERVED : Option Addr} {sl_SLIP_WORDS sl_RESERVED : Array (Option Value)} {n_SLIP_WORDS n_RESERVED : Nat}
    (aC_Swap : PySem.W.nsIn K mainGlobals "Swap" = some (some (.ref C_Swap)))
    (pg_Swap : PySem.W.plainGet K C_Swap Str.empty = true)
    (hd_Swap : PySem.W.hasDictIn K C_Swap = true)
    (po_Swap : PySem.W.plainOver K C_Swap = true)
    (sa_Swap : PySem.W.findIn K (.ref C_Swap) "__setattr__" = some (some (.builtin "object.__setattr__")))
    (mk_Swap : PySem.W.makesIn K C_Swap = true)
    (kc_Swap : PySem.W.keepIn K (.ref C_Swap) = true)
    (na_Swap_parts : PySem.W.findIn K (.ref C_Swap) "parts" = some none)
    (aC_Leave : PySem.W.nsIn K mainGlobals "Leave" = some (some (.ref C_Leave)))
    (pg_Leave : PySem.W.plainGet K C_Leave Str.empty = true)
    (hd_Leave : PySem.W.hasDictIn K C_Leave = true)
    (po_Leave : PySem.W.plainOver K C_Leave = true)
    (sa_Leave : PySem.W.findIn K (.ref C_Leave) "__setattr__" = some (some (.builtin "object.__setattr__")))
    (mk_Leave : PySem.W.makesIn K C_Leave = true)
    (kc_Leave : PySem.W.keepIn K (.ref C_Leave) = true)
    (na_Leave_parts : PySem.W.findIn K (.ref C_Leave) "parts" = some none)
    (aC_Double : PySem.W.nsIn K mainGlobals "Double" = some (some (.ref C_Double)))
    (pg_Double : PySem.W.plainGet K C_Double Str.empty = true)
    (hd_Double : PySem.W.hasDictIn K C_Double = true)
    (po_Double : PySem.W.plainOver K C_Double = true)
    (sa_Double : PySem.W.findIn K (.ref C_Double) "__setattr__" = some (some (.builtin "object.__setattr__")))
    (mk_Double : PySem.W.makesIn K C_Double = true)
    (kc_Double : PySem.W.keepIn K (.ref C_Double) = true)
    (na_Double_parts : PySem.W.findIn K (.ref C_Double) "parts" = some none)
    (aC_Names : PySem.W.nsIn K mainGlobals "Names" = some (some (.ref C_Names)))
    (pg_Names : PySem.W.plainGet K C_Names Str.empty = true)
    (hd_Names : PySem.W.hasDictIn K C_Names = true)
    (po_Names : PySem.W.plainOver K C_Names = true)
    (sa_Names : PySem.W.findIn K (.ref C_Names) "__setattr__" = some (some (.builtin "object.__setattr__")))
    (mk_Names : PySem.W.makesIn K C_Names = true)
    (kc_Names : PySem.W.keepIn K (.ref C_Names) = true)
    (na_Names_parts : PySem.W.findIn K (.ref C_Names) "parts" = some none)
    (aC_Drop : PySem.W.nsIn K mainGlobals "Drop" = some (some (.ref C_Drop)))
    (pg_Drop : PySem.W.plainGet K C_Drop Str.empty = true)
    (hd_Drop : PySem.W.hasDictIn K C_Drop = true)
    (po_Drop : PySem.W.plainOver K C_Drop = true)
    (sa_Drop : PySem.W.findIn K (.ref C_Drop) "__setattr__" = some (some (.builtin "object.__setattr__")))
    (mk_Drop : PySem.W.makesIn K C_Drop = true)
    (kc_Drop : PySem.W.keepIn K (.ref C_Drop) = true)
    (na_Drop_parts : PySem.W.findIn K (.ref C_Drop) "parts" = some none)
    (aC_BadSlip : PySem.W.nsIn K mainGlobals "BadSlip" = some (some (.ref C_BadSlip)))
    (aC_Slip : PySem.W.nsIn K mainGlobals "Slip" = some (some (.ref C_Slip)))
    (hnC : PySem.W.specialIn K (.builtin "object.__class__") "__get__" = some (some (.builtin "getset_descriptor.__get__")))
    (htC : PySem.W.takesIn K (.builtin "object.__class__") = some true)
    (opq : PySem.W.nsIn K cStatics "thirdparty.any" = some none)
    (tops : (l.prog.main.scope.names.lookup ("super" : Str)).isSome = false)
    (xL_BadSlip : K.lookup C_BadSlip = some (excClassObj nm_BadSlip q_BadSlip C_BadSlip N_BadSlip bs_BadSlip bm_BadSlip true sn_BadSlip sub_BadSlip ab_BadSlip col_BadSlip dd_BadSlip m0_BadSlip m1_BadSlip m2_BadSlip m3_BadSlip m5_BadSlip "ValueError.__new__"))
    (rv_BadSlip : PySem.HandSPX.refsVE bm_BadSlip = true)
    (sa_BadSlip : PySem.W.findIn K (.ref C_BadSlip) "__setattr__" = some (some (.builtin "object.__setattr__")))
    (ga_BadSlip : PySem.W.findIn K (.ref C_BadSlip) "__getattribute__" = some (some (.builtin "BaseException.__getattribute__")))
    (gg_BadSlip : PySem.W.findIn K (.ref C_BadSlip) "__getattr__" = some none)
    (no_BadSlip : PySem.W.findIn K (.ref C_BadSlip) "what" = some none)
    (ai_BadSlip : PySem.W.findIn K (.ref C_BadSlip) "__init__" = some (some (.ref f_BadSlip)))
    (ti_BadSlip : PySem.W.typeIn K (.ref f_BadSlip) = some (.type "function"))
    (li_BadSlip : K.lookup f_BadSlip = some ⟨oc_BadSlip, od_BadSlip, .func (PySem.W.ksFn "__init__" "BadSlip.__init__" (defArgs s_BadSlip___init__) (defBody s_BadSlip___init__) (defScope s_BadSlip___init__) .none kV_BadSlip dc_BadSlip pm_BadSlip an_BadSlip (.ref cda_BadSlip) ct_BadSlip cc_BadSlip), osl_BadSlip⟩)
    (ci_BadSlip : PySem.W.codeIn K (.ref cda_BadSlip) "BadSlip.__init__" = true)
    (ce_BadSlip : K.lookup cc_BadSlip = some ⟨cl_BadSlip, cld_BadSlip, .cell (some (.ref C_BadSlip)), csl_BadSlip⟩)
    (cf_BadSlip : K.lookup cda_BadSlip = some ⟨ccl_BadSlip, cdd_BadSlip, .fields vs_BadSlip, ccs_BadSlip⟩)
    (cv_BadSlip : vs_BadSlip[2]? = some (.str fl_BadSlip tf_BadSlip))
    (cm_BadSlip : (l.prog.main.file == fl_BadSlip) = true)
    (kC_BadSlip : PySem.W.keepIn K (.ref C_BadSlip) = true)
    (eC_BadSlip : PySem.W.subIn K (.ref C_BadSlip) (.type "BaseException") = some true)
    (tC_BadSlip : PySem.W.typeIn K (.ref C_BadSlip) = some (.type "type"))
    (hC_BadSlip : PySem.W.hasDictIn K C_BadSlip = true)
    (sC_BadSlip : PySem.W.subIn K (.ref C_BadSlip) (.ref C_BadSlip) = some true)
    (up_BadSlip : PySem.W.ks_superIn K C_BadSlip C_BadSlip "__init__" = some (some (.builtin "ValueError.__init__")))
    (sV_BadSlip : PySem.W.subIn K (.ref C_BadSlip) (.type "ValueError") = some true)
    (mo_BadSlip : PySem.W.mroIn K C_BadSlip (.ref C_BadSlip) = some true)
    (ob_BadSlip : PySem.W.mroIn K C_BadSlip (.type "object") = some true)
    (ha_BadSlip : PySem.W.findIn K (.ref C_BadSlip) "__class__" = some (some (.builtin "object.__class__")))
    (fa_cl_Swap : PySem.W.findIn K (.ref C_Swap) "__class__" = some (some (.builtin "object.__class__")))
    (fa_cl_Leave : PySem.W.findIn K (.ref C_Leave) "__class__" = some (some (.builtin "object.__class__")))
    (fa_cl_Double : PySem.W.findIn K (.ref C_Double) "__class__" = some (some (.builtin "object.__class__")))
    (fa_cl_Names : PySem.W.findIn K (.ref C_Names) "__class__" = some (some (.builtin "object.__class__")))
    (fa_cl_Drop : PySem.W.findIn K (.ref C_Drop) "__class__" = some (some (.builtin "object.__class__")))
    (fa_ob_Swap : PySem.W.mroIn K C_Swap (.type "object") = some true)
    (fa_ob_Leave : PySem.W.mroIn K C_Leave (.type "object") = some true)
    (fa_ob_Double : PySem.W.mroIn K C_Double (.type "object") = some true)
    (fa_ob_Names : PySem.W.mroIn K C_Names (.type "object") = some true)
    (fa_ob_Drop : PySem.W.mroIn K C_Drop (.type "object") = some true)
    (fa_ki_Swap : PySem.W.kitOne K (.ref C_Swap) (.ref C_Slip) = some true)
    (fa_ki_Leave : PySem.W.kitOne K (.ref C_Leave) (.ref C_Slip) = some true)
    (fa_ki_Double : PySem.W.kitOne K (.ref C_Double) (.ref C_Slip) = some true)
    (fa_ki_Names : PySem.W.kitOne K (.ref C_Names) (.ref C_Slip) = some true)
    (fa_ki_Drop : PySem.W.kitOne K (.ref C_Drop) (.ref C_Slip) = some true)
    (fa_gt_Slip : PySem.W.specialIn K (.builtin "object.__class__") "__get__" = some (some (.builtin "getset_descriptor.__get__")))
    (fa_tk_Slip : PySem.W.takesIn K (.builtin "object.__class__") = some true)
    (fa_nf_Swap_Leave : PySem.W.notFirst K C_Swap (.ref C_Leave) = true)
    (fa_nf_Swap_Double : PySem.W.notFirst K C_Swap (.ref C_Double) = true)
    (fa_nf_Swap_Names : PySem.W.notFirst K C_Swap (.ref C_Names) = true)
    (fa_nf_Swap_Drop : PySem.W.notFirst K C_Swap (.ref C_Drop) = true)
    (fa_nf_Leave_Swap : PySem.W.notFirst K C_Leave (.ref C_Swap) = true)
    (fa_nf_Leave_Double : PySem.W.notFirst K C_Leave (.ref C_Double) = true)
    (fa_nf_Leave_Names : PySem.W.notFirst K C_Leave (.ref C_Names) = true)
    (fa_nf_Leave_Drop : PySem.W.notFirst K C_Leave (.ref C_Drop) = true)
    (fa_nf_Double_Swap : PySem.W.notFirst K C_Double (.ref C_Swap) = true)
    (fa_nf_Double_Leave : PySem.W.notFirst K C_Double (.ref C_Leave) = true)
    (fa_nf_Double_Names : PySem.W.notFirst K C_Double (.ref C_Names) = true)
    (fa_nf_Double_Drop : PySem.W.notFirst K C_Double (.ref C_Drop) = true)
    (fa_nf_Names_Swap : PySem.W.notFirst K C_Names (.ref C_Swap) = true)
    (fa_nf_Names_Leave : PySem.W.notFirst K C_Names (.ref C_Leave) = true)
    (fa_nf_Names_Double : PySem.W.notFirst K C_Names (.ref C_Double) = true)
    (fa_nf_Names_Drop : PySem.W.notFirst K C_Names (.ref C_Drop) = true)
    (fa_nf_Drop_Swap : PySem.W.notFirst K C_Drop (.ref C_Swap) = true)
    (fa_nf_Drop_Leave : PySem.W.notFirst K C_Drop (.ref C_Leave) = true)
    (fa_nf_Drop_Double : PySem.W.notFirst K C_Drop (.ref C_Double) = true)
    (fa_nf_Drop_Names : PySem.W.notFirst K C_Drop (.ref C_Names) = true)
    (aG_SLIP_WORDS : PySem.W.nsIn K mainGlobals "SLIP_WORDS" = some (some (.ref G_SLIP_WORDS)))
    (lG_SLIP_WORDS : K.lookup G_SLIP_WORDS = some ⟨.type "tuple", od_SLIP_WORDS, .seq #[Value.str "swap" tk_SLIP_WORDS_0, Value.str "leave" tk_SLIP_WORDS_1, Value.str "double" tk_SLIP_WORDS_2, Value.str "names" tk_SLIP_WORDS_3, Value.str "drop" tk_SLIP_WORDS_4] n_SLIP_WORDS, sl_SLIP_WORDS⟩)
    (aG_LETTERS : PySem.W.nsIn K mainGlobals "LETTERS" = some (some (Value.str "abcdefghijklmnopqrstuvwxyz" tk_LETTERS)))
    (aG_RESERVED : PySem.W.nsIn K mainGlobals "RESERVED" = some (some (.ref G_RESERVED)))
    (lG_RESERVED : K.lookup G_RESERVED = some ⟨.type "tuple", od_RESERVED, .seq #[Value.str "kind" tk_RESERVED_0, Value.str "def" tk_RESERVED_1, Value.str "set" tk_RESERVED_2, Value.str "ask" tk_RESERVED_3, Value.str "call" tk_RESERVED_4, Value.str "again" tk_RESERVED_5, Value.str "check" tk_RESERVED_6, Value.str "mean" tk_RESERVED_7, Value.str "if" tk_RESERVED_8, Value.str "else" tk_RESERVED_9, Value.str "end" tk_RESERVED_10, Value.str "return" tk_RESERVED_11, Value.str "refuse" tk_RESERVED_12, Value.str "is" tk_RESERVED_13, Value.str "self" tk_RESERVED_14, Value.str "cls" tk_RESERVED_15] n_RESERVED, sl_RESERVED⟩)
    (a1 : PySem.W.nsIn K mainGlobals "is_word" = some (some (.ref f1))) (l1 : K.lookup f1 = some ⟨oc1, od1, .func (PySem.W.fnOf "is_word" "is_word" (defArgs s_is_word) (defBody s_is_word) (defScope s_is_word) .none kV1 dc1 pm1 an1 cd1 ct1), sl1⟩) (c1 : PySem.W.codeIn K cd1 "is_word" = true) (k1 : PySem.W.keepIn K (.ref f1) = true)
    (up2 : PySem.W.ks_superIn K C_Swap C_Swap "__init__" = some (some (.ref f2)))
    (i2 : PySem.W.typeIn K (.ref f2) = some (.type "function"))
    (fi2 : PySem.W.fnIn K f2 = true)
    (l2 : K.lookup f2 = some ⟨oc2, od2, .func (PySem.W.fnOf "__init__" "Slip.__init__" (defArgs s_Slip___init__) (defBody s_Slip___init__) (defScope s_Slip___init__) .none kV2 dc2 pm2 an2 cd2 ct2), sl2⟩) (c2 : PySem.W.codeIn K cd2 "Slip.__init__" = true) (k2 : PySem.W.keepIn K (.ref f2) = true)
    (a3_Swap : PySem.W.findIn K (.ref C_Swap) "key" = some (some (.ref p3)))
    (a3_Leave : PySem.W.findIn K (.ref C_Leave) "key" = some (some (.ref p3)))
    (a3_Double : PySem.W.findIn K (.ref C_Double) "key" = some (some (.ref p3)))
    (a3_Names : PySem.W.findIn K (.ref C_Names) "key" = some (some (.ref p3)))
    (a3_Drop : PySem.W.findIn K (.ref C_Drop) "key" = some (some (.ref p3)))
    (gp3 : PySem.W.specialIn K (.ref p3) "__get__" = some (some (.builtin "property.__get__")))
    (tp3 : PySem.W.takesIn K (.ref p3) = some true)
    (rp3 : PySem.W.recIn K p3 "property" = some (.ref f3 :: rs3))
    (l3 : K.lookup f3 = some ⟨oc3, od3, .func (PySem.W.fnOf "key" "Slip.key" (defArgs s_Slip_key) (defBody s_Slip_key) (defScope s_Slip_key) .none kV3 dc3 pm3 an3 cd3 ct3), sl3⟩) (c3 : PySem.W.codeIn K cd3 "Slip.key" = true) (k3 : PySem.W.keepIn K (.ref f3) = true)
    (a4_Swap : PySem.W.findIn K (.ref C_Swap) "__eq__" = some (some (.ref f4)))
    (a4_Leave : PySem.W.findIn K (.ref C_Leave) "__eq__" = some (some (.ref f4)))
    (a4_Double : PySem.W.findIn K (.ref C_Double) "__eq__" = some (some (.ref f4)))
    (a4_Names : PySem.W.findIn K (.ref C_Names) "__eq__" = some (some (.ref f4)))
    (a4_Drop : PySem.W.findIn K (.ref C_Drop) "__eq__" = some (some (.ref f4)))
    (i4 : PySem.W.isFn K (.ref f4) = true)
    (l4 : K.lookup f4 = some ⟨oc4, od4, .func (PySem.W.fnOf "__eq__" "Slip.__eq__" (defArgs s_Slip___eq__) (defBody s_Slip___eq__) (defScope s_Slip___eq__) .none kV4 dc4 pm4 an4 cd4 ct4), sl4⟩) (c4 : PySem.W.codeIn K cd4 "Slip.__eq__" = true) (k4 : PySem.W.keepIn K (.ref f4) = true)
    (a5_Swap : PySem.W.findIn K (.ref C_Swap) "__str__" = some (some (.ref f5)))
    (a5_Leave : PySem.W.findIn K (.ref C_Leave) "__str__" = some (some (.ref f5)))
    (a5_Double : PySem.W.findIn K (.ref C_Double) "__str__" = some (some (.ref f5)))
    (a5_Names : PySem.W.findIn K (.ref C_Names) "__str__" = some (some (.ref f5)))
    (a5_Drop : PySem.W.findIn K (.ref C_Drop) "__str__" = some (some (.ref f5)))
    (i5 : PySem.W.isFn K (.ref f5) = true)
    (l5 : K.lookup f5 = some ⟨oc5, od5, .func (PySem.W.fnOf "__str__" "Slip.__str__" (defArgs s_Slip___str__) (defBody s_Slip___str__) (defScope s_Slip___str__) .none kV5 dc5 pm5 an5 cd5 ct5), sl5⟩) (c5 : PySem.W.codeIn K cd5 "Slip.__str__" = true) (k5 : PySem.W.keepIn K (.ref f5) = true)
    (a6 : PySem.W.nsIn K mainGlobals "is_place" = some (some (.ref f6))) (l6 : K.lookup f6 = some ⟨oc6, od6, .func (PySem.W.fnOf "is_place" "is_place" (defArgs s_is_place) (defBody s_is_place) (defScope s_is_place) .none kV6 dc6 pm6 an6 cd6 ct6), sl6⟩) (c6 : PySem.W.codeIn K cd6 "is_place" = true) (k6 : PySem.W.keepIn K (.ref f6) = true)
    (a7 : PySem.W.nsIn K mainGlobals "_law_bag" = some (some (.ref f7))) (l7 : K.lookup f7 = some ⟨oc7, od7, .func (PySem.W.fnOf "_law_bag" "_law_bag" (defArgs s__law_bag) (defBody s__law_bag) (defScope s__law_bag) .none kV7 dc7 pm7 an7 cd7 ct7), sl7⟩) (c7 : PySem.W.codeIn K cd7 "_law_bag" = true) (k7 : PySem.W.keepIn K (.ref f7) = true)
    (a8 : PySem.W.nsIn K mainGlobals "_law_take" = some (some (.ref f8))) (l8 : K.lookup f8 = some ⟨oc8, od8, .func (PySem.W.fnOf "_law_take" "_law_take" (defArgs s__law_take) (defBody s__law_take) (defScope s__law_take) .none kV8 dc8 pm8 an8 cd8 ct8), sl8⟩) (c8 : PySem.W.codeIn K cd8 "_law_take" = true) (k8 : PySem.W.keepIn K (.ref f8) = true)
    (a9 : PySem.W.nsIn K mainGlobals "_law_is_name" = some (some (.ref f9))) (l9 : K.lookup f9 = some ⟨oc9, od9, .func (PySem.W.fnOf "_law_is_name" "_law_is_name" (defArgs s__law_is_name) (defBody s__law_is_name) (defScope s__law_is_name) .none kV9 dc9 pm9 an9 cd9 ct9), sl9⟩) (c9 : PySem.W.codeIn K cd9 "_law_is_name" = true) (k9 : PySem.W.keepIn K (.ref f9) = true)
    (a10 : PySem.W.nsIn K mainGlobals "is_name" = some (some (.ref f10))) (l10 : K.lookup f10 = some ⟨oc10, od10, .func (PySem.W.fnOf "is_name" "is_name" (defArgs s_is_name) (defBody s_is_name) (defScope s_is_name) .none kV10 dc10 pm10 an10 cd10 ct10), sl10⟩) (c10 : PySem.W.codeIn K cd10 "is_name" = true) (k10 : PySem.W.keepIn K (.ref f10) = true)
    (a11 : PySem.W.findIn K (.ref C_Swap) "__init__" = some (some (.ref f11)))
    (i11 : PySem.W.isFn K (.ref f11) = true)
    (l11 : K.lookup f11 = some ⟨oc11, od11, .func (PySem.W.ksFn "__init__" "Swap.__init__" (defArgs s_Swap___init__) (defBody s_Swap___init__) (defScope s_Swap___init__) .none kV11 dc11 pm11 an11 (.ref cda11) ct11 cc11), sl11⟩)
    (c11 : PySem.W.codeIn K (.ref cda11) "Swap.__init__" = true)
    (ce11 : K.lookup cc11 = some ⟨cl11, cld11, .cell (some (.ref C_Swap)), csl11⟩)
    (cf11 : K.lookup cda11 = some ⟨ccl11, cdd11, .fields vs11, ccs11⟩)
    (cv11 : vs11[2]? = some (.str fl11 tf11))
    (cm11 : (l.prog.main.file == fl11) = true)
    (su11 : (PySem.W.clsIn K C_Swap).isSome = true)
    (up11 : PySem.W.ks_superIn K C_Swap C_Swap "__init__" = some (some (.ref f2)))
    (mo11 : PySem.W.mroIn K C_Swap (.ref C_Swap) = some true)
    (a12 : PySem.W.findIn K (.ref C_Leave) "__init__" = some (some (.ref f12)))
    (i12 : PySem.W.isFn K (.ref f12) = true)
    (l12 : K.lookup f12 = some ⟨oc12, od12, .func (PySem.W.ksFn "__init__" "Leave.__init__" (defArgs s_Leave___init__) (defBody s_Leave___init__) (defScope s_Leave___init__) .none kV12 dc12 pm12 an12 (.ref cda12) ct12 cc12), sl12⟩)
    (c12 : PySem.W.codeIn K (.ref cda12) "Leave.__init__" = true)
    (ce12 : K.lookup cc12 = some ⟨cl12, cld12, .cell (some (.ref C_Leave)), csl12⟩)
    (cf12 : K.lookup cda12 = some ⟨ccl12, cdd12, .fields vs12, ccs12⟩)
    (cv12 : vs12[2]? = some (.str fl12 tf12))
    (cm12 : (l.prog.main.file == fl12) = true)
    (su12 : (PySem.W.clsIn K C_Leave).isSome = true)
    (up12 : PySem.W.ks_superIn K C_Leave C_Leave "__init__" = some (some (.ref f2)))
    (mo12 : PySem.W.mroIn K C_Leave (.ref C_Leave) = some true)
    (a13 : PySem.W.findIn K (.ref C_Double) "__init__" = some (some (.ref f13)))
    (i13 : PySem.W.isFn K (.ref f13) = true)
    (l13 : K.lookup f13 = some ⟨oc13, od13, .func (PySem.W.ksFn "__init__" "Double.__init__" (defArgs s_Double___init__) (defBody s_Double___init__) (defScope s_Double___init__) .none kV13 dc13 pm13 an13 (.ref cda13) ct13 cc13), sl13⟩)
    (c13 : PySem.W.codeIn K (.ref cda13) "Double.__init__" = true)
    (ce13 : K.lookup cc13 = some ⟨cl13, cld13, .cell (some (.ref C_Double)), csl13⟩)
    (cf13 : K.lookup cda13 = some ⟨ccl13, cdd13, .fields vs13, ccs13⟩)
    (cv13 : vs13[2]? = some (.str fl13 tf13))
    (cm13 : (l.prog.main.file == fl13) = true)
    (su13 : (PySem.W.clsIn K C_Double).isSome = true)
    (up13 : PySem.W.ks_superIn K C_Double C_Double "__init__" = some (some (.ref f2)))
    (mo13 : PySem.W.mroIn K C_Double (.ref C_Double) = some true)
    (a14 : PySem.W.findIn K (.ref C_Names) "__init__" = some (some (.ref f14)))
    (i14 : PySem.W.isFn K (.ref f14) = true)
    (l14 : K.lookup f14 = some ⟨oc14, od14, .func (PySem.W.ksFn "__init__" "Names.__init__" (defArgs s_Names___init__) (defBody s_Names___init__) (defScope s_Names___init__) .none kV14 dc14 pm14 an14 (.ref cda14) ct14 cc14), sl14⟩)
    (c14 : PySem.W.codeIn K (.ref cda14) "Names.__init__" = true)
    (ce14 : K.lookup cc14 = some ⟨cl14, cld14, .cell (some (.ref C_Names)), csl14⟩)
    (cf14 : K.lookup cda14 = some ⟨ccl14, cdd14, .fields vs14, ccs14⟩)
    (cv14 : vs14[2]? = some (.str fl14 tf14))
    (cm14 : (l.prog.main.file == fl14) = true)
    (su14 : (PySem.W.clsIn K C_Names).isSome = true)
    (up14 : PySem.W.ks_superIn K C_Names C_Names "__init__" = some (some (.ref f2)))
    (mo14 : PySem.W.mroIn K C_Names (.ref C_Names) = some true)
    (a15 : PySem.W.findIn K (.ref C_Drop) "__init__" = some (some (.ref f15)))
    (i15 : PySem.W.isFn K (.ref f15) = true)
    (l15 : K.lookup f15 = some ⟨oc15, od15, .func (PySem.W.ksFn "__init__" "Drop.__init__" (defArgs s_Drop___init__) (defBody s_Drop___init__) (defScope s_Drop___init__) .none kV15 dc15 pm15 an15 (.ref cda15) ct15 cc15), sl15⟩)
    (c15 : PySem.W.codeIn K (.ref cda15) "Drop.__init__" = true)
    (ce15 : K.lookup cc15 = some ⟨cl15, cld15, .cell (some (.ref C_Drop)), csl15⟩)
    (cf15 : K.lookup cda15 = some ⟨ccl15, cdd15, .fields vs15, ccs15⟩)
    (cv15 : vs15[2]? = some (.str fl15 tf15))
    (cm15 : (l.prog.main.file == fl15) = true)
    (su15 : (PySem.W.clsIn K C_Drop).isSome = true)
    (up15 : PySem.W.ks_superIn K C_Drop C_Drop "__init__" = some (some (.ref f2)))
    (mo15 : PySem.W.mroIn K C_Drop (.ref C_Drop) = some true)
    (a16 : PySem.W.nsIn K mainGlobals "_law_of" = some (some (.ref f16))) (l16 : K.lookup f16 = some ⟨oc16, od16, .func (PySem.W.fnOf "_law_of" "_law_of" (defArgs s__law_of) (defBody s__law_of) (defScope s__law_of) .none kV16 dc16 pm16 an16 cd16 ct16), sl16⟩) (c16 : PySem.W.codeIn K cd16 "_law_of" = true) (k16 : PySem.W.keepIn K (.ref f16) = true)
    (a17 : PySem.W.nsIn K mainGlobals "_law_words" = some (some (.ref f17))) (l17 : K.lookup f17 = some ⟨oc17, od17, .func (PySem.W.fnOf "_law_words" "_law_words" (defArgs s__law_words) (defBody s__law_words) (defScope s__law_words) .none kV17 dc17 pm17 an17 cd17 ct17), sl17⟩) (c17 : PySem.W.codeIn K cd17 "_law_words" = true) (k17 : PySem.W.keepIn K (.ref f17) = true)
    (a18 : PySem.W.nsIn K mainGlobals "_law_due" = some (some (.ref f18))) (l18 : K.lookup f18 = some ⟨oc18, od18, .func (PySem.W.fnOf "_law_due" "_law_due" (defArgs s__law_due) (defBody s__law_due) (defScope s__law_due) .none kV18 dc18 pm18 an18 cd18 ct18), sl18⟩) (c18 : PySem.W.codeIn K cd18 "_law_due" = true) (k18 : PySem.W.keepIn K (.ref f18) = true)
    (a19 : PySem.W.nsIn K mainGlobals "slip_of" = some (some (.ref f19))) (l19 : K.lookup f19 = some ⟨oc19, od19, .func (PySem.W.fnOf "slip_of" "slip_of" (defArgs s_slip_of) (defBody s_slip_of) (defScope s_slip_of) .none kV19 dc19 pm19 an19 cd19 ct19), sl19⟩) (c19 : PySem.W.codeIn K cd19 "slip_of" = true) (k19 : PySem.W.keepIn K (.ref f19) = true)
    (a20 : PySem.W.nsIn K mainGlobals "_law_bent" = some (some (.ref f20))) (l20 : K.lookup f20 = some ⟨oc20, od20, .func (PySem.W.fnOf "_law_bent" "_law_bent" (defArgs s__law_bent) (defBody s__law_bent) (defScope s__law_bent) .none kV20 dc20 pm20 an20 cd20 ct20), sl20⟩) (c20 : PySem.W.codeIn K cd20 "_law_bent" = true) (k20 : PySem.W.keepIn K (.ref f20) = true)
    (at21 : PySem.W.findCls K (.ref C_Slip) (.type "type") "read" = some (.get (.builtin "staticmethod.__get__") (.ref p21) .none (.ref C_Slip)))
    (rc21 : PySem.W.recIn K p21 "staticmethod" = some (.ref f21 :: rs21))
    (rd21 : PySem.W.readsIn K C_Slip (.type "type") = true)
    (ga21 : PySem.W.specialIn K (.ref C_Slip) "__getattribute__" = some (some (.builtin "type.__getattribute__")))
    (l21 : K.lookup f21 = some ⟨oc21, od21, .func (PySem.W.fnOf "read" "Slip.read" (defArgs s_Slip_read) (defBody s_Slip_read) (defScope s_Slip_read) .none kV21 dc21 pm21 an21 cd21 ct21), sl21⟩) (c21 : PySem.W.codeIn K cd21 "Slip.read" = true) (k21 : PySem.W.keepIn K (.ref f21) = true)
    (a22 : PySem.W.nsIn K mainGlobals "_law_agrees" = some (some (.ref f22))) (l22 : K.lookup f22 = some ⟨oc22, od22, .func (PySem.W.fnOf "_law_agrees" "_law_agrees" (defArgs s__law_agrees) (defBody s__law_agrees) (defScope s__law_agrees) .none kV22 dc22 pm22 an22 cd22 ct22), sl22⟩) (c22 : PySem.W.codeIn K cd22 "_law_agrees" = true) (k22 : PySem.W.keepIn K (.ref f22) = true)
    (a23 : PySem.W.nsIn K mainGlobals "_law_refuses" = some (some (.ref f23))) (l23 : K.lookup f23 = some ⟨oc23, od23, .func (PySem.W.fnOf "_law_refuses" "_law_refuses" (defArgs s__law_refuses) (defBody s__law_refuses) (defScope s__law_refuses) .none kV23 dc23 pm23 an23 cd23 ct23), sl23⟩) (c23 : PySem.W.codeIn K cd23 "_law_refuses" = true) (k23 : PySem.W.keepIn K (.ref f23) = true)
    (a24 : PySem.W.nsIn K mainGlobals "law" = some (some (.ref f24))) (l24 : K.lookup f24 = some ⟨oc24, od24, .func (PySem.W.fnOf "law" "law" (defArgs s_law) (defBody s_law) (defScope s_law) .none kV24 dc24 pm24 an24 cd24 ct24), sl24⟩) (c24 : PySem.W.codeIn K cd24 "law" = true) (k24 : PySem.W.keepIn K (.ref f24) = true)
    (z_ValueError : PySem.W.nsIn K mainGlobals "ValueError" = some none) (z_LookupError : PySem.W.nsIn K mainGlobals "LookupError" = some none) (z_all : PySem.W.nsIn K mainGlobals "all" = some none) (z_enumerate : PySem.W.nsIn K mainGlobals "enumerate" = some none) (z_range : PySem.W.nsIn K mainGlobals "range" = some none) (z_tuple : PySem.W.nsIn K mainGlobals "tuple" = some none) (z_dict : PySem.W.nsIn K mainGlobals "dict" = some none) (z_int : PySem.W.nsIn K mainGlobals "int" = some none) (z_list : PySem.W.nsIn K mainGlobals "list" = some none) (z_len : PySem.W.nsIn K mainGlobals "len" = some none) (z_sorted : PySem.W.nsIn K mainGlobals "sorted" = some none) (z_isinstance : PySem.W.nsIn K mainGlobals "isinstance" = some none) (z_max : PySem.W.nsIn K mainGlobals "max" = some none) (z_str : PySem.W.nsIn K mainGlobals "str" = some none) (z_min : PySem.W.nsIn K mainGlobals "min" = some none) (z_abs : PySem.W.nsIn K mainGlobals "abs" = some none) (z_super : PySem.W.nsIn K mainGlobals "super" = some none) (z_bool : PySem.W.nsIn K mainGlobals "bool" = some none) :
    ∃ fd : FuncData, (∀ (s : Shared) (v : Value), BindsTo s fd ⟨[v], []⟩ [("_law_script", v)]) ∧ ∀ base : Heap, K.In base → base.Ns mainGlobals mg → FnOk l.prog w K mg base CX0 12 fa fd ["_law_script"] (sp_law K) := by
  have e := hfa.symm.trans (PySem.W.mg_of X G a24)
  cases e
  have T : Txt K mg C_Swap C_Leave C_Double C_Names C_Drop C_BadSlip C_Slip G_SLIP_WORDS G_RESERVED := ⟨PySem.W.mg_none_of X G z_ValueError, PySem.W.mg_none_of X G z_LookupError, PySem.W.mg_none_of X G z_all, PySem.W.mg_none_of X G z_enumerate, PySem.W.mg_none_of X G z_range, PySem.W.mg_none_of X G z_tuple, PySem.W.mg_none_of X G z_dict, PySem.W.mg_none_of X G z_int, PySem.W.mg_none_of X G z_list, PySem.W.mg_none_of X G z_len, PySem.W.mg_none_of X G z_sorted, PySem.W.mg_none_of X G z_isinstance, PySem.W.mg_none_of X G z_max, PySem.W.mg_none_of X G z_str, PySem.W.mg_none_of X G z_min, PySem.W.mg_none_of X G z_abs, PySem.W.mg_none_of X G z_super, PySem.W.mg_none_of X G z_bool, ⟨pg_Swap, hd_Swap, po_Swap, sa_Swap⟩, ⟨_, PySem.W.mg_of X G aC_Swap, rfl⟩, na_Swap_parts, ⟨pg_Leave, hd_Leave, po_Leave, sa_Leave⟩, ⟨_, PySem.W.mg_of X G aC_Leave, rfl⟩, na_Leave_parts, ⟨pg_Double, hd_Double, po_Double, sa_Double⟩, ⟨_, PySem.W.mg_of X G aC_Double, rfl⟩, na_Double_parts, ⟨pg_Names, hd_Names, po_Names, sa_Names⟩, ⟨_, PySem.W.mg_of X G aC_Names, rfl⟩, na_Names_parts, ⟨pg_Drop, hd_Drop, po_Drop, sa_Drop⟩, ⟨_, PySem.W.mg_of X G aC_Drop, rfl⟩, na_Drop_parts, ⟨_, PySem.W.mg_of X G aC_BadSlip, rfl⟩, ⟨_, PySem.W.mg_of X G aC_Slip, rfl⟩, ⟨ga_BadSlip, gg_BadSlip, eC_BadSlip, hC_BadSlip, ha_BadSlip, hnC, htC, ob_BadSlip⟩, (fam_cons ⟨pg_Swap, hd_Swap, po_Swap, sa_Swap⟩ (fam_cons ⟨pg_Leave, hd_Leave, po_Leave, sa_Leave⟩ (fam_cons ⟨pg_Double, hd_Double, po_Double, sa_Double⟩ (fam_cons ⟨pg_Names, hd_Names, po_Names, sa_Names⟩ (fam_cons ⟨pg_Drop, hd_Drop, po_Drop, sa_Drop⟩ fam_nil))))), (fam_cons na_Swap_parts (fam_cons na_Leave_parts (fam_cons na_Double_parts (fam_cons na_Names_parts (fam_cons na_Drop_parts fam_nil))))), (fam_cons fa_cl_Swap (fam_cons fa_cl_Leave (fam_cons fa_cl_Double (fam_cons fa_cl_Names (fam_cons fa_cl_Drop fam_nil))))), (fam_cons fa_ob_Swap (fam_cons fa_ob_Leave (fam_cons fa_ob_Double (fam_cons fa_ob_Names (fam_cons fa_ob_Drop fam_nil))))), (fam_cons fa_ki_Swap (fam_cons fa_ki_Leave (fam_cons fa_ki_Double (fam_cons fa_ki_Names (fam_cons fa_ki_Drop fam_nil))))), fa_gt_Slip, fa_tk_Slip, (fam_cons (fam_cons nf_self (fam_cons fa_nf_Swap_Leave (fam_cons fa_nf_Swap_Double (fam_cons fa_nf_Swap_Names (fam_cons fa_nf_Swap_Drop fam_nil))))) (fam_cons (fam_cons fa_nf_Leave_Swap (fam_cons nf_self (fam_cons fa_nf_Leave_Double (fam_cons fa_nf_Leave_Names (fam_cons fa_nf_Leave_Drop fam_nil))))) (fam_cons (fam_cons fa_nf_Double_Swap (fam_cons fa_nf_Double_Leave (fam_cons nf_self (fam_cons fa_nf_Double_Names (fam_cons fa_nf_Double_Drop fam_nil))))) (fam_cons (fam_cons fa_nf_Names_Swap (fam_cons fa_nf_Names_Leave (fam_cons fa_nf_Names_Double (fam_cons nf_self (fam_cons fa_nf_Names_Drop fam_nil))))) (fam_cons (fam_cons fa_nf_Drop_Swap (fam_cons fa_nf_Drop_Leave (fam_cons fa_nf_Drop_Double (fam_cons fa_nf_Drop_Names (fam_cons nf_self fam_nil))))) fam_nil))))), ⟨_, PySem.W.mg_of X G aG_SLIP_WORDS, rfl⟩, fun H => .inr ⟨_, _, _, lG_SLIP_WORDS, rfl, rfl, (by show 5 ≤ sizeLine; decide), .cons ⟨_, rfl⟩ (.cons ⟨_, rfl⟩ (.cons ⟨_, rfl⟩ (.cons ⟨_, rfl⟩ (.cons ⟨_, rfl⟩ (.nil)))))⟩, ⟨_, PySem.W.mg_of X G aG_LETTERS, ⟨_, rfl⟩⟩, ⟨_, PySem.W.mg_of X G aG_RESERVED, rfl⟩, fun H => .inr ⟨_, _, _, lG_RESERVED, rfl, rfl, (by show 16 ≤ sizeLine; decide), .cons ⟨_, rfl⟩ (.cons ⟨_, rfl⟩ (.cons ⟨_, rfl⟩ (.cons ⟨_, rfl⟩ (.cons ⟨_, rfl⟩ (.cons ⟨_, rfl⟩ (.cons ⟨_, rfl⟩ (.cons ⟨_, rfl⟩ (.cons ⟨_, rfl⟩ (.cons ⟨_, rfl⟩ (.cons ⟨_, rfl⟩ (.cons ⟨_, rfl⟩ (.cons ⟨_, rfl⟩ (.cons ⟨_, rfl⟩ (.cons ⟨_, rfl⟩ (.cons ⟨_, rfl⟩ (.nil))))))))))))))))⟩⟩
  have F1 := fun_mk (st := s_is_word) l1 c1 k1
  have b1 := F1.binds (ps := ["thing"]) fun _ _ _ _ _ _ us hl => match us, hl with | [_], _ => rfl
  have F2 := fun_mk (st := s_Slip___init__) l2 c2 k2
  have F3 := fun_mk (st := s_Slip_key) l3 c3 k3
  have b3 := F3.binds (ps := ["self"]) fun _ _ _ _ _ _ us hl => match us, hl with | [_], _ => rfl
  have F4 := fun_mk (st := s_Slip___eq__) l4 c4 k4
  have b4 := F4.binds (ps := ["self", "other"]) fun _ _ _ _ _ _ us hl => match us, hl with | [_, _], _ => rfl
  have F5 := fun_mk (st := s_Slip___str__) l5 c5 k5
  have b5 := F5.binds (ps := ["self"]) fun _ _ _ _ _ _ us hl => match us, hl with | [_], _ => rfl
  have F6 := fun_mk (st := s_is_place) l6 c6 k6
  have b6 := F6.binds (ps := ["piece"]) fun _ _ _ _ _ _ us hl => match us, hl with | [_], _ => rfl
  have F7 := fun_mk (st := s__law_bag) l7 c7 k7
  have b7 := F7.binds (ps := ["_law_script", "_law_at"]) fun _ _ _ _ _ _ us hl => match us, hl with | [_, _], _ => rfl
  have F8 := fun_mk (st := s__law_take) l8 c8 k8
  have b8 := F8.binds (ps := ["_law_bag_here", "_law_many"]) fun _ _ _ _ _ _ us hl => match us, hl with | [_, _], _ => rfl
  have F9 := fun_mk (st := s__law_is_name) l9 c9 k9
  have b9 := F9.binds (ps := ["_law_text"]) fun _ _ _ _ _ _ us hl => match us, hl with | [_], _ => rfl
  have F10 := fun_mk (st := s_is_name) l10 c10 k10
  have b10 := F10.binds (ps := ["thing"]) fun _ _ _ _ _ _ us hl => match us, hl with | [_], _ => rfl
  have F11 : SFunO l.prog K mg "__init__" "Swap.__init__" s_Swap___init__ C_Swap f11 (PySem.W.ksFn "__init__" "Swap.__init__" (defArgs s_Swap___init__) (defBody s_Swap___init__) (defScope s_Swap___init__) .none kV11 dc11 pm11 an11 (.ref cda11) ct11 cc11) "__init__" f2 :=
    ⟨⟨_, _, _, _, _, _, _, _, _, _, _, _, _, rfl, l11, c11, ce11, ⟨su11, up11, i2, fi2, mo11, opq, T.z_super, ⟨_, _, _, _, _, _, cf11, cv11, cm11⟩, tops⟩⟩⟩
  have b11 : Binds K (PySem.W.ksFn "__init__" "Swap.__init__" (defArgs s_Swap___init__) (defBody s_Swap___init__) (defScope s_Swap___init__) .none kV11 dc11 pm11 an11 (.ref cda11) ct11 cc11) ["self", "first", "second"] [] := Binds.all fun us hl => match us, hl with | [_, _, _], _ => rfl
  have F12 : SFunO l.prog K mg "__init__" "Leave.__init__" s_Leave___init__ C_Leave f12 (PySem.W.ksFn "__init__" "Leave.__init__" (defArgs s_Leave___init__) (defBody s_Leave___init__) (defScope s_Leave___init__) .none kV12 dc12 pm12 an12 (.ref cda12) ct12 cc12) "__init__" f2 :=
    ⟨⟨_, _, _, _, _, _, _, _, _, _, _, _, _, rfl, l12, c12, ce12, ⟨su12, up12, i2, fi2, mo12, opq, T.z_super, ⟨_, _, _, _, _, _, cf12, cv12, cm12⟩, tops⟩⟩⟩
  have b12 : Binds K (PySem.W.ksFn "__init__" "Leave.__init__" (defArgs s_Leave___init__) (defBody s_Leave___init__) (defScope s_Leave___init__) .none kV12 dc12 pm12 an12 (.ref cda12) ct12 cc12) ["self", "place"] [] := Binds.all fun us hl => match us, hl with | [_, _], _ => rfl
  have F13 : SFunO l.prog K mg "__init__" "Double.__init__" s_Double___init__ C_Double f13 (PySem.W.ksFn "__init__" "Double.__init__" (defArgs s_Double___init__) (defBody s_Double___init__) (defScope s_Double___init__) .none kV13 dc13 pm13 an13 (.ref cda13) ct13 cc13) "__init__" f2 :=
    ⟨⟨_, _, _, _, _, _, _, _, _, _, _, _, _, rfl, l13, c13, ce13, ⟨su13, up13, i2, fi2, mo13, opq, T.z_super, ⟨_, _, _, _, _, _, cf13, cv13, cm13⟩, tops⟩⟩⟩
  have b13 : Binds K (PySem.W.ksFn "__init__" "Double.__init__" (defArgs s_Double___init__) (defBody s_Double___init__) (defScope s_Double___init__) .none kV13 dc13 pm13 an13 (.ref cda13) ct13 cc13) ["self", "place"] [] := Binds.all fun us hl => match us, hl with | [_, _], _ => rfl
  have F14 : SFunO l.prog K mg "__init__" "Names.__init__" s_Names___init__ C_Names f14 (PySem.W.ksFn "__init__" "Names.__init__" (defArgs s_Names___init__) (defBody s_Names___init__) (defScope s_Names___init__) .none kV14 dc14 pm14 an14 (.ref cda14) ct14 cc14) "__init__" f2 :=
    ⟨⟨_, _, _, _, _, _, _, _, _, _, _, _, _, rfl, l14, c14, ce14, ⟨su14, up14, i2, fi2, mo14, opq, T.z_super, ⟨_, _, _, _, _, _, cf14, cv14, cm14⟩, tops⟩⟩⟩
  have b14 : Binds K (PySem.W.ksFn "__init__" "Names.__init__" (defArgs s_Names___init__) (defBody s_Names___init__) (defScope s_Names___init__) .none kV14 dc14 pm14 an14 (.ref cda14) ct14 cc14) ["self", "first", "second"] [] := Binds.all fun us hl => match us, hl with | [_, _, _], _ => rfl
  have F15 : SFunO l.prog K mg "__init__" "Drop.__init__" s_Drop___init__ C_Drop f15 (PySem.W.ksFn "__init__" "Drop.__init__" (defArgs s_Drop___init__) (defBody s_Drop___init__) (defScope s_Drop___init__) .none kV15 dc15 pm15 an15 (.ref cda15) ct15 cc15) "__init__" f2 :=
    ⟨⟨_, _, _, _, _, _, _, _, _, _, _, _, _, rfl, l15, c15, ce15, ⟨su15, up15, i2, fi2, mo15, opq, T.z_super, ⟨_, _, _, _, _, _, cf15, cv15, cm15⟩, tops⟩⟩⟩
  have b15 : Binds K (PySem.W.ksFn "__init__" "Drop.__init__" (defArgs s_Drop___init__) (defBody s_Drop___init__) (defScope s_Drop___init__) .none kV15 dc15 pm15 an15 (.ref cda15) ct15 cc15) ["self", "word"] [] := Binds.all fun us hl => match us, hl with | [_, _], _ => rfl
  have F16 := fun_mk (st := s__law_of) l16 c16 k16
  have b16 := F16.binds (ps := ["_law_bag_here", "_law_some"]) fun _ _ _ _ _ _ us hl => match us, hl with | [_, _], _ => rfl
  have F17 := fun_mk (st := s__law_words) l17 c17 k17
  have b17 := F17.binds (ps := ["_law_bag_here"]) fun _ _ _ _ _ _ us hl => match us, hl with | [_], _ => rfl
  have F18 := fun_mk (st := s__law_due) l18 c18 k18
  have b18 := F18.binds (ps := ["_law_text"]) fun _ _ _ _ _ _ us hl => match us, hl with | [_], _ => rfl
  have F19 := fun_mk (st := s_slip_of) l19 c19 k19
  have b19 := F19.binds (ps := ["pieces"]) fun _ _ _ _ _ _ us hl => match us, hl with | [_], _ => rfl
  have F20 := fun_mk (st := s__law_bent) l20 c20 k20
  have b20 := F20.binds (ps := ["_law_bag_here", "_law_text"]) fun _ _ _ _ _ _ us hl => match us, hl with | [_, _], _ => rfl
  have F21 := fun_mk (st := s_Slip_read) l21 c21 k21
  have b21 := F21.binds (ps := ["text"]) fun _ _ _ _ _ _ us hl => match us, hl with | [_], _ => rfl
  have F22 := fun_mk (st := s__law_agrees) l22 c22 k22
  have b22 := F22.binds (ps := ["_law_text"]) fun _ _ _ _ _ _ us hl => match us, hl with | [_], _ => rfl
  have F23 := fun_mk (st := s__law_refuses) l23 c23 k23
  have b23 := F23.binds (ps := ["_law_thing"]) fun _ _ _ _ _ _ us hl => match us, hl with | [_], _ => rfl
  have F24 := fun_mk (st := s_law) l24 c24 k24
  refine ⟨PySem.W.fnOf "law" "law" (defArgs s_law) (defBody s_law) (defScope s_law) .none kV24 dc24 pm24 an24 cd24 ct24, fun s v => .of_eq rfl, fun base _ _ => ?_⟩
  have E_BadSlip : OexC K C_BadSlip := ⟨⟨_, _, _, _, _, _, _, _, _, _, _, _, _, _, _, xL_BadSlip, rv_BadSlip⟩, sa_BadSlip, eC_BadSlip, tC_BadSlip, kC_BadSlip⟩
  have S_BadSlip : SFun l.prog K mg "BadSlip.__init__" s_BadSlip___init__ C_BadSlip f_BadSlip (PySem.W.ksFn "__init__" "BadSlip.__init__" (defArgs s_BadSlip___init__) (defBody s_BadSlip___init__) (defScope s_BadSlip___init__) .none kV_BadSlip dc_BadSlip pm_BadSlip an_BadSlip (.ref cda_BadSlip) ct_BadSlip cc_BadSlip) :=
    ⟨⟨_, _, _, _, _, _, _, _, _, _, _, _, _, rfl, li_BadSlip, ci_BadSlip, ce_BadSlip, ⟨E_BadSlip, up_BadSlip, sV_BadSlip, mo_BadSlip, opq, T.z_super, ⟨_, _, _, _, _, _, cf_BadSlip, cv_BadSlip, cm_BadSlip⟩, tops⟩⟩⟩
  have U_BadSlip : Exc1 l.prog w K mg base 1 "BadSlip" "what" C_BadSlip :=
    ⟨E_BadSlip, ⟨f_BadSlip, _, ["self", "what"], ai_BadSlip, ti_BadSlip, ok_BadSlip___init__ S_BadSlip no_BadSlip, Binds.all fun us hl => match us, hl with | [_, _], _ => rfl⟩, PySem.W.mg_of X G aC_BadSlip, ⟨ga_BadSlip, gg_BadSlip, eC_BadSlip, hC_BadSlip⟩, no_BadSlip, PySem.W.exm_ref eC_BadSlip hC_BadSlip tC_BadSlip sC_BadSlip⟩
  have U_is_word : Use l.prog w K mg base 2 "is_word" ["thing"] (sp_is_word) := ⟨_, _, ok_is_word F1 T, PySem.W.mg_of X G a1, k1, b1⟩
  have R_Slip___init__ := ok_Slip___init__ (P := l.prog) (w := w) (base := base) F2 T
  have U_Slip_key : UseP l.prog w K mg base 2 (FamS [C_Swap, C_Leave, C_Double, C_Names, C_Drop]) "key" ["self"] (sp_Slip_key (FamS [C_Swap, C_Leave, C_Double, C_Names, C_Drop])) := ⟨p3, _, _, ok_Slip_key F3 T, b3, (fam_cons ⟨⟨pg_Swap, hd_Swap, po_Swap, sa_Swap⟩, ⟨a3_Swap, gp3, tp3, ⟨_, rp3⟩⟩⟩ (fam_cons ⟨⟨pg_Leave, hd_Leave, po_Leave, sa_Leave⟩, ⟨a3_Leave, gp3, tp3, ⟨_, rp3⟩⟩⟩ (fam_cons ⟨⟨pg_Double, hd_Double, po_Double, sa_Double⟩, ⟨a3_Double, gp3, tp3, ⟨_, rp3⟩⟩⟩ (fam_cons ⟨⟨pg_Names, hd_Names, po_Names, sa_Names⟩, ⟨a3_Names, gp3, tp3, ⟨_, rp3⟩⟩⟩ (fam_cons ⟨⟨pg_Drop, hd_Drop, po_Drop, sa_Drop⟩, ⟨a3_Drop, gp3, tp3, ⟨_, rp3⟩⟩⟩ fam_nil)))))⟩
  have U_Slip___eq__ : UseMF l.prog w K mg base 2 (FamS [C_Swap, C_Leave, C_Double, C_Names, C_Drop]) "__eq__" (sp_Slip___eq__ K (FamS [C_Swap, C_Leave, C_Double, C_Names, C_Drop]) C_Slip) := ⟨_, fnr (ok_Slip___eq__ F4 T) b4, (fam_cons ⟨a4_Swap, i4, k4⟩ (fam_cons ⟨a4_Leave, i4, k4⟩ (fam_cons ⟨a4_Double, i4, k4⟩ (fam_cons ⟨a4_Names, i4, k4⟩ (fam_cons ⟨a4_Drop, i4, k4⟩ fam_nil)))))⟩
  have U_Slip___str__ : UseMF l.prog w K mg base 2 (FamS [C_Swap, C_Leave, C_Double, C_Names, C_Drop]) "__str__" (sp_Slip___str__ (FamS [C_Swap, C_Leave, C_Double, C_Names, C_Drop])) := ⟨_, fnr (ok_Slip___str__ F5 T) b5, (fam_cons ⟨a5_Swap, i5, k5⟩ (fam_cons ⟨a5_Leave, i5, k5⟩ (fam_cons ⟨a5_Double, i5, k5⟩ (fam_cons ⟨a5_Names, i5, k5⟩ (fam_cons ⟨a5_Drop, i5, k5⟩ fam_nil)))))⟩
  have U_is_place : Use l.prog w K mg base 2 "is_place" ["piece"] (sp_is_place) := ⟨_, _, ok_is_place F6 T, PySem.W.mg_of X G a6, k6, b6⟩
  have U__law_bag : Use l.prog w K mg base 2 "_law_bag" ["_law_script", "_law_at"] (sp__law_bag K) := ⟨_, _, ok__law_bag F7 T, PySem.W.mg_of X G a7, k7, b7⟩
  have U__law_take : Use l.prog w K mg base 2 "_law_take" ["_law_bag_here", "_law_many"] (sp__law_take K) := ⟨_, _, ok__law_take F8 T, PySem.W.mg_of X G a8, k8, b8⟩
  have U__law_is_name : Use l.prog w K mg base 2 "_law_is_name" ["_law_text"] (sp__law_is_name) := ⟨_, _, ok__law_is_name F9 T, PySem.W.mg_of X G a9, k9, b9⟩
  have U_is_name : Use l.prog w K mg base 4 "is_name" ["thing"] (sp_is_name) := ⟨_, _, ok_is_name F10 T U_is_word, PySem.W.mg_of X G a10, k10, b10⟩
  have U_Swap___init__ : UseCK l.prog w K mg base 4 "Swap" C_Swap ["self", "first", "second"] (sp_Swap___init__ C_Swap C_BadSlip) := ⟨_, _, ok_Swap___init__ F11 T R_Slip___init__ U_BadSlip, ⟨mk_Swap, a11, i11, kc_Swap⟩, PySem.W.mg_of X G aC_Swap, b11, (fun s us ws h1 h2 => match us, ws, h1, h2 with | [_], [_, _], _, _ => .of_eq rfl), fun s us ws h1 h2 => match us, ws, h1, h2 with | [_], [_, _], _, _ => .of_eq rfl⟩
  have U_Leave___init__ : UseCK l.prog w K mg base 4 "Leave" C_Leave ["self", "place"] (sp_Leave___init__ C_Leave) := ⟨_, _, ok_Leave___init__ F12 T R_Slip___init__, ⟨mk_Leave, a12, i12, kc_Leave⟩, PySem.W.mg_of X G aC_Leave, b12, (fun s us ws h1 h2 => match us, ws, h1, h2 with | [_], [_], _, _ => .of_eq rfl), fun s us ws h1 h2 => match us, ws, h1, h2 with | [_], [_], _, _ => .of_eq rfl⟩
  have U_Double___init__ : UseCK l.prog w K mg base 4 "Double" C_Double ["self", "place"] (sp_Double___init__ C_Double) := ⟨_, _, ok_Double___init__ F13 T R_Slip___init__, ⟨mk_Double, a13, i13, kc_Double⟩, PySem.W.mg_of X G aC_Double, b13, (fun s us ws h1 h2 => match us, ws, h1, h2 with | [_], [_], _, _ => .of_eq rfl), fun s us ws h1 h2 => match us, ws, h1, h2 with | [_], [_], _, _ => .of_eq rfl⟩
  have U_Names___init__ : UseCK l.prog w K mg base 4 "Names" C_Names ["self", "first", "second"] (sp_Names___init__ C_Names C_BadSlip) := ⟨_, _, ok_Names___init__ F14 T R_Slip___init__ U_BadSlip, ⟨mk_Names, a14, i14, kc_Names⟩, PySem.W.mg_of X G aC_Names, b14, (fun s us ws h1 h2 => match us, ws, h1, h2 with | [_], [_, _], _, _ => .of_eq rfl), fun s us ws h1 h2 => match us, ws, h1, h2 with | [_], [_, _], _, _ => .of_eq rfl⟩
  have U_Drop___init__ : UseCK l.prog w K mg base 4 "Drop" C_Drop ["self", "word"] (sp_Drop___init__ C_Drop) := ⟨_, _, ok_Drop___init__ F15 T R_Slip___init__, ⟨mk_Drop, a15, i15, kc_Drop⟩, PySem.W.mg_of X G aC_Drop, b15, (fun s us ws h1 h2 => match us, ws, h1, h2 with | [_], [_], _, _ => .of_eq rfl), fun s us ws h1 h2 => match us, ws, h1, h2 with | [_], [_], _, _ => .of_eq rfl⟩
  have U__law_of : Use l.prog w K mg base 4 "_law_of" ["_law_bag_here", "_law_some"] (sp__law_of K) := ⟨_, _, ok__law_of F16 T U__law_take, PySem.W.mg_of X G a16, k16, b16⟩
  have U__law_words : Use l.prog w K mg base 4 "_law_words" ["_law_bag_here"] (sp__law_words K) := ⟨_, _, ok__law_words F17 T U__law_take, PySem.W.mg_of X G a17, k17, b17⟩
  have U__law_due : Use l.prog w K mg base 4 "_law_due" ["_law_text"] (sp__law_due) := ⟨_, _, ok__law_due F18 T U__law_is_name, PySem.W.mg_of X G a18, k18, b18⟩
  have U_slip_of : Use l.prog w K mg base 6 "slip_of" ["pieces"] (sp_slip_of (FamS [C_Swap, C_Leave, C_Double, C_Names, C_Drop])) := ⟨_, _, ok_slip_of F19 T U_Swap___init__ U_Leave___init__ U_Double___init__ U_Names___init__ U_Drop___init__, PySem.W.mg_of X G a19, k19, b19⟩
  have U__law_bent : Use l.prog w K mg base 6 "_law_bent" ["_law_bag_here", "_law_text"] (sp__law_bent) := ⟨_, _, ok__law_bent F20 T U__law_take U__law_of, PySem.W.mg_of X G a20, k20, b20⟩
  have U_Slip_read : UseSM l.prog w K mg base 8 C_Slip "read" (sp_Slip_read (FamS [C_Swap, C_Leave, C_Double, C_Names, C_Drop]) C_BadSlip) := ⟨.type "type", p21, f21, fnrX (ok_Slip_read F21 T U_is_name U_is_place U_slip_of U_BadSlip) b21, ⟨rd21, ga21⟩, ⟨at21, ⟨_, rc21⟩, k21⟩⟩
  have U__law_agrees : Use l.prog w K mg base 10 "_law_agrees" ["_law_text"] (sp__law_agrees) := ⟨_, _, ok__law_agrees F22 T U_Slip_key U_Slip___str__ U_Slip_read U__law_due U_BadSlip, PySem.W.mg_of X G a22, k22, b22⟩
  have U__law_refuses : Use l.prog w K mg base 10 "_law_refuses" ["_law_thing"] (sp__law_refuses) := ⟨_, _, ok__law_refuses F23 T U_Slip_read U_BadSlip, PySem.W.mg_of X G a23, k23, b23⟩
  exact ok_law F24 T U_Slip___eq__ U_Slip___str__ U_Swap___init__ U_Leave___init__ U_Double___init__ U_Names___init__ U_Drop___init__ U_Slip_read U__law_bag U__law_take U__law_of U__law_words U__law_agrees U__law_refuses U__law_bent
theorem walk {l : PySem.W.OpenLaw} {q : Program} {loose : List Str} {XP : (Str → Option Value) → Heap → Prop} {YP : World → Heap → Prop} {d : DefRec} {K : Params → PySem.W.Frag} (hn : l.most = some 63) (hdf : d.params.defaults = [])
    (hY : ∀ (w : World) (h : Heap), YP w h → (K w.params).In h)
    (F : ∀ (w : World) (mg : Str → Option Value) (fa : Addr) (h : Heap), (K w.params).In h → h.Ns mainGlobals mg → mg d.name = some (.ref fa) →
      ∃ fd : FuncData, (∀ (s : Shared) (u : Value), BindsTo s fd ⟨[u], []⟩ [("_law_script", u)]) ∧ ∀ base : Heap, (K w.params).In base → base.Ns mainGlobals mg → FnOk l.prog w (K w.params) mg base CX0 12 fa fd ["_law_script"] (sp_law (K w.params))) :
    PySem.W.WalkO q loose XP YP l.row.toRowW d [] (fun f vs => PySem.call f vs) :=
  L2.walk_of (n := 63) (k := 12) (x := "_law_script") (CX := fun _ => CX0) (sp := fun w => sp_law (K w.params)) hn (by decide) hdf ⟨rfl, by decide, by decide⟩ hY F (fun _ _ a ns hl _ hS => ⟨a, ns, rfl, hS, hl, fun _ => rfl⟩) fun _ _ _ _ _ z => z
end My
open PySem PySem.W PyProof.Rows
set_option maxRecDepth 100000 in
set_option maxHeartbeats 0 in
theorem PySem.Challenge.cw_silentswaps_k51_slips_read_holds : PySem.Challenge.rw_silentswaps_k51_slips_read.Holds := by
  w_on; o_law; k_head; (case hw => w_witness2)
  k_fill
  refine My.walk (l := PySem.Challenge.rw_silentswaps_k51_slips_read) rfl rfl (fun w h Y => PySem.W.kIn_of Y) ?F
  case F =>
    intro w mg fa h KX G hmg
    refine' My.all_mk KX G hmg ?aC_Swap ?pg_Swap ?hd_Swap ?po_Swap ?sa_Swap ?mk_Swap ?kc_Swap ?na_Swap_parts ?aC_Leave ?pg_Leave ?hd_Leave ?po_Leave ?sa_Leave ?mk_Leave ?kc_Leave ?na_Leave_parts ?aC_Double ?pg_Double ?hd_Double ?po_Double ?sa_Double ?mk_Double ?kc_Double ?na_Double_parts ?aC_Names ?pg_Names ?hd_Names ?po_Names ?sa_Names ?mk_Names ?kc_Names ?na_Names_parts ?aC_Drop ?pg_Drop ?hd_Drop ?po_Drop ?sa_Drop ?mk_Drop ?kc_Drop ?na_Drop_parts ?aC_BadSlip ?aC_Slip ?hnC ?htC ?opq ?tops ?xL_BadSlip ?rv_BadSlip ?sa_BadSlip ?ga_BadSlip ?gg_BadSlip ?no_BadSlip ?ai_BadSlip ?ti_BadSlip ?li_BadSlip ?ci_BadSlip ?ce_BadSlip ?cf_BadSlip ?cv_BadSlip ?cm_BadSlip ?kC_BadSlip ?eC_BadSlip ?tC_BadSlip ?hC_BadSlip ?sC_BadSlip ?up_BadSlip ?sV_BadSlip ?mo_BadSlip ?ob_BadSlip ?ha_BadSlip ?fa_cl_Swap ?fa_cl_Leave ?fa_cl_Double ?fa_cl_Names ?fa_cl_Drop ?fa_ob_Swap ?fa_ob_Leave ?fa_ob_Double ?fa_ob_Names ?fa_ob_Drop ?fa_ki_Swap ?fa_ki_Leave ?fa_ki_Double ?fa_ki_Names ?fa_ki_Drop ?fa_gt_Slip ?fa_tk_Slip ?fa_nf_Swap_Leave ?fa_nf_Swap_Double ?fa_nf_Swap_Names ?fa_nf_Swap_Drop ?fa_nf_Leave_Swap ?fa_nf_Leave_Double ?fa_nf_Leave_Names ?fa_nf_Leave_Drop ?fa_nf_Double_Swap ?fa_nf_Double_Leave ?fa_nf_Double_Names ?fa_nf_Double_Drop ?fa_nf_Names_Swap ?fa_nf_Names_Leave ?fa_nf_Names_Double ?fa_nf_Names_Drop ?fa_nf_Drop_Swap ?fa_nf_Drop_Leave ?fa_nf_Drop_Double ?fa_nf_Drop_Names ?aG_SLIP_WORDS ?lG_SLIP_WORDS ?aG_LETTERS ?aG_RESERVED ?lG_RESERVED ?a1 ?l1 ?c1 ?k1 ?up2 ?i2 ?fi2 ?l2 ?c2 ?k2 ?a3_Swap ?a3_Leave ?a3_Double ?a3_Names ?a3_Drop ?gp3 ?tp3 ?rp3 ?l3 ?c3 ?k3 ?a4_Swap ?a4_Leave ?a4_Double ?a4_Names ?a4_Drop ?i4 ?l4 ?c4 ?k4 ?a5_Swap ?a5_Leave ?a5_Double ?a5_Names ?a5_Drop ?i5 ?l5 ?c5 ?k5 ?a6 ?l6 ?c6 ?k6 ?a7 ?l7 ?c7 ?k7 ?a8 ?l8 ?c8 ?k8 ?a9 ?l9 ?c9 ?k9 ?a10 ?l10 ?c10 ?k10 ?a11 ?i11 ?l11 ?c11 ?ce11 ?cf11 ?cv11 ?cm11 ?su11 ?up11 ?mo11 ?a12 ?i12 ?l12 ?c12 ?ce12 ?cf12 ?cv12 ?cm12 ?su12 ?up12 ?mo12 ?a13 ?i13 ?l13 ?c13 ?ce13 ?cf13 ?cv13 ?cm13 ?su13 ?up13 ?mo13 ?a14 ?i14 ?l14 ?c14 ?ce14 ?cf14 ?cv14 ?cm14 ?su14 ?up14 ?mo14 ?a15 ?i15 ?l15 ?c15 ?ce15 ?cf15 ?cv15 ?cm15 ?su15 ?up15 ?mo15 ?a16 ?l16 ?c16 ?k16 ?a17 ?l17 ?c17 ?k17 ?a18 ?l18 ?c18 ?k18 ?a19 ?l19 ?c19 ?k19 ?a20 ?l20 ?c20 ?k20 ?at21 ?rc21 ?rd21 ?ga21 ?l21 ?c21 ?k21 ?a22 ?l22 ?c22 ?k22 ?a23 ?l23 ?c23 ?k23 ?a24 ?l24 ?c24 ?k24 ?z_ValueError ?z_LookupError ?z_all ?z_enumerate ?z_range ?z_tuple ?z_dict ?z_int ?z_list ?z_len ?z_sorted ?z_isinstance ?z_max ?z_str ?z_min ?z_abs ?z_super ?z_bool
    (case aC_Swap => k_is)
    (case pg_Swap => k_is)
    (case hd_Swap => k_is)
    (case po_Swap => k_is)
    (case sa_Swap => k_is)
    (case mk_Swap => k_is)
    (case kc_Swap => k_is)
    (case na_Swap_parts => k_is)
    (case aC_Leave => k_is)
    (case pg_Leave => k_is)
    (case hd_Leave => k_is)
    (case po_Leave => k_is)
    (case sa_Leave => k_is)
    (case mk_Leave => k_is)
    (case kc_Leave => k_is)
    (case na_Leave_parts => k_is)
    (case aC_Double => k_is)
    (case pg_Double => k_is)
    (case hd_Double => k_is)
    (case po_Double => k_is)
    (case sa_Double => k_is)
    (case mk_Double => k_is)
    (case kc_Double => k_is)
    (case na_Double_parts => k_is)
    (case aC_Names => k_is)
    (case pg_Names => k_is)
    (case hd_Names => k_is)
    (case po_Names => k_is)
    (case sa_Names => k_is)
    (case mk_Names => k_is)
    (case kc_Names => k_is)
    (case na_Names_parts => k_is)
    (case aC_Drop => k_is)
    (case pg_Drop => k_is)
    (case hd_Drop => k_is)
    (case po_Drop => k_is)
    (case sa_Drop => k_is)
    (case mk_Drop => k_is)
    (case kc_Drop => k_is)
    (case na_Drop_parts => k_is)
    (case aC_BadSlip => k_is)
    (case aC_Slip => k_is)
    (case hnC => k_is)
    (case htC => k_is)
    (case opq => k_is)
    (case tops => first | rfl | decide +kernel)
    (case xL_BadSlip => k_is)
    (case rv_BadSlip => first | rfl | decide +kernel)
    (case sa_BadSlip => k_is)
    (case ga_BadSlip => k_is)
    (case gg_BadSlip => k_is)
    (case no_BadSlip => k_is)
    (case ai_BadSlip => k_is)
    (case ti_BadSlip => k_is)
    (case li_BadSlip => k_is)
    (case ci_BadSlip => k_is)
    (case ce_BadSlip => k_is)
    (case cf_BadSlip => k_is)
    (case cv_BadSlip => first | rfl | decide +kernel)
    (case cm_BadSlip => first | rfl | decide +kernel)
    (case kC_BadSlip => k_is)
    (case eC_BadSlip => k_is)
    (case tC_BadSlip => k_is)
    (case hC_BadSlip => k_is)
    (case sC_BadSlip => first | k_is | rfl)
    (case up_BadSlip => first | k_is | rfl)
    (case sV_BadSlip => k_is)
    (case mo_BadSlip => first | k_is | rfl)
    (case ob_BadSlip => first | k_is | rfl)
    (case ha_BadSlip => k_is)
    (case fa_cl_Swap => first | k_is | rfl)
    (case fa_cl_Leave => first | k_is | rfl)
    (case fa_cl_Double => first | k_is | rfl)
    (case fa_cl_Names => first | k_is | rfl)
    (case fa_cl_Drop => first | k_is | rfl)
    (case fa_ob_Swap => first | k_is | rfl)
    (case fa_ob_Leave => first | k_is | rfl)
    (case fa_ob_Double => first | k_is | rfl)
    (case fa_ob_Names => first | k_is | rfl)
    (case fa_ob_Drop => first | k_is | rfl)
    (case fa_ki_Swap => first | k_is | rfl)
    (case fa_ki_Leave => first | k_is | rfl)
    (case fa_ki_Double => first | k_is | rfl)
    (case fa_ki_Names => first | k_is | rfl)
    (case fa_ki_Drop => first | k_is | rfl)
    (case fa_gt_Slip => first | k_is | rfl)
    (case fa_tk_Slip => first | k_is | rfl)
    (case fa_nf_Swap_Leave => first | k_is | rfl)
    (case fa_nf_Swap_Double => first | k_is | rfl)
    (case fa_nf_Swap_Names => first | k_is | rfl)
    (case fa_nf_Swap_Drop => first | k_is | rfl)
    (case fa_nf_Leave_Swap => first | k_is | rfl)
    (case fa_nf_Leave_Double => first | k_is | rfl)
    (case fa_nf_Leave_Names => first | k_is | rfl)
    (case fa_nf_Leave_Drop => first | k_is | rfl)
    (case fa_nf_Double_Swap => first | k_is | rfl)
    (case fa_nf_Double_Leave => first | k_is | rfl)
    (case fa_nf_Double_Names => first | k_is | rfl)
    (case fa_nf_Double_Drop => first | k_is | rfl)
    (case fa_nf_Names_Swap => first | k_is | rfl)
    (case fa_nf_Names_Leave => first | k_is | rfl)
    (case fa_nf_Names_Double => first | k_is | rfl)
    (case fa_nf_Names_Drop => first | k_is | rfl)
    (case fa_nf_Drop_Swap => first | k_is | rfl)
    (case fa_nf_Drop_Leave => first | k_is | rfl)
    (case fa_nf_Drop_Double => first | k_is | rfl)
    (case fa_nf_Drop_Names => first | k_is | rfl)
    (case aG_SLIP_WORDS => k_is)
    (case lG_SLIP_WORDS => k_is)
    (case aG_LETTERS => k_is)
    (case aG_RESERVED => k_is)
    (case lG_RESERVED => k_is)
    (case a1 => k_is)
    (case l1 => k_is)
    (case c1 => k_is)
    (case k1 => k_is)
    (case up2 => first | k_is | rfl)
    (case i2 => k_is)
    (case fi2 => first | k_is | rfl)
    (case l2 => k_is)
    (case c2 => k_is)
    (case k2 => k_is)
    (case a3_Swap => k_is)
    (case a3_Leave => k_is)
    (case a3_Double => k_is)
    (case a3_Names => k_is)
    (case a3_Drop => k_is)
    (case gp3 => k_is)
    (case tp3 => k_is)
    (case rp3 => first | k_is | rfl)
    (case l3 => k_is)
    (case c3 => k_is)
    (case k3 => k_is)
    (case a4_Swap => k_is)
    (case a4_Leave => k_is)
    (case a4_Double => k_is)
    (case a4_Names => k_is)
    (case a4_Drop => k_is)
    (case i4 => k_is)
    (case l4 => k_is)
    (case c4 => k_is)
    (case k4 => k_is)
    (case a5_Swap => k_is)
    (case a5_Leave => k_is)
    (case a5_Double => k_is)
    (case a5_Names => k_is)
    (case a5_Drop => k_is)
    (case i5 => k_is)
    (case l5 => k_is)
    (case c5 => k_is)
    (case k5 => k_is)
    (case a6 => k_is)
    (case l6 => k_is)
    (case c6 => k_is)
    (case k6 => k_is)
    (case a7 => k_is)
    (case l7 => k_is)
    (case c7 => k_is)
    (case k7 => k_is)
    (case a8 => k_is)
    (case l8 => k_is)
    (case c8 => k_is)
    (case k8 => k_is)
    (case a9 => k_is)
    (case l9 => k_is)
    (case c9 => k_is)
    (case k9 => k_is)
    (case a10 => k_is)
    (case l10 => k_is)
    (case c10 => k_is)
    (case k10 => k_is)
    (case a11 => k_is)
    (case i11 => k_is)
    (case l11 => k_is)
    (case c11 => k_is)
    (case ce11 => k_is)
    (case cf11 => k_is)
    (case cv11 => first | rfl | decide +kernel)
    (case cm11 => first | rfl | decide +kernel)
    (case su11 => first | k_is | rfl)
    (case up11 => first | k_is | rfl)
    (case mo11 => first | k_is | rfl)
    (case a12 => k_is)
    (case i12 => k_is)
    (case l12 => k_is)
    (case c12 => k_is)
    (case ce12 => k_is)
    (case cf12 => k_is)
    (case cv12 => first | rfl | decide +kernel)
    (case cm12 => first | rfl | decide +kernel)
    (case su12 => first | k_is | rfl)
    (case up12 => first | k_is | rfl)
    (case mo12 => first | k_is | rfl)
    (case a13 => k_is)
    (case i13 => k_is)
    (case l13 => k_is)
    (case c13 => k_is)
    (case ce13 => k_is)
    (case cf13 => k_is)
    (case cv13 => first | rfl | decide +kernel)
    (case cm13 => first | rfl | decide +kernel)
    (case su13 => first | k_is | rfl)
    (case up13 => first | k_is | rfl)
    (case mo13 => first | k_is | rfl)
    (case a14 => k_is)
    (case i14 => k_is)
    (case l14 => k_is)
    (case c14 => k_is)
    (case ce14 => k_is)
    (case cf14 => k_is)
    (case cv14 => first | rfl | decide +kernel)
    (case cm14 => first | rfl | decide +kernel)
    (case su14 => first | k_is | rfl)
    (case up14 => first | k_is | rfl)
    (case mo14 => first | k_is | rfl)
    (case a15 => k_is)
    (case i15 => k_is)
    (case l15 => k_is)
    (case c15 => k_is)
    (case ce15 => k_is)
    (case cf15 => k_is)
    (case cv15 => first | rfl | decide +kernel)
    (case cm15 => first | rfl | decide +kernel)
    (case su15 => first | k_is | rfl)
    (case up15 => first | k_is | rfl)
    (case mo15 => first | k_is | rfl)
    (case a16 => k_is)
    (case l16 => k_is)
    (case c16 => k_is)
    (case k16 => k_is)
    (case a17 => k_is)
    (case l17 => k_is)
    (case c17 => k_is)
    (case k17 => k_is)
    (case a18 => k_is)
    (case l18 => k_is)
    (case c18 => k_is)
    (case k18 => k_is)
    (case a19 => k_is)
    (case l19 => k_is)
    (case c19 => k_is)
    (case k19 => k_is)
    (case a20 => k_is)
    (case l20 => k_is)
    (case c20 => k_is)
    (case k20 => k_is)
    (case at21 => first | k_is | rfl)
    (case rc21 => first | k_is | rfl)
    (case rd21 => first | k_is | rfl)
    (case ga21 => first | k_is | rfl)
    (case l21 => k_is)
    (case c21 => k_is)
    (case k21 => k_is)
    (case a22 => k_is)
    (case l22 => k_is)
    (case c22 => k_is)
    (case k22 => k_is)
    (case a23 => k_is)
    (case l23 => k_is)
    (case c23 => k_is)
    (case k23 => k_is)
    (case a24 => k_is)
    (case l24 => k_is)
    (case c24 => k_is)
    (case k24 => k_is)
    (case z_ValueError => k_is)
    (case z_LookupError => k_is)
    (case z_all => k_is)
    (case z_enumerate => k_is)
    (case z_range => k_is)
    (case z_tuple => k_is)
    (case z_dict => k_is)
    (case z_int => k_is)
    (case z_list => k_is)
    (case z_len => k_is)
    (case z_sorted => k_is)
    (case z_isinstance => k_is)
    (case z_max => k_is)
    (case z_str => k_is)
    (case z_min => k_is)
    (case z_abs => k_is)
    (case z_super => k_is)
    (case z_bool => k_is)
#print axioms PySem.Challenge.cw_silentswaps_k51_slips_read_holds
