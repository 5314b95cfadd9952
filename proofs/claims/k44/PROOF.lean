import PyProof.Rows.All
import Wide.All
import OpenK.AllK
import Wide.FinOn
import HandS.ForMost
import HandS.ForExc
import HandS.HeadHook4
import HandS.Head2
import HandS.HeadEnd
import HandS.Defaults
import HandS.ExcInit
import HandS.ExcField
import HandS.Wide
import HandS.IsInst
import HandS.ExcIs
import HandS.Deep
import HandS.Iter
import HandS.Walk
import KE.SortData
import KE.DataMinMax
import HandS.Zip
import HandS.SetFor
import PyProof.Rows.SetFrom
import PySem.Challenge.RW_darkpace_k44_whole_no_looks_tell_more
set_option Elab.async false
set_option linter.all false
set_option maxRecDepth 100000
set_option maxHeartbeats 4000000
namespace Dk
open PySem PySem.Spec L2

/-! ### G (what is shared, never changed) lies within H; ex: what may change -/
structure Go (ex : List Addr) (G H G' H' : Hp) : Prop where
  gg : Same G G'
  gh : Same G' H'
  kp : ∀ b o, b ∉ ex → H b = some o → H' b = some o
  lv : ∀ b, H' b = none → H b = none
  nw : ∀ b, G b = none → H b ≠ none → G' b = none

theorem Go.refl {ex : List Addr} {G H : Hp} (h : Same G H) : Go ex G H G H :=
  ⟨Same.refl _, h, fun _ _ _ e => e, fun _ h => h, fun _ h _ => h⟩
theorem Go.trans {ex ex' : List Addr} {G H G1 H1 G2 H2 : Hp} (a : Go ex G H G1 H1) (b : Go ex' G1 H1 G2 H2) (hs : ∀ x ∈ ex', x ∈ ex ∨ H x = none) : Go ex G H G2 H2 where
  gg := a.gg.trans b.gg
  gh := b.gh
  kp := fun c o hc e => b.kp c o (fun h => by
    rcases hs c h with h | h
    · exact hc h
    · rw [h] at e; cases e) (a.kp c o hc e)
  lv := fun c h => a.lv c (b.lv c h)
  nw := fun c h1 h2 => b.nw c (a.nw c h1 h2) fun h => h2 (a.lv c h)
theorem Go.new {ex : List Addr} {G H G1 H1 : Hp} {p : Addr} {o : HO} (a : Go ex G H G1 H1) (h : H1 p = none) : Go ex G H (upd G1 p o) (upd H1 p o) where
  gg := fun b u e => by
    have e1 := a.gg b u e
    rw [upd_ne (ne_of_none (a.gh b u e1) h)]
    exact e1
  gh := fun b u e => by
    by_cases hb : b = p
    · rw [hb, upd_same] at e; rw [hb, upd_same]; exact e
    · rw [upd_ne hb] at e; rw [upd_ne hb]; exact a.gh b u e
  kp := fun b u hb e => by
    have e1 := a.kp b u hb e
    rw [upd_ne (ne_of_none e1 h)]; exact e1
  lv := fun b e => by
    by_cases hb : b = p
    · rw [hb]; exact a.lv p h
    · rw [upd_ne hb] at e; exact a.lv b e
  nw := fun b e1 e2 => by
    have hb : b ≠ p := fun z => e2 (by rw [z]; exact a.lv p h)
    rw [upd_ne hb]; exact a.nw b e1 e2
/-- a new object of one's own -/
theorem Go.tmp {ex : List Addr} {G H G1 H1 : Hp} {p : Addr} {o : HO} (a : Go ex G H G1 H1) (h : H1 p = none) : Go ex G H G1 (upd H1 p o) where
  gg := a.gg
  gh := fun b u e => by
    have e1 := a.gh b u e
    rw [upd_ne (ne_of_none e1 h)]; exact e1
  kp := fun b u hb e => by
    have e1 := a.kp b u hb e
    rw [upd_ne (ne_of_none e1 h)]; exact e1
  lv := fun b e => by
    by_cases hb : b = p
    · rw [hb]; exact a.lv p h
    · rw [upd_ne hb] at e; exact a.lv b e
  nw := a.nw
/-- it changes -/
theorem Go.set {ex : List Addr} {G H G1 H1 : Hp} {p : Addr} {o : HO} (a : Go ex G H G1 H1) (hg : G1 p = none) (h : p ∈ ex ∨ H p = none) : Go ex G H G1 (upd H1 p o) where
  gg := a.gg
  gh := fun b u e => by
    rw [upd_ne (ne_of_none e hg)]; exact a.gh b u e
  kp := fun b u hb e => by
    have hne : b ≠ p := fun z => by
      rcases h with h | h
      · exact hb (z ▸ h)
      · rw [z, h] at e; cases e
    rw [upd_ne hne]; exact a.kp b u hb e
  lv := fun b e => by
    by_cases hb : b = p
    · rw [hb, upd_same] at e; cases e
    · rw [upd_ne hb] at e; exact a.lv b e
  nw := a.nw
/-- from now on it is shared -/
theorem Go.seal {ex : List Addr} {G H G1 H1 : Hp} {p : Addr} {o : HO} (a : Go ex G H G1 H1) (e : H1 p = some o) (hg : G1 p = none) (h : H p = none) : Go ex G H (upd G1 p o) H1 where
  gg := fun b u q => by
    have e1 := a.gg b u q
    rw [upd_ne (ne_of_none e1 hg)]; exact e1
  gh := fun b u q => by
    by_cases hb : b = p
    · rw [hb, upd_same] at q; rw [hb, e]; exact q
    · rw [upd_ne hb] at q; exact a.gh b u q
  kp := a.kp
  lv := a.lv
  nw := fun b e1 e2 => by
    have hb : b ≠ p := fun z => e2 (by rw [z]; exact h)
    rw [upd_ne hb]; exact a.nw b e1 e2
theorem Go.nn {ex : List Addr} {G H G1 H1 : Hp} {p : Addr} (a : Go ex G H G1 H1) (h : H1 p = none) : G1 p = none := by
  cases e : G1 p with
  | none => rfl
  | some o => rw [a.gh p o e] at h; cases h
theorem Same.fr {G H : Hp} {p : Addr} (a : Same G H) (h : H p = none) : G p = none := by
  cases e : G p with
  | none => rfl
  | some o => rw [a p o e] at h; cases h

/-! ### data -/
theorem seqT {K : PySem.W.Frag} {H H' : Hp} {a : Addr} {xs : List V} (e : Same H H') (h : SqT K H a xs) : SqT K H' a xs := by
  rcases h with (h | ⟨o, h⟩) | h
  · exact .inl (.inl (e _ _ h))
  · exact .inl (.inr ⟨o, e _ _ h⟩)
  · exact .inr h
mutual
theorem dpm {K : PySem.W.Frag} {H H' : Hp} (e : Same H H') : ∀ {d : PyData} {v : V}, Dp K H v d → Dp K H' v d
  | _, _, .non => .non
  | _, _, .bl b => .bl b
  | _, _, .int i => .int i
  | _, _, .str x => .str x
  | _, _, .lst h1 h2 => .lst (e.seq h1) (dpam e h2)
  | _, _, .tup h1 h2 => .tup (seqT e h1) (dpam e h2)
theorem dpam {K : PySem.W.Frag} {H H' : Hp} (e : Same H H') : ∀ {ds : List PyData} {vs : List V}, DpAll K H vs ds → DpAll K H' vs ds
  | _, _, .nil => .nil
  | _, _, .cons h1 h2 => .cons (dpm e h1) (dpam e h2)
end
section
variable {K : PySem.W.Frag} {H : Hp} {v : V}
theorem dp_int {i : Int} (h : Dp K H v (.int i)) : v = .int i := by cases h; rfl
theorem dp_str {i : Str} (h : Dp K H v (.str i)) : v = .str i := by cases h; rfl
theorem dp_bl {i : Bool} (h : Dp K H v (.bool i)) : v = .bl i := by cases h; rfl
theorem dp_non (h : Dp K H v .none) : v = .non := by cases h; rfl
theorem dp_tup {ds : List PyData} (h : Dp K H v (.tuple ds)) : ∃ a xs, v = .ref a ∧ SqT K H a xs ∧ DpAll K H xs ds := by
  cases h with
  | tup h1 h2 => exact ⟨_, _, rfl, h1, h2⟩
theorem dp_lst {ds : List PyData} (h : Dp K H v (.list ds)) : ∃ a xs, v = .ref a ∧ SqL K H a xs ∧ DpAll K H xs ds := by
  cases h with
  | lst h1 h2 => exact ⟨_, _, rfl, h1, h2⟩
theorem dpa_nil {vs : List V} (h : DpAll K H vs []) : vs = [] := by cases h; rfl
theorem dpa_cons {vs : List V} {d : PyData} {ds : List PyData} (h : DpAll K H vs (d :: ds)) : ∃ v r, vs = v :: r ∧ Dp K H v d ∧ DpAll K H r ds := by
  cases h with
  | cons h1 h2 => exact ⟨_, _, rfl, h1, h2⟩
end
/-- a pair of whole numbers -/
abbrev dI2 (p : Int × Int) : PyData := .tuple [.int p.1, .int p.2]
theorem dp_i2 {K : PySem.W.Frag} {H : Hp} {v : V} {p : Int × Int} (h : Dp K H v (dI2 p)) : ∃ a, v = .ref a ∧ SqT K H a [.int p.1, .int p.2] := by
  obtain ⟨a, xs, rfl, h1, h2⟩ := dp_tup h
  obtain ⟨x, r, rfl, hx, h2⟩ := dpa_cons h2
  obtain ⟨y, r, rfl, hy, h2⟩ := dpa_cons h2
  obtain rfl := dpa_nil h2
  rw [dp_int hx, dp_int hy] at h1
  exact ⟨a, rfl, h1⟩
theorem i2_dp {K : PySem.W.Frag} {H : Hp} {a : Addr} {p : Int × Int} (h : SqT K H a [.int p.1, .int p.2]) : Dp K H (.ref a) (dI2 p) := .tup h (.cons (.int _) (.cons (.int _) .nil))

/-! ### a def of the text, its promise kept -/
def Ok (P : Program) (w : World) (K : PySem.W.Frag) (mg : Str → Option Value) (base : Heap) (CX : CXT) (k : Nat) (x : Str) (ps : List Str) (sp : Sp) : Prop :=
  ∃ fd, FnOk P w K mg base CX k (He.ga K x) fd ps sp ∧ mg x = some (.ref (He.ga K x)) ∧ PySem.W.keepIn K (.ref (He.ga K x)) = true ∧ Binds K fd ps []
section
variable {X : Cx} {CX : CXT} {k : Nat} {x : Str} {ps : List Str} {sp : Sp} {E : XK} {p pos : Pos} {e : Expr} {es : List Expr} {t : TA}
theorem pe_callO (F : Ok X.prog X.w X.K X.mg X.base CX k x ps sp) (hr : Room k X.A) (hg : Gl X x) (hx : Passes CX X E) (ha : PA X (e :: es) t) (hdb : (x == ("__debug__" : Str)) = false := by decide)
    (he : starEach (e :: es) X.env = (false, eval e X.env) :: starEach es X.env := by rfl) (hpl : (backTo pos (starEach es X.env)).any (·.1) = false := by rfl) :
    PE X (.Call (.Name x p) (e :: es) [] pos) (tCall sp [] E t) := by
  obtain ⟨fd, G, m, kp, b⟩ := F
  exact pe_call G hr hg m kp b .nil hx ha hdb he hpl
end
/-- an if whose test is a decision -/
theorem ifd {p A B : Prop} [Decidable p] (h1 : p → A) (h2 : ¬ p → B) : if decide p = true then A else B := by
  by_cases h : p
  · rw [if_pos (decide_eq_true h)]; exact h1 h
  · rw [if_neg (by rw [decide_eq_false h]; decide)]; exact h2 h
theorem ifb {b : Bool} {A B : Prop} (h1 : b = true → A) (h2 : b = false → B) : if b = true then A else B := by
  cases b with
  | true => exact h1 rfl
  | false => exact h2 rfl
end Dk
namespace Dk
open PySem PySem.Spec L2
@[irreducible] def Sp1 (f : V → Hp → VK → XK → Prop) : Sp := fun vs H Q E => ∃ a, vs = [a] ∧ f a H Q E
theorem sp1 {f : V → Hp → VK → XK → Prop} {a : V} {H : Hp} {Q : VK} {E : XK} (h : f a H Q E) : Sp1 f [a] H Q E := by
  unfold Sp1
  exact ⟨a, rfl, h⟩
theorem sp1o {f : V → Hp → VK → XK → Prop} {vs : List V} {H : Hp} {Q : VK} {E : XK} (h : Sp1 f vs H Q E) : ∃ a, vs = [a] ∧ f a H Q E := by
  unfold Sp1 at h
  exact h
@[irreducible] def Sp2 (f : V → V → Hp → VK → XK → Prop) : Sp := fun vs H Q E => ∃ a b, vs = [a, b] ∧ f a b H Q E
theorem sp2 {f : V → V → Hp → VK → XK → Prop} {a b : V} {H : Hp} {Q : VK} {E : XK} (h : f a b H Q E) : Sp2 f [a, b] H Q E := by
  unfold Sp2
  exact ⟨a, b, rfl, h⟩
theorem sp2o {f : V → V → Hp → VK → XK → Prop} {vs : List V} {H : Hp} {Q : VK} {E : XK} (h : Sp2 f vs H Q E) : ∃ a b, vs = [a, b] ∧ f a b H Q E := by
  unfold Sp2 at h
  exact h
@[irreducible] def Sp3 (f : V → V → V → Hp → VK → XK → Prop) : Sp := fun vs H Q E => ∃ a b c, vs = [a, b, c] ∧ f a b c H Q E
theorem sp3 {f : V → V → V → Hp → VK → XK → Prop} {a b c : V} {H : Hp} {Q : VK} {E : XK} (h : f a b c H Q E) : Sp3 f [a, b, c] H Q E := by
  unfold Sp3
  exact ⟨a, b, c, rfl, h⟩
theorem sp3o {f : V → V → V → Hp → VK → XK → Prop} {vs : List V} {H : Hp} {Q : VK} {E : XK} (h : Sp3 f vs H Q E) : ∃ a b c, vs = [a, b, c] ∧ f a b c H Q E := by
  unfold Sp3 at h
  exact h
@[irreducible] def Sp4 (f : V → V → V → V → Hp → VK → XK → Prop) : Sp := fun vs H Q E => ∃ a b c d, vs = [a, b, c, d] ∧ f a b c d H Q E
theorem sp4 {f : V → V → V → V → Hp → VK → XK → Prop} {a b c d : V} {H : Hp} {Q : VK} {E : XK} (h : f a b c d H Q E) : Sp4 f [a, b, c, d] H Q E := by
  unfold Sp4
  exact ⟨a, b, c, d, rfl, h⟩
theorem sp4o {f : V → V → V → V → Hp → VK → XK → Prop} {vs : List V} {H : Hp} {Q : VK} {E : XK} (h : Sp4 f vs H Q E) : ∃ a b c d, vs = [a, b, c, d] ∧ f a b c d H Q E := by
  unfold Sp4 at h
  exact h
@[irreducible] def Sp5 (f : V → V → V → V → V → Hp → VK → XK → Prop) : Sp := fun vs H Q E => ∃ a b c d e, vs = [a, b, c, d, e] ∧ f a b c d e H Q E
theorem sp5 {f : V → V → V → V → V → Hp → VK → XK → Prop} {a b c d e : V} {H : Hp} {Q : VK} {E : XK} (h : f a b c d e H Q E) : Sp5 f [a, b, c, d, e] H Q E := by
  unfold Sp5
  exact ⟨a, b, c, d, e, rfl, h⟩
theorem sp5o {f : V → V → V → V → V → Hp → VK → XK → Prop} {vs : List V} {H : Hp} {Q : VK} {E : XK} (h : Sp5 f vs H Q E) : ∃ a b c d e, vs = [a, b, c, d, e] ∧ f a b c d e H Q E := by
  unfold Sp5 at h
  exact h
@[irreducible] def Sp6 (f : V → V → V → V → V → V → Hp → VK → XK → Prop) : Sp := fun vs H Q E => ∃ a b c d e g, vs = [a, b, c, d, e, g] ∧ f a b c d e g H Q E
theorem sp6 {f : V → V → V → V → V → V → Hp → VK → XK → Prop} {a b c d e g : V} {H : Hp} {Q : VK} {E : XK} (h : f a b c d e g H Q E) : Sp6 f [a, b, c, d, e, g] H Q E := by
  unfold Sp6
  exact ⟨a, b, c, d, e, g, rfl, h⟩
theorem sp6o {f : V → V → V → V → V → V → Hp → VK → XK → Prop} {vs : List V} {H : Hp} {Q : VK} {E : XK} (h : Sp6 f vs H Q E) : ∃ a b c d e g, vs = [a, b, c, d, e, g] ∧ f a b c d e g H Q E := by
  unfold Sp6 at h
  exact h
@[irreducible] def Sp7 (f : V → V → V → V → V → V → V → Hp → VK → XK → Prop) : Sp := fun vs H Q E => ∃ a b c d e g i, vs = [a, b, c, d, e, g, i] ∧ f a b c d e g i H Q E
theorem sp7 {f : V → V → V → V → V → V → V → Hp → VK → XK → Prop} {a b c d e g i : V} {H : Hp} {Q : VK} {E : XK} (h : f a b c d e g i H Q E) : Sp7 f [a, b, c, d, e, g, i] H Q E := by
  unfold Sp7
  exact ⟨a, b, c, d, e, g, i, rfl, h⟩
theorem sp7o {f : V → V → V → V → V → V → V → Hp → VK → XK → Prop} {vs : List V} {H : Hp} {Q : VK} {E : XK} (h : Sp7 f vs H Q E) : ∃ a b c d e g i, vs = [a, b, c, d, e, g, i] ∧ f a b c d e g i H Q E := by
  unfold Sp7 at h
  exact h
end Dk
namespace Dk
open PySem PySem.Spec L2
theorem sz2 : (2 : Nat) ≤ sizeLine := by decide
theorem szl {n : Nat} (h : n ≤ 1000000) : n ≤ sizeLine := Nat.le_trans h (by decide)
theorem slt {n : Nat} (h : n < 1000000) : n < sizeLine := Nat.lt_of_lt_of_le h (by decide)
end Dk
namespace Dk
open PySem PySem.Spec L2
/-- a new object, shared from now on -/
theorem go_new {ex : List Addr} {G H G1 H1 : Hp} {p : Addr} {o : HO} (a : Go ex G H G1 H1) (h : H1 p = none) :
    ∃ G2, Go ex G H G2 (upd H1 p o) ∧ Same G2 (upd H1 p o) ∧ Same G1 G2 ∧ G2 p = some o :=
  ⟨_, a.new h, (a.new (o := o) h).gh, fun b u e => by rw [upd_ne (ne_of_none (a.gh b u e) h)]; exact e, upd_same⟩
end Dk
namespace Dk
open PySem PySem.Spec L2
section
variable {X : Cx}
/-- a statement, then the rest, what stands between told once -/
def tMid (t u : TS) : TS := fun D σ H => ∃ M : L2.St → Hp → Prop, t { D with nx := M } σ H ∧ ∀ σ' H', M σ' H' → u D σ' H'
theorem pss_mid {st : Stmt} {rest : List Stmt} {t u : TS} (h1 : PS X st t) (h2 : PSs X rest u) : PSs X (st :: rest) (tMid t u) := by
  refine ⟨fun pins s σ H D I ⟨M, hm, hu⟩ => ?_⟩
  refine PySem.wpAny_execs_cons (thn (h1.run pins s σ H { D with nx := M } I hm) fun f s1 q => ?_)
  cases f with
  | next =>
    obtain ⟨σ', H', I', q⟩ := q
    exact h2.run pins s1 σ' H' D I' (hu σ' H' q)
  | ret v => exact q
  | brk => exact q
  | cont => exact q
end
theorem dig {H : Hp} {a : Addr} {kvs : List (Key × V)} {k : Key} {v : V} (e : H a = some (.dK kvs)) (h : valV kvs k = some v) : DGet H a (kV k) (some v) := by
  have := DGet.k (k := k) e
  rw [h] at this
  exact this
theorem dip {H : Hp} {a : Addr} {kvs kvs' : List (Key × V)} {k : Key} {v : V} (e : H a = some (.dK kvs)) (hl : kvs.length ≤ 1000) (h : putK kvs k v = kvs') : DPut H a (kV k) v (upd H a (.dK kvs')) := by
  have := DPut.k (k := k) (v := v) e (slt (by omega))
  rw [h] at this
  exact this
end Dk
namespace Dk
theorem ifn {p A B : Prop} [Decidable p] (h1 : ¬ p → A) (h2 : p → B) : if (!decide p) = true then A else B := by
  by_cases h : p
  · rw [if_neg (by rw [decide_eq_true h]; decide)]; exact h2 h
  · rw [if_pos (by rw [decide_eq_false h]; rfl)]; exact h1 h
end Dk
namespace Dk
open PySem PySem.Spec L2
/-! ### an own refusal: its class, its __init__, one field -/
abbrev whatBody (q1 q2 q3 q4 : Pos) : List Stmt := [.Assign [.Attribute (.Name "self" q1) "what" q2] (.Name "what" q3) q4]
structure ExcT (K : PySem.W.Frag) (mg : Str → Option Value) (x : Str) : Prop where
  g : mg x = some (.ref (He.ga K x))
  oex : OexC K (He.ga K x)
  ini : PySem.W.findIn K (.ref (He.ga K x)) "__init__" = some (some (.ref (He.ma K (He.ga K x) "__init__")))
  typ : PySem.W.typeIn K (.ref (He.ma K (He.ga K x) "__init__")) = some (.type "function")
  noW : PySem.W.findIn K (.ref (He.ga K x)) "what" = some none
  xf : XfC K (He.ga K x)
  ec : ExcC K (He.ga K x)
  fn : ∃ (fd : FuncData) (qual : Str) (args : Arguments) (sc : Scope) (q1 q2 q3 q4 : Pos), FunD K "__init__" qual args (whatBody q1 q2 q3 q4) sc [] [] (He.ma K (He.ga K x) "__init__") fd ∧
    FnScope ["self", "what"] ["self", "what"] sc ∧ Binds K fd ["self", "what"] [] ∧ (sc.names.lookup ("self" : Str) = some NameKind.local ∧ sc.names.lookup ("what" : Str) = some NameKind.local)
def oexB (K : PySem.W.Frag) (C : Addr) : Bool := match K.lookup C with
  | some ⟨.type "type", _, .cls cd, sl⟩ => (match cd.mro, sl.toList with
    | .ref C2 :: bm, [_, _, _, _, some (.builtin n), _] => C2 == C && (n == "ValueError.__new__" && (!cd.hasDel && (cd.hasDict && PySem.HandSPX.refsVE bm)))
    | _, _ => false)
  | _ => false
theorem oexB_ok {K : PySem.W.Frag} {C : Addr} (h : oexB K C = true) : ∃ nm q N bs bm sn sub ab col dd k0 k1 k2 k3 k5, K.lookup C = some (excClassObj nm q C N bs bm true sn sub ab col dd k0 k1 k2 k3 k5 "ValueError.__new__") ∧ PySem.HandSPX.refsVE bm = true := by
  unfold oexB at h
  split at h
  · rename_i dd cd sl ho
    split at h
    · rename_i C2 bm k0 k1 k2 k3 n k5 hm hs
      simp only [Bool.and_eq_true, beq_iff_eq, Bool.not_eq_true'] at h
      obtain ⟨h1, h2, h3, h4, h5⟩ := h
      obtain ⟨nm, bs, mro, ns, qn, hd, sn, sub, ab, col, del⟩ := cd
      dsimp only at hm h3 h4
      subst h1 h2 hm h3 h4
      have hsl : sl = #[k0, k1, k2, k3, some (.builtin "ValueError.__new__"), k5] := by
        obtain ⟨l⟩ := sl
        simp only at hs
        rw [hs]
      subst hsl
      exact ⟨nm, qn, ns, bs, bm, sn, sub, ab, col, dd, k0, k1, k2, k3, k5, ho, h5⟩
    · cases h
  · cases h
def excB (K : PySem.W.Frag) (x : Str) : Bool :=
  oexB K (He.ga K x) && (decide (PySem.W.findIn K (.ref (He.ga K x)) "__setattr__" = some (some (.builtin "object.__setattr__"))) && (decide (PySem.W.subIn K (.ref (He.ga K x)) (.type "BaseException") = some true) &&
    (decide (PySem.W.typeIn K (.ref (He.ga K x)) = some (.type "type")) && (PySem.W.keepIn K (.ref (He.ga K x)) && (decide (PySem.W.findIn K (.ref (He.ga K x)) "__init__" = some (some (.ref (He.ma K (He.ga K x) "__init__")))) &&
      (decide (PySem.W.typeIn K (.ref (He.ma K (He.ga K x) "__init__")) = some (.type "function")) && (decide (PySem.W.findIn K (.ref (He.ga K x)) "what" = some none) && (xfB K (He.ga K x) &&
        (decide (PySem.W.findIn K (.ref (He.ga K x)) "__class__" = some (some (.builtin "object.__class__"))) && (decide (PySem.W.specialIn K (.builtin "object.__class__") "__get__" = some (some (.builtin "getset_descriptor.__get__"))) && (decide (PySem.W.takesIn K (.builtin "object.__class__") = some true) && decide (PySem.W.mroIn K (He.ga K x) (.type "object") = some true))))))))))))
theorem excB_ok {K : PySem.W.Frag} {mg : Str → Option Value} {x qual : Str} {args : Arguments} {sc : Scope} {q1 q2 q3 q4 : Pos} (h : excB K x = true) (g : mg x = some (.ref (He.ga K x)))
    (F : ∃ fd, FunD K "__init__" qual args (whatBody q1 q2 q3 q4) sc [] [] (He.fAd K (x, some "__init__")) fd) (S : FnScope ["self", "what"] ["self", "what"] sc) (hl : sc.names.lookup ("self" : Str) = some NameKind.local ∧ sc.names.lookup ("what" : Str) = some NameKind.local)
    (b : ∀ (kV doc pm : Value) (an : Option Addr) (cdv ct : Value) (us : List Value), us.length = 2 → bindArgs (PySem.W.fnOf "__init__" qual args (whatBody q1 q2 q3 q4) sc .none kV doc pm an cdv ct) ⟨us, []⟩ = pure ((["self", "what"] : List Str).zip us)) : ExcT K mg x := by
  unfold excB at h
  simp only [Bool.and_eq_true, decide_eq_true_eq] at h
  obtain ⟨h1, h2, h3, h4, h5, h6, h7, h8, h9, g1, g2, g3, g4⟩ := h
  obtain ⟨fd, F⟩ := F
  have xf := xfB_ok h9
  exact ⟨g, ⟨oexB_ok h1, h2, h3, h4, h5⟩, h6, h7, h8, xf, ⟨xf.ga, xf.gg, xf.exC, xf.hdC, g1, g2, g3, g4⟩, fd, qual, args, sc, q1, q2, q3, q4, F, S, F.bindsN b, hl⟩
section
variable {P : Program} {w : World} {K : PySem.W.Frag} {mg : Str → Option Value} {base : Heap}
def spWhat (K : PySem.W.Frag) (C : Addr) : Sp := Sp2 fun a v H Q _ => ∃ e, a = .ref e ∧ OexC K C ∧ PySem.W.findIn K (.ref C) "what" = some none ∧ H e = some (exo e C none) ∧ ∀ dx, H dx = none → dx ≠ e → Q .non (upd (upd H dx (exd dx [("what", v)])) e (exo e C (some dx)))
theorem ok_what {qual : Str} {args : Arguments} {sc : Scope} {q1 q2 q3 q4 : Pos} {f C : Addr} {fd : FuncData} (F : FunD K "__init__" qual args (whatBody q1 q2 q3 q4) sc [] [] f fd) (S : FnScope ["self", "what"] ["self", "what"] sc)
    (hl : sc.names.lookup ("self" : Str) = some NameKind.local ∧ sc.names.lookup ("what" : Str) = some NameKind.local) : FnOk P w K mg base CX0 1 f fd ["self", "what"] (spWhat K C) := by
  refine F.ok S (fun _ _ _ _ h => by obtain ⟨_, _, rfl, _⟩ := sp2o h; rfl) (fun cdv A outer s H vs Q E hr h => ?_)
  obtain ⟨a, v, rfl, e, rfl, T, hw, he, k⟩ := sp2o h
  refine ⟨_, PSs.nox (pss_one (ps_ost (pv 0 rfl (Or.inl hl.1)) (pv 1 rfl (Or.inl hl.2)))), ?_⟩
  exact ⟨_, rfl, _, rfl, e, C, rfl, T, hw, .inl ⟨he, fun dx h1 h2 => k dx h1 h2⟩⟩
end
section
variable {X : Cx} {x : Str} {p pos : Pos} {e : Expr} {te : TE}
/-- weaker ends -/
def tMo (te : TE) : TE := fun σ H Q => ∃ R : VK, te σ H R ∧ ∀ v H', R v H' → Q v H'
theorem pe_mono (h : PE X e te) : PE X e (tMo te) := ⟨fun pins s σ H Q I ⟨R, q, m⟩ => thn (h.run pins s σ H R I q) fun v s1 ⟨x, H1, I1, r1, q1⟩ => ⟨x, H1, I1, r1, m x H1 q1⟩⟩
/-- X(e), the refusal made -/
def tMkW (C : Addr) (te : TE) : St → Hp → XK → Prop := fun σ H Q => te σ H fun v H1 => ∀ d, H1 d = none → Q (.ref C) (some d) (upd H1 d (.xd [("what", v)]))
theorem pmk_what (T : ExcT X.K X.mg x) (hr : Room 2 X.A) (hg : Gl X x) (he : PE X e te)
    (hdb : (x == ("__debug__" : Str)) = false := by decide) (hs : starEach (e :: []) X.env = (false, eval e X.env) :: starEach [] X.env := by rfl) (hpl : (backTo pos (starEach [] X.env)).any (·.1) = false := by rfl) :
    PMk X (.Call (.Name x p) (e :: []) [] pos) (tMkW (He.ga X.K x) te) := by
  obtain ⟨fd, qual, args, sc, q1, q2, q3, q4, F, S, b, hl⟩ := T.fn
  have G : FnOk X.prog X.w X.K X.mg X.base CX0 1 (He.ma X.K (He.ga X.K x) "__init__") fd ["self", "what"] (spWhat X.K (He.ga X.K x)) := ok_what F S hl
  have key := pmk_oex (es := []) (p := p) (pos := pos) T.oex T.ini T.typ G hr b .nil (fun _ _ _ _ _ _ _ h => h.elim) hg T.g (pa_cons (pe_mono he) pa_nil hs) hdb hs hpl
  intro pins s σ H Q I h
  refine key pins s σ H Q I ?_
  refine ⟨_, h, fun v H1 q => ⟨(by show 1 ≤ 1000; decide), fun a ha => ?_⟩⟩
  refine sp2 ⟨a, rfl, T.oex, T.noW, upd_same, fun dx hdx hne => ⟨rfl, dx, [("what", v)], upd_same, ?_, ?_, ?_⟩⟩
  · rw [upd_ne hne, upd_same]
  · rw [upd_ne hne] at hdx; exact hdx
  · rw [upd_ne hne] at hdx
    have e : upd (del (upd (upd (upd H1 a (exo a (He.ga X.K x) none)) dx (exd dx [("what", v)])) a (exo a (He.ga X.K x) (some dx))) a) dx (.xd [("what", v)]) = upd H1 dx (.xd [("what", v)]) := by
      funext b
      by_cases hb : b = dx
      · rw [hb, upd_same, upd_same]
      · rw [upd_ne hb, upd_ne hb]
        by_cases ha2 : b = a
        · rw [ha2, del_same, ha]
        · rw [del_ne ha2, upd_ne ha2, upd_ne hb, upd_ne ha2]
    rw [e]
    exact q dx hdx
end
end Dk
namespace Dk
open PySem PySem.Spec PySem.W
section
variable {prog : Program} {w : World} {A : Around} {E : Value → Shared → Prop} {s : Shared} {K : Frag} {x D : Addr} {ox : Obj} {od : Option Obj}
/-- what the class D says, for isinstance of a refusal of it -/
theorem excls_at {Q : Option Value → Shared → Prop} (T : L2.ExcC K D) (X : K.In s.heap) (I : InstAt s.heap x ox D od) (h : Q (some (.ref D)) { s with toks := s.toks + 1 }) : wpAny (model prog w) A (getAttr? (.ref x) "__class__") Q E s := by
  have hf : findObj K D od "__class__" = some (.bind (.builtin "getset_descriptor.__get__") (.builtin "object.__class__")) := by
    obtain ⟨cd, hc, _⟩ := any_some T.hd
    unfold findObj
    rw [hc, Option.bind_some, T.ha, Option.bind_some]
    simp [T.hn, T.ht]
  obtain ⟨hp, g, d, t, os⟩ := s
  have typ := I.type (M := model prog w)
  have gtr := looks_findIn (M := model prog w) X T.hg
  have gta := looks_findIn (M := model prog w) X T.hk
  have fnd := looks_find (M := model prog w) X I hf
  have below : Looks (model prog w) hp (isInstance (.ref x) (.type "BaseException")) true := typ.andThen (looks_subIn X T.hs)
  have n1 : (Value.builtin "BaseException.__getattribute__" == Value.builtin "object.__getattribute__") = false := by decide +kernel
  have n2 : (onTheHeap (Value.ref D) && Value.builtin "BaseException.__getattribute__" == Value.builtin "object.__getattribute__") = false := by rw [n1]; rfl
  have n3 : (false && onTheHeap (Value.builtin "BaseException.__getattribute__")) = false := rfl
  unfold getAttr? getAttrBy? getAttrBy
  refine wpAny_bind (wpAny_mkText (wpAny_bind (wpAny_attempt (wpAny_holding (wpAny_bind (typ.at (wpAny_bind (gtr.at ?_))))))))
  show wpAny _ _ (if (onTheHeap (Value.ref D) && Value.builtin "BaseException.__getattribute__" == Value.builtin "object.__getattribute__") = true then _ else _) _ _ _
  rw [n2, if_neg Bool.false_ne_true]
  unfold getAttrByItsOwn hookBefore
  refine wpAny_bind ?_
  rw [if_pos (show onTheHeap (Value.ref D) = true from rfl)]
  refine gta.at (wpAny_bind (wpAny_attempt (wpAny_holding ?_)))
  unfold callGetattribute
  rw [n3, if_neg Bool.false_ne_true]
  unfold boundAndCalled
  rw [PySem.F.excAttr_ValueError.ga.bind (.ref x)]
  refine wpAny_bind (wpAny_pure ?_)
  show wpAny _ _ (call (.builtin "BaseException.__getattribute__") [.ref x, .str "__class__" t]) _ _ _
  refine wpAny_call (codeAny_call_builtin PySem.F.excAttr_ValueError.ga.plain PySem.F.entry_bexc_ga ?_)
  refine @check_slot (model prog w) _ _ ⟨hp, g, d, t + 1, os⟩ "BaseException.__getattribute__" "BaseException" "__getattribute__" (.ref x) [.str "__class__" t] [] _ (by decide +kernel) (by decide +kernel) below (PySem.F.args_bexc_ga (.ref x) (.str "__class__" t)) ?_
  unfold Builtin.«object.__getattribute__»
  refine wpAny_bind (wpAny_of_eq (a := ((Value.ref x : Value), [Value.str "__class__" t])) (by first | rfl | (simp only [slotArgs]; rfl)) ?_)
  refine wpAny_bind (wpAny_pure (wpAny_bind (typ.at (wpAny_bind (fnd.at ?_)))))
  show wpAny _ _ (holding [Value.builtin "object.__class__"] (call (.builtin "getset_descriptor.__get__") [.builtin "object.__class__", .ref x, .ref D]) >>= ret) _ _ _
  refine wpAny_bind (wpAny_holding (wpAny_call (class_get (s := ⟨hp, g, d, t + 1, os⟩) (ox := ox) (od := od) X I T.hm ?_)))
  refine wpAny_pure ?_
  show wpAny _ _ (handedOut (.ref D)) _ _ _
  rw [handedOut_of (v := .ref D) rfl]
  first
    | exact wpAny_pure (wpAny_pure h)
    | exact wpAny_pure h
    | exact wpAny_pure (wpAny_bind (wpAny_pure (wpAny_pure h)))
theorem exc_kit (T : L2.ExcC K D) : KitX K (.ref x) (.ref D) (fun h => ∃ od, InstAt h x ox D od) where
  ty := fun _ _ _ ⟨_, I⟩ => I.type
  it := fun _ _ X _ => by
    obtain ⟨cd, hc, _⟩ := any_some T.hd
    unfold clsIn at hc
    split at hc
    · rename_i c' d' cd' sl' ho
      intro A' Q' E' s' k q
      unfold isType loadHead
      exact wpAny_bind (wpAny_loadPart (k _ _ (X _ _ ho)) (wpAny_pure q))
    · cases hc
  ne := fun h tp dd its n sl X htp => by
    obtain ⟨cd, hc, _⟩ := any_some T.hd
    refine Bool.eq_false_iff.mpr fun q => ?_
    have e : D = tp := Value.ref.inj (beq_iff_eq.mp q)
    subst e
    unfold clsIn at hc
    split at hc
    · rename_i c' d' cd' sl' ho
      have z := (X _ _ ho).symm.trans htp
      cases z
    · cases hc
  ca := fun X ⟨_, I⟩ k => excls_at T X I k
end
end Dk
namespace Dk
open PySem PySem.Spec L2
/-- isinstance(e, c), isinstance(e, (c, ..)), e the refusal that the suite holds, of class D, its dict at dd -/
def rIsX (K : PySem.W.Frag) (cls : Value) (a : Addr) (d : Option Addr) : List V → Hp → VK → Prop := fun xs H Q => ∃ (D : Addr) (c : V) (b : Bool) (dd : Addr) (fs : List (Str × V)), xs = [.ref a, c] ∧ cls = .ref D ∧ ExcC K D ∧ d = some dd ∧ H dd = some (.xd fs) ∧
  ((∃ cv, (∀ u, RelV c u → u = cv) ∧ PySem.W.kitOne K (.ref D) cv = some b) ∨ ∃ (p : Addr) (as : List Addr), c = .ref p ∧ SqT K H p (as.map V.ref) ∧ PySem.W.kitAny K (.ref D) (as.map Value.ref) = some b) ∧ Q (.bl b) H
theorem refs_eq : ∀ {as : List Addr} {us : List Value}, Vals (as.map V.ref) us → us = as.map Value.ref
  | [], _, .nil => rfl
  | _ :: _, _, .cons r t => by
    cases r
    rw [refs_eq t]
    rfl
theorem call_isX {X : Cx} {a : Addr} {cls : Value} {oe : Obj} {d : Option Addr} {pn : List (Addr × Obj)} (hz : Zc cls d oe) (hf : ∃ vs, oe.data = .fields vs) : CallR (X.suite a ((a, oe) :: pn)) (.builtin "isinstance") (rIsX X.K cls a d) := by
  intro pins s σ H xs us Q I r h
  obtain ⟨D, c, b, dd, fs, rfl, rfl, T, rfl, hd, hc, q⟩ := h
  obtain ⟨u1, u2, rfl, r1, r2⟩ := vals2 r
  cases r1
  obtain ⟨hget, _⟩ := I.pin (a, oe) (List.mem_append.mpr (.inl List.mem_cons_self))
  obtain ⟨vs, hv⟩ := hf
  have hx : ObjOk X.prog X.w H s.heap dd (.xd fs) := I.hok dd _ hd
  obtain ⟨mA, hns, _⟩ := hx
  obtain ⟨od, ho, _⟩ := lookIn_ns hns
  have J : ∃ od, PySem.W.InstAt s.heap a oe D od := ⟨some od, hget, hz.1, by unfold PySem.W.notCls; rw [hv] <;> rfl, by rw [hz.2]; exact ho⟩
  rcases hc with ⟨cv, hcv, e⟩ | ⟨p, as, rfl, hT, e⟩
  · have ec := hcv _ r2
    subst ec
    exact PySem.W.kia_one (exc_kit T) I.kIn J e (fun z => nomatch z) fun tk => ⟨.bl b, H, I.kept (t' := tk) fun _ _ z => z, rfl, q⟩
  · cases r2
    obtain ⟨its, rv, o, h1, h2, n, h3⟩ : ∃ its : List Value, Vals (as.map V.ref) its ∧ ∃ o, s.heap.get? p = some o ∧ o.cls = .type "tuple" ∧ ∃ n, o.data = .seq its.toArray n := by
      obtain ⟨its, rv, ht, _⟩ := I.tuple hT
      exact ⟨its, rv, ht⟩
    have e3 := refs_eq rv
    subst e3
    obtain ⟨oc, od', dt, sl⟩ := o
    simp only at h2 h3
    subst h2 h3
    exact PySem.W.kia_tup (exc_kit T) I.kIn J h1 e (fun z => nomatch z) fun tk => ⟨.bl b, H, I.kept (t' := tk) fun _ _ z => z, rfl, q⟩
/-- e.what, e the refusal that the suite holds -/
def tWh (K : PySem.W.Frag) (a : Addr) (cls : Value) (d : Option Addr) (f : Str) (te : TE) : TE := fun σ H Q => te σ H fun x H1 => x = .ref a ∧ ∃ C : Addr, cls = .ref C ∧ XfC K C ∧ PySem.W.findIn K (.ref C) f = some none ∧
  ∃ (dd : Addr) (fs : List (Str × V)) (v : V), d = some dd ∧ H1 dd = some (.xd fs) ∧ fs.lookup f = some v ∧ Q v H1
theorem pe_wh {X : Cx} {a : Addr} {oe : Obj} {cls : Value} {d : Option Addr} {pn : List (Addr × Obj)} {e : Expr} {te : TE} {pos : Pos} {n : Str} (hz : Zc cls d oe) (hf : ∃ vs, oe.data = .fields vs) (he : PE (X.suite a ((a, oe) :: pn)) e te)
    (hb : attributeBase e n X.env (eval e X.env) = eval e X.env := by rfl) : PE (X.suite a ((a, oe) :: pn)) (.Attribute e n pos) (tWh X.K a cls d n te) := by
  refine ⟨fun pins s σ H Q I h => ?_⟩
  refine attr_of hb (thn (he.run pins s σ H _ I h) fun u s1 hh => ?_)
  obtain ⟨x, H1, I1, rx, rfl, C, rfl, T, hno, dd, fs, v, rfl, hdd, l, q⟩ := hh
  obtain rfl : u = Value.ref a := rx
  obtain ⟨ha, _⟩ := I1.pin (a, oe) (List.mem_append_left _ List.mem_cons_self)
  obtain ⟨vs, hd⟩ := hf
  have hx : ObjOk X.prog X.w H1 s1.heap dd (.xd fs) := I1.hok dd _ hdd
  obtain ⟨mA, hns, hr⟩ := hx
  obtain ⟨od, ho, hl⟩ := lookIn_ns hns
  obtain ⟨u, hu, ru⟩ := RelO.some_of (v := v) (o := mA n) (by rw [← l]; exact hr n)
  have J : PySem.W.InstAt s1.heap a oe C (some od) := ⟨ha, hz.1, by unfold PySem.W.notCls; rw [hd] <;> rfl, by rw [hz.2]; exact ho⟩
  exact PySem.HandSPX.exc_get I1.kIn J T.ga T.gg T.exC (PySem.W.findObj_own T.hdC hno rfl (by rw [hl, hu])) (handed_of ru) ⟨v, H1, I1.tok _, ru, q⟩
/-- a raising def, called within a try -/
theorem pe_callSO {X : Cx} {CX : CXT} {k : Nat} {x : Str} {ps : List Str} {sp : Sp} {E : L2.St → XK} {p pos : Pos} {e : Expr} {es : List Expr} {t : TA} (F : Ok X.prog X.w X.K X.mg X.base CX k x ps sp) (hr : Room k X.A) (hg : Gl X x) (hx : ∀ σ, PassesAt CX X σ (E σ)) (ha : PA X (e :: es) t)
    (hdb : (x == ("__debug__" : Str)) = false := by decide) (he : starEach (e :: es) X.env = (false, eval e X.env) :: starEach es X.env := by rfl) (hpl : (backTo pos (starEach es X.env)).any (·.1) = false := by rfl) :
    PE X (.Call (.Name x p) (e :: es) [] pos) (tCallS sp E t) := by
  obtain ⟨fd, G, m, kp, b⟩ := F
  exact pe_callS G hr hg m kp b hx ha hdb he hpl
end Dk
namespace Dk
open PySem PySem.Spec L2
/-! ### the bag of draws -/
abbrev kG : Key := .inr "great"
abbrev kL : Key := .inr "left"
abbrev kT : Key := .inr "turn"
abbrev kF : Key := .inr "fold"
theorem gl : ¬ kG = kL := by decide +kernel
theorem gt : ¬ kG = kT := by decide +kernel
theorem gf : ¬ kG = kF := by decide +kernel
theorem lt_ : ¬ kL = kT := by decide +kernel
theorem lf : ¬ kL = kF := by decide +kernel
theorem tf : ¬ kT = kF := by decide +kernel
theorem lg : ¬ kL = kG := by decide +kernel
theorem tg : ¬ kT = kG := by decide +kernel
theorem fg : ¬ kF = kG := by decide +kernel
theorem tl : ¬ kT = kL := by decide +kernel
theorem fl : ¬ kF = kL := by decide +kernel
theorem ft : ¬ kF = kT := by decide +kernel
def bagD (g : Addr) (l t f : Int) : List (Key × V) := [(kG, .ref g), (kL, .int l), (kT, .int t), (kF, .int f)]
theorem bag_g (g : Addr) (l t f : Int) : valV (bagD g l t f) kG = some (.ref g) := valV_pos rfl
theorem bag_l (g : Addr) (l t f : Int) : valV (bagD g l t f) kL = some (.int l) := (valV_neg gl).trans (valV_pos rfl)
theorem bag_t (g : Addr) (l t f : Int) : valV (bagD g l t f) kT = some (.int t) := (valV_neg gt).trans ((valV_neg lt_).trans (valV_pos rfl))
theorem bag_f (g : Addr) (l t f : Int) : valV (bagD g l t f) kF = some (.int f) := (valV_neg gf).trans ((valV_neg lf).trans ((valV_neg tf).trans (valV_pos rfl)))
theorem bag_pl (g : Addr) (l t f x : Int) : putK (bagD g l t f) kL (.int x) = bagD g x t f := by
  unfold putK bagD
  rw [if_pos (by simp [List.any_cons])]
  simp only [List.map_cons, List.map_nil, if_neg gl, if_neg tl, if_neg fl, if_true]
theorem bag_pt (g : Addr) (l t f x : Int) : putK (bagD g l t f) kT (.int x) = bagD g l x f := by
  unfold putK bagD
  rw [if_pos (by simp [List.any_cons])]
  simp only [List.map_cons, List.map_nil, if_neg gt, if_neg lt_, if_neg ft, if_true]
theorem bag_new (g : Addr) (l t f : Int) : mergeK [] [(kG, .ref g), (kL, .int l), (kT, .int t), (kF, .int f)] = bagD g l t f := by
  have n1 : valV ([] : List (Key × V)) kG = none := rfl
  have e1 := putK_new (.ref g) n1
  have n2 : valV ([(kG, V.ref g)] : List (Key × V)) kL = none := (valV_neg gl).trans rfl
  have n3 : valV ([(kG, V.ref g), (kL, V.int l)] : List (Key × V)) kT = none := (valV_neg gt).trans ((valV_neg lt_).trans rfl)
  have n4 : valV ([(kG, V.ref g), (kL, V.int l), (kT, V.int t)] : List (Key × V)) kF = none := (valV_neg gf).trans ((valV_neg lf).trans ((valV_neg tf).trans rfl))
  show putK (putK (putK (putK [] kG (.ref g)) kL (.int l)) kT (.int t)) kF (.int f) = _
  rw [e1]
  show putK (putK (putK [(kG, V.ref g)] kL (.int l)) kT (.int t)) kF (.int f) = _
  rw [putK_new _ n2]
  show putK (putK [(kG, V.ref g), (kL, V.int l)] kT (.int t)) kF (.int f) = _
  rw [putK_new _ n3]
  show putK [(kG, V.ref g), (kL, V.int l), (kT, V.int t)] kF (.int f) = _
  rw [putK_new _ n4]
  rfl
/-- the bag at b, its great numbers at g, drawn from n times at most -/
structure BagAt (H : Hp) (b g : Addr) (n : Nat) : Prop where
  at_ : ∃ (great : List Int) (l t f : Int), H b = some (.dK (bagD g l t f)) ∧ H g = some (.lst (great.map V.int)) ∧ (∀ c ∈ great, 0 ≤ c) ∧ great.length ≤ 63 ∧ 0 ≤ l ∧ 0 ≤ t ∧ t ≤ n ∧ 0 ≤ f ∧ f < 2305843009213693951
theorem BagAt.kept {H H' : Hp} {b g : Addr} {n : Nat} (h : BagAt H b g n) (k : ∀ c o, H c = some o → H' c = some o) : BagAt H' b g n := by
  obtain ⟨gr, l, t, f, h1, h2, r⟩ := h.at_
  exact ⟨gr, l, t, f, k _ _ h1, k _ _ h2, r⟩
theorem BagAt.more {H : Hp} {b g : Addr} {n m : Nat} (h : BagAt H b g n) (k : n ≤ m) : BagAt H b g m := by
  obtain ⟨gr, l, t, f, h1, h2, h3, h4, h5, h6, h7, r⟩ := h.at_
  exact ⟨gr, l, t, f, h1, h2, h3, h4, h5, h6, by omega, r⟩
end Dk
namespace Dk
open PySem PySem.Spec L2
theorem seqi {i n : Nat} (h : i < n) : seqIndex? (i : Int) n = some i := by
  have h1 : ¬ ((i : Int) < 0) := by omega
  have h2 : (0 ≤ (i : Int)) := by omega
  have h3 : (i : Int) < (n : Int) := by omega
  simp [seqIndex?, h1, h2, h]
end Dk
namespace Dk
open PySem PySem.Spec L2
section
variable {X : Cx}
/-- a statement that is never reached -/
theorem ps_dead {st : Stmt} : PS X st (fun _ _ _ => False) := ⟨fun _ _ _ _ _ _ h => h.elim⟩

/-! ### sorted, max, min of data -/
theorem zip_fst : ∀ {xs : List V} {ds : List PyData}, xs.length = ds.length → (xs.zip ds).map Prod.fst = xs
  | [], [], _ => rfl
  | x :: xs, d :: ds, h => by
    rw [List.zip_cons_cons, List.map_cons, zip_fst (Nat.succ.inj h)]
  | [], _ :: _, h => by cases h
  | _ :: _, [], h => by cases h
theorem zip_snd : ∀ {xs : List V} {ds : List PyData}, xs.length = ds.length → (xs.zip ds).map Prod.snd = ds
  | [], [], _ => rfl
  | x :: xs, d :: ds, h => by
    rw [List.zip_cons_cons, List.map_cons, zip_snd (Nat.succ.inj h)]
  | [], _ :: _, h => by cases h
  | _ :: _, [], h => by cases h
theorem dpa_len {K : PySem.W.Frag} {H : Hp} : ∀ {xs : List V} {ds : List PyData}, DpAll K H xs ds → xs.length = ds.length
  | _, _, .nil => rfl
  | _, _, .cons _ t => congrArg Nat.succ (dpa_len t)
theorem dpa_zip {K : PySem.W.Frag} {H : Hp} : ∀ {xs : List V} {ds : List PyData}, DpAll K H xs ds → ∀ p ∈ xs.zip ds, Dp K H p.1 p.2
  | _, _, .nil => fun p h => by cases h
  | _, _, .cons h t => fun p hp => by
    rcases List.mem_cons.mp hp with rfl | hp
    · exact h
    · exact dpa_zip t p hp
theorem dpa_unzip {K : PySem.W.Frag} {H : Hp} : ∀ {zs : List (V × PyData)}, (∀ p ∈ zs, Dp K H p.1 p.2) → DpAll K H (zs.map Prod.fst) (zs.map Prod.snd)
  | [], _ => .nil
  | z :: zs, h => .cons (h z List.mem_cons_self) (dpa_unzip fun p hp => h p (List.mem_cons_of_mem _ hp))
theorem dpa_at {K : PySem.W.Frag} {H : Hp} : ∀ {xs : List V} {ds : List PyData} {i : Nat} {x : V}, DpAll K H xs ds → xs[i]? = some x → ∃ d, ds[i]? = some d ∧ Dp K H x d
  | _, _, 0, _, .cons h _, e => by
    cases e
    exact ⟨_, rfl, h⟩
  | _, _, i + 1, _, .cons _ t, e => dpa_at (i := i) t e
theorem each_zip {K : PySem.W.Frag} {H : Hp} : ∀ {xs : List V} {us : List Value} {ds : List PyData}, Vals xs us → xs.length = ds.length → PySem.W.EachIs (fun (v : Value) (b : V × PyData) => RelV b.1 v) us (xs.zip ds)
  | _, _, [], .nil, _ => .nil
  | _, _, d :: ds, .cons r t, h => .cons r (each_zip (K := K) (H := H) t (Nat.succ.inj h))
theorem vals_each : ∀ {zs : List (V × PyData)} {us : List Value}, PySem.W.EachIs (fun (v : Value) (b : V × PyData) => RelV b.1 v) us zs → Vals (zs.map Prod.fst) us
  | _, _, .nil => .nil
  | _, _, .cons r t => .cons r (vals_each t)
theorem each_reads {pins : List (Addr × Obj)} {σ : St} {H : Hp} {s : Shared} (I : Inv X pins σ H s) : ∀ {xs : List V} {us : List Value} {ds : List PyData}, Vals xs us → DpAll X.K H xs ds →
    PySem.W.EachIs (fun (v : Value) (b : V × PyData) => ∃ as, Reads s.heap v b.2 as) us (xs.zip ds)
  | _, _, _, .nil, .nil => .nil
  | _, _, _, .cons r t, .cons h q => .cons (Dp.reads I _ _ _ h r) (each_reads I t q)
def srt (ds : List PyData) : List PyData := ds.mergeSort (PySem.W.dataLe false id)
def rSortedX (K : PySem.W.Frag) : List V → Hp → VK → Prop := fun vs H Q => ∃ (a : Addr) (xs : List V) (ds : List PyData), vs = [V.ref a] ∧ SqL K H a xs ∧ DpAll K H xs ds ∧ PySem.W.AllAlike ds ∧ PySem.W.Sortable ds ∧ (∀ d ∈ ds, d.depth ≤ 60) ∧
  ∀ ys p, (∀ G, DpAll K G xs ds → DpAll K G ys (srt ds)) → H p = none → Q (.ref p) (upd H p (.lst ys))
theorem cr_sortedX (hu : X.A.units + 64 < cLine) : CallR X (.builtin "sorted") (rSortedX X.K) := by
  intro pins s σ H vs us Q I r h
  obtain ⟨a, xs, ds, rfl, hs, hd, ha, hk, hdp, q⟩ := h
  obtain ⟨its, rv, hl, hz⟩ := I.list hs
  rw [Vals.ref1 r]
  have hlen := dpa_len hd
  have e2 : (xs.zip ds).map Prod.snd = ds := zip_snd hlen
  have hzl : (xs.zip ds).length = ds.length := by rw [← List.length_map (f := Prod.snd), e2]
  refine PySem.W.sorted_data (enc := Prod.snd) (bs := xs.zip ds) hl.isList (each_zip (K := X.K) (H := H) rv hlen) (each_reads I rv hd) (by rw [e2]; exact ha) (by rw [e2]; exact hk) ?_ (fun b hb => ?_) fun out hout eo => ?_
  · rw [hzl, ← hlen]; exact hz
  · have : b.2 ∈ ds := by rw [← e2]; exact List.mem_map.mpr ⟨b, hb, rfl⟩
    have := hdp _ this
    omega
  · have hm : ∀ p ∈ (xs.zip ds).mergeSort (PySem.W.dataLe false Prod.snd), p ∈ xs.zip ds := fun p hp => (List.mergeSort_perm _ _).mem_iff.mp hp
    have e3 : ((xs.zip ds).mergeSort (PySem.W.dataLe false Prod.snd)).map Prod.snd = srt ds := by
      have := List.map_mergeSort (r := PySem.W.dataLe false (Prod.snd : V × PyData → PyData)) (s := PySem.W.dataLe false id) (f := Prod.snd) (l := xs.zip ds) (fun a _ b _ => rfl)
      rw [this, e2]
      rfl
    have hD : ∀ G, DpAll X.K G xs ds → DpAll X.K G (((xs.zip ds).mergeSort (PySem.W.dataLe false Prod.snd)).map Prod.fst) (srt ds) := fun G hG => by
      have := dpa_unzip fun p hp => dpa_zip hG p (hm p hp)
      rw [e3] at this
      exact this
    obtain ⟨c, hc⟩ := PyProof.Rows.sortedAll_at s.heap its out.toArray
    have new : ObjOk X.prog X.w (upd H (s.heap.objs.size + 1) (.lst (((xs.zip ds).mergeSort (PySem.W.dataLe false Prod.snd)).map Prod.fst))) (PyProof.Rows.sortedAll s.heap its out.toArray) (s.heap.objs.size + 1) (.lst (((xs.zip ds).mergeSort (PySem.W.dataLe false Prod.snd)).map Prod.fst)) := by
      refine ⟨?_, out, c, vals_each eo, hc⟩
      rw [List.length_map, List.length_mergeSort, hzl, ← hlen]
      exact hz
    exact ⟨.ref (s.heap.objs.size + 1), _, I.laid (t' := s.toks) (fun _ _ => PyProof.Rows.sortedAll_old) (Nat.le_succ _) new, rfl, q _ _ hD (I.hok.fresh (Nat.le_succ _))⟩
/-- max(xs), min(xs) of alike data -/
def rMaxX (K : PySem.W.Frag) : List V → Hp → VK → Prop := fun vs H Q => ∃ (a : Addr) (xs : List V) (d : PyData) (ds : List PyData), vs = [V.ref a] ∧ SqL K H a xs ∧ DpAll K H xs (d :: ds) ∧ PySem.W.AlikeAll (d :: ds) ∧ PyData.depthAll (d :: ds) ≤ 60 ∧
  ∀ x, (∀ G, DpAll K G xs (d :: ds) → Dp K G x (PySem.W.maxD d ds)) → Q x H
def rMinX (K : PySem.W.Frag) : List V → Hp → VK → Prop := fun vs H Q => ∃ (a : Addr) (xs : List V) (d : PyData) (ds : List PyData), vs = [V.ref a] ∧ SqL K H a xs ∧ DpAll K H xs (d :: ds) ∧ PySem.W.AlikeAll (d :: ds) ∧ PyData.depthAll (d :: ds) ≤ 60 ∧
  ∀ x, (∀ G, DpAll K G xs (d :: ds) → Dp K G x (PySem.W.minD d ds)) → Q x H
theorem mm_item {pins : List (Addr × Obj)} {σ : St} {H : Hp} {s : Shared} {xs : List V} {its : List Value} {ds : List PyData} {m : PyData} {i : Nat} {v : Value} {h' : Heap} {bs : List Addr} (I : Inv X pins σ H s) (rv : Vals xs its) (hd : DpAll X.K H xs ds)
    (hv : its.toArray[i]? = some v) (hr : Reads h' v m bs) (hk : ∀ b o, s.heap.get? b = some o → h'.get? b = some o) : ∃ x, RelV x v ∧ ∀ G, DpAll X.K G xs ds → Dp X.K G x m := by
  rw [List.getElem?_toArray] at hv
  have hlt : i < xs.length := by rw [rv.length]; exact (List.getElem?_eq_some_iff.mp hv).1
  obtain ⟨u, hu, ru⟩ := rv.get (List.getElem?_eq_getElem hlt)
  rw [hv] at hu
  cases hu
  obtain ⟨d, e, hD⟩ := dpa_at hd (List.getElem?_eq_getElem hlt)
  obtain ⟨as, r1⟩ := Dp.reads I _ _ _ hD ru
  obtain ⟨e2, _⟩ := PyProof.Rows.reads_det (fun b o q _ => hk b o q) r1 hr
  refine ⟨_, ru, fun G hG => ?_⟩
  obtain ⟨d2, e3, h3⟩ := dpa_at hG (List.getElem?_eq_getElem hlt)
  rw [e] at e3
  cases e3
  exact e2 ▸ h3
theorem cr_maxX (hc : X.calm = true) (hu : X.A.units + 64 < cLine) : CallR X (.builtin "max") (rMaxX X.K) := by
  intro pins s σ H vs us Q I r h
  obtain ⟨a, xs, d, ds, rfl, hs, hd, ha, hdp, q⟩ := h
  obtain ⟨its, rv, hl, hz⟩ := I.list hs
  rw [Vals.ref1 r]
  obtain ⟨as, hr⟩ := Dp.readsAll I _ _ _ hd rv
  refine PySem.W.max_list_data (x := d) (xs := ds) (I.ok.hd hc) hl.isList (by simpa using hr) ha (by omega) fun i v h' tk bs hv hrd hk => ?_
  obtain ⟨x, rx, hx⟩ := mm_item I rv hd hv hrd hk
  exact ⟨x, H, I.kept (t' := tk) hk, rx, q x hx⟩
theorem cr_minX (hc : X.calm = true) (hu : X.A.units + 64 < cLine) : CallR X (.builtin "min") (rMinX X.K) := by
  intro pins s σ H vs us Q I r h
  obtain ⟨a, xs, d, ds, rfl, hs, hd, ha, hdp, q⟩ := h
  obtain ⟨its, rv, hl, hz⟩ := I.list hs
  rw [Vals.ref1 r]
  obtain ⟨as, hr⟩ := Dp.readsAll I _ _ _ hd rv
  refine PySem.W.min_list_data (x := d) (xs := ds) (I.ok.hd hc) hl.isList (by simpa using hr) ha (by omega) fun i v h' tk bs hv hrd hk => ?_
  obtain ⟨x, rx, hx⟩ := mm_item I rv hd hv hrd hk
  exact ⟨x, H, I.kept (t' := tk) hk, rx, q x hx⟩

/-! ### an instance's fields, its methods, the class and its names given once -/
def tFd (C : Addr) (f : Str) (ta : TE) : TE := fun σ H Q => ta σ H fun x H1 => ∃ a dx fs v, x = .ref a ∧ H1 a = some (.ins C dx fs) ∧ fs.lookup f = some v ∧ Q v H1
theorem pe_fd {C : Addr} {e : Expr} {f : Str} {pos : Pos} {ta : TE} (c : Cls X.K C) (n : NoAttr X.K C f) (he : PE X e ta) (hb : attributeBase e f X.env (eval e X.env) = eval e X.env) : PE X (.Attribute e f pos) (tFd C f ta) := by
  refine ⟨fun pins s σ H Q I h => ?_⟩
  refine attr_of hb (thn (he.run pins s σ H _ I h) fun u s1 ⟨x, H1, I1, rx, a, dx, fs, v, ex, ea, l, q⟩ => ?_)
  subst ex
  obtain rfl : u = Value.ref a := rx
  exact getattr_ok I1 ea c n l fun u' s2 I2 ru => ⟨v, H1, I2, ru, q⟩
def sFd (C : Addr) (ta tv : TE) (f : Str) : TS := fun D σ H => tv σ H fun y H1 => ta σ H1 fun x H2 => ∃ a dx fs, x = .ref a ∧ H2 a = some (.ins C dx fs) ∧ fs.length < 1000 ∧ D.nx σ (upd H2 a (.ins C dx (putF f y fs)))
theorem ps_fd {C : Addr} {o value : Expr} {f : Str} {pos pos' : Pos} {ta tv : TE} (c : Cls X.K C) (n : NoAttr X.K C f) (ha : PE X o ta) (hv : PE X value tv) (hs : swapsWith value (some (.Attribute o f pos')) pos.line X.env = pure false) : PS X (.Assign [.Attribute o f pos'] value pos) (sFd C ta tv f) := by
  refine ⟨fun pins s σ H D I h => ?_⟩
  refine plainObj_wpAny_Assign_Attribute (thn (hv.run pins s σ H _ I h) fun u s1 ⟨y, H1, I1, ry, q⟩ => thn (ha.run pins s1 σ H1 _ I1 q) fun ov s2 ⟨x, H2, I2, rx, a, dx, fs, ex, ea, l, q2⟩ => ?_) hs
  subst ex
  obtain rfl : ov = Value.ref a := rx
  exact setattr_ok I2 ea c n l ry fun s3 I3 => ⟨σ, _, I3, q2⟩
end
/-- a method of the text, its promise kept -/
def OkM (P : Program) (w : World) (K : PySem.W.Frag) (mg : Str → Option Value) (base : Heap) (CX : CXT) (k : Nat) (C : Str) (m : Str) (ps : List Str) (sp : Sp) : Prop :=
  ∃ fd, FnOk P w K mg base CX k (He.ma K (He.ga K C) m) fd ps sp ∧ Meth K (He.ga K C) m (He.ma K (He.ga K C) m) ∧ Cls K (He.ga K C) ∧ Binds K fd ps []
/-- a class's __init__, its promise kept -/
def OkI (P : Program) (w : World) (K : PySem.W.Frag) (mg : Str → Option Value) (base : Heap) (CX : CXT) (k : Nat) (C : Str) (ps : List Str) (sp : Sp) : Prop :=
  ∃ fd, FnOk P w K mg base CX k (He.ma K (He.ga K C) "__init__") fd ps sp ∧ mg C = some (.ref (He.ga K C)) ∧ Mk K (He.ga K C) (He.ma K (He.ga K C) "__init__") ∧ Binds K fd ps []
section
variable {X : Cx} {CX : CXT} {k : Nat} {x m C : Str} {ps : List Str} {sp : Sp} {E : XK} {p pos apos : Pos} {o e : Expr} {es : List Expr} {t : TA} {ta : TE}
theorem pe_methO {pl : Sem Bool} (he : PE X o ta) (F : OkM X.prog X.w X.K X.mg X.base CX k C m ps sp) (hr : Room k X.A) (hx : Passes CX X E) (ha : PA X (e :: es) t)
    (hst : starEach (e :: es) X.env = (false, eval e X.env) :: starEach es X.env := by rfl) (hpl : (backTo pos (starEach es X.env)).any (·.1) = false := by rfl)
    (ht : eval (.Call (.Attribute o m apos) (e :: es) [] pos) X.env = (do
      let ov ← eval o X.env
      standAt apos.atName
      let (f, first) ← holding [ov] (getMethod ov m pl)
      callWith pos f first (backTo pos (starEach (e :: es) X.env)) (backToKw pos (keywordEach [] X.env))) := by rfl) :
    PE X (.Call (.Attribute o m apos) (e :: es) [] pos) (tMeth (He.ga X.K C) m sp [] E ta t) := by
  obtain ⟨fd, G, mt, c, b⟩ := F
  exact pe_meth he c mt G hr b .nil hx ha hst hpl ht
theorem pe_methO0 {pl : Sem Bool} (he : PE X o ta) (F : OkM X.prog X.w X.K X.mg X.base CX k C m ps sp) (hr : Room k X.A) (hx : Passes CX X E)
    (ht : eval (.Call (.Attribute o m apos) [] [] pos) X.env = (do
      let ov ← eval o X.env
      standAt apos.atName
      let (f, first) ← holding [ov] (getMethod ov m pl)
      callWith pos f first (backTo pos (starEach [] X.env)) (backToKw pos (keywordEach [] X.env))) := by rfl) :
    PE X (.Call (.Attribute o m apos) [] [] pos) (tMeth (He.ga X.K C) m sp [] E ta tNil) := by
  obtain ⟨fd, G, mt, c, b⟩ := F
  exact pe_meth0 he c mt G hr b .nil hx ht
theorem pe_makeO (F : OkI X.prog X.w X.K X.mg X.base CX k C ps sp) (hr : Room (k + 1) X.A) (hg : Gl X C) (hx : Passes CX X E) (ha : PA X (e :: es) t) (hdb : (C == ("__debug__" : Str)) = false := by decide)
    (he : starEach (e :: es) X.env = (false, eval e X.env) :: starEach es X.env := by rfl) (hpl : (backTo pos (starEach es X.env)).any (·.1) = false := by rfl) : PE X (.Call (.Name C p) (e :: es) [] pos) (tMake (He.ga X.K C) sp [] E t) := by
  obtain ⟨fd, G, hm, mk, b⟩ := F
  exact pe_make mk G hr hg hm b .nil hx ha hdb he hpl
end
/-! ### a dict of the top -/
/-- at d: its keys, in order -/
structure KD (K : PySem.W.Frag) (w : World) (d : Addr) (ks : List Str) : Prop where
  ok : ∃ es n, K.lookup d = some ⟨.type "dict", none, .dict es n, #[]⟩ ∧ PySem.W.KeysLit w.params es.toList ∧ (d == sysModules) = false ∧ es.toList.map He.keyOf = He.keysIn w.params ks
theorem kd_of {K : PySem.W.Frag} {w : World} {a : Addr} {ks : List Str} (h : He.dicW K a = some (He.keysIn w.params ks)) : KD K w a ks := by
  obtain ⟨es, n, D⟩ := He.dicW_ok h
  refine ⟨es, n, D.at_, D.lit, D.low, ?_⟩
  have h2 := h
  unfold He.dicW at h2
  rw [D.at_] at h2
  simp only [decide_true, Array.isEmpty_empty, Bool.true_and, D.low, Bool.not_false] at h2
  exact Option.some.inj h2
def Itkd (ks : List Str) : It := ⟨fun i _ => i < ks.length, fun i H x H' => H' = H ∧ ∃ z, ks[i]? = some z ∧ x = .str z, fun i _ => ks.length ≤ i⟩
theorem turn_kd {P : Program} {w : World} {K : PySem.W.Frag} {tg : Expr} {d : Addr} {es : Array DictEntry} {n : Nat} {ks : List Str} (it : Addr) (hl : K.lookup d = some ⟨.type "dict", none, .dict es n, #[]⟩) (he : es.toList.map He.keyOf = He.keysIn w.params ks) :
    Turn P w K tg (Itkd ks) [it] it (fun i h => h.IsKeyIter it d i ks.length n) where
  mem := by simp
  obj := fun i h st b hb => by
    have e : b = it := by simpa using hb
    subst e
    obtain ⟨oi, e, c, dd⟩ := st
    exact ⟨oi, e, fun v z => by rw [dd] at z; cases z⟩
  keep := fun i h h' st k => st.at fun oi e => k it (by simp) oi e
  item := by
    intro X hP hw hK hc i pins s σ H E I hf st hg
    subst hP hw hK
    have hg : i < ks.length := hg
    obtain ⟨f0, f1, f2, f3, f4, f5⟩ := hf it (by simp)
    have hgd := I.kIn _ _ hl
    have hsz : es.size = ks.length := by
      have := congrArg List.length he
      unfold He.keysIn at this
      simpa using this
    obtain ⟨en, hen⟩ : ∃ en, es[i]? = some en := ⟨es[i], by rw [Array.getElem?_eq_getElem]⟩
    have hk : He.keyOf en = some (ks[i], PyData.keyHash X.w.params ks[i]) := by
      have := congrArg (fun l => l[i]?) he
      unfold He.keysIn at this
      rw [List.getElem?_map, List.getElem?_map, Array.getElem?_toList, hen, List.getElem?_eq_getElem hg] at this
      exact Option.some.inj this
    obtain ⟨t, hkey⟩ : ∃ t, en.key = .str ks[i] t := by
      unfold He.keyOf at hk
      split at hk
      · rename_i x t q
        have h4 := Option.some.inj hk
        obtain ⟨h5, h6⟩ := Prod.mk.inj h4
        exact ⟨t, by rw [q, h5]⟩
      · cases hk
    refine next_key_item st hgd rfl hsz hen fun h' st' sb => ?_
    have I1 : Inv X pins σ H { s with heap := h' } := I.turned (t' := s.toks) (fun b ob hb e => (sb.2 b hb).trans e) f0 f1 f3 f4 f5
    obtain ⟨oi, e, c, dd⟩ := id st'
    exact ⟨en.key, rfl, go_of (s := { s with heap := h' }) e c dd (by decide) ⟨.str ks[i], H, I1, ⟨t, hkey⟩, ⟨rfl, ks[i], List.getElem?_eq_getElem hg, rfl⟩, st', fun b hb => (hf b hb).1⟩⟩
  done := by
    intro X hP hw hK hc i pins s σ H E I hf st hg
    subst hP hw hK
    have hg : ks.length ≤ i := hg
    obtain ⟨f0, f1, f2, f3, f4, f5⟩ := hf it (by simp)
    have hgd := I.kIn _ _ hl
    have hsz : es.size = ks.length := by
      have := congrArg List.length he
      unfold He.keysIn at this
      simpa using this
    exact next_key_end (I.ok.hd hc) st hgd rfl hsz hg fun h' eb => ⟨rfl, I.turned (t' := s.toks) (fun b ob hb e => eb b ob hb e) f0 f1 f3 f4 f5⟩
  self := fun A i s Q E st h => by
    refine wpAny_pyIter_slot st.typeIs F.slot_dict_keyiterator_iter (wpAny_call_entry F.slot_dict_keyiterator_iter st.typeIs F.entry_dict_keyiterator_iter ?_ (F.args_dict_keyiterator_iter_1 _))
    show wpAny _ _ (ret (.ref it)) _ _ s
    exact wpAny_pure ⟨_, rfl, "dict_keyiterator", _, st.typeIs, F.slot_dict_keyiterator_next.lookup, h⟩
def iKd (K : PySem.W.Frag) (w : World) (td : TE) : TI := fun σ H R => td σ H fun x H1 => ∃ d ks, x = .ref d ∧ KD K w d ks ∧ R (Itkd ks) H1
theorem pi_kd {X : Cx} {tg e : Expr} {td : TE} (he : PE X e td) : PI X tg e (iKd X.K X.w td) := by
  refine ⟨fun pins s σ H R I h => ?_⟩
  refine thn (he.run pins s σ H _ I h) fun u s1 ⟨x, H1, I1, rx, d, ks, ex, hd, q⟩ => ?_
  subst ex
  obtain rfl : u = Value.ref d := rx
  obtain ⟨es, n, hl, lit, low, hk⟩ := hd.ok
  have hsz : es.size = ks.length := by
    have := congrArg List.length hk
    unfold He.keysIn at this
    simpa using this
  refine iter_keys low (I1.kIn _ _ hl) ⟨rfl, rfl, rfl⟩ rfl (pi_one (tk := s1.toks) I1 _ (turn_kd _ hl hk) ⟨_, Heap.get?_push_size _ rfl, rfl, ?_⟩ q)
  rw [hsz] <;> rfl
theorem walk_kd {ks : List Str} : Walk (Itkd ks) ks.length (fun _ => True) (fun i H x H' => H' = H ∧ ∃ z, ks[i]? = some z ∧ x = .str z) := ⟨fun i H hi _ => hi, fun H _ => Nat.le_refl _, fun i H x H' hi _ y => y⟩
/-- a value of it -/
theorem kd_val {K : PySem.W.Frag} {w : World} {d : Addr} {ks : List Str} (D : KD K w d ks) : ∃ es n, KDict K w d es n := by
  obtain ⟨es, n, hl, lit, low, hk⟩ := D.ok
  exact ⟨es, n, hl, lit, low⟩
end Dk
namespace Dk
open PySem PySem.Spec L2
/-! ### looks -/
abbrev Look : Type := Str × Int × Int
def lk (l : Look) : PyData := .tuple [.str l.1, .int l.2.1, .int l.2.2]
def isW (w : Str) : Prop := w = "at" ∨ w = "from" ∨ w = "upto"
theorem strOk_w {w : Str} (h : isW w) : PyData.strOk w = true := by
  rcases h with rfl | rfl | rfl <;> decide +kernel
theorem alike_lk (a b : Look) : PySem.W.alike (lk a) (lk b) = true := by
  simp [lk, PySem.W.alike, PySem.W.alikeAll]
theorem eqv_lk (a b : Look) : PyData.eqv (lk a) (lk b) = decide (a = b) := by
  obtain ⟨a1, a2, a3⟩ := a
  obtain ⟨b1, b2, b3⟩ := b
  simp only [lk, PyData.eqv, PyData.eqvAll, Prod.mk.injEq, Bool.and_true, Bool.decide_and]
  rfl
theorem depth_lk (a : Look) : (lk a).depth = 1 := by simp [lk, PyData.depth, PyData.depthAll]
theorem canLay_lk {a : Look} (h : isW a.1) : (lk a).canLay0 = true := by
  simp [lk, PyData.canLay0, PyData.canLayAll0, strOk_w h]
theorem canLay_lks : ∀ {ls : List Look}, (∀ l ∈ ls, isW l.1) → PyData.canLayAll0 (ls.map lk) = true
  | [], _ => by simp [PyData.canLayAll0]
  | l :: ls, h => by
    rw [List.map_cons]
    simp only [PyData.canLayAll0, canLay_lk (h l List.mem_cons_self), canLay_lks fun x hx => h x (List.mem_cons_of_mem _ hx), Bool.and_self]
theorem depth_lks : ∀ ls : List Look, PyData.depthAll (ls.map lk) ≤ 1
  | [] => by simp [PyData.depthAll]
  | l :: ls => by
    rw [List.map_cons, PyData.depthAll, depth_lk]
    exact Nat.max_le.mpr ⟨Nat.le_refl _, depth_lks ls⟩
theorem shaped_lk {a : Look} (h : isW a.1) : SeqAt.shaped (lk a) = true := by
  unfold SeqAt.shaped
  rw [canLay_lk h, depth_lk] <;> rfl
theorem shaped_lks {ls : List Look} (h : ∀ l ∈ ls, isW l.1) : SeqAt.shaped (.list (ls.map lk)) = true := by
  unfold SeqAt.shaped
  have := depth_lks ls
  have e : (PyData.list (ls.map lk)).canLay0 = true := by simpa only [PyData.canLay0] using canLay_lks h
  have e2 : (PyData.list (ls.map lk)).depth = PyData.depthAll (ls.map lk) + 1 := by rw [PyData.depth]
  rw [e, e2, Bool.true_and]
  exact decide_eq_true (by omega)
theorem any_eqv (ls : List Look) (a : Look) : ((ls.map lk).any fun z => PyData.eqv z (lk a)) = decide (a ∈ ls) := by
  induction ls with
  | nil => rfl
  | cons b r ih =>
    rw [List.map_cons, List.any_cons, ih, eqv_lk]
    by_cases h : b = a
    · subst h; simp
    · have h' : ¬ a = b := fun z => h z.symm
      simp [h, h']
/-- the order of looks -/
def ltL (a b : Look) : Prop := a.1.cps.toList < b.1.cps.toList ∨ (a.1 = b.1 ∧ (a.2.1 < b.2.1 ∨ (a.2.1 = b.2.1 ∧ a.2.2 < b.2.2)))
theorem lt_nat_tri (x y : List Nat) : x < y ∨ x = y ∨ y < x := by
  rcases Classical.em (x < y) with h | h
  · exact .inl h
  · rcases Classical.em (y < x) with h2 | h2
    · exact .inr (.inr h2)
    · exact .inr (.inl (List.le_antisymm (List.not_lt.mp h2) (List.not_lt.mp h)))
theorem dataLt_lk (a b : Look) : PySem.W.dataLt (lk a) (lk b) = true ↔ ltL a b := by
  obtain ⟨a1, a2, a3⟩ := a
  obtain ⟨b1, b2, b3⟩ := b
  unfold lk ltL
  have e0 : PyProof.Rows.lexLt PyProof.Rows.itemOrd (PySem.W.keyToksAll []) (PySem.W.keyToksAll []) = false := PyProof.Rows.lex_irrefl _
  rw [PySem.W.dataLt_tuple, PySem.W.dataLt_cons (by simp [PySem.W.alike]), PySem.W.dataLt_cons (by simp [PySem.W.alike]), PySem.W.dataLt_cons (by simp [PySem.W.alike]), e0, PySem.W.dataLt_str, PySem.W.dataLt_int, PySem.W.dataLt_int]
  simp only [PyData.eqv, beq_iff_eq]
  have irr : ¬ (a1.cps.toList < a1.cps.toList) := List.lt_irrefl _
  by_cases h1 : a1 = b1
  · subst h1
    by_cases h2 : a2 = b2
    · subst h2
      by_cases h3 : a3 = b3
      · subst h3; simp [irr]
      · simp [h3, irr]
    · simp [h2, irr]
  · simp [h1]
theorem ltL_irr (a : Look) : ¬ ltL a a := by
  rintro (h | ⟨_, h | ⟨_, h⟩⟩)
  · exact List.lt_irrefl _ h
  · omega
  · omega
theorem ltL_trans {a b c : Look} (h : ltL a b) (k : ltL b c) : ltL a c := by
  unfold ltL at *
  rcases h with h | ⟨e, h⟩
  · rcases k with k | ⟨e2, k⟩
    · exact .inl (List.lt_trans h k)
    · rw [← e2]; exact .inl h
  · rcases k with k | ⟨e2, k⟩
    · rw [e]; exact .inl k
    · refine .inr ⟨e.trans e2, ?_⟩
      omega
theorem ltL_tri (a b : Look) : ltL a b ∨ a = b ∨ ltL b a := by
  obtain ⟨a1, a2, a3⟩ := a
  obtain ⟨b1, b2, b3⟩ := b
  unfold ltL
  dsimp only
  rcases lt_nat_tri a1.cps.toList b1.cps.toList with h | h | h
  · exact .inl (.inl h)
  · have e := PySem.W.str_of_cps h
    subst e
    rcases Int.lt_trichotomy a2 b2 with h2 | h2 | h2
    · exact .inl (.inr ⟨rfl, .inl h2⟩)
    · subst h2
      rcases Int.lt_trichotomy a3 b3 with h3 | h3 | h3
      · exact .inl (.inr ⟨rfl, .inr ⟨rfl, h3⟩⟩)
      · subst h3; exact .inr (.inl rfl)
      · exact .inr (.inr (.inr ⟨rfl, .inr ⟨rfl, h3⟩⟩))
    · exact .inr (.inr (.inr ⟨rfl, .inl h2⟩))
  · exact .inr (.inr (.inl h))
def leL (a b : Look) : Bool := !PySem.W.dataLt (lk b) (lk a)
theorem leL_iff {a b : Look} : leL a b = true ↔ ¬ ltL b a := by
  unfold leL
  rw [← dataLt_lk]
  simp
theorem leL_total (a b : Look) : (leL a b || leL b a) = true := by
  rw [Bool.or_eq_true, leL_iff, leL_iff]
  rcases ltL_tri a b with h | h | h
  · exact .inl fun k => ltL_irr a (ltL_trans h k)
  · subst h; exact .inl (ltL_irr a)
  · exact .inr fun k => ltL_irr a (ltL_trans k h)
theorem leL_trans (a b c : Look) (h : leL a b = true) (k : leL b c = true) : leL a c = true := by
  rw [leL_iff] at *
  intro z
  rcases ltL_tri a b with h2 | h2 | h2
  · exact k (ltL_trans z h2)
  · subst h2; exact k z
  · exact h h2
theorem leL_anti {a b : Look} (h : leL a b = true) (k : leL b a = true) : a = b := by
  rw [leL_iff] at *
  rcases ltL_tri a b with h2 | h2 | h2
  · exact absurd h2 k
  · exact h2
  · exact absurd h2 h
def sortL (ls : List Look) : List Look := ls.mergeSort leL
theorem srt_lk (ls : List Look) : srt (ls.map lk) = (sortL ls).map lk := by
  unfold srt sortL
  exact (List.map_mergeSort (r := leL) (s := PySem.W.dataLe false id) (f := lk) (l := ls) (fun a _ b _ => rfl)).symm
theorem sortL_sorted (ls : List Look) : (sortL ls).Pairwise (fun a b => leL a b = true) := List.pairwise_mergeSort leL_trans leL_total ls
theorem sortL_mem {ls : List Look} {l : Look} : l ∈ sortL ls ↔ l ∈ ls := (List.mergeSort_perm ls leL).mem_iff
theorem sortL_len (ls : List Look) : (sortL ls).length = ls.length := List.length_mergeSort ..
theorem allAlike_lk (ls : List Look) : PySem.W.AllAlike (ls.map lk) := PySem.W.AllAlike.of alike_lk
theorem sortable_lk (ls : List Look) : PySem.W.Sortable (ls.map lk) := PySem.W.Sortable.tuples fun b => ⟨_, _, rfl⟩
theorem depths_lk {ls : List Look} : ∀ d ∈ ls.map lk, d.depth ≤ 60 := fun d hd => by
  obtain ⟨l, _, rfl⟩ := List.mem_map.mp hd
  rw [depth_lk]; omega
/-! ### a Dark -/
def LsAt (K : PySem.W.Frag) (G : Hp) (l : Addr) (ls : List Look) : Prop := ∃ xs, G l = some (.lst xs) ∧ DpAll K G xs (ls.map lk)
theorem LsAt.dp {K : PySem.W.Frag} {G : Hp} {l : Addr} {ls : List Look} (h : LsAt K G l ls) : Dp K G (.ref l) (.list (ls.map lk)) := by
  obtain ⟨xs, h1, h2⟩ := h
  exact .lst (SqL.of h1) h2
theorem LsAt.kept {K : PySem.W.Frag} {G G' : Hp} {l : Addr} {ls : List Look} (h : LsAt K G l ls) (s : Same G G') : LsAt K G' l ls := by
  obtain ⟨xs, h1, h2⟩ := h
  exact ⟨xs, s _ _ h1, dpam s h2⟩
def DkAt (K : PySem.W.Frag) (G H : Hp) (p : Addr) (L : Int) (ls : List Look) : Prop :=
  ∃ dx l, H p = some (.ins (He.ga K "Dark") dx [("turn", .int L), ("heard", .ref l)]) ∧ LsAt K G l ls
theorem DkAt.kept {K : PySem.W.Frag} {G H G' H' : Hp} {p : Addr} {L : Int} {ls : List Look} (h : DkAt K G H p L ls) (s : Same G G') (k : ∀ o, H p = some o → H' p = some o) : DkAt K G' H' p L ls := by
  obtain ⟨dx, l, h1, h2⟩ := h
  exact ⟨dx, l, k _ h1, h2.kept s⟩
theorem DkAt.go {K : PySem.W.Frag} {G H G' H' : Hp} {p : Addr} {L : Int} {ls : List Look} {ex : List Addr} (h : DkAt K G H p L ls) (a : Go ex G H G' H') (hp : p ∉ ex) : DkAt K G' H' p L ls := h.kept a.gg fun o e => a.kp p o hp e
theorem DkAt.new {K : PySem.W.Frag} {G H : Hp} {p q : Addr} {L : Int} {ls : List Look} {o : HO} (h : DkAt K G H p L ls) (hq : H q = none) : DkAt K G (upd H q o) p L ls := h.kept (Same.refl _) fun u e => by
  rw [upd_ne (ne_of_none e hq)]; exact e
theorem dp_lk {K : PySem.W.Frag} {H : Hp} {v : V} {l : Look} (h : Dp K H v (lk l)) : ∃ a, v = .ref a ∧ SqT K H a [.str l.1, .int l.2.1, .int l.2.2] := by
  obtain ⟨a, xs, rfl, h1, h2⟩ := dp_tup h
  obtain ⟨x, r, rfl, hx, h2⟩ := dpa_cons h2
  obtain ⟨y, r, rfl, hy, h2⟩ := dpa_cons h2
  obtain ⟨z, r, rfl, hz, h2⟩ := dpa_cons h2
  obtain rfl := dpa_nil h2
  rw [dp_str hx, dp_int hy, dp_int hz] at h1
  exact ⟨a, rfl, h1⟩
theorem lk_dp {K : PySem.W.Frag} {H : Hp} {a : Addr} {l : Look} (h : SqT K H a [.str l.1, .int l.2.1, .int l.2.2]) : Dp K H (.ref a) (lk l) := .tup h (.cons (.str _) (.cons (.int _) (.cons (.int _) .nil)))
theorem dpa_snoc {K : PySem.W.Frag} {H : Hp} : ∀ {xs : List V} {ds : List PyData} {x : V} {d : PyData}, DpAll K H xs ds → Dp K H x d → DpAll K H (xs ++ [x]) (ds ++ [d])
  | _, _, _, _, .nil, h => .cons h .nil
  | _, _, _, _, .cons a b, h => .cons a (dpa_snoc b h)
theorem dpa_app {K : PySem.W.Frag} {H : Hp} : ∀ {xs : List V} {ds : List PyData} {ys : List V} {es : List PyData}, DpAll K H xs ds → DpAll K H ys es → DpAll K H (xs ++ ys) (ds ++ es)
  | _, _, _, _, .nil, h => h
  | _, _, _, _, .cons a b, h => .cons a (dpa_app b h)
/-! ### facts of the top -/
def tupK (K : PySem.W.Frag) (a : Addr) (vs : List V) : Bool := match K.lookup a with
  | some ⟨.type c, _, .seq its _, _⟩ => decide (c = "tuple") && (decide (its.size ≤ sizeLine) && He.relAll vs its.toList)
  | _ => false
theorem tupK_ok {K : PySem.W.Frag} {a : Addr} {vs : List V} (h : tupK K a vs = true) (H : Hp) : SqT K H a vs := by
  unfold tupK at h
  split at h
  · rename_i c dd its n sl q
    simp only [Bool.and_eq_true, decide_eq_true_eq] at h
    obtain ⟨h1, h2, h3⟩ := h
    exact .inr ⟨_, its, n, q, congrArg Value.type h1, rfl, h2, He.relAll_ok h3⟩
  · cases h
def refAt (K : PySem.W.Frag) (a : Addr) (x : Str) : Addr := match PySem.W.nsIn K a x with
  | some (some (.ref b)) => b
  | _ => 0
theorem kdct_of {K : PySem.W.Frag} {w : World} {a : Addr} {ks : List Str} {x : Str} (D : KD K w a ks) (h : PySem.W.nsIn K a x = some (some (.ref (refAt K a x)))) : KDct K w a x (.ref (refAt K a x)) := by
  obtain ⟨es, n, hl, lit, low, hk⟩ := D.ok
  exact ⟨es, n, _, hl, lit, h, rfl⟩
end Dk
theorem He.SaysT.tabW {fa : List He.Fa} {fn : List He.DefD} {ts : List He.Tab} {w : PySem.World} {K : PySem.W.Frag} (c : He.SaysT fa fn ts w K) (i : Nat) {t : He.Tab} (h : ts[i]? = some t) : He.dicW K (t.1 K) = some (He.keysIn w.params t.2) := by
  have e : ts.map (fun t => He.dicW K (t.1 K)) = ts.map fun t => some (He.keysIn w.params t.2) := congrArg (fun z : He.AlT => z.2) c
  have e2 : (ts.map fun t => He.dicW K (t.1 K))[i]? = (ts.map fun t => some (He.keysIn w.params t.2))[i]? := by rw [e]
  rw [List.getElem?_map, List.getElem?_map, h] at e2
  exact Option.some.inj e2
namespace Dk
open PySem PySem.Spec L2
/-- a constant of the top -/
theorem pe_constS {X : Cx} {x z : Str} {p : Pos} (hg : Gl X x) (h : ∃ t, X.mg x = some (.str z t)) (hd : (x == ("__debug__" : Str)) = false := by decide) : PE X (.Name x p) (tC (.str z)) := by
  obtain ⟨t, h⟩ := h
  exact pe_glob (v := .str z) hg h ⟨t, rfl⟩ hd
theorem pe_constI {X : Cx} {x : Str} {z : Int} {p : Pos} (hg : Gl X x) (h : ∃ t, X.mg x = some (.int z t)) (hd : (x == ("__debug__" : Str)) = false := by decide) : PE X (.Name x p) (tC (.int z)) := by
  obtain ⟨t, h⟩ := h
  exact pe_glob (v := .int z) hg h ⟨t, rfl⟩ hd
theorem hu65 {A : Around} {k : Nat} (hr : Room k A) : A.units + 65 < cLine := by have := hr.un; omega
end Dk
/-! ### the same rules, their heap's frame named (for use within a block) -/
namespace Dk
open PySem PySem.Spec L2
section
variable {X : Cx}
theorem ix_tupK (K : PySem.W.Frag) (h : X.K = K := by rfl) : IxR X (rIxT K) := h ▸ ix_tup
theorem ix_listK (K : PySem.W.Frag) (h : X.K = K := by rfl) : IxR X (rIxL K) := h ▸ ix_list
theorem ix_kdictK (K : PySem.W.Frag) (w : World) (h : X.K = K := by rfl) (h2 : X.w = w := by rfl) : IxR X (rIxD K w) := by
  subst h h2
  exact ix_kdict
theorem op_inDK (K : PySem.W.Frag) (hu : X.A.units + 65 < cLine) (h : X.K = K := by rfl) : OpR X (compareOp .In) (rInD K) := h ▸ op_inD hu
theorem op_notInDK (K : PySem.W.Frag) (hu : X.A.units + 65 < cLine) (h : X.K = K := by rfl) : OpR X (compareOp .NotIn) (rNotInD K) := h ▸ op_notInD hu
theorem op_eqDK (K : PySem.W.Frag) (hu : X.A.units + 64 < cLine) (h : X.K = K := by rfl) : OpR X (compareOp .Eq) (rEqD K) := h ▸ op_eqD hu
theorem op_neDK (K : PySem.W.Frag) (hu : X.A.units + 64 < cLine) (h : X.K = K := by rfl) : OpR X (compareOp .NotEq) (rNeD K) := h ▸ op_neD hu
theorem op_in_seqK (K : PySem.W.Frag) (h : X.K = K := by rfl) : OpR X (compareOp .In) (rIn K false) := h ▸ op_in_seq
theorem op_notIn_seqK (K : PySem.W.Frag) (h : X.K = K := by rfl) : OpR X (compareOp .NotIn) (rIn K true) := h ▸ op_notIn_seq
theorem sl_tupK (K : PySem.W.Frag) (h : X.K = K := by rfl) : SlR X (rSlT K) := h ▸ sl_tup
theorem sl_listK (K : PySem.W.Frag) (h : X.K = K := by rfl) : SlR X (rSlL K) := h ▸ sl_list
variable {CX : CXT} {k : Nat} {x m C : Str} {ps : List Str} {sp : Sp} {E : XK} {p pos apos : Pos} {o e : Expr} {es : List Expr} {t : TA} {ta : TE}
theorem pe_methOK (K : PySem.W.Frag) {pl : Sem Bool} (he : PE X o ta) (F : OkM X.prog X.w X.K X.mg X.base CX k C m ps sp) (hr : Room k X.A) (hx : Passes CX X E) (ha : PA X (e :: es) t) (hk : X.K = K := by rfl)
    (hst : starEach (e :: es) X.env = (false, eval e X.env) :: starEach es X.env := by rfl) (hpl : (backTo pos (starEach es X.env)).any (·.1) = false := by rfl)
    (ht : eval (.Call (.Attribute o m apos) (e :: es) [] pos) X.env = (do
      let ov ← eval o X.env
      standAt apos.atName
      let (f, first) ← holding [ov] (getMethod ov m pl)
      callWith pos f first (backTo pos (starEach (e :: es) X.env)) (backToKw pos (keywordEach [] X.env))) := by rfl) :
    PE X (.Call (.Attribute o m apos) (e :: es) [] pos) (tMeth (He.ga K C) m sp [] E ta t) := by
  subst hk
  exact pe_methO he F hr hx ha hst hpl ht
theorem pe_methOK0 (K : PySem.W.Frag) {pl : Sem Bool} (he : PE X o ta) (F : OkM X.prog X.w X.K X.mg X.base CX k C m ps sp) (hr : Room k X.A) (hx : Passes CX X E) (hk : X.K = K := by rfl)
    (ht : eval (.Call (.Attribute o m apos) [] [] pos) X.env = (do
      let ov ← eval o X.env
      standAt apos.atName
      let (f, first) ← holding [ov] (getMethod ov m pl)
      callWith pos f first (backTo pos (starEach [] X.env)) (backToKw pos (keywordEach [] X.env))) := by rfl) :
    PE X (.Call (.Attribute o m apos) [] [] pos) (tMeth (He.ga K C) m sp [] E ta tNil) := by
  subst hk
  exact pe_methO0 he F hr hx ht
end
end Dk

namespace Dk
open PySem PySem.Spec L2
theorem go_newN {ex : List Addr} {G H G1 H1 : Hp} {p : Addr} {o : HO} (a : Go ex G H G1 H1) (h : H1 p = none) :
    ∃ G2, Go ex G H G2 (upd H1 p o) ∧ Same G2 (upd H1 p o) ∧ Same G1 G2 ∧ G2 p = some o ∧ ∀ b, b ≠ p → G2 b = G1 b :=
  ⟨_, a.new h, (a.new (o := o) h).gh, fun b u e => by rw [upd_ne (ne_of_none (a.gh b u e) h)]; exact e, upd_same, fun b hb => upd_ne hb⟩
/-- what is told in G, behind a seal -/
theorem same_seal {G : Hp} {D : Addr} {o : HO} (h : G D = none) : Same G (upd G D o) := fun b u z => by
  rw [upd_ne (ne_of_none z h)]
  exact z
end Dk
namespace Dk
open PySem PySem.Spec L2
/-! ### a world, its answer to one row of the text given -/
def wText (b : Bool) (w : World) : World := { w with params := { w.params with followText := fun s => match decide (s = "special-get-raises") with
  | true => b
  | false => w.params.followText s } }
theorem wText_eq (w : World) : w = wText (w.params.followText "special-get-raises") w := by
  obtain ⟨d, p⟩ := w
  unfold wText
  dsimp only
  congr 1
  have e : p.followText = fun s => match decide (s = "special-get-raises") with
    | true => p.followText "special-get-raises"
    | false => p.followText s := by
    funext s
    by_cases h : s = "special-get-raises"
    · subst h; simp
    · simp [h]
  obtain ⟨a1, a2, a3, a4, a5, a6, a7⟩ := p
  dsimp only at e ⊢
  rw [← e]
theorem world_by {C : World → Prop} (h : ∀ b w, C (wText b w)) (w : World) : C w := by
  rw [wText_eq w]
  exact h _ w
end Dk
namespace Dk
open PySem PySem.Spec L2
/-! ### len(set(xs)) of a list of whole numbers -/
def once (ns : List Int) : List Int := PyProof.Rows.firstMet (fun i => ns.getD i 0) ns.length
theorem dedup_mem {a : List Int} {x k : Int} : k ∈ PyProof.Rows.step_dedup a x ↔ k ∈ a ∨ k = x := by
  unfold PyProof.Rows.step_dedup
  split
  · rename_i h
    obtain ⟨y, hy, e⟩ := List.any_eq_true.mp h
    have e : y = x := by simpa using e
    exact ⟨.inl, fun z => z.elim id fun z => by rw [z, ← e]; exact hy⟩
  · rw [List.mem_append, List.mem_singleton]
theorem dedup_nd {a : List Int} {x : Int} (h : a.Nodup) : (PyProof.Rows.step_dedup a x).Nodup := by
  unfold PyProof.Rows.step_dedup
  split
  · exact h
  · rename_i hn
    have hx : x ∉ a := fun z => hn (List.any_eq_true.mpr ⟨x, z, by simp⟩)
    rw [List.nodup_append]
    refine ⟨h, by simp, fun y hy z hz => ?_⟩
    rw [List.mem_singleton.mp hz]
    exact fun e => hx (e ▸ hy)
theorem first_mem (val : Nat → Int) : ∀ (i : Nat) (k : Int), k ∈ PyProof.Rows.firstMet val i ↔ ∃ j, j < i ∧ val j = k
  | 0, k => by
    rw [PyProof.Rows.firstMet_zero]
    exact ⟨(fun h => by cases h), fun ⟨j, h, _⟩ => absurd h (by omega)⟩
  | i + 1, k => by
    rw [PyProof.Rows.firstMet_succ, dedup_mem, first_mem val i k]
    constructor
    · rintro (⟨j, h1, h2⟩ | rfl)
      · exact ⟨j, by omega, h2⟩
      · exact ⟨i, by omega, rfl⟩
    · rintro ⟨j, h1, h2⟩
      rcases Nat.lt_or_ge j i with h | h
      · exact .inl ⟨j, h, h2⟩
      · have : j = i := by omega
        subst this
        exact .inr h2.symm
theorem first_nd (val : Nat → Int) : ∀ i, (PyProof.Rows.firstMet val i).Nodup
  | 0 => by rw [PyProof.Rows.firstMet_zero]; exact List.Pairwise.nil
  | i + 1 => by
    rw [PyProof.Rows.firstMet_succ]
    exact dedup_nd (first_nd val i)
theorem once_mem {ns : List Int} {k : Int} : k ∈ once ns ↔ k ∈ ns := by
  unfold once
  rw [first_mem]
  constructor
  · rintro ⟨j, h1, h2⟩
    rw [← h2, List.getD_eq_getElem?_getD, List.getElem?_eq_getElem h1]
    exact List.getElem_mem h1
  · intro h
    obtain ⟨j, h1, h2⟩ := List.getElem_of_mem h
    exact ⟨j, h1, by rw [List.getD_eq_getElem?_getD, List.getElem?_eq_getElem h1]; exact h2⟩
theorem once_nd (ns : List Int) : (once ns).Nodup := first_nd _ _
theorem once_len (ns : List Int) : (once ns).length ≤ ns.length := PyProof.Rows.firstMet_length_le _ _
def tLenSetD (K : PySem.W.Frag) (ta : TE) : TE := fun σ H Q => ta σ H fun x H1 => ∃ (l : Addr) (ns : List Int), x = .ref l ∧ SqL K H1 l (ns.map V.int) ∧ ns.length ≤ 4000 ∧ Q (.int ((once ns).length : Nat)) H1
open PyProof.Rows in
theorem pe_lenSetD {X : Cx} {a : Expr} {ta : TE} {p p2 q pos : Pos} (hg : Gl X "len") (hm : X.mg "len" = none) (hg2 : Gl X "set") (hm2 : X.mg "set" = none) (ha : PE X a ta) (hc : X.calm = true := by rfl)
    (na : starEach [a] X.env = (false, eval a X.env) :: starEach [] X.env := by rfl) : PE X (.Call (.Name "len" p) [.Call (.Name "set" p2) [a] [] q] [] pos) (tLenSetD X.K ta) := by
  refine ⟨fun pins s σ H Q I h => ?_⟩
  refine Call_ (ld_blt I hg hm boot_len ?_)
  refine PyProof.Rows.callWith_builtin1 (PyProof.Rows.args_cons ?_ rfl) rfl rfl
  refine Call_ (ld_blt I hg2 hm2 boot_set ?_)
  refine PyProof.Rows.callWith_type1 (PyProof.Rows.args_cons (thn (ha.run pins s σ H _ I h) fun v s1 ⟨x, H1, I1, r1, q1⟩ => PyProof.Rows.args_nil ?_) na) na rfl
  obtain ⟨l, ns, rfl, hq, hl, q1⟩ := q1
  cases r1
  obtain ⟨its, r, pl, hz⟩ := I1.list hq
  have hlen : its.toArray.size = ns.length := by rw [List.size_toArray, ← r.length, List.length_map]
  refine call_set_list (I1.ok.hd hc) pl.isList (by simpa using RZ.intsAre_vals r) (by rw [hlen]; unfold scanBound; omega) fun h' tk hS hk => ?_
  refine PyProof.Rows.args_nil ?_
  rw [hlen] at hS
  have hol := once_len ns
  obtain ⟨o, es, ep, t, ho, hex, hd, _, _, _, hf, hn⟩ := hS
  have I2 : Inv X pins σ H1 { s1 with heap := h', toks := tk } := I1.kept fun b o e => hk b o (Heap.lt_size e) e
  exact call_len_set ho hex hd hf (by rw [hn]; show (((once ns).length : Nat) : Int) < _; omega) ⟨.int (once ns).length, H1, I2.tok _, ⟨_, by rw [hn]; rfl⟩, q1⟩
end Dk
namespace Dk
/-- l is the greatest of the lower fractions by bottoms to n -/
structure LowIs (t u n : Int) (l : Int × Int) : Prop where
  lo : 1 ≤ l.2
  hi : l.2 ≤ n
  at_ : l.1 = t * l.2 / u
  top : ∀ k, 1 ≤ k → k ≤ n → (t * k / u) * l.2 ≤ l.1 * k
structure UpIs (t u n : Int) (l : Int × Int) : Prop where
  lo : 1 ≤ l.2
  hi : l.2 ≤ n
  at_ : l.1 = 0 - (0 - t * l.2) / u
  top : ∀ k, 1 ≤ k → k ≤ n → l.1 * k ≤ (0 - (0 - t * k) / u) * l.2
theorem LowIs.one (t u : Int) : LowIs t u 1 (t * 1 / u, 1) where
  lo := Int.le_refl _
  hi := Int.le_refl _
  at_ := rfl
  top := fun k h1 h2 => by
    have : k = 1 := by omega
    subst this
    exact Int.le_refl _
theorem UpIs.one (t u : Int) : UpIs t u 1 (0 - (0 - t * 1) / u, 1) where
  lo := Int.le_refl _
  hi := Int.le_refl _
  at_ := rfl
  top := fun k h1 h2 => by
    have : k = 1 := by omega
    subst this
    exact Int.le_refl _
/-- a chain of fractions: a/b < c/d, e/f ≤ a/b -/
theorem frac_trans {a b c d e f : Int} (hb : 0 < b) (hd : 0 < d) (hf : 0 < f) (h1 : e * b ≤ a * f) (h2 : a * d ≤ c * b) : e * d ≤ c * f := by
  have h3 : e * b * d ≤ a * f * d := Int.mul_le_mul_of_nonneg_right h1 (by omega)
  have h4 : a * d * f ≤ c * b * f := Int.mul_le_mul_of_nonneg_right h2 (by omega)
  have h5 : (e * d) * b ≤ (c * f) * b := by
    have e1 : e * b * d = (e * d) * b := by rw [Int.mul_assoc, Int.mul_comm b d, ← Int.mul_assoc]
    have e2 : a * f * d = a * d * f := by rw [Int.mul_assoc, Int.mul_comm f d, ← Int.mul_assoc]
    have e3 : c * b * f = (c * f) * b := by rw [Int.mul_assoc, Int.mul_comm b f, ← Int.mul_assoc]
    rw [e1, e2] at h3
    rw [e3] at h4
    exact Int.le_trans h3 h4
  exact Int.le_of_mul_le_mul_right h5 hb
theorem LowIs.more {t u n : Int} {l : Int × Int} (h : LowIs t u n l) (hlt : l.1 * (n + 1) < (t * (n + 1) / u) * l.2) : LowIs t u (n + 1) (t * (n + 1) / u, n + 1) where
  lo := by have := h.lo; have := h.hi; show 1 ≤ n + 1; omega
  hi := Int.le_refl _
  at_ := rfl
  top := fun k h1 h2 => by
    by_cases hk : k = n + 1
    · subst hk; exact Int.le_refl _
    · have := h.lo
      have := h.hi
      exact frac_trans (a := l.1) (b := l.2) (by omega) (by show 0 < n + 1; omega) (by omega) (h.top k h1 (by omega)) (Int.le_of_lt hlt)
theorem LowIs.keep {t u n : Int} {l : Int × Int} (h : LowIs t u n l) (hge : ¬ l.1 * (n + 1) < (t * (n + 1) / u) * l.2) : LowIs t u (n + 1) l where
  lo := h.lo
  hi := by have := h.hi; omega
  at_ := h.at_
  top := fun k h1 h2 => by
    by_cases hk : k = n + 1
    · subst hk; omega
    · exact h.top k h1 (by omega)
theorem UpIs.more {t u n : Int} {l : Int × Int} (h : UpIs t u n l) (hlt : (0 - (0 - t * (n + 1)) / u) * l.2 < l.1 * (n + 1)) : UpIs t u (n + 1) (0 - (0 - t * (n + 1)) / u, n + 1) where
  lo := by have := h.lo; have := h.hi; show 1 ≤ n + 1; omega
  hi := Int.le_refl _
  at_ := rfl
  top := fun k h1 h2 => by
    by_cases hk : k = n + 1
    · subst hk; exact Int.le_refl _
    · have := h.lo
      have := h.hi
      exact frac_trans (a := l.1) (b := l.2) (by omega) (by omega) (by show 0 < n + 1; omega) (Int.le_of_lt hlt) (h.top k h1 (by omega))
theorem UpIs.keep {t u n : Int} {l : Int × Int} (h : UpIs t u n l) (hge : ¬ (0 - (0 - t * (n + 1)) / u) * l.2 < l.1 * (n + 1)) : UpIs t u (n + 1) l where
  lo := h.lo
  hi := by have := h.hi; omega
  at_ := h.at_
  top := fun k h1 h2 => by
    by_cases hk : k = n + 1
    · subst hk; omega
    · exact h.top k h1 (by omega)
/-- the two neighbours of t / u among the fractions with bottoms to n -/
structure Nb (t u n : Int) (l r : Int × Int) : Prop where
  l1 : 1 ≤ l.2
  l2 : l.2 ≤ n
  lg : Int.gcd l.1 l.2 = 1
  le : l.1 * u ≤ t * l.2
  lt : ∀ p q, 1 ≤ q → q ≤ n → p * u ≤ t * q → p * l.2 ≤ l.1 * q
  r1 : 1 ≤ r.2
  r2 : r.2 ≤ n
  rg : Int.gcd r.1 r.2 = 1
  ge : t * r.2 ≤ r.1 * u
  rt : ∀ p q, 1 ≤ q → q ≤ n → t * q ≤ p * u → r.1 * q ≤ p * r.2
theorem low_le {t u k : Int} (hu : 0 < u) : (t * k / u) * u ≤ t * k := Int.ediv_mul_le _ (by omega)
theorem up_ge {t u k : Int} (hu : 0 < u) : t * k ≤ (0 - (0 - t * k) / u) * u := by
  have := Int.ediv_mul_le (0 - t * k) (b := u) (by omega)
  rw [Int.sub_mul]
  omega
/-- lowest terms -/
def low2 (i j : Int) : Int × Int := (i / (Int.gcd i j : Int), j / (Int.gcd i j : Int))
theorem low2_pos {i j : Int} (hj : 0 < j) : 1 ≤ (low2 i j).2 ∧ (low2 i j).2 ≤ j := by
  have hg : 0 < Int.gcd i j := Int.gcd_pos_of_ne_zero_right _ (by omega)
  have hd : (Int.gcd i j : Int) ∣ j := Int.gcd_dvd_right ..
  obtain ⟨c, hc⟩ := hd
  have : j / (Int.gcd i j : Int) = c := by
    rw [hc]
    have e : ((Int.gcd i j : Int) * c) / (Int.gcd i j : Int) = c := Int.mul_ediv_cancel_left _ (by omega)
    rw [← hc] at e
    rw [← hc]
    exact e
  show 1 ≤ j / (Int.gcd i j : Int) ∧ j / (Int.gcd i j : Int) ≤ j
  rw [this]
  have hg' : (1 : Int) ≤ (Int.gcd i j : Int) := by omega
  have hcp : 0 < c := by
    rcases Int.lt_trichotomy c 0 with h | h | h
    · have := Int.mul_neg_of_pos_of_neg (a := (Int.gcd i j : Int)) (b := c) (by omega) h
      omega
    · rw [h] at hc; simp at hc; omega
    · exact h
  refine ⟨hcp, ?_⟩
  have : 1 * c ≤ (Int.gcd i j : Int) * c := Int.mul_le_mul_of_nonneg_right hg' (by omega)
  omega
theorem low2_mul (i j : Int) : (low2 i j).1 * (Int.gcd i j : Int) = i ∧ (low2 i j).2 * (Int.gcd i j : Int) = j :=
  ⟨Int.ediv_mul_cancel (Int.gcd_dvd_left ..), Int.ediv_mul_cancel (Int.gcd_dvd_right ..)⟩
theorem low2_gcd {i j : Int} (hj : 0 < j) : Int.gcd (low2 i j).1 (low2 i j).2 = 1 := by
  have hg : 0 < Int.gcd i j := Int.gcd_pos_of_ne_zero_right _ (by omega)
  exact Int.gcd_ediv_gcd_ediv_gcd hg
/-- the same fraction -/
theorem low2_cross (i j : Int) : (low2 i j).1 * j = i * (low2 i j).2 := by
  obtain ⟨h1, h2⟩ := low2_mul i j
  generalize (low2 i j).1 = a at *
  generalize (low2 i j).2 = b at *
  generalize (Int.gcd i j : Int) = g at *
  subst h1 h2
  rw [← Int.mul_assoc, Int.mul_right_comm]
theorem nb_of {t u n : Int} {l r : Int × Int} (hu : 0 < u) (hn : 1 ≤ n) (hl : LowIs t u (min n u) l) (hr : UpIs t u (min n u) r) : Nb t u n (low2 l.1 l.2) (low2 r.1 r.2) := by
  have l0 := hl.lo
  have r0 := hr.lo
  have l9 := hl.hi
  have r9 := hr.hi
  have hlp := low2_pos (i := l.1) (j := l.2) (by omega)
  have hrp := low2_pos (i := r.1) (j := r.2) (by omega)
  have hlc := low2_cross l.1 l.2
  have hrc := low2_cross r.1 r.2
  have hll : l.1 * u ≤ t * l.2 := by rw [hl.at_]; exact low_le hu
  have hrr : t * r.2 ≤ r.1 * u := by rw [hr.at_]; exact up_ge hu
  have lle : (low2 l.1 l.2).1 * u ≤ t * (low2 l.1 l.2).2 := frac_trans (a := l.1) (b := l.2) (by omega) hu (by omega) (by rw [hlc]; exact Int.le_refl _) hll
  have rge : t * (low2 r.1 r.2).2 ≤ (low2 r.1 r.2).1 * u := frac_trans (a := r.1) (b := r.2) (by omega) (by omega) hu hrr (by rw [hrc]; exact Int.le_refl _)
  refine ⟨hlp.1, by omega, low2_gcd (by omega), lle, ?_, hrp.1, by omega, low2_gcd (by omega), rge, ?_⟩
  · intro p q h1 h2 h3
    have key : p * l.2 ≤ l.1 * q := by
      by_cases hq : q ≤ u
      · have h4 := hl.top q h1 (by omega)
        have h5 : p ≤ t * q / u := (Int.le_ediv_iff_mul_le hu).mpr h3
        have h6 : p * l.2 ≤ (t * q / u) * l.2 := Int.mul_le_mul_of_nonneg_right h5 (by omega)
        exact Int.le_trans h6 h4
      · have h4 := hl.top u (by omega) (by omega)
        have h5 : t * u / u = t := Int.mul_ediv_cancel _ (by omega)
        rw [h5] at h4
        exact frac_trans (a := t) (b := u) hu (by omega) (by omega) h3 h4
    exact frac_trans (a := l.1) (b := l.2) (by omega) (by omega) (by omega) key (by rw [hlc]; exact Int.le_refl _)
  · intro p q h1 h2 h3
    have key : r.1 * q ≤ p * r.2 := by
      by_cases hq : q ≤ u
      · have h4 := hr.top q h1 (by omega)
        have h5 : 0 - (0 - t * q) / u ≤ p := by
          have : 0 - p ≤ (0 - t * q) / u := (Int.le_ediv_iff_mul_le hu).mpr (by rw [Int.sub_mul]; omega)
          omega
        have h6 : (0 - (0 - t * q) / u) * r.2 ≤ p * r.2 := Int.mul_le_mul_of_nonneg_right h5 (by omega)
        exact Int.le_trans h4 h6
      · have h4 := hr.top u (by omega) (by omega)
        have h5 : 0 - (0 - t * u) / u = t := by
          have : (0 - t * u) = (0 - t) * u := by rw [Int.sub_mul]; omega
          rw [this, Int.mul_ediv_cancel _ (by omega)]
          omega
        rw [h5] at h4
        exact frac_trans (a := t) (b := u) hu (by omega) (by omega) h4 h3
    exact frac_trans (a := r.1) (b := r.2) (by omega) (by omega) (by omega) (by rw [hrc]; exact Int.le_refl _) key
end Dk
namespace Dk
theorem bezN (a b : Nat) : ∃ x y : Int, (a : Int) * x + (b : Int) * y = (Nat.gcd a b : Int) := by
  induction a, b using Nat.gcd.induction with
  | H0 n => exact ⟨0, 1, by simp⟩
  | H1 m n hm ih =>
    obtain ⟨x, y, e⟩ := ih
    refine ⟨y - ((n / m : Nat) : Int) * x, x, ?_⟩
    rw [Nat.gcd_rec, ← e]
    have h : (n : Int) = (m : Int) * ((n / m : Nat) : Int) + ((n % m : Nat) : Int) := by
      have := Nat.div_add_mod n m
      omega
    have h2 : (n : Int) * x = (m : Int) * ((n / m : Nat) : Int) * x + ((n % m : Nat) : Int) * x := by
      rw [← Int.add_mul, ← h]
    rw [Int.mul_sub, h2, ← Int.mul_assoc]
    omega
theorem bezI (a b : Int) (hb : 0 < b) : ∃ x y : Int, a * x + b * y = (Int.gcd a b : Int) := by
  obtain ⟨x, y, e⟩ := bezN a.natAbs b.natAbs
  have e2 : (Int.gcd a b : Int) = (Nat.gcd a.natAbs b.natAbs : Int) := rfl
  have hb' : (b.natAbs : Int) = b := by omega
  rw [hb'] at e
  rcases Int.le_total 0 a with h | h
  · have ha : (a.natAbs : Int) = a := by omega
    rw [ha] at e
    exact ⟨x, y, by rw [e2, e]⟩
  · have ha : (a.natAbs : Int) = -a := by omega
    rw [ha] at e
    refine ⟨-x, y, ?_⟩
    rw [e2, ← e, Int.mul_neg, Int.neg_mul]
theorem dvd_gcd1 {a b d : Int} (h : Int.gcd a b = 1) (h1 : d ∣ a) (h2 : d ∣ b) (hd : 0 < d) : d = 1 := by
  have h3 : d ∣ (Int.gcd a b : Int) := Int.dvd_coe_gcd h1 h2
  rw [h] at h3
  obtain ⟨c, hc⟩ := h3
  have hc' : d * c = 1 := by omega
  rcases Int.lt_trichotomy c 0 with h | h | h
  · have := Int.mul_neg_of_pos_of_neg hd h; omega
  · rw [h] at hc'; simp at hc'
  · have : d * 1 ≤ d * c := Int.mul_le_mul_of_nonneg_left (by omega) (by omega)
    omega
/-- equal fractions in lowest terms are one -/
theorem frac_one {a b c d : Int} (hb : 0 < b) (hd : 0 < d) (h1 : Int.gcd a b = 1) (h2 : Int.gcd c d = 1) (e : a * d = c * b) : a = c ∧ b = d := by
  obtain ⟨x, y, e1⟩ := bezI a b hb
  obtain ⟨x', y', e2⟩ := bezI c d hd
  rw [h1] at e1
  rw [h2] at e2
  have b_d : b ∣ d := ⟨c * x + d * y, by
    have : d * (a * x + b * y) = d := by rw [e1]; simp
    have h3 : d * (a * x) = b * (c * x) := by
      rw [← Int.mul_assoc, Int.mul_comm d a, e, Int.mul_comm c b, Int.mul_assoc]
    rw [Int.mul_add, h3] at this
    have h4 : d * (b * y) = b * (d * y) := by rw [← Int.mul_assoc, Int.mul_comm d b, Int.mul_assoc]
    rw [Int.mul_add, ← h4]
    exact this.symm⟩
  have d_b : d ∣ b := ⟨a * x' + b * y', by
    have : b * (c * x' + d * y') = b := by rw [e2]; simp
    have h3 : b * (c * x') = d * (a * x') := by
      rw [← Int.mul_assoc, Int.mul_comm b c, ← e, Int.mul_comm a d, Int.mul_assoc]
    rw [Int.mul_add, h3] at this
    have h4 : b * (d * y') = d * (b * y') := by rw [← Int.mul_assoc, Int.mul_comm b d, Int.mul_assoc]
    rw [Int.mul_add, ← h4]
    exact this.symm⟩
  have e3 : b = d := Int.le_antisymm (Int.le_of_dvd hd b_d) (Int.le_of_dvd hb d_b)
  subst e3
  exact ⟨Int.eq_of_mul_eq_mul_right (by omega) e, rfl⟩
/-- the next fractions -/
theorem Nb.next {t u n : Int} {l r : Int × Int} (h : Nb t u n l r) (hg : Int.gcd t u = 1) (hn : 1 ≤ n) (hu : n < u) :
    r.1 * l.2 - l.1 * r.2 = 1 ∧ n < l.2 + r.2 ∧ l.1 * u < t * l.2 ∧ t * r.2 < r.1 * u := by
  obtain ⟨l1, l2⟩ := l
  obtain ⟨r1, r2⟩ := r
  have a1 : 1 ≤ l2 := h.l1
  have a2 : l2 ≤ n := h.l2
  have a3 : Int.gcd l1 l2 = 1 := h.lg
  have a4 : l1 * u ≤ t * l2 := h.le
  have a5 := h.lt
  have b1 : 1 ≤ r2 := h.r1
  have b2 : r2 ≤ n := h.r2
  have b3 : Int.gcd r1 r2 = 1 := h.rg
  have b4 : t * r2 ≤ r1 * u := h.ge
  have b5 := h.rt
  show r1 * l2 - l1 * r2 = 1 ∧ n < l2 + r2 ∧ l1 * u < t * l2 ∧ t * r2 < r1 * u
  have sl : l1 * u < t * l2 := by
    rcases Int.lt_or_eq_of_le a4 with z | z
    · exact z
    · have := (frac_one (by omega) (by omega) a3 hg z).2
      omega
  have sr : t * r2 < r1 * u := by
    rcases Int.lt_or_eq_of_le b4 with z | z
    · exact z
    · have := (frac_one (by omega) (by omega) hg b3 z).2
      omega
  have hD : 1 ≤ r1 * l2 - l1 * r2 := by
    have c1 : l1 * u * r2 < t * l2 * r2 := Int.mul_lt_mul_of_pos_right sl (by omega)
    have c2 : t * r2 * l2 < r1 * u * l2 := Int.mul_lt_mul_of_pos_right sr (by omega)
    have c3 : (l1 * r2) * u < (r1 * l2) * u := by
      have e1 : l1 * u * r2 = (l1 * r2) * u := by rw [Int.mul_right_comm]
      have e2 : t * l2 * r2 = t * r2 * l2 := by rw [Int.mul_right_comm]
      have e3 : r1 * u * l2 = (r1 * l2) * u := by rw [Int.mul_right_comm]
      rw [e1, e2] at c1
      rw [e3] at c2
      exact Int.lt_trans c1 c2
    have := Int.lt_of_mul_lt_mul_right c3 (by omega)
    omega
  obtain ⟨bx, byy, e0⟩ := bezI l1 l2 (by omega)
  rw [a3] at e0
  -- x * l2 - y * l1 = 1, n - l2 < y ≤ n
  obtain ⟨x, y, exy, y1, y2⟩ : ∃ x y : Int, x * l2 - y * l1 = 1 ∧ n - l2 < y ∧ y ≤ n := by
    refine ⟨byy + l1 * ((n + bx) / l2), -bx + l2 * ((n + bx) / l2), ?_, ?_, ?_⟩
    · have q1 : (byy + l1 * ((n + bx) / l2)) * l2 = byy * l2 + l1 * ((n + bx) / l2) * l2 := Int.add_mul ..
      have q2 : (-bx + l2 * ((n + bx) / l2)) * l1 = -bx * l1 + l2 * ((n + bx) / l2) * l1 := Int.add_mul ..
      have q3 : l2 * ((n + bx) / l2) * l1 = l1 * ((n + bx) / l2) * l2 := by
        rw [Int.mul_comm l2, Int.mul_assoc, Int.mul_comm l2 l1, ← Int.mul_assoc, Int.mul_comm _ l1]
      rw [q1, q2, q3, Int.neg_mul, Int.mul_comm byy l2, Int.mul_comm bx l1]
      have : l1 * bx + l2 * byy = 1 := by omega
      omega
    · have := Int.emod_lt_of_pos (n + bx) (b := l2) (by omega)
      have := Int.emod_add_mul_ediv (n + bx) l2
      omega
    · have := Int.emod_nonneg (n + bx) (b := l2) (by omega)
      have := Int.emod_add_mul_ediv (n + bx) l2
      omega
  have ypos : 1 ≤ y := by omega
  have c1 : t * y ≤ x * u := by
    by_cases z : x * u ≤ t * y
    · have := a5 x y ypos y2 z
      have e : x * l2 ≤ l1 * y := this
      rw [Int.mul_comm l1 y] at e
      omega
    · omega
  have c2 : r1 * y ≤ x * r2 := b5 x y ypos y2 c1
  -- r2 = (x r2 - r1 y) l2 + D y
  have key : r2 = (x * r2 - r1 * y) * l2 + (r1 * l2 - l1 * r2) * y := by
    have e1 : (x * l2 - y * l1) * r2 = r2 := by rw [exy]; simp
    have e2 : (x * r2 - r1 * y) * l2 + (r1 * l2 - l1 * r2) * y = (x * l2 - y * l1) * r2 := by
      simp only [Int.sub_mul]
      have f1 : x * r2 * l2 = x * l2 * r2 := Int.mul_right_comm ..
      have f2 : r1 * y * l2 = r1 * l2 * y := Int.mul_right_comm ..
      have f3 : l1 * r2 * y = y * l1 * r2 := by rw [Int.mul_comm _ y, ← Int.mul_assoc]
      omega
    rw [e2, e1]
  have hz : x * r2 - r1 * y = 0 := by
    by_cases z : x * r2 - r1 * y = 0
    · exact z
    · have g1 : 1 * l2 ≤ (x * r2 - r1 * y) * l2 := Int.mul_le_mul_of_nonneg_right (by omega) (by omega)
      have g2 : 1 * y ≤ (r1 * l2 - l1 * r2) * y := Int.mul_le_mul_of_nonneg_right hD (by omega)
      omega
  rw [hz] at key
  have key2 : r2 = (r1 * l2 - l1 * r2) * y := by omega
  have hx : r1 = (r1 * l2 - l1 * r2) * x := by
    have g1 : r1 * y = ((r1 * l2 - l1 * r2) * x) * y := by
      have g2 : r1 * y = x * r2 := by omega
      rw [g2, Int.mul_right_comm, ← key2, Int.mul_comm]
    exact Int.eq_of_mul_eq_mul_right (by omega) g1
  have hD1 : r1 * l2 - l1 * r2 = 1 := dvd_gcd1 b3 ⟨x, hx⟩ ⟨y, key2⟩ (by omega)
  refine ⟨hD1, ?_, sl, sr⟩
  rw [hD1] at key2
  omega
theorem Nb.self {t u n : Int} {l r : Int × Int} (h : Nb t u n l r) (hg : Int.gcd t u = 1) (h0 : 0 < u) (hu : u ≤ n) : l = (t, u) ∧ r = (t, u) := by
  have e1 := h.lt t u (by omega) hu (Int.le_refl _)
  have e2 := h.rt t u (by omega) hu (Int.le_refl _)
  have := h.le
  have := h.ge
  have a1 := h.l1
  have b1 := h.r1
  have f1 := frac_one (a := l.1) (b := l.2) (c := t) (d := u) (by omega) h0 h.lg hg (by omega)
  have f2 := frac_one (a := r.1) (b := r.2) (c := t) (d := u) (by omega) h0 h.rg hg (by omega)
  exact ⟨Prod.ext f1.1 f1.2, Prod.ext f2.1 f2.2⟩
theorem Nb.mono {t u n m : Int} {l r l' r' : Int × Int} (h : Nb t u n l r) (h' : Nb t u m l' r') (hm : n ≤ m) : ¬ l'.1 * l.2 < l.1 * l'.2 ∧ ¬ r.1 * r'.2 < r'.1 * r.2 := by
  have a := h'.lt l.1 l.2 h.l1 (by have := h.l2; omega) h.le
  have b := h'.rt r.1 r.2 h.r1 (by have := h.r2; omega) h.ge
  exact ⟨by omega, by omega⟩
theorem ediv_abs {a u : Int} (hu : 1 ≤ u) : (a / u).natAbs ≤ a.natAbs := by
  rcases Int.le_total 0 a with h | h
  · have h1 : 0 ≤ a / u := Int.ediv_nonneg h (by omega)
    have h2 : a / u ≤ a := Int.ediv_le_self u h
    omega
  · have h1 : a / u ≤ 0 := by
      have := Int.ediv_le_ediv (a := a) (b := 0) (c := u) (by omega) h
      rw [Int.zero_ediv] at this
      exact this
    have h2 : a ≤ a / u := (Int.le_ediv_iff_mul_le (by omega)).mpr (by
      have : a * u ≤ a * 1 := Int.mul_le_mul_of_nonpos_left h hu
      omega)
    omega
theorem LowIs.abs {t u n : Int} {l : Int × Int} (h : LowIs t u n l) (hu : 1 ≤ u) : l.1.natAbs ≤ t.natAbs * n.natAbs ∧ l.2.natAbs ≤ n.natAbs := by
  have a := h.lo
  have b := h.hi
  have c : (t * l.2).natAbs ≤ t.natAbs * n.natAbs := by rw [Int.natAbs_mul]; exact Nat.mul_le_mul_left _ (by omega)
  refine ⟨?_, by omega⟩
  rw [h.at_]
  exact Nat.le_trans (ediv_abs hu) c
theorem UpIs.abs {t u n : Int} {l : Int × Int} (h : UpIs t u n l) (hu : 1 ≤ u) : l.1.natAbs ≤ t.natAbs * n.natAbs ∧ l.2.natAbs ≤ n.natAbs := by
  have a := h.lo
  have b := h.hi
  have c : (t * l.2).natAbs ≤ t.natAbs * n.natAbs := by rw [Int.natAbs_mul]; exact Nat.mul_le_mul_left _ (by omega)
  refine ⟨?_, by omega⟩
  rw [h.at_]
  have := ediv_abs (a := 0 - t * l.2) hu
  omega
theorem low2_abs {i j : Int} (hj : 0 < j) : (low2 i j).1.natAbs ≤ i.natAbs := by
  have hg : 0 < Int.gcd i j := Int.gcd_pos_of_ne_zero_right _ (by omega)
  exact ediv_abs (by omega)
end Dk
namespace Dk
open PySem PySem.Spec L2
/-- whole numbers of the walk -/
def Md (i : Int) : Prop := i.natAbs < 2 ^ 2000
/-- pointers -/
def Mx (i : Int) : Prop := i.natAbs < 2 ^ 2500
theorem Md.mx {i : Int} (h : Md i) : Mx i := Nat.lt_trans h (Nat.pow_lt_pow_right (by decide) (by decide))
theorem Md.le {i j : Int} (h : i.natAbs ≤ j.natAbs) (b : Md j) : Md i := Nat.lt_of_le_of_lt h b
theorem Md.of {i : Int} {n : Nat} (h : i.natAbs < 2 ^ n) (hn : n ≤ 2000 := by decide) : Md i := Nat.lt_of_lt_of_le h (Nat.pow_le_pow_right (by decide) hn)
def valO : Option Int → V
  | none => .non
  | some i => .int i
def lowO (L x : Int) (ps : List (Int × Int)) : Option Int := (ps.map fun p => p.2 + (x - p.1) / L * L).max?
theorem max_in {ns : List Int} (h : 0 < ns.length) : ∃ m, ns.max? = some m := by
  cases ns with
  | nil => cases h
  | cons a r => exact ⟨_, rfl⟩
/-- a look brought home -/
def homeL (L : Int) (l : Look) : Look := (l.1, l.2.1 - l.2.1 / L * L, l.2.2 - l.2.1 / L * L)
def apart1 (L : Int) (s f : Look) : Bool := decide (s.1 ≠ "upto") && (decide (f.1 ≠ "from") && decide (s.2.2 + (f.2.1 - s.2.1) / L * L > f.2.2))
def apart (L : Int) (a b : Look) : Bool := apart1 L a b || apart1 L b a
def insL (ls : List Look) (l : Look) : List Look := if l ∈ ls then ls else sortL (ls ++ [l])
structure MdL (l : Look) : Prop where
  w : isW l.1
  x : Md l.2.1
  y : Md l.2.2
def GdL (ls : List Look) : Prop := ls.length ≤ 1000 ∧ ∀ l ∈ ls, MdL l
theorem GdL.w {ls : List Look} (h : GdL ls) : ∀ l ∈ ls, isW l.1 := fun l hl => (h.2 l hl).w
end Dk
namespace Dk
/-! ### maps that nobody overtakes under, and their pace -/
def it (F : Int → Int) : Nat → Int → Int
  | 0, x => x
  | n + 1, x => F (it F n x)
structure Lap (F : Int → Int) (L : Int) : Prop where
  mono : ∀ {x y}, x ≤ y → F x ≤ F y
  shift : ∀ x, F (x + L) = F x + L
theorem Lap.sh {F : Int → Int} {L : Int} (h : Lap F L) (k : Int) : ∀ x, F (x + k * L) = F x + k * L := by
  have pos : ∀ n : Nat, ∀ x, F (x + n * L) = F x + n * L := by
    intro n
    induction n with
    | zero => intro x; simp
    | succ n ih =>
      intro x
      have e : x + ((n + 1 : Nat) : Int) * L = (x + n * L) + L := by rw [Int.natCast_add, Int.add_mul]; omega
      rw [e, h.shift, ih, Int.natCast_add, Int.add_mul]
      omega
  intro x
  rcases Int.le_total 0 k with h0 | h0
  · obtain ⟨n, rfl⟩ := Int.eq_ofNat_of_zero_le h0
    exact pos n x
  · obtain ⟨n, hn⟩ := Int.eq_ofNat_of_zero_le (show 0 ≤ -k by omega)
    have := pos n (x + k * L)
    have e : x + k * L + (n : Int) * L = x := by rw [← hn, Int.neg_mul]; omega
    rw [e] at this
    have e2 : (n : Int) * L = - (k * L) := by rw [← hn, Int.neg_mul]
    omega
theorem it_mono {F : Int → Int} {L : Int} (h : Lap F L) : ∀ n {x y}, x ≤ y → it F n x ≤ it F n y
  | 0, _, _, e => e
  | n + 1, _, _, e => h.mono (it_mono h n e)
theorem it_sh {F : Int → Int} {L : Int} (h : Lap F L) (k : Int) : ∀ n x, it F n (x + k * L) = it F n x + k * L
  | 0, _ => rfl
  | n + 1, x => by
    show F (it F n (x + k * L)) = F (it F n x) + k * L
    rw [it_sh h k n x, h.sh]
theorem it_add (F : Int → Int) (m : Nat) : ∀ n x, it F (n + m) x = it F n (it F m x)
  | 0, x => by rw [Nat.zero_add]; rfl
  | n + 1, x => by
    rw [Nat.add_right_comm]
    show F (it F (n + m) x) = F (it F n (it F m x))
    rw [it_add F m n x]
theorem it_mul {F : Int → Int} {L : Int} (h : Lap F L) {b : Nat} {a x : Int} (e : it F b x = x + a * L) : ∀ m : Nat, it F (m * b) x = x + (m * a) * L
  | 0 => by simp [it]
  | m + 1 => by
    rw [Nat.succ_mul, Nat.add_comm (m * b) b, it_add, it_mul h e m, it_sh h, e, Int.natCast_add, Int.add_mul, Int.add_mul, Int.natCast_one, Int.one_mul]
    omega
theorem it_ge {F : Int → Int} {L : Int} (h : Lap F L) {b : Nat} {a x : Int} (e : x + a * L ≤ it F b x) : ∀ m : Nat, x + (m * a) * L ≤ it F (m * b) x
  | 0 => by simp [it]
  | m + 1 => by
    have ih := it_ge h e m
    have := it_mono h b ih
    rw [it_sh h] at this
    rw [Nat.succ_mul, Nat.add_comm (m * b) b, it_add, Int.natCast_add, Int.add_mul, Int.add_mul, Int.natCast_one, Int.one_mul]
    omega
theorem it_le {F : Int → Int} {L : Int} (h : Lap F L) {b : Nat} {a x : Int} (e : it F b x ≤ x + a * L) : ∀ m : Nat, it F (m * b) x ≤ x + (m * a) * L
  | 0 => by simp [it]
  | m + 1 => by
    have ih := it_le h e m
    have := it_mono h b ih
    rw [it_sh h] at this
    rw [Nat.succ_mul, Nat.add_comm (m * b) b, it_add, Int.natCast_add, Int.add_mul, Int.add_mul, Int.natCast_one, Int.one_mul]
    omega
/-- p of q turns -/
structure IsPace (F : Int → Int) (L p : Int) (q : Nat) : Prop where
  pos : 1 ≤ q
  low : Int.gcd p q = 1
  at_ : ∃ z, it F q z = z + p * L
theorem shifted (L : Int) (hL : 0 < L) (x z : Int) : ∃ k : Int, x ≤ z + k * L := by
  refine ⟨(x - z) / L + 1, ?_⟩
  have h1 := Int.mul_ediv_add_emod (x - z) L
  have h2 := Int.emod_lt_of_pos (x - z) hL
  rw [Int.add_mul, Int.mul_comm ((x - z) / L)]
  omega
theorem arch {A L c : Int} (hL : 0 < L) (h : ∀ m : Nat, (m * A) * L ≤ c) : A ≤ 0 := by
  rcases Int.lt_or_le 0 A with hA | hA
  · exfalso
    have h1 := h (c.toNat + 1)
    have h2 : (1 : Int) ≤ A * L := Int.mul_pos hA hL
    rw [Int.mul_assoc] at h1
    have h3 : ((c.toNat + 1 : Nat) : Int) * 1 ≤ ((c.toNat + 1 : Nat) : Int) * (A * L) := Int.mul_le_mul_of_nonneg_left h2 (by omega)
    omega
  · exact hA
theorem IsPace.ge {F : Int → Int} {L p : Int} {q : Nat} (h : Lap F L) (hL : 0 < L) (P : IsPace F L p q) {b : Nat} {a x : Int} (e : x + a * L ≤ it F b x) : a * q ≤ p * b := by
  obtain ⟨z, hz⟩ := P.at_
  obtain ⟨k, hk⟩ := shifted L hL x z
  have key : ∀ m : Nat, (m * (a * q - p * b)) * L ≤ z + k * L - x := by
    intro m
    have h1 := it_ge h e (m * q)
    have h2 := it_mul h hz (m * b)
    have h3 := it_mono h (m * b * q) hk
    rw [it_sh h, h2] at h3
    have e1 : m * q * b = m * b * q := by rw [Nat.mul_assoc, Nat.mul_assoc, Nat.mul_comm q b]
    rw [e1] at h1
    have e2 : ((m * q : Nat) : Int) * a = m * (a * q) := by rw [Int.natCast_mul, Int.mul_assoc, Int.mul_comm (q : Int) a]
    have e3 : ((m * b : Nat) : Int) * p = m * (p * b) := by rw [Int.natCast_mul, Int.mul_assoc, Int.mul_comm (b : Int) p]
    rw [e2] at h1
    rw [e3] at h3
    rw [Int.mul_sub, Int.sub_mul]
    omega
  have := arch hL key
  omega
theorem IsPace.le {F : Int → Int} {L p : Int} {q : Nat} (h : Lap F L) (hL : 0 < L) (P : IsPace F L p q) {b : Nat} {a x : Int} (e : it F b x ≤ x + a * L) : p * b ≤ a * q := by
  obtain ⟨z, hz⟩ := P.at_
  obtain ⟨k, hk⟩ := shifted L hL z x
  have key : ∀ m : Nat, (m * (p * b - a * q)) * L ≤ x + k * L - z := by
    intro m
    have h1 := it_le h e (m * q)
    have h2 := it_mul h hz (m * b)
    have h3 := it_mono h (m * b * q) hk
    rw [it_sh h, h2] at h3
    have e1 : m * q * b = m * b * q := by rw [Nat.mul_assoc, Nat.mul_assoc, Nat.mul_comm q b]
    rw [e1] at h1
    have e2 : ((m * q : Nat) : Int) * a = m * (a * q) := by rw [Int.natCast_mul, Int.mul_assoc, Int.mul_comm (q : Int) a]
    have e3 : ((m * b : Nat) : Int) * p = m * (p * b) := by rw [Int.natCast_mul, Int.mul_assoc, Int.mul_comm (b : Int) p]
    rw [e2] at h1
    rw [e3] at h3
    rw [Int.mul_sub, Int.sub_mul]
    omega
  have := arch hL key
  omega
theorem it_le_of {F G : Int → Int} {L : Int} (h : Lap G L) (e : ∀ x, F x ≤ G x) : ∀ n x, it F n x ≤ it G n x
  | 0, _ => Int.le_refl _
  | n + 1, x => Int.le_trans (e _) (h.mono (it_le_of h e n x))
/-- a map nowhere behind another one has no less a pace -/
theorem IsPace.mono {F G : Int → Int} {L p p' : Int} {q q' : Nat} (hG : Lap G L) (hL : 0 < L) (e : ∀ x, F x ≤ G x) (P : IsPace F L p q) (P' : IsPace G L p' q') : p * q' ≤ p' * q := by
  obtain ⟨z, hz⟩ := P.at_
  exact P'.ge hG hL (x := z) (by rw [← hz]; exact it_le_of hG e q z)
theorem cop_dvd {p q n : Int} (d : q ∣ p * n) (g : Int.gcd p q = 1) : q ∣ n := by
  have h := Int.natAbs_dvd_natAbs.mpr d
  rw [Int.natAbs_mul] at h
  have c : Nat.Coprime q.natAbs p.natAbs := by
    rw [Nat.coprime_iff_gcd_eq_one, Nat.gcd_comm]
    exact g
  exact Int.natAbs_dvd_natAbs.mp (c.dvd_of_dvd_mul_left h)
theorem frac_uniq {p p' : Int} {q q' : Nat} (h1 : 1 ≤ q) (h2 : 1 ≤ q') (g1 : Int.gcd p q = 1) (g2 : Int.gcd p' q' = 1) (e : p * q' = p' * q) : p = p' ∧ q = q' := by
  obtain ⟨e1, e2⟩ := frac_one (by omega) (by omega) g1 g2 e
  exact ⟨e1, by omega⟩
theorem IsPace.uniq {F : Int → Int} {L p p' : Int} {q q' : Nat} (h : Lap F L) (hL : 0 < L) (P : IsPace F L p q) (P' : IsPace F L p' q') : p = p' ∧ q = q' := by
  have a := IsPace.mono h hL (fun x => Int.le_refl _) P P'
  have b := IsPace.mono h hL (fun x => Int.le_refl _) P' P
  exact frac_uniq P.pos P'.pos P.low P'.low (by omega)
/-- no place comes twice within the pace's round -/
theorem IsPace.apart {F : Int → Int} {L p : Int} {q : Nat} (h : Lap F L) (hL : 0 < L) (P : IsPace F L p q) {z m : Int} (hz : it F q z = z + p * L) {i k : Nat} (hik : i < k) (hk : k < q + i) (e : it F k z = it F i z + m * L) : False := by
  have hd : it F (k - i) (it F i z) = it F i z + m * L := by rw [← it_add, show k - i + i = k by omega]; exact e
  have h1 := P.ge h hL (Int.le_of_eq hd.symm)
  have h2 := P.le h hL (Int.le_of_eq hd)
  have e2 : m * q = p * (k - i : Nat) := by omega
  have d : (q : Int) ∣ p * ((k - i : Nat) : Int) := e2 ▸ Int.dvd_mul_left ..
  have d2 : (q : Int) ∣ ((k - i : Nat) : Int) := cop_dvd d P.low
  have := Int.le_of_dvd (by omega) d2
  omega
/-- the first return tells the pace in lowest terms -/
theorem pace_of {F : Int → Int} {L : Int} (h : Lap F L) (hL : 0 < L) {p z : Int} {q : Nat} (hq : 1 ≤ q) (hz : it F q z = z + p * L) (hd : ∀ k m, 1 ≤ k → k < q → it F k z ≠ z + m * L) : IsPace F L p q := by
  refine ⟨hq, ?_, z, hz⟩
  have d1 : ((Int.gcd p q : Nat) : Int) ∣ p := Int.gcd_dvd_left ..
  have d2 : ((Int.gcd p q : Nat) : Int) ∣ q := Int.gcd_dvd_right ..
  have hg : 0 < Int.gcd p q := Int.gcd_pos_of_ne_zero_right p (by omega)
  generalize Int.gcd p q = d at d1 d2 hg ⊢
  obtain ⟨p', rfl⟩ := d1
  obtain ⟨q', e⟩ := Int.natCast_dvd_natCast.mp d2
  subst e
  have hq' : 1 ≤ q' := by
    rcases Nat.eq_zero_or_pos q' with z0 | z0
    · rw [z0, Nat.mul_zero] at hq; omega
    · exact z0
  have fix : it F q' z = z + p' * L := by
    rcases Int.lt_trichotomy (it F q' z) (z + p' * L) with c | c | c
    · exfalso
      have e1 : it F q' z ≤ (z - 1) + p' * L := by omega
      have : ∀ m : Nat, 1 ≤ m → it F (m * q') z ≤ z - 1 + (m * p') * L := by
        intro m hm
        obtain ⟨m, rfl⟩ : ∃ k, m = k + 1 := ⟨m - 1, by omega⟩
        have a1 := it_le h (Int.le_of_lt c) m
        have a2 := it_mono h q' a1
        rw [it_sh h, ← it_add] at a2
        rw [Nat.succ_mul, Nat.add_comm (m * q') q', Int.natCast_add, Int.add_mul, Int.add_mul, Int.natCast_one, Int.one_mul]
        omega
      have := this d hg
      rw [hz] at this
      omega
    · exact c
    · exfalso
      have : ∀ m : Nat, 1 ≤ m → z + 1 + (m * p') * L ≤ it F (m * q') z := by
        intro m hm
        obtain ⟨m, rfl⟩ : ∃ k, m = k + 1 := ⟨m - 1, by omega⟩
        have a1 := it_ge h (Int.le_of_lt c) m
        have a2 := it_mono h q' a1
        rw [it_sh h, ← it_add] at a2
        rw [Nat.succ_mul, Nat.add_comm (m * q') q', Int.natCast_add, Int.add_mul, Int.add_mul, Int.natCast_one, Int.one_mul]
        omega
      have := this d hg
      rw [hz] at this
      omega
  rcases Nat.lt_or_ge q' (d * q') with c | c
  · exact absurd fix (hd q' p' hq' c)
  · have : d = 1 := by
      rcases Nat.lt_or_ge d 2 with c2 | c2
      · omega
      · have := Nat.mul_le_mul_right q' c2
        omega
    exact this
theorem nodup_sub {α : Type} [DecidableEq α] : ∀ {l m : List α}, l.Nodup → (∀ x ∈ l, x ∈ m) → l.length ≤ m.length
  | [], _, _, _ => Nat.zero_le _
  | x :: l, m, hn, hs => by
    obtain ⟨h1, h2⟩ := List.nodup_cons.mp hn
    have hx := hs x List.mem_cons_self
    have ih := nodup_sub (l := l) (m := m.erase x) h2 (fun y hy => (List.mem_erase_of_ne (fun (e : y = x) => h1 (e ▸ hy))).mpr (hs y (List.mem_cons_of_mem _ hy)))
    have := List.length_erase_of_mem hx
    have hpos : 0 < m.length := List.length_pos_of_mem hx
    rw [List.length_cons]
    omega
end Dk
namespace Dk
/-! ### where looks lead a pointer, at least (s) or at most -/
def tb (s : Bool) (d L : Int) : Int := if s = true then d / L else -(-d / L)
def ledv (s : Bool) (L : Int) (l : Look) (x : Int) : Int := l.2.2 + tb s (x - l.2.1) L * L
def best (s : Bool) (xs : List Int) : Int := if s = true then xs.max?.getD 0 else xs.min?.getD 0
def ledS (s : Bool) (L : Int) (ls : List Look) (x : Int) : Int := best s (ls.map fun l => ledv s L l x)
theorem best_mem {s : Bool} {xs : List Int} (h : xs ≠ []) : best s xs ∈ xs := by
  obtain ⟨a, r, rfl⟩ : ∃ a r, xs = a :: r := by
    cases xs with
    | nil => exact absurd rfl h
    | cons a r => exact ⟨a, r, rfl⟩
  unfold best
  cases s with
  | true =>
    have e : (a :: r).max? = some ((a :: r).max?.getD 0) := rfl
    exact (List.max?_eq_some_iff.mp e).1
  | false =>
    have e : (a :: r).min? = some ((a :: r).min?.getD 0) := rfl
    exact (List.min?_eq_some_iff.mp e).1
theorem best_max {xs : List Int} {x : Int} (h : x ∈ xs) : x ≤ best true xs := by
  obtain ⟨a, r, rfl⟩ : ∃ a r, xs = a :: r := by
    cases xs with
    | nil => cases h
    | cons a r => exact ⟨a, r, rfl⟩
  have e : (a :: r).max? = some ((a :: r).max?.getD 0) := rfl
  exact (List.max?_eq_some_iff.mp e).2 x h
theorem best_min {xs : List Int} {x : Int} (h : x ∈ xs) : best false xs ≤ x := by
  obtain ⟨a, r, rfl⟩ : ∃ a r, xs = a :: r := by
    cases xs with
    | nil => cases h
    | cons a r => exact ⟨a, r, rfl⟩
  have e : (a :: r).min? = some ((a :: r).min?.getD 0) := rfl
  exact (List.min?_eq_some_iff.mp e).2 x h
theorem best_eq {s : Bool} {xs : List Int} {v : Int} (h : v ∈ xs) (k : ∀ x ∈ xs, if s = true then x ≤ v else v ≤ x) : best s xs = v := by
  have hm := best_mem (s := s) (List.ne_nil_of_mem h)
  have k1 := k _ hm
  cases s with
  | true => exact Int.le_antisymm k1 (best_max h)
  | false => exact Int.le_antisymm (best_min h) k1
theorem tb_mono {s : Bool} {L a b : Int} (hL : 0 < L) (h : a ≤ b) : tb s a L ≤ tb s b L := by
  unfold tb
  cases s with
  | true => exact Int.ediv_le_ediv hL h
  | false =>
    have := Int.ediv_le_ediv hL (show -b ≤ -a by omega)
    show -(-a / L) ≤ -(-b / L)
    omega
theorem tb_shift {s : Bool} {L a : Int} (hL : 0 < L) : tb s (a + L) L = tb s a L + 1 := by
  unfold tb
  cases s with
  | true =>
    show (a + L) / L = a / L + 1
    rw [Int.add_ediv_of_dvd_right (Int.dvd_refl L), Int.ediv_self (by omega)]
  | false =>
    show -(-(a + L) / L) = -(-a / L) + 1
    have e : -(a + L) = -a + (-1) * L := by omega
    rw [e, Int.add_mul_ediv_right _ _ (by omega)]
    omega
theorem ledv_mono {s : Bool} {L : Int} {l : Look} (hL : 0 < L) {x y : Int} (h : x ≤ y) : ledv s L l x ≤ ledv s L l y := by
  unfold ledv
  have := Int.mul_le_mul_of_nonneg_right (tb_mono (s := s) hL (show x - l.2.1 ≤ y - l.2.1 by omega)) (Int.le_of_lt hL)
  omega
theorem ledv_shift {s : Bool} {L : Int} {l : Look} (hL : 0 < L) (x : Int) : ledv s L l (x + L) = ledv s L l x + L := by
  unfold ledv
  rw [show x + L - l.2.1 = (x - l.2.1) + L by omega, tb_shift hL, Int.add_mul]
  omega
theorem ledS_mem {s : Bool} {L : Int} {ls : List Look} (h : ls ≠ []) (x : Int) : ∃ l ∈ ls, ledv s L l x = ledS s L ls x := by
  have := best_mem (s := s) (xs := ls.map fun l => ledv s L l x) (by simpa using h)
  exact List.mem_map.mp this
theorem ledS_ge {L : Int} {ls : List Look} {l : Look} (h : l ∈ ls) (x : Int) : ledv true L l x ≤ ledS true L ls x := best_max (List.mem_map.mpr ⟨l, h, rfl⟩)
theorem ledS_le {L : Int} {ls : List Look} {l : Look} (h : l ∈ ls) (x : Int) : ledS false L ls x ≤ ledv false L l x := best_min (List.mem_map.mpr ⟨l, h, rfl⟩)
theorem lap_ledS {s : Bool} {L : Int} {ls : List Look} (hL : 0 < L) (h : ls ≠ []) : Lap (ledS s L ls) L := by
  refine ⟨fun {x y} hxy => ?_, fun x => ?_⟩
  · cases s with
    | true =>
      obtain ⟨l, hl, e⟩ := ledS_mem (s := true) (L := L) h x
      rw [← e]
      exact Int.le_trans (ledv_mono hL hxy) (ledS_ge hl y)
    | false =>
      obtain ⟨l, hl, e⟩ := ledS_mem (s := false) (L := L) h y
      rw [← e]
      exact Int.le_trans (ledS_le hl x) (ledv_mono hL hxy)
  · cases s with
    | true =>
      obtain ⟨l, hl, e⟩ := ledS_mem (s := true) (L := L) h x
      obtain ⟨m, hm, f⟩ := ledS_mem (s := true) (L := L) h (x + L)
      have h1 := ledS_ge (L := L) hl (x + L)
      have h2 := ledS_ge (L := L) hm x
      rw [ledv_shift hL] at h1 f
      omega
    | false =>
      obtain ⟨l, hl, e⟩ := ledS_mem (s := false) (L := L) h x
      obtain ⟨m, hm, f⟩ := ledS_mem (s := false) (L := L) h (x + L)
      have h1 := ledS_le (L := L) hl (x + L)
      have h2 := ledS_le (L := L) hm x
      rw [ledv_shift hL] at h1 f
      omega
/-- one round -/
def rnd (s : Bool) (L : Int) (rows : List (List Look)) (x : Int) : Int := rows.foldl (fun x ls => ledS s L ls x) x
theorem lap_rnd {s : Bool} {L : Int} (hL : 0 < L) : ∀ {rows : List (List Look)}, (∀ ls ∈ rows, ls ≠ []) → Lap (rnd s L rows) L
  | [], _ => ⟨fun h => h, fun _ => rfl⟩
  | ls :: rows, h => by
    have a := lap_ledS (s := s) hL (h ls List.mem_cons_self)
    have b := lap_rnd (s := s) hL (rows := rows) fun r hr => h r (List.mem_cons_of_mem _ hr)
    refine ⟨fun {x y} hxy => b.mono (a.mono hxy), fun x => ?_⟩
    show rnd s L rows (ledS s L ls (x + L)) = rnd s L rows (ledS s L ls x) + L
    rw [a.shift, b.shift]
theorem rnd_app (s : Bool) (L : Int) (a b : List (List Look)) (x : Int) : rnd s L (a ++ b) x = rnd s L b (rnd s L a x) := List.foldl_append ..
/-- the pointer, look by look, from 0 on -/
def tr (s : Bool) (L : Int) (rows : List (List Look)) : Nat → Int
  | 0 => 0
  | i + 1 => ledS s L (rows.getD (i % rows.length) []) (tr s L rows i)
theorem tr_part {s : Bool} {L : Int} {rows : List (List Look)} (n : Nat) : ∀ j, j ≤ rows.length → tr s L rows (n * rows.length + j) = rnd s L (rows.take j) (tr s L rows (n * rows.length))
  | 0, _ => by simp [rnd]
  | j + 1, hj => by
    have ih := tr_part (s := s) (L := L) (rows := rows) n j (by omega)
    have hm : (n * rows.length + j) % rows.length = j := by
      rw [Nat.add_comm, Nat.add_mul_mod_self_right, Nat.mod_eq_of_lt (by omega)]
    show ledS s L (rows.getD ((n * rows.length + j) % rows.length) []) (tr s L rows (n * rows.length + j)) = _
    have e : rows[j]? = some rows[j] := List.getElem?_eq_getElem (by omega)
    rw [hm, ih, List.take_succ, rnd_app, List.getD_eq_getElem?_getD, e]
    rfl
theorem tr_round {s : Bool} {L : Int} {rows : List (List Look)} (n : Nat) : tr s L rows ((n + 1) * rows.length) = rnd s L rows (tr s L rows (n * rows.length)) := by
  have := tr_part (s := s) (L := L) (rows := rows) n rows.length (Nat.le_refl _)
  rw [List.take_length] at this
  rw [Nat.succ_mul]
  exact this
theorem tr_it {s : Bool} {L : Int} {rows : List (List Look)} (m : Nat) : ∀ n, tr s L rows ((n + m) * rows.length) = it (rnd s L rows) n (tr s L rows (m * rows.length))
  | 0 => by rw [Nat.zero_add]; rfl
  | n + 1 => by
    rw [Nat.add_right_comm, tr_round, tr_it m n]
    rfl
/-- the row of a side -/
def bySide (s : Bool) (l : Look) : Bool := decide (l.1 = "at") || decide (l.1 = if s = true then "from" else "upto")
def sideOf (s : Bool) (ls : List Look) : List Look := ls.filter (bySide s)
def rowsOf (s : Bool) (hs : List (List Look)) : List (List Look) := hs.map (sideOf s)
/-- the pace's answer -/
def PaceIs (s : Bool) (L : Int) (hs : List (List Look)) (r : Option (Int × Int)) : Prop :=
  ((∃ ls ∈ rowsOf s hs, ls = []) ∧ r = none) ∨ ((∀ ls ∈ rowsOf s hs, ls ≠ []) ∧ ∃ (p : Int) (q : Nat), r = some (p, (q : Int)) ∧ IsPace (rnd s L (rowsOf s hs)) L p q)
/-- a pace's bottom is no greater than any hand has places looked at -/
theorem IsPace.places {s : Bool} {L p : Int} {q : Nat} {rows : List (List Look)} (hL : 0 < L) (hr : ∀ ls ∈ rows, ls ≠ []) (P : IsPace (rnd s L rows) L p q) {ls : List Look} (hls : ls ∈ rows) {ps : List Int} (hp : ∀ l ∈ ls, l.2.1 ∈ ps) : q ≤ ps.length := by
  obtain ⟨z, hz⟩ := P.at_
  have lap := lap_rnd (s := s) hL hr
  obtain ⟨a, b, e⟩ := List.append_of_mem hls
  have hne := hr ls hls
  have la : Lap (rnd s L a) L := lap_rnd hL fun r h => hr r (by rw [e]; exact List.mem_append_left _ h)
  have lb : Lap (rnd s L b) L := lap_rnd hL fun r h => hr r (by rw [e]; exact List.mem_append_right _ (List.mem_cons_of_mem _ h))
  have ll := lap_ledS (s := s) hL hne
  let y : Nat → Int := fun i => rnd s L a (it (rnd s L rows) i z)
  have hy : ∀ i, it (rnd s L rows) (i + 1) z = rnd s L b (ledS s L ls (y i)) := by
    intro i
    have : ∀ w, rnd s L rows w = rnd s L b (ledS s L ls (rnd s L a w)) := fun w => by
      rw [e, rnd_app]
      rfl
    exact this _
  let c : Nat → Look := fun i => Classical.choose (ledS_mem (s := s) (L := L) hne (y i))
  have hc : ∀ i, c i ∈ ls ∧ ledv s L (c i) (y i) = ledS s L ls (y i) := fun i => Classical.choose_spec (ledS_mem (s := s) (L := L) hne (y i))
  have inj : ∀ i k, i < k → k < q → (c i).2.1 ≠ (c k).2.1 := by
    intro i k hik hk ex
    have h1 := hc i
    have h2 := hc k
    have ey : (c i).2.2 = (c k).2.2 := by
      cases s with
      | true =>
        have a1 := ledS_ge (L := L) h2.1 (y i)
        have a2 := ledS_ge (L := L) h1.1 (y k)
        rw [← h1.2] at a1
        rw [← h2.2] at a2
        unfold ledv at a1 a2
        rw [ex] at a1 a2
        omega
      | false =>
        have a1 := ledS_le (L := L) h2.1 (y i)
        have a2 := ledS_le (L := L) h1.1 (y k)
        rw [← h1.2] at a1
        rw [← h2.2] at a2
        unfold ledv at a1 a2
        rw [ex] at a1 a2
        omega
    obtain ⟨m, hm⟩ : ∃ m, ledS s L ls (y k) = ledS s L ls (y i) + m * L := by
      refine ⟨tb s (y k - (c k).2.1) L - tb s (y i - (c i).2.1) L, ?_⟩
      rw [← h1.2, ← h2.2]
      unfold ledv
      rw [ey, Int.sub_mul]
      omega
    have e1 : it (rnd s L rows) (k + 1) z = it (rnd s L rows) (i + 1) z + m * L := by
      rw [hy k, hy i, hm, lb.sh]
    exact P.apart lap hL hz (show i + 1 < k + 1 by omega) (by omega) e1
  have nd : ((List.range q).map fun i => (c i).2.1).Nodup := by
    rw [List.nodup_iff_pairwise_ne, List.pairwise_map]
    refine List.Pairwise.imp_of_mem ?_ (List.pairwise_lt_range (n := q))
    intro i k hi hk hik
    exact inj i k hik (List.mem_range.mp hk)
  have := nodup_sub nd (m := ps) fun x hx => by
    obtain ⟨i, _, rfl⟩ := List.mem_map.mp hx
    exact hp _ (hc i).1
  simpa using this
theorem tb_near {s : Bool} {d L : Int} (hL : 0 < L) : (tb s d L * L).natAbs ≤ d.natAbs + L.natAbs := by
  unfold tb
  cases s with
  | true =>
    show (d / L * L).natAbs ≤ _
    have h1 := Int.mul_ediv_add_emod d L
    have h2 := Int.emod_lt_of_pos d hL
    have h3 := Int.emod_nonneg d (show L ≠ 0 by omega)
    rw [Int.mul_comm] at h1
    omega
  | false =>
    show (-(-d / L) * L).natAbs ≤ _
    have h1 := Int.mul_ediv_add_emod (-d) L
    have h2 := Int.emod_lt_of_pos (-d) hL
    have h3 := Int.emod_nonneg (-d) (show L ≠ 0 by omega)
    rw [Int.mul_comm] at h1
    rw [Int.neg_mul]
    omega
theorem ledv_abs {s : Bool} {L : Int} {l : Look} {x : Int} (hL : 0 < L) : (ledv s L l x).natAbs ≤ x.natAbs + (l.2.1.natAbs + l.2.2.natAbs + L.natAbs) := by
  unfold ledv
  have := tb_near (s := s) (d := x - l.2.1) hL
  omega
theorem tr_abs {s : Bool} {L : Int} {rows : List (List Look)} {B : Nat} (hL : 0 < L) (hr : ∀ ls ∈ rows, ls ≠ []) (hb : ∀ ls ∈ rows, ∀ l ∈ ls, l.2.1.natAbs + l.2.2.natAbs + L.natAbs ≤ B) (h0 : 0 < rows.length) : ∀ i, (tr s L rows i).natAbs ≤ i * B
  | 0 => by simp [tr]
  | i + 1 => by
    have ih := tr_abs (s := s) hL hr hb h0 i
    have hlt : i % rows.length < rows.length := Nat.mod_lt _ h0
    have hm : rows.getD (i % rows.length) [] ∈ rows := by
      rw [List.getD_eq_getElem?_getD, List.getElem?_eq_getElem hlt]
      exact List.getElem_mem hlt
    obtain ⟨l, hl, e⟩ := ledS_mem (s := s) (L := L) (hr _ hm) (tr s L rows i)
    have h1 := hb _ hm l hl
    have h2 := ledv_abs (s := s) (l := l) (x := tr s L rows i) hL
    show (ledS s L _ _).natAbs ≤ _
    rw [← e, Nat.succ_mul]
    omega
theorem visits {s : Bool} {L : Int} {rows : List (List Look)} {n : Nat} (hL : 0 < L) (hr : ∀ ls ∈ rows, ls ≠ []) (h0 : 0 < rows.length) (hd : ∀ i k, i < k → k < n → tr s L rows (i * rows.length) % L ≠ tr s L rows (k * rows.length) % L) : n ≤ (rows.getD (rows.length - 1) []).length + 1 := by
  rcases Nat.eq_zero_or_pos n with hn | hn
  · omega
  have hm : rows.getD (rows.length - 1) [] ∈ rows := by
    rw [List.getD_eq_getElem?_getD, List.getElem?_eq_getElem (show rows.length - 1 < rows.length by omega)]
    exact List.getElem_mem _
  have key : ∀ i, tr s L rows ((i + 1) * rows.length) % L ∈ (rows.getD (rows.length - 1) []).map fun l => l.2.2 % L := by
    intro i
    have e : (i + 1) * rows.length = (i * rows.length + (rows.length - 1)) + 1 := by rw [Nat.succ_mul]; omega
    have e2 : (i * rows.length + (rows.length - 1)) % rows.length = rows.length - 1 := by
      rw [Nat.add_comm, Nat.add_mul_mod_self_right, Nat.mod_eq_of_lt (by omega)]
    obtain ⟨l, hl, ev⟩ := ledS_mem (s := s) (L := L) (hr _ hm) (tr s L rows (i * rows.length + (rows.length - 1)))
    refine List.mem_map.mpr ⟨l, hl, ?_⟩
    rw [e]
    show _ = ledS s L (rows.getD ((i * rows.length + (rows.length - 1)) % rows.length) []) _ % L
    rw [e2, ← ev]
    unfold ledv
    rw [Int.add_mul_emod_self_right]
  have nd : ((List.range (n - 1)).map fun i => tr s L rows ((i + 1) * rows.length) % L).Nodup := by
    rw [List.nodup_iff_pairwise_ne, List.pairwise_map]
    refine List.Pairwise.imp_of_mem ?_ (List.pairwise_lt_range (n := n - 1))
    intro i k hi hk hik
    exact hd _ _ (by omega) (by have := List.mem_range.mp hk; omega)
  have := nodup_sub nd (m := (rows.getD (rows.length - 1) []).map fun l => l.2.2 % L) fun x hx => by
    obtain ⟨i, _, rfl⟩ := List.mem_map.mp hx
    exact key i
  rw [List.length_map, List.length_map, List.length_range] at this
  omega
/-- where a place comes again the first time, there is the pace -/
theorem pace_found {s : Bool} {L : Int} {rows : List (List Look)} {n i0 : Nat} (hL : 0 < L) (hr : ∀ ls ∈ rows, ls ≠ []) (hd : ∀ i k, i < k → k < n → tr s L rows (i * rows.length) % L ≠ tr s L rows (k * rows.length) % L) (hi : i0 < n)
    (he : tr s L rows (n * rows.length) % L = tr s L rows (i0 * rows.length) % L) :
    tr s L rows (n * rows.length) = tr s L rows (i0 * rows.length) + (tr s L rows (n * rows.length) - tr s L rows (i0 * rows.length)) / L * L ∧
      IsPace (rnd s L rows) L ((tr s L rows (n * rows.length) - tr s L rows (i0 * rows.length)) / L) (n - i0) := by
  have dv : L ∣ tr s L rows (n * rows.length) - tr s L rows (i0 * rows.length) := Int.dvd_of_emod_eq_zero (by rw [Int.sub_emod, he, Int.sub_self, Int.zero_emod])
  have e1 : tr s L rows (n * rows.length) = tr s L rows (i0 * rows.length) + (tr s L rows (n * rows.length) - tr s L rows (i0 * rows.length)) / L * L := by
    have := Int.ediv_mul_cancel dv
    omega
  refine ⟨e1, pace_of (lap_rnd hL hr) hL (by omega) (z := tr s L rows (i0 * rows.length)) ?_ ?_⟩
  · rw [← tr_it, show n - i0 + i0 = n by omega]
    exact e1
  · intro k m hk1 hk2 e
    rw [← tr_it] at e
    refine hd i0 (k + i0) (by omega) (by omega) ?_
    rw [e, Int.add_mul_emod_self_right]
end Dk
namespace Dk
/-! ### followed pointers -/
def looksOf (L : Int) : Int → List Int → List Look
  | _, [] => []
  | x, y :: r => homeL L ("at", x, y) :: looksOf L y r
def hearAll (L : Int) : List Look → List Look → (Look × Look) ⊕ List Look
  | ls, [] => .inr ls
  | ls, l :: r => match ls.find? (apart L l) with
    | some o => .inl (l, o)
    | none => hearAll L (insL ls l) r
theorem insL_mem {ls : List Look} {l m : Look} : m ∈ insL ls l ↔ m ∈ ls ∨ m = l := by
  unfold insL
  by_cases h : l ∈ ls
  · rw [if_pos h]
    exact ⟨.inl, fun k => k.elim id fun e => e ▸ h⟩
  · rw [if_neg h, sortL_mem, List.mem_append, List.mem_singleton]
theorem insL_len (ls : List Look) (l : Look) : (insL ls l).length ≤ ls.length + 1 := by
  unfold insL
  by_cases h : l ∈ ls
  · rw [if_pos h]; omega
  · rw [if_neg h, sortL_len, List.length_append]; exact Nat.le_refl _
theorem insL_gd {ls : List Look} {l : Look} (h : GdL ls) (k : MdL l) (hl : ls.length < 1000) : GdL (insL ls l) := by
  refine ⟨by have := insL_len ls l; omega, fun m hm => ?_⟩
  rcases insL_mem.mp hm with h1 | rfl
  · exact h.2 m h1
  · exact k
/-- numbers of a script -/
def Mi (i : Int) : Prop := i.natAbs < 2 ^ 1900
theorem Mi.md {i : Int} (h : Mi i) : Md i := Nat.lt_trans h (Nat.pow_lt_pow_right (by decide) (by decide))
theorem div_near {x L : Int} (hL : 0 < L) : (x / L * L).natAbs ≤ x.natAbs + L.natAbs := tb_near (s := true) hL
theorem homeL_md {L : Int} {l : Look} (hL : 0 < L) (mL : Mi L) (hw : isW l.1) (hx : Mi l.2.1) (hy : Mi l.2.2) : MdL (homeL L l) := by
  have h := div_near (x := l.2.1) hL
  have key : ∀ n : Nat, n ≤ 2 ^ 1900 + 2 ^ 1900 + 2 ^ 1900 → n < 2 ^ 2000 := fun n hn => by
    refine Nat.lt_of_le_of_lt hn (Nat.lt_of_le_of_lt (m := 2 ^ 1900 * 4) (by omega) ?_)
    rw [show (4 : Nat) = 2 ^ 2 by decide, ← Nat.pow_add]
    exact Nat.pow_lt_pow_right (by decide) (by decide)
  unfold Mi at mL hx hy
  refine ⟨hw, key _ ?_, key _ ?_⟩
  · show (l.2.1 - l.2.1 / L * L).natAbs ≤ _
    omega
  · show (l.2.2 - l.2.1 / L * L).natAbs ≤ _
    omega
end Dk
namespace Dk
/-! ### true looks of a hand -/
structure TrueL (F : Int → Int) (l : Look) : Prop where
  up : l.1 ≠ "upto" → l.2.2 ≤ F l.2.1
  dn : l.1 ≠ "from" → F l.2.1 ≤ l.2.2
theorem TrueL.home {F : Int → Int} {L : Int} {l : Look} (h : Lap F L) (t : TrueL F l) : TrueL F (homeL L l) := by
  have e : F (l.2.1 - l.2.1 / L * L) = F l.2.1 - l.2.1 / L * L := by
    have := h.sh (-(l.2.1 / L)) l.2.1
    rw [Int.neg_mul] at this
    exact this
  refine ⟨fun hw => ?_, fun hw => ?_⟩
  · have := t.up hw
    show l.2.2 - l.2.1 / L * L ≤ F (l.2.1 - l.2.1 / L * L)
    omega
  · have := t.dn hw
    show F (l.2.1 - l.2.1 / L * L) ≤ l.2.2 - l.2.1 / L * L
    omega
theorem apart1_true {F : Int → Int} {L : Int} {a b : Look} (h : Lap F L) (hL : 0 < L) (ta : TrueL F a) (tb : TrueL F b) : apart1 L a b = false := by
  unfold apart1
  by_cases h1 : a.1 ≠ "upto"
  · by_cases h2 : b.1 ≠ "from"
    · have e1 := ta.up h1
      have e2 := tb.dn h2
      have e3 := h.sh ((b.2.1 - a.2.1) / L) a.2.1
      have e4 : a.2.1 + (b.2.1 - a.2.1) / L * L ≤ b.2.1 := by
        have := Int.ediv_mul_le (b.2.1 - a.2.1) (show L ≠ 0 by omega)
        omega
      have e5 := h.mono e4
      rw [decide_eq_false (show ¬ a.2.2 + (b.2.1 - a.2.1) / L * L > b.2.2 by omega), Bool.and_false, Bool.and_false]
    · rw [decide_eq_false h2, Bool.false_and, Bool.and_false]
  · rw [decide_eq_false h1, Bool.false_and]
theorem apart_true {F : Int → Int} {L : Int} {a b : Look} (h : Lap F L) (hL : 0 < L) (ta : TrueL F a) (tb : TrueL F b) : apart L a b = false := by
  unfold apart
  rw [apart1_true h hL ta tb, apart1_true h hL tb ta]
  rfl
/-- looks of one hand are heard -/
theorem hear_true {F : Int → Int} {L : Int} (h : Lap F L) (hL : 0 < L) : ∀ (r ls : List Look), (∀ m ∈ r, TrueL F m) → (∀ m ∈ ls, TrueL F m) → ∃ ls', hearAll L ls r = .inr ls' ∧ ∀ m, m ∈ ls' ↔ m ∈ ls ∨ m ∈ r
  | [], ls, _, _ => ⟨ls, rfl, fun m => by simp⟩
  | l :: r, ls, hr, hl => by
    have e : ls.find? (apart L l) = none := List.find?_eq_none.mpr fun m hm => by
      rw [apart_true h hL (hr l List.mem_cons_self) (hl m hm)]
      exact Bool.false_ne_true
    obtain ⟨ls', e1, e2⟩ := hear_true h hL r (insL ls l) (fun m hm => hr m (List.mem_cons_of_mem _ hm)) fun m hm => by
      rcases insL_mem.mp hm with hm | rfl
      · exact hl m hm
      · exact hr _ List.mem_cons_self
    refine ⟨ls', ?_, fun m => ?_⟩
    · show (match ls.find? (apart L l) with | some o => _ | none => _) = _
      rw [e]
      exact e1
    · rw [e2, insL_mem, List.mem_cons, or_assoc]
theorem w_au : ("at" : PySem.Str) ≠ "upto" := by decide +kernel
theorem w_fu : ("from" : PySem.Str) ≠ "upto" := by decide +kernel
theorem w_af : ("at" : PySem.Str) ≠ "from" := by decide +kernel
theorem w_uf : ("upto" : PySem.Str) ≠ "from" := by decide +kernel
theorem side_true {l : Look} (h : bySide true l = true) : l.1 ≠ "upto" := by
  unfold bySide at h
  rw [Bool.or_eq_true, decide_eq_true_eq, decide_eq_true_eq] at h
  rcases h with h | h
  · rw [h]; exact w_au
  · rw [h]; exact w_fu
theorem side_false {l : Look} (h : bySide false l = true) : l.1 ≠ "from" := by
  unfold bySide at h
  rw [Bool.or_eq_true, decide_eq_true_eq, decide_eq_true_eq] at h
  rcases h with h | h
  · rw [h]; exact w_af
  · rw [h]; exact w_uf
theorem slow_le {F : Int → Int} {L : Int} {l : Look} (h : Lap F L) (hL : 0 < L) (t : TrueL F l) (hs : bySide true l = true) (x : Int) : ledv true L l x ≤ F x := by
  have e1 := t.up (side_true hs)
  have e3 := h.sh ((x - l.2.1) / L) l.2.1
  have e4 : l.2.1 + (x - l.2.1) / L * L ≤ x := by
    have := Int.ediv_mul_le (x - l.2.1) (show L ≠ 0 by omega)
    omega
  have e5 := h.mono e4
  show l.2.2 + (x - l.2.1) / L * L ≤ F x
  omega
theorem fast_ge {F : Int → Int} {L : Int} {l : Look} (h : Lap F L) (hL : 0 < L) (t : TrueL F l) (hs : bySide false l = true) (x : Int) : F x ≤ ledv false L l x := by
  have e1 := t.dn (side_false hs)
  have e3 := h.sh (-(-(x - l.2.1) / L)) l.2.1
  have e4 : x ≤ l.2.1 + -(-(x - l.2.1) / L) * L := by
    have := Int.ediv_mul_le (-(x - l.2.1)) (show L ≠ 0 by omega)
    rw [Int.neg_mul]
    omega
  have e5 := h.mono e4
  show F x ≤ l.2.2 + -(-(x - l.2.1) / L) * L
  omega
theorem led_slow {F : Int → Int} {L : Int} {ls : List Look} (h : Lap F L) (hL : 0 < L) (t : ∀ l ∈ ls, TrueL F l) (hn : sideOf true ls ≠ []) (x : Int) : ledS true L (sideOf true ls) x ≤ F x := by
  obtain ⟨l, hl, e⟩ := ledS_mem (s := true) (L := L) hn x
  obtain ⟨h1, h2⟩ := List.mem_filter.mp hl
  rw [← e]
  exact slow_le h hL (t l h1) h2 x
theorem led_fast {F : Int → Int} {L : Int} {ls : List Look} (h : Lap F L) (hL : 0 < L) (t : ∀ l ∈ ls, TrueL F l) (hn : sideOf false ls ≠ []) (x : Int) : F x ≤ ledS false L (sideOf false ls) x := by
  obtain ⟨l, hl, e⟩ := ledS_mem (s := false) (L := L) hn x
  obtain ⟨h1, h2⟩ := List.mem_filter.mp hl
  rw [← e]
  exact fast_ge h hL (t l h1) h2 x
/-- a look leads its own place as it says -/
theorem ledv_own {s : Bool} {L x y : Int} {w : PySem.Str} (hL : 0 < L) : ledv s L (homeL L (w, x, y)) x = y := by
  unfold ledv homeL tb
  dsimp only
  have e : x - (x - x / L * L) = x / L * L := by omega
  rw [e]
  cases s with
  | true =>
    show y - x / L * L + x / L * L / L * L = y
    rw [Int.mul_ediv_cancel _ (by omega)]
    omega
  | false =>
    show y - x / L * L + -(-(x / L * L) / L) * L = y
    rw [← Int.neg_mul, Int.mul_ediv_cancel _ (by omega), Int.neg_neg]
    omega
theorem side_at {s : Bool} {l : Look} (h : l.1 = "at") : bySide s l = true := by
  unfold bySide
  rw [decide_eq_true h, Bool.true_or]
theorem rnd_one (s : Bool) (L : Int) (ls : List Look) : rnd s L [ls] = ledS s L ls := rfl
/-! ### hands that turn evenly -/
def ev (s : Int) : Nat → Int → List Int
  | 0, _ => []
  | n + 1, f => (f + s) :: ev s n (f + s)
def evF (s : Int) : Int → Int := fun x => x + s
theorem lap_ev (s L : Int) : Lap (evF s) L := ⟨fun h => by unfold evF; omega, fun x => by unfold evF; omega⟩
theorem it_ev (s : Int) : ∀ n x, it (evF s) n x = x + n * s
  | 0, x => by simp [it]
  | n + 1, x => by
    show evF s (it (evF s) n x) = _
    rw [it_ev s n x, Int.natCast_add, Int.add_mul]
    unfold evF
    omega
theorem ev_true {s L : Int} : ∀ (n : Nat) (f : Int), ∀ l ∈ looksOf L f (ev s n f), TrueL (evF s) l ∧ l.1 = "at"
  | 0, _, l, h => by cases h
  | n + 1, f, l, h => by
    rcases List.mem_cons.mp h with rfl | h
    · exact ⟨TrueL.home (lap_ev s L) ⟨fun _ => Int.le_refl _, fun _ => Int.le_refl _⟩, rfl⟩
    · exact ev_true n (f + s) l h
theorem ev_in {s L : Int} : ∀ (n k : Nat) (f : Int), k < n → homeL L ("at", f + k * s, f + k * s + s) ∈ looksOf L f (ev s n f)
  | 0, k, f, h => absurd h (by omega)
  | n + 1, 0, f, h => by
    have : f + ((0 : Nat) : Int) * s = f := by simp
    rw [this]
    exact List.mem_cons_self
  | n + 1, k + 1, f, h => by
    have e : f + ((k + 1 : Nat) : Int) * s = (f + s) + k * s := by rw [Int.natCast_add, Int.add_mul]; omega
    rw [e]
    exact List.mem_cons_of_mem _ (ev_in n k (f + s) (by omega))
theorem looksOf_len {L : Int} : ∀ (ns : List Int) (f : Int), (looksOf L f ns).length = ns.length
  | [], _ => rfl
  | y :: r, f => by
    show (looksOf L y r).length + 1 = _
    rw [looksOf_len r y]
    rfl
theorem ev_len (s : Int) : ∀ n f, (ev s n f).length = n
  | 0, _ => rfl
  | n + 1, f => by
    show (ev s n (f + s)).length + 1 = _
    rw [ev_len s n]
theorem ev_map (s : Int) : ∀ n f, ev s n f = (List.range n).map fun (k : Nat) => f + s * ((k : Int) + 1)
  | 0, _ => rfl
  | n + 1, f => by
    rw [List.range_succ_eq_map, List.map_cons, List.map_map]
    show (f + s) :: ev s n (f + s) = _
    rw [ev_map s n (f + s)]
    congr 1
    · simp
    · refine List.map_congr_left fun k _ => ?_
      show f + s + s * ((k : Int) + 1) = f + s * (((k + 1 : Nat) : Int) + 1)
      rw [Int.natCast_add, Int.mul_add, Int.mul_add, Int.mul_add]
      omega
theorem Nb.uniq {t u n : Int} {l r l' r' : Int × Int} (h : Nb t u n l r) (h' : Nb t u n l' r') : l = l' ∧ r = r' := by
  have a1 := h.lt _ _ h'.l1 h'.l2 h'.le
  have a2 := h'.lt _ _ h.l1 h.l2 h.le
  have b1 := h.rt _ _ h'.r1 h'.r2 h'.ge
  have b2 := h'.rt _ _ h.r1 h.r2 h.ge
  have c1 := h.l1
  have c2 := h'.l1
  have c3 := h.r1
  have c4 := h'.r1
  have f1 := frac_one (a := l.1) (b := l.2) (c := l'.1) (d := l'.2) (by omega) (by omega) h.lg h'.lg (by omega)
  have f2 := frac_one (a := r.1) (b := r.2) (c := r'.1) (d := r'.2) (by omega) (by omega) h.rg h'.rg (by omega)
  exact ⟨Prod.ext f1.1 f1.2, Prod.ext f2.1 f2.2⟩
/-- what following an even hand tells -/
theorem even_nb {L s f : Int} {n : Nat} {ls : List Look} {ro rf : Option (Int × Int)} (hL : 0 < L) (hn : 1 ≤ n) (hm : ∀ l, l ∈ ls ↔ l ∈ looksOf L f (ev s n f)) (p1 : PaceIs true L [ls] ro) (p2 : PaceIs false L [ls] rf) :
    ∃ lo hi, ro = some lo ∧ rf = some hi ∧ Nb s L n lo hi := by
  have ht : ∀ l ∈ ls, TrueL (evF s) l := fun l hl => (ev_true n f l ((hm l).mp hl)).1
  have ha : ∀ l ∈ ls, l.1 = "at" := fun l hl => (ev_true n f l ((hm l).mp hl)).2
  have hside : ∀ b, sideOf b ls = ls := fun b => List.filter_eq_self.mpr fun l hl => side_at (ha l hl)
  have hne : ls ≠ [] := fun e => by
    have := (hm _).mpr (ev_in (L := L) n 0 f (by omega))
    rw [e] at this
    cases this
  have rows : ∀ b, rowsOf b [ls] = [ls] := fun b => by
    show [sideOf b ls] = [ls]
    rw [hside]
  have notnil : ∀ b, ¬ ∃ r ∈ rowsOf b [ls], r = [] := fun b ⟨r, hr, e⟩ => by
    rw [rows] at hr
    rw [List.mem_singleton.mp hr] at e
    exact hne e
  have allne : ∀ r ∈ [ls], r ≠ [] := fun r hr => by rw [List.mem_singleton.mp hr]; exact hne
  have places : ∀ l ∈ ls, l.2.1 ∈ (looksOf L f (ev s n f)).map fun l => l.2.1 := fun l hl => List.mem_map.mpr ⟨l, (hm l).mp hl, rfl⟩
  have plen : ((looksOf L f (ev s n f)).map fun l => l.2.1).length = n := by rw [List.length_map, looksOf_len, ev_len]
  have run : ∀ b, ∀ k, k ≤ n → it (ledS b L ls) k f = f + k * s := by
    intro b k
    induction k with
    | zero => intro _; simp [it]
    | succ k ih =>
      intro hk
      show ledS b L ls (it (ledS b L ls) k f) = _
      rw [ih (by omega)]
      have hin := (hm _).mpr (ev_in (L := L) n k f (by omega))
      have own : ledv b L (homeL L ("at", f + k * s, f + k * s + s)) (f + k * s) = f + k * s + s := ledv_own hL
      have e : f + ((k + 1 : Nat) : Int) * s = f + k * s + s := by rw [Int.natCast_add, Int.add_mul]; omega
      rw [e]
      cases b with
      | true =>
        have u1 := ledS_ge (L := L) hin (f + k * s)
        have u2 := led_slow (lap_ev s L) hL ht (by rw [hside]; exact hne) (f + k * s)
        rw [hside] at u2
        unfold evF at u2
        omega
      | false =>
        have u1 := ledS_le (L := L) hin (f + k * s)
        have u2 := led_fast (lap_ev s L) hL ht (by rw [hside]; exact hne) (f + k * s)
        rw [hside] at u2
        unfold evF at u2
        omega
  rcases p1 with ⟨h1, _⟩ | ⟨_, p, q, rfl, P1⟩
  · exact absurd h1 (notnil true)
  rcases p2 with ⟨h1, _⟩ | ⟨_, p', q', rfl, P2⟩
  · exact absurd h1 (notnil false)
  rw [rows] at P1 P2
  have lap1 := lap_rnd (s := true) (rows := [ls]) hL allne
  have lap2 := lap_rnd (s := false) (rows := [ls]) hL allne
  have q1 := P1.places hL allne List.mem_cons_self places
  have q2 := P2.places hL allne List.mem_cons_self places
  rw [plen] at q1 q2
  have le1 : ∀ x, rnd true L [ls] x ≤ evF s x := fun x => by
    have u2 := led_slow (lap_ev s L) hL ht (by rw [hside]; exact hne) x
    rw [hside] at u2
    exact u2
  have ge1 : ∀ x, evF s x ≤ rnd false L [ls] x := fun x => by
    have u2 := led_fast (lap_ev s L) hL ht (by rw [hside]; exact hne) x
    rw [hside] at u2
    exact u2
  refine ⟨_, _, rfl, rfl, ⟨by have := P1.pos; show (1 : Int) ≤ (q : Int); omega, by show (q : Int) ≤ (n : Int); omega, P1.low, ?_, ?_, by have := P2.pos; show (1 : Int) ≤ (q' : Int); omega, by show (q' : Int) ≤ (n : Int); omega, P2.low, ?_, ?_⟩⟩
  · obtain ⟨z, hz⟩ := P1.at_
    have := it_le_of (lap_ev s L) le1 q z
    rw [hz, it_ev] at this
    show p * L ≤ s * (q : Int)
    rw [Int.mul_comm s]
    omega
  · intro a b hb1 hb2 hab
    obtain ⟨k, rfl⟩ : ∃ k : Nat, b = (k : Int) := ⟨b.toNat, by omega⟩
    have e := run true k (by omega)
    refine P1.ge lap1 hL (b := k) (x := f) ?_
    rw [rnd_one, e]
    rw [Int.mul_comm s] at hab
    omega
  · obtain ⟨z, hz⟩ := P2.at_
    have := it_le_of lap2 ge1 q' z
    rw [hz, it_ev] at this
    show s * (q' : Int) ≤ p' * L
    rw [Int.mul_comm s]
    omega
  · intro a b hb1 hb2 hab
    obtain ⟨k, rfl⟩ : ∃ k : Nat, b = (k : Int) := ⟨b.toNat, by omega⟩
    have e := run false k (by omega)
    refine P2.le lap2 hL (b := k) (x := f) ?_
    rw [rnd_one, e]
    rw [Int.mul_comm s] at hab
    omega
/-- by the same fraction in lowest terms -/
theorem Nb.scale {t u t' u' n : Int} {l r : Int × Int} (h : Nb t u n l r) (hu : 0 < u) (hu' : 0 < u') (e : t * u' = t' * u) : Nb t' u' n l r := by
  have key : ∀ a b : Int, a * u ≤ t * b ↔ a * u' ≤ t' * b := by
    intro a b
    constructor
    · intro k
      have k1 := Int.mul_le_mul_of_nonneg_right k (Int.le_of_lt hu')
      have k2 : a * u' * u ≤ t' * b * u := by
        have e1 : a * u * u' = a * u' * u := by rw [Int.mul_assoc, Int.mul_comm u, ← Int.mul_assoc]
        have e2 : t * b * u' = t' * b * u := by rw [Int.mul_assoc, Int.mul_comm b, ← Int.mul_assoc, e, Int.mul_assoc, Int.mul_comm u, ← Int.mul_assoc]
        omega
      exact Int.le_of_mul_le_mul_right k2 hu
    · intro k
      have k1 := Int.mul_le_mul_of_nonneg_right k (Int.le_of_lt hu)
      have k2 : a * u * u' ≤ t * b * u' := by
        have e1 : a * u * u' = a * u' * u := by rw [Int.mul_assoc, Int.mul_comm u, ← Int.mul_assoc]
        have e2 : t * b * u' = t' * b * u := by rw [Int.mul_assoc, Int.mul_comm b, ← Int.mul_assoc, e, Int.mul_assoc, Int.mul_comm u, ← Int.mul_assoc]
        omega
      exact Int.le_of_mul_le_mul_right k2 hu'
  have key2 : ∀ a b : Int, t * b ≤ a * u ↔ t' * b ≤ a * u' := by
    intro a b
    constructor
    · intro k
      have k1 := Int.mul_le_mul_of_nonneg_right k (Int.le_of_lt hu')
      have k2 : t' * b * u ≤ a * u' * u := by
        have e1 : a * u * u' = a * u' * u := by rw [Int.mul_assoc, Int.mul_comm u, ← Int.mul_assoc]
        have e2 : t * b * u' = t' * b * u := by rw [Int.mul_assoc, Int.mul_comm b, ← Int.mul_assoc, e, Int.mul_assoc, Int.mul_comm u, ← Int.mul_assoc]
        omega
      exact Int.le_of_mul_le_mul_right k2 hu
    · intro k
      have k1 := Int.mul_le_mul_of_nonneg_right k (Int.le_of_lt hu)
      have k2 : t * b * u' ≤ a * u * u' := by
        have e1 : a * u * u' = a * u' * u := by rw [Int.mul_assoc, Int.mul_comm u, ← Int.mul_assoc]
        have e2 : t * b * u' = t' * b * u := by rw [Int.mul_assoc, Int.mul_comm b, ← Int.mul_assoc, e, Int.mul_assoc, Int.mul_comm u, ← Int.mul_assoc]
        omega
      exact Int.le_of_mul_le_mul_right k2 hu'
  exact ⟨h.l1, h.l2, h.lg, (key _ _).mp h.le, fun p q a b c => h.lt p q a b ((key _ _).mpr c), h.r1, h.r2, h.rg, (key2 _ _).mp h.ge, fun p q a b c => h.rt p q a b ((key2 _ _).mpr c)⟩
end Dk
namespace Dk
theorem mul_nn {a b : Int} (ha : 0 ≤ a) (hb : 1 ≤ b) : a ≤ a * b := by
  have := Int.mul_le_mul_of_nonneg_left hb ha
  rw [Int.mul_one] at this
  exact this
theorem nb_abs {t u n : Int} {l r : Int × Int} (h : Nb t u n l r) (hu : 0 < u) (hn : 1 ≤ n) : l.1.natAbs ≤ t.natAbs * n.natAbs ∧ r.1.natAbs ≤ t.natAbs * n.natAbs := by
  have key : ∀ (x k : Int), 1 ≤ k → k ≤ n → -(t.natAbs : Int) * k ≤ x → x ≤ (t.natAbs : Int) * k → x.natAbs ≤ t.natAbs * n.natAbs := by
    intro x k k1 k2 x1 x2
    have e : (t.natAbs : Int) * k ≤ (t.natAbs : Int) * n := Int.mul_le_mul_of_nonneg_left k2 (by omega)
    have e2 : ((t.natAbs * n.natAbs : Nat) : Int) = (t.natAbs : Int) * n := by rw [Int.natCast_mul]; congr 1; omega
    rw [Int.neg_mul] at x1
    have : (x.natAbs : Int) ≤ ((t.natAbs * n.natAbs : Nat) : Int) := by rw [e2]; omega
    exact Int.ofNat_le.mp this
  have a1 := h.l1
  have b1 := h.r1
  have t1 : t ≤ (t.natAbs : Int) := by omega
  have t2 : -(t.natAbs : Int) ≤ t := by omega
  constructor
  · have e1 := h.lt (t / u) 1 (Int.le_refl _) hn (by rw [Int.mul_one]; exact Int.ediv_mul_le _ (by omega))
    rw [Int.mul_one] at e1
    have e2 := ediv_abs (a := t) hu
    have e3 : -(t.natAbs : Int) ≤ t / u := by omega
    have e4 := Int.mul_le_mul_of_nonneg_right e3 (show 0 ≤ l.2 by omega)
    refine key l.1 l.2 a1 h.l2 (by omega) ?_
    have e5 := Int.mul_le_mul_of_nonneg_right t1 (show 0 ≤ l.2 by omega)
    have e6 := h.le
    rcases Int.lt_or_le l.1 0 with c | c
    · have := Int.mul_nonneg (show (0 : Int) ≤ (t.natAbs : Int) by omega) (show 0 ≤ l.2 by omega)
      omega
    · have := mul_nn c hu
      omega
  · have hc : t ≤ -(-t / u) * u := by
      have := Int.ediv_mul_le (-t) (show u ≠ 0 by omega)
      rw [Int.neg_mul]
      omega
    have e1 := h.rt (-(-t / u)) 1 (Int.le_refl _) hn (by rw [Int.mul_one]; exact hc)
    rw [Int.mul_one] at e1
    have e2 := ediv_abs (a := -t) hu
    have e3 : -(-t / u) ≤ (t.natAbs : Int) := by omega
    have e4 := Int.mul_le_mul_of_nonneg_right e3 (show 0 ≤ r.2 by omega)
    refine key r.1 r.2 b1 h.r2 ?_ (by omega)
    have e5 := Int.mul_le_mul_of_nonneg_right t2 (show 0 ≤ r.2 by omega)
    have e6 := h.ge
    rcases Int.lt_or_le r.1 0 with c | c
    · have := mul_nn (show 0 ≤ -r.1 by omega) hu
      rw [Int.neg_mul] at this
      omega
    · have := Int.mul_nonneg (show (0 : Int) ≤ (t.natAbs : Int) by omega) (show 0 ≤ r.2 by omega)
      rw [Int.neg_mul]
      omega
end Dk
namespace Dk
/-! ### going through bottoms: what was done, the greatest not above, the least not below -/
structure LoI (t u : Int) (done : Int → Int → Prop) (M : Int) (o : Option (Int × Int)) : Prop where
  top : ∀ a k, done a k → a * u ≤ t * k → ∃ l, o = some l ∧ a * l.2 ≤ l.1 * k
  ok : ∀ l, o = some l → 1 ≤ l.2 ∧ l.2 ≤ M ∧ Int.gcd l.1 l.2 = 1 ∧ l.1 * u ≤ t * l.2 ∧ l.1.natAbs < 2 ^ 1500
structure HiI (t u : Int) (done : Int → Int → Prop) (M : Int) (o : Option (Int × Int)) : Prop where
  top : ∀ a k, done a k → t * k ≤ a * u → ∃ l, o = some l ∧ l.1 * k ≤ a * l.2
  ok : ∀ l, o = some l → 1 ≤ l.2 ∧ l.2 ≤ M ∧ Int.gcd l.1 l.2 = 1 ∧ t * l.2 ≤ l.1 * u ∧ l.1.natAbs < 2 ^ 1500
theorem cand {a k : Int} (hk : 0 < k) : (low2 a k).1 * k = a * (low2 a k).2 := low2_cross a k
theorem mul_swap {a b c : Int} : a * b * c = a * c * b := by rw [Int.mul_assoc, Int.mul_comm b, ← Int.mul_assoc]
/-- a fraction is as the one in lowest terms -/
theorem cand_le {a k t u : Int} (hk : 0 < k) : a * u ≤ t * k ↔ (low2 a k).1 * u ≤ t * (low2 a k).2 := by
  have e := cand (a := a) hk
  have p := (low2_pos (i := a) hk).1
  constructor
  · intro h
    have h1 := Int.mul_le_mul_of_nonneg_right h (show 0 ≤ (low2 a k).2 by omega)
    have h2 : (low2 a k).1 * u * k ≤ t * (low2 a k).2 * k := by
      rw [mul_swap, e, mul_swap (a := t)]
      rw [mul_swap] at h1
      exact h1
    exact Int.le_of_mul_le_mul_right h2 hk
  · intro h
    have h1 := Int.mul_le_mul_of_nonneg_right h (Int.le_of_lt hk)
    have h2 : a * u * (low2 a k).2 ≤ t * k * (low2 a k).2 := by
      rw [mul_swap (a := a), ← e, mul_swap (a := t)]
      rw [mul_swap] at h1
      exact h1
    exact Int.le_of_mul_le_mul_right h2 (by omega)
theorem cand_ge {a k t u : Int} (hk : 0 < k) : t * k ≤ a * u ↔ t * (low2 a k).2 ≤ (low2 a k).1 * u := by
  have e := cand (a := a) hk
  have p := (low2_pos (i := a) hk).1
  constructor
  · intro h
    have h1 := Int.mul_le_mul_of_nonneg_right h (show 0 ≤ (low2 a k).2 by omega)
    have h2 : t * (low2 a k).2 * k ≤ (low2 a k).1 * u * k := by
      rw [mul_swap (a := t), mul_swap (a := (low2 a k).1), e, mul_swap (a := a)]
      exact h1
    exact Int.le_of_mul_le_mul_right h2 hk
  · intro h
    have h1 := Int.mul_le_mul_of_nonneg_right h (Int.le_of_lt hk)
    have h2 : t * k * (low2 a k).2 ≤ a * u * (low2 a k).2 := by
      rw [mul_swap (a := a), ← e, mul_swap (a := t), mul_swap (a := (low2 a k).1)]
      exact h1
    exact Int.le_of_mul_le_mul_right h2 (by omega)
theorem LoI.mono {t u : Int} {d d' : Int → Int → Prop} {M M' : Int} {o : Option (Int × Int)} (h : LoI t u d M o) (hm : M ≤ M') (hd : ∀ a k, d' a k → d a k) : LoI t u d' M' o :=
  ⟨fun a k x y => h.top a k (hd a k x) y, fun l e => by obtain ⟨h1, h2, h3, h4, h5⟩ := h.ok l e; exact ⟨h1, by omega, h3, h4, h5⟩⟩
theorem HiI.mono {t u : Int} {d d' : Int → Int → Prop} {M M' : Int} {o : Option (Int × Int)} (h : HiI t u d M o) (hm : M ≤ M') (hd : ∀ a k, d' a k → d a k) : HiI t u d' M' o :=
  ⟨fun a k x y => h.top a k (hd a k x) y, fun l e => by obtain ⟨h1, h2, h3, h4, h5⟩ := h.ok l e; exact ⟨h1, by omega, h3, h4, h5⟩⟩
/-- taken -/
theorem LoI.take {t u M a k : Int} {d : Int → Int → Prop} {o : Option (Int × Int)} (h : LoI t u d M o) (hk : 0 < k) (hM : k ≤ M) (ha : a.natAbs < 2 ^ 1500) (hle : a * u ≤ t * k) (hb : ∀ l, o = some l → l.1 * (low2 a k).2 < (low2 a k).1 * l.2) :
    LoI t u (fun b j => d b j ∧ 0 < j ∨ (b = a ∧ j = k)) M (some (low2 a k)) := by
  have p := low2_pos (i := a) hk
  refine ⟨fun b j hd hbj => ⟨_, rfl, ?_⟩, fun l e => ?_⟩
  · rcases hd with ⟨hd, hj⟩ | ⟨rfl, rfl⟩
    · obtain ⟨l, e, hl⟩ := h.top b j hd hbj
      have l1 := (h.ok l e).1
      have := frac_trans (a := l.1) (b := l.2) (c := (low2 a k).1) (d := (low2 a k).2) (e := b) (f := j) (by omega) (by omega) hj hl (Int.le_of_lt (hb l e))
      exact this
    · rw [cand hk]; exact Int.le_refl _
  · cases e
    exact ⟨p.1, by omega, low2_gcd hk, (cand_le hk).mp hle, Nat.lt_of_le_of_lt (low2_abs hk) ha⟩
/-- left -/
theorem LoI.keep {t u M a k : Int} {d : Int → Int → Prop} {o : Option (Int × Int)} (h : LoI t u d M o) (hk : 0 < k) (hb : a * u ≤ t * k → ∃ l, o = some l ∧ ¬ l.1 * (low2 a k).2 < (low2 a k).1 * l.2) :
    LoI t u (fun b j => d b j ∧ 0 < j ∨ (b = a ∧ j = k)) M o := by
  have p := low2_pos (i := a) hk
  refine ⟨fun b j hd hbj => ?_, h.ok⟩
  rcases hd with ⟨hd, hj⟩ | ⟨rfl, rfl⟩
  · exact h.top b j hd hbj
  · obtain ⟨l, e, hl⟩ := hb hbj
    refine ⟨l, e, ?_⟩
    have l1 := (h.ok l e).1
    exact frac_trans (a := (low2 b j).1) (b := (low2 b j).2) (c := l.1) (d := l.2) (e := b) (f := j) (by omega) (by omega) hk (by rw [cand hk]; exact Int.le_refl _) (by omega)
theorem HiI.take {t u M a k : Int} {d : Int → Int → Prop} {o : Option (Int × Int)} (h : HiI t u d M o) (hk : 0 < k) (hM : k ≤ M) (ha : a.natAbs < 2 ^ 1500) (hle : t * k ≤ a * u) (hb : ∀ l, o = some l → (low2 a k).1 * l.2 < l.1 * (low2 a k).2) :
    HiI t u (fun b j => d b j ∧ 0 < j ∨ (b = a ∧ j = k)) M (some (low2 a k)) := by
  have p := low2_pos (i := a) hk
  refine ⟨fun b j hd hbj => ⟨_, rfl, ?_⟩, fun l e => ?_⟩
  · rcases hd with ⟨hd, hj⟩ | ⟨rfl, rfl⟩
    · obtain ⟨l, e, hl⟩ := h.top b j hd hbj
      have l1 := (h.ok l e).1
      exact frac_trans (a := l.1) (b := l.2) (c := b) (d := j) (e := (low2 a k).1) (f := (low2 a k).2) (by omega) hj (by omega) (Int.le_of_lt (hb l e)) hl
    · rw [cand hk]; exact Int.le_refl _
  · cases e
    exact ⟨p.1, by omega, low2_gcd hk, (cand_ge hk).mp hle, Nat.lt_of_le_of_lt (low2_abs hk) ha⟩
theorem HiI.keep {t u M a k : Int} {d : Int → Int → Prop} {o : Option (Int × Int)} (h : HiI t u d M o) (hk : 0 < k) (hb : t * k ≤ a * u → ∃ l, o = some l ∧ ¬ (low2 a k).1 * l.2 < l.1 * (low2 a k).2) :
    HiI t u (fun b j => d b j ∧ 0 < j ∨ (b = a ∧ j = k)) M o := by
  have p := low2_pos (i := a) hk
  refine ⟨fun b j hd hbj => ?_, h.ok⟩
  rcases hd with ⟨hd, hj⟩ | ⟨rfl, rfl⟩
  · exact h.top b j hd hbj
  · obtain ⟨l, e, hl⟩ := hb hbj
    refine ⟨l, e, ?_⟩
    have l1 := (h.ok l e).1
    exact frac_trans (a := (low2 b j).1) (b := (low2 b j).2) (c := b) (d := j) (e := l.1) (f := l.2) (by omega) hk (by omega) (by omega) (by rw [cand hk]; exact Int.le_refl _)
/-- all bottoms done -/
theorem nb_all {t u n : Int} {o o' : Option (Int × Int)} (hu : 0 < u) (hn : 1 ≤ n) (h : LoI t u (fun a k => 1 ≤ k ∧ k ≤ n ∧ (a = t * k / u ∨ a = t * k / u + 1)) n o) (h' : HiI t u (fun a k => 1 ≤ k ∧ k ≤ n ∧ (a = t * k / u ∨ a = t * k / u + 1)) n o') :
    ∃ l r, o = some l ∧ o' = some r ∧ Nb t u n l r := by
  have fl : ∀ k : Int, t * k / u * u ≤ t * k := fun k => Int.ediv_mul_le _ (by omega)
  have cl : ∀ k : Int, t * k < (t * k / u + 1) * u := fun k => Int.lt_ediv_add_one_mul_self _ hu
  obtain ⟨l, e, _⟩ := h.top _ 1 ⟨Int.le_refl _, hn, .inl rfl⟩ (fl 1)
  obtain ⟨r, e', _⟩ := h'.top _ 1 ⟨Int.le_refl _, hn, .inr rfl⟩ (Int.le_of_lt (cl 1))
  subst e e'
  obtain ⟨a1, a2, a3, a4, _⟩ := h.ok l rfl
  obtain ⟨b1, b2, b3, b4, _⟩ := h'.ok r rfl
  refine ⟨l, r, rfl, rfl, ⟨a1, a2, a3, a4, fun p q q1 q2 hp => ?_, b1, b2, b3, b4, fun p q q1 q2 hp => ?_⟩⟩
  · obtain ⟨l', e, hl⟩ := h.top (t * q / u) q ⟨q1, q2, .inl rfl⟩ (fl q)
    cases e
    have hle : p ≤ t * q / u := (Int.le_ediv_iff_mul_le hu).mpr hp
    have := Int.mul_le_mul_of_nonneg_right hle (show 0 ≤ l.2 by omega)
    omega
  · by_cases hx : t * q ≤ t * q / u * u
    · obtain ⟨r', e, hr⟩ := h'.top (t * q / u) q ⟨q1, q2, .inl rfl⟩ hx
      cases e
      have h1 := fl q
      have hle : t * q / u ≤ p := by
        have : t * q / u * u ≤ p * u := by omega
        exact Int.le_of_mul_le_mul_right this hu
      have := Int.mul_le_mul_of_nonneg_right hle (show 0 ≤ r.2 by omega)
      omega
    · obtain ⟨r', e, hr⟩ := h'.top (t * q / u + 1) q ⟨q1, q2, .inr rfl⟩ (Int.le_of_lt (cl q))
      cases e
      have hle : t * q / u + 1 ≤ p := by
        have : t * q / u * u < p * u := by omega
        have := Int.lt_of_mul_lt_mul_right this (Int.le_of_lt hu)
        omega
      have := Int.mul_le_mul_of_nonneg_right hle (show 0 ≤ r.2 by omega)
      omega
end Dk
namespace Dk
theorem ledv_near {s : Bool} {L : Int} {l : Look} {x : Int} (hL : 0 < L) : (ledv s L l x - x).natAbs ≤ l.2.1.natAbs + l.2.2.natAbs + L.natAbs := by
  unfold ledv tb
  cases s with
  | true =>
    show (l.2.2 + (x - l.2.1) / L * L - x).natAbs ≤ _
    have h1 := Int.mul_ediv_add_emod (x - l.2.1) L
    have h2 := Int.emod_lt_of_pos (x - l.2.1) hL
    have h3 := Int.emod_nonneg (x - l.2.1) (show L ≠ 0 by omega)
    rw [Int.mul_comm] at h1
    omega
  | false =>
    show (l.2.2 + -(-(x - l.2.1) / L) * L - x).natAbs ≤ _
    have h1 := Int.mul_ediv_add_emod (-(x - l.2.1)) L
    have h2 := Int.emod_lt_of_pos (-(x - l.2.1)) hL
    have h3 := Int.emod_nonneg (-(x - l.2.1)) (show L ≠ 0 by omega)
    rw [Int.mul_comm] at h1
    rw [Int.neg_mul]
    omega
theorem rnd_near {s : Bool} {L : Int} {B : Nat} (hL : 0 < L) : ∀ {rows : List (List Look)}, (∀ ls ∈ rows, ls ≠ []) → (∀ ls ∈ rows, ∀ l ∈ ls, l.2.1.natAbs + l.2.2.natAbs + L.natAbs ≤ B) → ∀ x, (rnd s L rows x - x).natAbs ≤ rows.length * B
  | [], _, _, x => by simp [rnd]
  | ls :: rows, hr, hb, x => by
    have ih := rnd_near (s := s) hL (rows := rows) (fun r h => hr r (List.mem_cons_of_mem _ h)) (fun r h => hb r (List.mem_cons_of_mem _ h)) (ledS s L ls x)
    obtain ⟨l, hl, e⟩ := ledS_mem (s := s) (L := L) (hr ls List.mem_cons_self) x
    have h1 := ledv_near (s := s) (l := l) (x := x) hL
    have h2 := hb ls List.mem_cons_self l hl
    rw [e] at h1
    show (rnd s L rows (ledS s L ls x) - x).natAbs ≤ (rows.length + 1) * B
    rw [Nat.succ_mul]
    omega
theorem it_near {F : Int → Int} {C : Nat} (h : ∀ x, (F x - x).natAbs ≤ C) : ∀ n x, (it F n x - x).natAbs ≤ n * C
  | 0, x => by simp [it]
  | n + 1, x => by
    have ih := it_near h n x
    have h1 := h (it F n x)
    show (F (it F n x) - x).natAbs ≤ (n + 1) * C
    rw [Nat.succ_mul]
    omega
theorem IsPace.abs {F : Int → Int} {L p : Int} {q C : Nat} (hL : 0 < L) (P : IsPace F L p q) (h : ∀ x, (F x - x).natAbs ≤ C) : p.natAbs ≤ q * C := by
  obtain ⟨z, hz⟩ := P.at_
  have h1 := it_near h q z
  rw [hz] at h1
  have e : z + p * L - z = p * L := by omega
  rw [e, Int.natAbs_mul] at h1
  have : p.natAbs * 1 ≤ p.natAbs * L.natAbs := Nat.mul_le_mul_left _ (by omega)
  omega
theorem homeL_x {L : Int} {l : Look} : (homeL L l).2.1 = l.2.1 % L := by
  show l.2.1 - l.2.1 / L * L = l.2.1 % L
  rw [Int.emod_def, Int.mul_comm]
/-- what true looks at an even hand tell -/
theorem even_slow {L s : Int} {ls : List Look} {ps : List Int} {ro : Option (Int × Int)} {B : Nat} (hL : 0 < L) (ht : ∀ l ∈ ls, TrueL (evF s) l) (hp : ∀ l ∈ ls, l.2.1 ∈ ps) (hb : ∀ l ∈ ls, l.2.1.natAbs + l.2.2.natAbs + L.natAbs ≤ B) (P : PaceIs true L [ls] ro) :
    ro = none ∨ ∃ p q : Int, ro = some (p, q) ∧ 1 ≤ q ∧ q ≤ ps.length ∧ Int.gcd p q = 1 ∧ p * L ≤ s * q ∧ p.natAbs ≤ ps.length * B := by
  rcases P with ⟨_, e⟩ | ⟨h1, p, q, rfl, P⟩
  · exact .inl e
  have hn : sideOf true ls ≠ [] := h1 _ List.mem_cons_self
  have hne : ∀ r ∈ rowsOf true [ls], r ≠ [] := h1
  have hq := P.places hL hne (ls := sideOf true ls) List.mem_cons_self (ps := ps) fun l hl => hp l (List.mem_filter.mp hl).1
  refine .inr ⟨p, q, rfl, by have := P.pos; omega, by omega, P.low, ?_, ?_⟩
  · obtain ⟨z, hz⟩ := P.at_
    have le1 : ∀ x, rnd true L (rowsOf true [ls]) x ≤ evF s x := fun x => led_slow (lap_ev s L) hL ht hn x
    have := it_le_of (lap_ev s L) le1 q z
    rw [hz, it_ev] at this
    rw [Int.mul_comm s]
    omega
  · have h2 := P.abs hL (C := B) fun x => by
      have := rnd_near (s := true) hL (B := B) hne (fun r hr l hl => by
        rw [List.mem_singleton.mp hr] at hl
        exact hb l (List.mem_filter.mp hl).1) x
      have e : (rowsOf true [ls]).length = 1 := rfl
      rw [e, Nat.one_mul] at this
      exact this
    exact Nat.le_trans h2 (Nat.mul_le_mul_right _ hq)
theorem even_fast {L s : Int} {ls : List Look} {ps : List Int} {ro : Option (Int × Int)} {B : Nat} (hL : 0 < L) (ht : ∀ l ∈ ls, TrueL (evF s) l) (hp : ∀ l ∈ ls, l.2.1 ∈ ps) (hb : ∀ l ∈ ls, l.2.1.natAbs + l.2.2.natAbs + L.natAbs ≤ B) (P : PaceIs false L [ls] ro) :
    ro = none ∨ ∃ p q : Int, ro = some (p, q) ∧ 1 ≤ q ∧ q ≤ ps.length ∧ Int.gcd p q = 1 ∧ s * q ≤ p * L ∧ p.natAbs ≤ ps.length * B := by
  rcases P with ⟨_, e⟩ | ⟨h1, p, q, rfl, P⟩
  · exact .inl e
  have hn : sideOf false ls ≠ [] := h1 _ List.mem_cons_self
  have hne : ∀ r ∈ rowsOf false [ls], r ≠ [] := h1
  have hq := P.places hL hne (ls := sideOf false ls) List.mem_cons_self (ps := ps) fun l hl => hp l (List.mem_filter.mp hl).1
  refine .inr ⟨p, q, rfl, by have := P.pos; omega, by omega, P.low, ?_, ?_⟩
  · obtain ⟨z, hz⟩ := P.at_
    have lap := lap_rnd (s := false) hL hne
    have ge1 : ∀ x, evF s x ≤ rnd false L (rowsOf false [ls]) x := fun x => led_fast (lap_ev s L) hL ht hn x
    have := it_le_of lap ge1 q z
    rw [hz, it_ev] at this
    rw [Int.mul_comm s]
    omega
  · have h2 := P.abs hL (C := B) fun x => by
      have := rnd_near (s := false) hL (B := B) hne (fun r hr l hl => by
        rw [List.mem_singleton.mp hr] at hl
        exact hb l (List.mem_filter.mp hl).1) x
      have e : (rowsOf false [ls]).length = 1 := rfl
      rw [e, Nat.one_mul] at this
      exact this
    exact Nat.le_trans h2 (Nat.mul_le_mul_right _ hq)
end Dk
namespace Dk
open PySem PySem.Spec L2
def top (i : Nat) : Stmt := PySem.Challenge.pw_darkpace_k44_whole_no_looks_tell_more.main.body.getD i (.Pass ⟨0, 0, 0, 0⟩)
abbrev s_NoLength___init__ : Stmt := inClass (top 3) 0
abbrev s_NoWord___init__ : Stmt := inClass (top 4) 0
abbrev s_Clash___init__ : Stmt := inClass (top 5) 0
abbrev s_NoRound___init__ : Stmt := inClass (top 6) 0
abbrev s_low : Stmt := top 8
abbrev s_high : Stmt := top 9
abbrev s_need_round : Stmt := top 11
abbrev s_looks_by : Stmt := top 15
abbrev s_turns_between : Stmt := top 16
abbrev s_led_by : Stmt := top 17
abbrev s_gone_round : Stmt := top 18
abbrev s_paces : Stmt := top 19
abbrev s_need_length : Stmt := top 25
abbrev s_need_word : Stmt := top 26
abbrev s_not_short : Stmt := top 27
abbrev s_not_beyond : Stmt := top 28
abbrev s_Dark___init__ : Stmt := inClass (top 29) 0
abbrev s_Dark___eq__ : Stmt := inClass (top 29) 1
abbrev s_Dark_length : Stmt := inClass (top 29) 2
abbrev s_Dark_looks : Stmt := inClass (top 29) 3
abbrev s_Dark_home : Stmt := inClass (top 29) 4
abbrev s_Dark_is_apart : Stmt := inClass (top 29) 5
abbrev s_Dark_first_apart : Stmt := inClass (top 29) 6
abbrev s_Dark_hear : Stmt := inClass (top 29) 7
abbrev s_Dark_drop : Stmt := inClass (top 29) 8
abbrev s_Dark_least : Stmt := inClass (top 29) 9
abbrev s_Dark_greatest : Stmt := inClass (top 29) 10
abbrev s_Dark_may : Stmt := inClass (top 29) 11
abbrev s_Dark_led_back : Stmt := inClass (top 29) 12
abbrev s_Dark_sure : Stmt := inClass (top 29) 13
abbrev s__law_bag : Stmt := top 31
abbrev s__law_draw : Stmt := top 32
abbrev s__law_divisor : Stmt := top 33
abbrev s__law_lowest : Stmt := top 34
abbrev s__law_below : Stmt := top 35
abbrev s__law_sides : Stmt := top 36
abbrev s__law_looks : Stmt := top 37
abbrev s_law : Stmt := top 38
structure Txt (w : World) (K : PySem.W.Frag) (mg : Str → Option Value) : Prop where
  d_low : ∃ fd, FunD K "low" "low" (defArgs s_low) (defBody s_low) (defScope s_low) [] [] (He.fAd K ("low", none)) fd
  g_low : mg "low" = some (.ref (He.ga K "low"))
  d_high : ∃ fd, FunD K "high" "high" (defArgs s_high) (defBody s_high) (defScope s_high) [] [] (He.fAd K ("high", none)) fd
  g_high : mg "high" = some (.ref (He.ga K "high"))
  d_need_round : ∃ fd, FunD K "need_round" "need_round" (defArgs s_need_round) (defBody s_need_round) (defScope s_need_round) [] [] (He.fAd K ("need_round", none)) fd
  g_need_round : mg "need_round" = some (.ref (He.ga K "need_round"))
  d_looks_by : ∃ fd, FunD K "looks_by" "looks_by" (defArgs s_looks_by) (defBody s_looks_by) (defScope s_looks_by) [] [] (He.fAd K ("looks_by", none)) fd
  g_looks_by : mg "looks_by" = some (.ref (He.ga K "looks_by"))
  d_turns_between : ∃ fd, FunD K "turns_between" "turns_between" (defArgs s_turns_between) (defBody s_turns_between) (defScope s_turns_between) [] [] (He.fAd K ("turns_between", none)) fd
  g_turns_between : mg "turns_between" = some (.ref (He.ga K "turns_between"))
  d_led_by : ∃ fd, FunD K "led_by" "led_by" (defArgs s_led_by) (defBody s_led_by) (defScope s_led_by) [] [] (He.fAd K ("led_by", none)) fd
  g_led_by : mg "led_by" = some (.ref (He.ga K "led_by"))
  d_gone_round : ∃ fd, FunD K "gone_round" "gone_round" (defArgs s_gone_round) (defBody s_gone_round) (defScope s_gone_round) [] [] (He.fAd K ("gone_round", none)) fd
  g_gone_round : mg "gone_round" = some (.ref (He.ga K "gone_round"))
  d_paces : ∃ fd, FunD K "paces" "paces" (defArgs s_paces) (defBody s_paces) (defScope s_paces) [] [] (He.fAd K ("paces", none)) fd
  g_paces : mg "paces" = some (.ref (He.ga K "paces"))
  d_need_length : ∃ fd, FunD K "need_length" "need_length" (defArgs s_need_length) (defBody s_need_length) (defScope s_need_length) [] [] (He.fAd K ("need_length", none)) fd
  g_need_length : mg "need_length" = some (.ref (He.ga K "need_length"))
  d_need_word : ∃ fd, FunD K "need_word" "need_word" (defArgs s_need_word) (defBody s_need_word) (defScope s_need_word) [] [] (He.fAd K ("need_word", none)) fd
  g_need_word : mg "need_word" = some (.ref (He.ga K "need_word"))
  d_not_short : ∃ fd, FunD K "not_short" "not_short" (defArgs s_not_short) (defBody s_not_short) (defScope s_not_short) [] [] (He.fAd K ("not_short", none)) fd
  g_not_short : mg "not_short" = some (.ref (He.ga K "not_short"))
  d_not_beyond : ∃ fd, FunD K "not_beyond" "not_beyond" (defArgs s_not_beyond) (defBody s_not_beyond) (defScope s_not_beyond) [] [] (He.fAd K ("not_beyond", none)) fd
  g_not_beyond : mg "not_beyond" = some (.ref (He.ga K "not_beyond"))
  d_Dark___init__ : ∃ fd, FunD K "__init__" "Dark.__init__" (defArgs s_Dark___init__) (defBody s_Dark___init__) (defScope s_Dark___init__) [] [] (He.fAd K ("Dark", some "__init__")) fd
  d_Dark___eq__ : ∃ fd, FunD K "__eq__" "Dark.__eq__" (defArgs s_Dark___eq__) (defBody s_Dark___eq__) (defScope s_Dark___eq__) [] [] (He.fAd K ("Dark", some "__eq__")) fd
  d_Dark_length : ∃ fd, FunD K "length" "Dark.length" (defArgs s_Dark_length) (defBody s_Dark_length) (defScope s_Dark_length) [] [] (He.fAd K ("Dark", some "length")) fd
  d_Dark_looks : ∃ fd, FunD K "looks" "Dark.looks" (defArgs s_Dark_looks) (defBody s_Dark_looks) (defScope s_Dark_looks) [] [] (He.fAd K ("Dark", some "looks")) fd
  d_Dark_home : ∃ fd, FunD K "home" "Dark.home" (defArgs s_Dark_home) (defBody s_Dark_home) (defScope s_Dark_home) [] [] (He.fAd K ("Dark", some "home")) fd
  d_Dark_is_apart : ∃ fd, FunD K "is_apart" "Dark.is_apart" (defArgs s_Dark_is_apart) (defBody s_Dark_is_apart) (defScope s_Dark_is_apart) [] [] (He.fAd K ("Dark", some "is_apart")) fd
  d_Dark_first_apart : ∃ fd, FunD K "first_apart" "Dark.first_apart" (defArgs s_Dark_first_apart) (defBody s_Dark_first_apart) (defScope s_Dark_first_apart) [] [] (He.fAd K ("Dark", some "first_apart")) fd
  d_Dark_hear : ∃ fd, FunD K "hear" "Dark.hear" (defArgs s_Dark_hear) (defBody s_Dark_hear) (defScope s_Dark_hear) [] [] (He.fAd K ("Dark", some "hear")) fd
  d_Dark_least : ∃ fd, FunD K "least" "Dark.least" (defArgs s_Dark_least) (defBody s_Dark_least) (defScope s_Dark_least) [] [] (He.fAd K ("Dark", some "least")) fd
  d_Dark_greatest : ∃ fd, FunD K "greatest" "Dark.greatest" (defArgs s_Dark_greatest) (defBody s_Dark_greatest) (defScope s_Dark_greatest) [] [] (He.fAd K ("Dark", some "greatest")) fd
  d__law_bag : ∃ fd, FunD K "_law_bag" "_law_bag" (defArgs s__law_bag) (defBody s__law_bag) (defScope s__law_bag) [] [] (He.fAd K ("_law_bag", none)) fd
  g__law_bag : mg "_law_bag" = some (.ref (He.ga K "_law_bag"))
  d__law_draw : ∃ fd, FunD K "_law_draw" "_law_draw" (defArgs s__law_draw) (defBody s__law_draw) (defScope s__law_draw) [] [] (He.fAd K ("_law_draw", none)) fd
  g__law_draw : mg "_law_draw" = some (.ref (He.ga K "_law_draw"))
  d__law_divisor : ∃ fd, FunD K "_law_divisor" "_law_divisor" (defArgs s__law_divisor) (defBody s__law_divisor) (defScope s__law_divisor) [] [] (He.fAd K ("_law_divisor", none)) fd
  g__law_divisor : mg "_law_divisor" = some (.ref (He.ga K "_law_divisor"))
  d__law_lowest : ∃ fd, FunD K "_law_lowest" "_law_lowest" (defArgs s__law_lowest) (defBody s__law_lowest) (defScope s__law_lowest) [] [] (He.fAd K ("_law_lowest", none)) fd
  g__law_lowest : mg "_law_lowest" = some (.ref (He.ga K "_law_lowest"))
  d__law_below : ∃ fd, FunD K "_law_below" "_law_below" (defArgs s__law_below) (defBody s__law_below) (defScope s__law_below) [] [] (He.fAd K ("_law_below", none)) fd
  g__law_below : mg "_law_below" = some (.ref (He.ga K "_law_below"))
  d__law_sides : ∃ fd, FunD K "_law_sides" "_law_sides" (defArgs s__law_sides) (defBody s__law_sides) (defScope s__law_sides) [] [] (He.fAd K ("_law_sides", none)) fd
  g__law_sides : mg "_law_sides" = some (.ref (He.ga K "_law_sides"))
  d__law_looks : ∃ fd, FunD K "_law_looks" "_law_looks" (defArgs s__law_looks) (defBody s__law_looks) (defScope s__law_looks) [] [] (He.fAd K ("_law_looks", none)) fd
  g__law_looks : mg "_law_looks" = some (.ref (He.ga K "_law_looks"))
  d_law : ∃ fd, FunD K "law" "law" (defArgs s_law) (defBody s_law) (defScope s_law) [] [] (He.fAd K ("law", none)) fd
  g_law : mg "law" = some (.ref (He.ga K "law"))
  f_len : mg "len" = none
  f_abs : mg "abs" = none
  f_range : mg "range" = none
  f_min : mg "min" = none
  f_max : mg "max" = none
  f_isinstance : mg "isinstance" = none
  f_sorted : mg "sorted" = none
  f_list : mg "list" = none
  f_tuple : mg "tuple" = none
  f_set : mg "set" = none
  f_int : mg "int" = none
  f_enumerate : mg "enumerate" = none
  c_SLOW : ∃ t, mg "SLOW" = some (.str "slow" t)
  c_AT : ∃ t, mg "AT" = some (.str "at" t)
  c_FROM : ∃ t, mg "FROM" = some (.str "from" t)
  c_UPTO : ∃ t, mg "UPTO" = some (.str "upto" t)
  k_DialError : mg "DialError" = some (.ref (He.ga K "DialError"))
  k_NoLength : mg "NoLength" = some (.ref (He.ga K "NoLength"))
  k_NoWord : mg "NoWord" = some (.ref (He.ga K "NoWord"))
  k_Clash : mg "Clash" = some (.ref (He.ga K "Clash"))
  k_NoRound : mg "NoRound" = some (.ref (He.ga K "NoRound"))
  k_Dark : mg "Dark" = some (.ref (He.ga K "Dark"))
  x_NoLength : ExcT K mg "NoLength"
  x_Clash : ExcT K mg "Clash"
  o_WORDS_paces : mg "WORDS_paces" = some (.ref (He.ga K "WORDS_paces"))
  o_WORDS_darks : mg "WORDS_darks" = some (.ref (He.ga K "WORDS_darks"))
  t_WORDS_paces : KD K w (He.ga K "WORDS_paces") ["slow", "fast"]
  kc_Dark : Cls K (He.ga K "Dark")
  mk_Dark : Mk K (He.ga K "Dark") (He.ma K (He.ga K "Dark") "__init__")
  na_Dark_turn : NoAttr K (He.ga K "Dark") "turn"
  na_Dark_heard : NoAttr K (He.ga K "Dark") "heard"
  mt_Dark___eq__ : Meth K (He.ga K "Dark") "__eq__" (He.ma K (He.ga K "Dark") "__eq__")
  mt_Dark_length : Meth K (He.ga K "Dark") "length" (He.ma K (He.ga K "Dark") "length")
  mt_Dark_looks : Meth K (He.ga K "Dark") "looks" (He.ma K (He.ga K "Dark") "looks")
  mt_Dark_home : Meth K (He.ga K "Dark") "home" (He.ma K (He.ga K "Dark") "home")
  mt_Dark_is_apart : Meth K (He.ga K "Dark") "is_apart" (He.ma K (He.ga K "Dark") "is_apart")
  mt_Dark_first_apart : Meth K (He.ga K "Dark") "first_apart" (He.ma K (He.ga K "Dark") "first_apart")
  mt_Dark_hear : Meth K (He.ga K "Dark") "hear" (He.ma K (He.ga K "Dark") "hear")
  mt_Dark_least : Meth K (He.ga K "Dark") "least" (He.ma K (He.ga K "Dark") "least")
  mt_Dark_greatest : Meth K (He.ga K "Dark") "greatest" (He.ma K (He.ga K "Dark") "greatest")
  m_n_WORDS_paces_slow : PySem.W.nsIn K (He.ga K "WORDS_paces") "slow" = some (some (.ref (refAt K (He.ga K "WORDS_paces") "slow")))
  m_u_WORDS_paces_slow : tupK K (refAt K (He.ga K "WORDS_paces") "slow") [V.str "at", V.str "from"] = true
  m_n_WORDS_paces_fast : PySem.W.nsIn K (He.ga K "WORDS_paces") "fast" = some (some (.ref (refAt K (He.ga K "WORDS_paces") "fast")))
  m_u_WORDS_paces_fast : tupK K (refAt K (He.ga K "WORDS_paces") "fast") [V.str "at", V.str "upto"] = true
  m_u_WORDS_darks : tupK K (He.ga K "WORDS_darks") [V.str "at", V.str "from", V.str "upto"] = true
end Dk
namespace Dk
open PySem PySem.Spec L2
local macro_rules | `(tactic| walk_at "sq") => `(tactic| first | assumption | exact SqT.of (by assumption) | exact SqL.of (by assumption) | exact SqT.of upd_same | exact SqL.of upd_same | exact seqT (by assumption) (by assumption) | exact Same.seq (by assumption) (by assumption))
local macro_rules | `(tactic| walk_at "rd") => `(tactic| repeat (first | refine ⟨_, rfl, ?_⟩ | refine ⟨_, _, rfl, rfl, ?_⟩ | refine ⟨_, _, rfl, ?_⟩ | refine ⟨rfl, ?_⟩ | refine ⟨_, _, _, _, rfl, rfl, by walk_at "sq", by rfl, ?_⟩ | refine ⟨_, _, rfl, by walk_at "sq", rfl, ?_⟩ | refine ⟨_, _, rfl, Or.inl ⟨_, by walk_at "sq", rfl⟩, ?_⟩ | refine ⟨_, _, rfl, Or.inr ⟨_, by walk_at "sq", rfl⟩, ?_⟩ | refine ⟨Nat.le_of_ble_eq_true rfl, ?_⟩))

def Sm (i : Int) : Prop := i.natAbs < 2 ^ 4000
theorem Sm.mul {i j : Int} (a : Sm i) (b : Sm j) : CMulW i j := wide_mul a b (by decide) (by decide) (by decide)
theorem Sm.div {i j : Int} (h : 0 < j) (b : Sm j) : CDivW i j := wide_div h b (by decide) (by decide)
theorem Sm.of {i : Int} (h : i.natAbs < 2 ^ 3000) : Sm i := Nat.lt_trans h (Nat.pow_lt_pow_right (by decide) (by decide))
theorem Sm.le {i j : Int} (h : i.natAbs ≤ j.natAbs) (b : Sm j) : Sm i := Nat.lt_of_le_of_lt h b
theorem abs_if (i : Int) : (if i < 0 then -i else i) = (i.natAbs : Int) := by
  split <;> omega
theorem pow_sm {i : Int} {n : Nat} (h : i.natAbs < 2 ^ n) (hn : n ≤ 3000) : Sm i := Sm.of (Nat.lt_of_lt_of_le h (Nat.pow_le_pow_right (by decide) hn))

section
variable {P : Program} {w : World} {K : PySem.W.Frag} {mg : Str → Option Value} {base : Heap}
theorem Mx.sm {i : Int} (h : Mx i) : Sm i := Nat.lt_trans h (Nat.pow_lt_pow_right (by decide) (by decide))
theorem Md.sm {i : Int} (h : Md i) : Sm i := h.mx.sm
theorem Mx.sub {i j : Int} (h : Mx i) (k : Mx j) : Sm (i - j) := by
  have : (i - j).natAbs ≤ 2 ^ 2500 + 2 ^ 2500 := by
    unfold Mx at h k
    omega
  rw [← Nat.two_mul, ← Nat.pow_succ'] at this
  exact Nat.lt_of_le_of_lt this (Nat.pow_lt_pow_right (by decide) (by decide))
theorem div_sm {i j : Int} (hj : 0 < j) (h : Sm i) : Sm (i / j) := Nat.lt_of_le_of_lt (ediv_abs hj) h
theorem dpa_ints {K : PySem.W.Frag} {H : Hp} : ∀ ns : List Int, DpAll K H (ns.map V.int) (ns.map .int)
  | [] => .nil
  | n :: ns => .cons (.int n) (dpa_ints ns)
theorem ints_shaped : ∀ ns : List Int, SeqAt.shaped (.list (ns.map .int)) = true := fun ns => by
  have h1 : PyData.canLayAll0 (ns.map .int) = true := by
    induction ns with
    | nil => simp [PyData.canLayAll0]
    | cons n r ih => rw [List.map_cons]; simp only [PyData.canLayAll0, PyData.canLay0, ih, Bool.and_self]
  have h2 := PySem.W.depth_ints ns
  have e1 : (PyData.list (ns.map .int)).canLay0 = true := by simpa only [PyData.canLay0] using h1
  have e2 : (PyData.list (ns.map .int)).depth = PyData.depthAll (ns.map .int) + 1 := by rw [PyData.depth]
  unfold SeqAt.shaped
  rw [e1, e2, h2]
  rfl
def spLow (K : PySem.W.Frag) : Sp := Sp3 fun a b c H Q _ => ∃ (G : Hp) (L x : Int) (ps : List (Int × Int)), Same G H ∧ a = .int L ∧ Dp K G b (.list (ps.map dI2)) ∧ c = .int x ∧ 0 < L ∧ Md L ∧ Mx x ∧ (∀ p ∈ ps, Md p.1) ∧ ps.length ≤ 1000 ∧
  ∀ G' H', Go [] G H G' H' → Q (valO (lowO L x ps)) H'
theorem sc_low : FnScope ["length", "steps", "x", "found", "at", "y"] ["length", "steps", "x"] (defScope s_low) := ⟨rfl, rfl, rfl, by decide +kernel, rfl, by decide +kernel, by decide +kernel⟩
theorem D_low (T : Txt w K mg) : Ok P w K mg base CX0 1 "low" ["length", "steps", "x"] (spLow K) := by
  obtain ⟨fd, F⟩ := T.d_low
  refine ⟨fd, F.ok sc_low (fun _ _ _ _ h => by obtain ⟨_, _, _, rfl, _⟩ := sp3o h; rfl) (fun cdv A outer s H vs Q E hr h => ?_), T.g_low, F.kp, F.bindsN fun _ _ _ _ _ _ us hl => match us, hl with | [_, _, _], _ => rfl⟩
  replace h := sp3o h
  obtain ⟨v0, v1, v2, rfl, h⟩ := h
  refine ⟨_, PSs.nox (pss_cons (ps_setLc (own := [("at", 4), ("y", 5)]) (g := (gTup K 2 (gCons (gName 4) (gCons (gName 5) gNil)))) (tt := tYes) (i := 3) rfl sc_low.nd rfl rfl (sw_true rfl rfl rfl (by decide +kernel)) (pi_list (pv 1)) (blkOk_by (own := [("at", 4), ("y", 5)]) (N := ["length", "steps", "x", "found", "at", "y"]) (sc := defScope s_low) (by decide +kernel)) (fun _ _ _ _ _ => (pg_tup rfl (pgs_cons (pg_name (i := 4) sc_low.nd rfl (Or.inl rfl)) (pgs_cons (pg_name (i := 5) sc_low.nd rfl (Or.inl rfl)) pgs_nil)))) (fun _ _ _ _ _ => pts_nil) (fun _ _ _ _ _ => (pe_op op_add (pv 5) (pe_op op_mulW (pe_op op_fdivW (pe_op op_sub (pv 2) (pv 4)) (pv 0)) (pv 0)))))
  (pss_one (ps_ret (pe_ifExp (pt_cmpR (op_neD hr.units) (pv 3) (pe_lst pa_nil) (nomark _)) (pe_callB (cr_max rfl) (by rfl) T.f_max (by decide +kernel) (pa_cons (pv 3) pa_nil)) pe_non)))), ?_⟩
  obtain ⟨G, L, x, ps, gh, rfl, hb, rfl, hL, mL, mx, mp, hl, k⟩ := h
  obtain ⟨q, xs, rfl, hq, hd⟩ := dp_lst hb
  have hxl := dpa_len hd
  rw [List.length_map] at hxl
  walk_at "rd"
  refine ⟨⟨_, gh.seq hq⟩, ?_⟩
  intro D hD
  have hD0 := Dk.Same.fr gh hD
  refine lc_list (xs := xs) (fun i H1 => Go [] G H G H1 ∧ H1 D = some (.lst (((ps.take i).map fun p => p.2 + (x - p.1) / L * L).map V.int))) ⟨(Go.refl gh).tmp hD, upd_same⟩ (fun i H1 _ ⟨g, _⟩ => g.gh.seq hq) ?_ ?_
  · rintro i v H1 hi ⟨g, e⟩
    obtain ⟨d, hd1, hd2⟩ := dpa_at hd hi
    rw [List.getElem?_map] at hd1
    obtain ⟨p, hp, rfl⟩ := Option.map_eq_some_iff.mp hd1
    obtain ⟨a, rfl, ha⟩ := dp_i2 hd2
    have ha := seqT g.gh ha
    have hpm : p ∈ ps := List.mem_of_getElem? hp
    have hlt : i < ps.length := (List.getElem?_eq_some_iff.mp hp).1
    walk_at "rd"
    refine ⟨Sm.div hL mL.sm, ?_⟩
    walk_at "rd"
    refine ⟨Sm.mul (div_sm hL (Mx.sub mx (mp p hpm).mx)) mL.sm, ?_⟩
    walk_at "rd"
    refine ⟨_, e, slt (by rw [List.length_map, List.length_map, List.length_take]; omega), g.set hD0 (.inr hD), ?_⟩
    rw [upd_same, List.take_succ, hp, List.map_append, List.map_append]
    rfl
  · rintro H1 ⟨g, e⟩
    rw [hxl, List.take_length] at e
    walk_at "rd"
    intro D2 hD2
    have e2 : (upd H1 D2 (.lst [])) D = some (.lst ((ps.map fun p => p.2 + (x - p.1) / L * L).map V.int)) := by rw [upd_ne (ne_of_none e hD2)]; exact e
    refine ⟨.list ((ps.map fun p => p.2 + (x - p.1) / L * L).map .int), .list [], .lst (SqL.of e2) (dpa_ints _), .lst (SqL.of upd_same) .nil, ints_shaped _, rfl, ?_⟩
    unfold lowO at k
    generalize (ps.map fun p => p.2 + (x - p.1) / L * L) = ns at e e2 k
    walk_at "rd"
    cases ns with
    | nil =>
      refine ifb (fun z => absurd z (by simp [PyData.eqv, PyData.eqvAll])) (fun z => ?_)
      exact k _ _ (g.tmp hD2)
    | cons n ns =>
      refine ifb (fun z => ?_) (fun z => absurd z (by simp [PyData.eqv, PyData.eqvAll]))
      walk_at "rd"
      refine ⟨_, _, rfl, SqL.of e2, by simp, fun m hm hmx => ?_⟩
      have em : (n :: ns).max? = some m := List.max?_eq_some_iff.mpr ⟨hm, hmx⟩
      rw [em] at k
      exact k _ _ (g.tmp hD2)
def spNL (K : PySem.W.Frag) : Sp := Sp1 fun a H Q E => ∃ L : Int, a = .int L ∧ (L < 1 → ∀ d, H d = none → E (.ref (He.ga K "NoLength")) (some d) (upd H d (.xd [("what", .int L)]))) ∧ (1 ≤ L → Q .non H)
theorem sc_need_length : FnScope ["length"] ["length"] (defScope s_need_length) := ⟨rfl, rfl, rfl, by decide +kernel, rfl, by decide +kernel, by decide +kernel⟩
theorem D_need_length (T : Txt w K mg) : Ok P w K mg base (L2.CX P w) 3 "need_length" ["length"] (spNL K) := by
  obtain ⟨fd, F⟩ := T.d_need_length
  refine ⟨fd, F.ok sc_need_length (fun _ _ _ _ h => by obtain ⟨_, rfl, _⟩ := sp1o h; rfl) (fun cdv A outer s H vs Q E hr h => ?_), T.g_need_length, F.kp, F.bindsN fun _ _ _ _ _ _ us hl => match us, hl with | [_], _ => rfl⟩
  replace h := sp1o h
  obtain ⟨v0, rfl, h⟩ := h
  refine ⟨_,  (pss_one (ps_if (pt_cmpR op_lt (pv 0) pe_int (nomark _))
  (pss_one (ps_raise rfl (takes_of rfl rfl rfl rfl) (pmk_what T.x_NoLength (hr.mono (by decide)) rfl (pv 0))))
  pss_nil)), ?_⟩
  obtain ⟨L, rfl, k1, k2⟩ := h
  walk_at "rd"
  refine ifd (fun hb => ?_) (fun hb => ?_)
  · walk_at "rd"
    exact fun d hd => k1 (by omega) d hd
  · exact k2 (by omega)
def spNW : Sp := Sp1 fun a H Q _ => ∃ w : Str, a = .str w ∧ isW w ∧ Q .non H
theorem words_in {x : Str} (h : isW x) : inV (.str x) [.str "at", .str "from", .str "upto"] = true := by
  rcases h with rfl | rfl | rfl <;> decide +kernel
theorem sc_need_word : FnScope ["word"] ["word"] (defScope s_need_word) := ⟨rfl, rfl, rfl, by decide +kernel, rfl, by decide +kernel, by decide +kernel⟩
theorem D_need_word (T : Txt w K mg) : Ok P w K mg base CX0 3 "need_word" ["word"] spNW := by
  obtain ⟨fd, F⟩ := T.d_need_word
  refine ⟨fd, F.ok sc_need_word (fun _ _ _ _ h => by obtain ⟨_, rfl, _⟩ := sp1o h; rfl) (fun cdv A outer s H vs Q E hr h => ?_), T.g_need_word, F.kp, F.bindsN fun _ _ _ _ _ _ us hl => match us, hl with | [_], _ => rfl⟩
  replace h := sp1o h
  obtain ⟨v0, rfl, h⟩ := h
  refine ⟨_, PSs.nox (pss_one (ps_if (pt_cmpR op_notIn_seq (pv 0) (pe_glob (v := .ref (He.ga K "WORDS_darks")) rfl T.o_WORDS_darks rfl) (by rfl))
  (pss_one ps_dead)
  pss_nil)), ?_⟩
  obtain ⟨x, rfl, hx, k⟩ := h
  walk_at "rd"
  refine ⟨_, _, rfl, .inr (tupK_ok T.m_u_WORDS_darks _), rfl, by rfl, ?_⟩
  rw [words_in hx]
  refine ⟨false, rfl, ?_⟩
  exact k
def spDInit (K : PySem.W.Frag) : Sp := Sp2 fun a b H Q E => ∃ (p dx : Addr) (L : Int), a = .ref p ∧ b = .int L ∧ H p = some (.ins (He.ga K "Dark") dx []) ∧
  (L < 1 → ∀ d, H d = none → E (.ref (He.ga K "NoLength")) (some d) (upd H d (.xd [("what", .int L)]))) ∧
  (1 ≤ L → ∀ l H', H l = none → (∀ b, b ≠ p → b ≠ l → H' b = H b) → H' p = some (.ins (He.ga K "Dark") dx [("turn", .int L), ("heard", .ref l)]) → H' l = some (.lst []) → Q .non H')
theorem sc_Dark___init__ : FnScope ["self", "length"] ["self", "length"] (defScope s_Dark___init__) := ⟨rfl, rfl, rfl, by decide +kernel, rfl, by decide +kernel, by decide +kernel⟩
theorem D_Dark___init__ (T : Txt w K mg) : OkI P w K mg base (L2.CX P w) 4 "Dark" ["self", "length"] (spDInit K) := by
  obtain ⟨fd, F⟩ := T.d_Dark___init__
  refine ⟨fd, F.ok sc_Dark___init__ (fun _ _ _ _ h => by obtain ⟨_, _, rfl, _⟩ := sp2o h; rfl) (fun cdv A outer s H vs Q E hr h => ?_), T.k_Dark, T.mk_Dark, F.bindsN fun _ _ _ _ _ _ us hl => match us, hl with | [_, _], _ => rfl⟩
  replace h := sp2o h
  obtain ⟨v0, v1, rfl, h⟩ := h
  refine ⟨_,  (pss_cons (ps_expr (pe_callO (D_need_length T) (hr.mono (by decide)) rfl (passes_call (takes_of rfl rfl rfl rfl) (fun _ _ _ _ h => h)) (pa_cons (pv 1) pa_nil)))
  (pss_cons (ps_fd T.kc_Dark T.na_Dark_turn (pv 0) (pv 1) rfl)
  (pss_one (ps_fd T.kc_Dark T.na_Dark_heard (pv 0) (pe_lst pa_nil) rfl)))), ?_⟩
  obtain ⟨p, dx, L, rfl, rfl, hp, k1, k2⟩ := h
  walk_at "rd"
  refine sp1 ⟨L, rfl, k1, fun hL => ?_⟩
  walk_at "rd"
  refine ⟨_, _, _, rfl, hp, by decide, ?_⟩
  walk_at "rd"
  intro l hl
  walk_at "rd"
  have hne : p ≠ l := ne_of_none (o := .ins (He.ga K "Dark") dx (putF "turn" (.int L) [])) upd_same hl
  rw [upd_ne hne.symm] at hl
  refine ⟨_, _, _, rfl, by rw [upd_ne hne, upd_same], by show 1 < 1000; decide, ?_⟩
  refine k2 hL l _ hl (fun b h1 h2 => by rw [upd_ne h1, upd_ne h2, upd_ne h1]) upd_same (by rw [upd_ne hne.symm, upd_same])
def spDLen (K : PySem.W.Frag) : Sp := Sp1 fun a H Q _ => ∃ (G : Hp) (p : Addr) (L : Int) (ls : List Look), a = .ref p ∧ DkAt K G H p L ls ∧ Q (.int L) H
theorem sc_Dark_length : FnScope ["self"] ["self"] (defScope s_Dark_length) := ⟨rfl, rfl, rfl, by decide +kernel, rfl, by decide +kernel, by decide +kernel⟩
theorem D_Dark_length (T : Txt w K mg) : OkM P w K mg base CX0 1 "Dark" "length" ["self"] (spDLen K) := by
  obtain ⟨fd, F⟩ := T.d_Dark_length
  refine ⟨fd, F.ok sc_Dark_length (fun _ _ _ _ h => by obtain ⟨_, rfl, _⟩ := sp1o h; rfl) (fun cdv A outer s H vs Q E hr h => ?_), T.mt_Dark_length, T.kc_Dark, F.bindsN fun _ _ _ _ _ _ us hl => match us, hl with | [_], _ => rfl⟩
  replace h := sp1o h
  obtain ⟨v0, rfl, h⟩ := h
  refine ⟨_, PSs.nox (pss_one (ps_ret (pe_fd T.kc_Dark T.na_Dark_turn (pv 0) rfl))), ?_⟩
  obtain ⟨G, p, L, ls, rfl, ⟨dx, l, hp, hd⟩, k⟩ := h
  walk_at "rd"
  exact ⟨_, _, _, _, rfl, hp, rfl, k⟩
def spDLooks (K : PySem.W.Frag) : Sp := Sp1 fun a H Q _ => ∃ (G : Hp) (p : Addr) (L : Int) (ls : List Look), Same G H ∧ a = .ref p ∧ DkAt K G H p L ls ∧ ∀ l ys, H l = none → DpAll K G ys (ls.map lk) → Q (.ref l) (upd H l (.lst ys))
theorem sc_Dark_looks : FnScope ["self"] ["self"] (defScope s_Dark_looks) := ⟨rfl, rfl, rfl, by decide +kernel, rfl, by decide +kernel, by decide +kernel⟩
theorem D_Dark_looks (T : Txt w K mg) : OkM P w K mg base CX0 1 "Dark" "looks" ["self"] (spDLooks K) := by
  obtain ⟨fd, F⟩ := T.d_Dark_looks
  refine ⟨fd, F.ok sc_Dark_looks (fun _ _ _ _ h => by obtain ⟨_, rfl, _⟩ := sp1o h; rfl) (fun cdv A outer s H vs Q E hr h => ?_), T.mt_Dark_looks, T.kc_Dark, F.bindsN fun _ _ _ _ _ _ us hl => match us, hl with | [_], _ => rfl⟩
  replace h := sp1o h
  obtain ⟨v0, rfl, h⟩ := h
  refine ⟨_, PSs.nox (pss_one (ps_ret (pe_callTy call_list_of (by rfl) T.f_list (by decide +kernel) (pa_cons (pe_fd T.kc_Dark T.na_Dark_heard (pv 0) rfl) pa_nil)))), ?_⟩
  obtain ⟨G, p, L, ls, gh, rfl, ⟨dx, l, hp, hd⟩, k⟩ := h
  obtain ⟨l', xs, e, hl, hx⟩ := dp_lst hd.dp
  cases e
  walk_at "rd"
  refine ⟨_, _, _, _, rfl, hp, rfl, ?_⟩
  refine ⟨_, _, rfl, .inl (gh.seq hl), fun l2 hl2 => ?_⟩
  exact k l2 xs hl2 hx
def spDHome (K : PySem.W.Frag) : Sp := Sp4 fun a b c d H Q _ => ∃ (G : Hp) (p : Addr) (L : Int) (ls : List Look) (l : Look), a = .ref p ∧ DkAt K G H p L ls ∧ b = .str l.1 ∧ c = .int l.2.1 ∧ d = .int l.2.2 ∧ 0 < L ∧ Md L ∧ MdL l ∧
  ∀ q, H q = none → Q (.ref q) (upd H q (.tup [.str (homeL L l).1, .int (homeL L l).2.1, .int (homeL L l).2.2]))
theorem sc_Dark_home : FnScope ["self", "word", "x", "y", "back"] ["self", "word", "x", "y"] (defScope s_Dark_home) := ⟨rfl, rfl, rfl, by decide +kernel, rfl, by decide +kernel, by decide +kernel⟩
theorem D_Dark_home (T : Txt w K mg) : OkM P w K mg base CX0 4 "Dark" "home" ["self", "word", "x", "y"] (spDHome K) := by
  obtain ⟨fd, F⟩ := T.d_Dark_home
  refine ⟨fd, F.ok sc_Dark_home (fun _ _ _ _ h => by obtain ⟨_, _, _, _, rfl, _⟩ := sp4o h; rfl) (fun cdv A outer s H vs Q E hr h => ?_), T.mt_Dark_home, T.kc_Dark, F.bindsN fun _ _ _ _ _ _ us hl => match us, hl with | [_, _, _, _], _ => rfl⟩
  replace h := sp4o h
  obtain ⟨v0, v1, v2, v3, rfl, h⟩ := h
  refine ⟨_, PSs.nox (pss_cons (ps_expr (pe_callO (D_need_word T) (hr.mono (by decide)) rfl pass0 (pa_cons (pv 1) pa_nil)))
  (pss_cons (ps_set (i := 4) sc_Dark_home.nd rfl (by first | exact Or.inl rfl | exact Or.inr rfl) (pe_op op_mulW (pe_op op_fdivW (pv 2) (pe_fd T.kc_Dark T.na_Dark_turn (pv 0) rfl)) (pe_fd T.kc_Dark T.na_Dark_turn (pv 0) rfl)))
  (pss_one (ps_ret (pe_tup (pa_cons (pv 1) (pa_cons (pe_op op_sub (pv 2) (pv 4)) (pa_cons (pe_op op_sub (pv 3) (pv 4)) pa_nil)))))))), ?_⟩
  obtain ⟨G, p, L, ls, l, rfl, ⟨dx, hp', hp, hd⟩, rfl, rfl, rfl, hL, mL, ml, k⟩ := h
  walk_at "rd"
  refine sp1 ⟨_, rfl, ml.w, ?_⟩
  walk_at "rd"
  refine ⟨_, _, _, _, rfl, hp, rfl, ?_⟩
  refine ⟨_, _, rfl, rfl, Sm.div hL mL.sm, ?_⟩
  walk_at "rd"
  refine ⟨_, _, _, _, rfl, hp, rfl, ?_⟩
  refine ⟨_, _, rfl, rfl, Sm.mul (div_sm hL ml.x.sm) mL.sm, ?_⟩
  walk_at "rd"
  exact fun q hq => k q hq
def spDApart (K : PySem.W.Frag) : Sp := Sp3 fun a b c H Q _ => ∃ (G : Hp) (p : Addr) (L : Int) (ls : List Look) (l m : Look), Same G H ∧ a = .ref p ∧ DkAt K G H p L ls ∧ Dp K G b (lk l) ∧ Dp K G c (lk m) ∧ 0 < L ∧ Md L ∧ MdL l ∧ MdL m ∧
  ∀ G' H', Go [] G H G' H' → Q (.bl (apart L l m)) H'
theorem sc_Dark_is_apart : FnScope ["self", "one", "other", "short", "far"] ["self", "one", "other"] (defScope s_Dark_is_apart) := ⟨rfl, rfl, rfl, by decide +kernel, rfl, by decide +kernel, by decide +kernel⟩
theorem D_Dark_is_apart (T : Txt w K mg) : OkM P w K mg base CX0 2 "Dark" "is_apart" ["self", "one", "other"] (spDApart K) := by
  obtain ⟨fd, F⟩ := T.d_Dark_is_apart
  refine ⟨fd, F.ok sc_Dark_is_apart (fun _ _ _ _ h => by obtain ⟨_, _, _, rfl, _⟩ := sp3o h; rfl) (fun cdv A outer s H vs Q E hr h => ?_), T.mt_Dark_is_apart, T.kc_Dark, F.bindsN fun _ _ _ _ _ _ us hl => match us, hl with | [_, _, _], _ => rfl⟩
  replace h := sp3o h
  obtain ⟨v0, v1, v2, rfl, h⟩ := h
  refine ⟨_, PSs.nox (pss_cons (ps_for (by first | exact PassesOwn.never | exact passes_of rfl) rfl (pi_tup (pe_tup (pa_cons (pe_tup (pa_cons (pv 1) (pa_cons (pv 2) pa_nil))) (pa_cons (pe_tup (pa_cons (pv 2) (pa_cons (pv 1) pa_nil))) pa_nil)))) (pg_tup rfl (pgs_cons (pg_name (i := 3) sc_Dark_is_apart.nd rfl (by first | exact Or.inl rfl | exact Or.inr rfl)) (pgs_cons (pg_name (i := 4) sc_Dark_is_apart.nd rfl (by first | exact Or.inl rfl | exact Or.inr rfl)) pgs_nil)))
  (pss_one (ps_if (PW.pt (pw_and (pt_cmpR op_ne (pe_ix ix_tup (pv 3) pe_int (fun _ _ => rfl)) (pe_constS rfl T.c_UPTO) (nomark _)) (pw_and (pt_cmpR op_ne (pe_ix ix_tup (pv 4) pe_int (fun _ _ => rfl)) (pe_constS rfl T.c_FROM) (nomark _)) (pw_and1 (pt_cmpR op_gt (pe_callO (D_low T) (hr.mono (by decide)) rfl pass0 (pa_cons (pe_fd T.kc_Dark T.na_Dark_turn (pv 0) rfl) (pa_cons (pe_lst (pa_cons (pe_slice sl_tup (pv 3) (po_some pe_int) po_none) pa_nil)) (pa_cons (pe_ix ix_tup (pv 4) pe_int (fun _ _ => rfl)) pa_nil)))) (pe_ix ix_tup (pv 4) pe_int (fun _ _ => rfl)) (nomark _))))))
  (pss_one (ps_ret pe_bl))
  pss_nil)))
  (pss_one (ps_ret pe_bl))), ?_⟩
  obtain ⟨G, p, L, ls, l, m, gh, rfl, hD, hl, hm, hL, mL, ml, mm, k⟩ := h
  obtain ⟨al, rfl, tl⟩ := dp_lk hl
  obtain ⟨am, rfl, tm⟩ := dp_lk hm
  walk_at "rd"
  intro p1 hp1
  obtain ⟨G1, go1, gh1, s01, e1⟩ := go_new (o := .tup [.ref al, .ref am]) (Go.refl gh) hp1
  walk_at "rd"
  intro p2 hp2
  obtain ⟨G2, go2, gh2, s12, e2⟩ := go_new (o := .tup [.ref am, .ref al]) go1 hp2
  walk_at "rd"
  intro p3 hp3
  obtain ⟨G3, go3, gh3, s23, e3⟩ := go_new (o := .tup [.ref p1, .ref p2]) go2 hp3
  refine ⟨_, rfl, ⟨_, SqT.of upd_same⟩, ?_⟩
  refine for_tup (xs := [.ref p1, .ref p2]) (fun i σ H1 => ∃ G' v3 v4, Go [] G H G' H1 ∧ Same G3 G' ∧ σ = [some (.ref p), some (.ref al), some (.ref am), v3, v4] ∧ (1 ≤ i → apart1 L l m = false) ∧ (2 ≤ i → apart1 L m l = false))
    ⟨G3, none, none, go3, Same.refl _, rfl, fun z => absurd z (by decide), fun z => absurd z (by decide)⟩ (fun i σ H1 _ ⟨G', _, _, g, s3, _⟩ => SqT.of (g.gh _ _ (s3 _ _ e3))) ?_ ?_
  · rintro i x σ H1 hi ⟨G', v3, v4, g, s3, rfl, z1, z2⟩
    have gh := g.gh
    have hD1 := hD.go g (fun z => nomatch z)
    obtain ⟨dx, hl', hDp, hDd⟩ := hD1
    have key : ∃ (q u v : Addr) (a b : Look), x = .ref q ∧ SqT K G' q [.ref u, .ref v] ∧ SqT K G' u [.str a.1, .int a.2.1, .int a.2.2] ∧ SqT K G' v [.str b.1, .int b.2.1, .int b.2.2] ∧ MdL a ∧ MdL b ∧ (apart1 L a b = true → apart L l m = true) ∧
        (apart1 L a b = false → (1 ≤ i + 1 → apart1 L l m = false) ∧ (2 ≤ i + 1 → apart1 L m l = false)) := by
      rcases Nat.eq_zero_or_pos i with h0 | h0
      · subst h0
        cases hi
        exact ⟨p1, al, am, l, m, rfl, seqT (s12.trans (s23.trans s3)) (SqT.of e1), seqT g.gg tl, seqT g.gg tm, ml, mm, fun e => by unfold apart; rw [e]; rfl, fun e => ⟨fun _ => e, fun z => absurd z (by omega)⟩⟩
      · have hi2 : i < 2 := (List.getElem?_eq_some_iff.mp hi).1
        have : i = 1 := by omega
        subst this
        cases hi
        exact ⟨p2, am, al, m, l, rfl, seqT (s23.trans s3) (SqT.of e2), seqT g.gg tm, seqT g.gg tl, mm, ml, fun e => by unfold apart; rw [e, Bool.or_true], fun e => ⟨fun _ => z1 (by decide), fun _ => e⟩⟩
    obtain ⟨q, u, v, a, b, rfl, hq, hu, hv, ma, mb, k1, k2⟩ := key
    have hq := seqT gh hq
    have hu1 := seqT gh hu
    have hv1 := seqT gh hv
    walk_at "rd"
    refine ifn (fun hw => ?_) (fun hw => ?_)
    · walk_at "rd"
      refine ifn (fun hw2 => ?_) (fun hw2 => ?_)
      · walk_at "rd"
        refine ⟨_, _, _, _, rfl, hDp, rfl, ?_⟩
        walk_at "rd"
        refine ⟨_, _, rfl, hu1, by show ¬ (HT.sIx 3 0 (some 1) = 0 ∧ HT.sIx 3 3 none = 3); decide, fun t1 ht1 => ?_⟩
        have ec : cutV [V.str a.1, V.int a.2.1, V.int a.2.2] (some 1) none = [V.int a.2.1, V.int a.2.2] := by rfl
        rw [ec]
        obtain ⟨G4, go4, gh4, s4, f1⟩ := go_new (o := .tup [.int a.2.1, .int a.2.2]) g ht1
        walk_at "rd"
        intro t2 ht2
        obtain ⟨G5, go5, gh5, s5, f2⟩ := go_new (o := .lst [.ref t1]) go4 ht2
        have hv5 := seqT gh5 (seqT (s4.trans s5) hv)
        walk_at "rd"
        have hps : Dp K G5 (.ref t2) (.list (([(a.2.1, a.2.2)] : List (Int × Int)).map dI2)) := .lst (SqL.of f2) (.cons (i2_dp (seqT s5 (SqT.of f1))) .nil)
        refine sp3 ⟨G5, L, b.2.1, [(a.2.1, a.2.2)], gh5, rfl, hps, rfl, hL, mL, mb.x.mx, fun p hp => (List.mem_singleton.mp hp) ▸ ma.x, by show 1 ≤ 1000; decide, fun G6 H6 go6 => ?_⟩
        have hv6 := seqT go6.gh (seqT go6.gg (seqT (s4.trans s5) hv))
        have elow : lowO L b.2.1 [(a.2.1, a.2.2)] = some (a.2.2 + (b.2.1 - a.2.1) / L * L) := rfl
        rw [elow]
        have go6' := go5.trans go6 (fun _ z => nomatch z)
        have hw' : a.1 ≠ "upto" := fun z => hw (congrArg V.str z)
        have hw2' : b.1 ≠ "from" := fun z => hw2 (congrArg V.str z)
        walk_at "rd"
        refine ifd (fun hc => ?_) (fun hc => ?_)
        · walk_at "rd"
          have e : apart L l m = true := k1 (by
            unfold apart1
            rw [decide_eq_true hw', decide_eq_true hw2', decide_eq_true (by omega : a.2.2 + (b.2.1 - a.2.1) / L * L > b.2.2)]
            rfl)
          rw [e] at k
          exact k _ _ go6'
        · obtain ⟨k3, k4⟩ := k2 (by
            unfold apart1
            rw [decide_eq_false (by omega : ¬ a.2.2 + (b.2.1 - a.2.1) / L * L > b.2.2), Bool.and_false, Bool.and_false])
          exact ⟨G6, _, _, go6', s3.trans (s4.trans (s5.trans go6.gg)), rfl, k3, k4⟩
      · obtain ⟨k3, k4⟩ := k2 (by
          have : b.1 = "from" := V.str.inj hw2
          unfold apart1
          rw [this]
          simp)
        exact ⟨G', _, _, g, s3, rfl, k3, k4⟩
    · obtain ⟨k3, k4⟩ := k2 (by
        have : a.1 = "upto" := V.str.inj hw
        unfold apart1
        rw [this]
        simp)
      exact ⟨G', _, _, g, s3, rfl, k3, k4⟩
  · rintro σ H1 ⟨G', v3, v4, g, s3, rfl, z1, z2⟩
    walk_at "rd"
    have e : apart L l m = false := by
      unfold apart
      rw [z1 (Nat.le_succ 1), z2 (Nat.le_refl 2)]
      rfl
    rw [e] at k
    exact k _ _ g
def optD : Option PyData → PyData
  | none => .none
  | some d => d
def spDFirst (K : PySem.W.Frag) : Sp := Sp2 fun a b H Q _ => ∃ (G : Hp) (p : Addr) (L : Int) (ls : List Look) (l : Look), Same G H ∧ a = .ref p ∧ DkAt K G H p L ls ∧ Dp K G b (lk l) ∧ 0 < L ∧ Md L ∧ MdL l ∧ GdL ls ∧
  ∀ G' H' r, Go [] G H G' H' → Dp K G' r (optD ((ls.find? (apart L l)).map lk)) → Q r H'
theorem sc_Dark_first_apart : FnScope ["self", "look", "other"] ["self", "look"] (defScope s_Dark_first_apart) := ⟨rfl, rfl, rfl, by decide +kernel, rfl, by decide +kernel, by decide +kernel⟩
theorem D_Dark_first_apart (T : Txt w K mg) : OkM P w K mg base CX0 3 "Dark" "first_apart" ["self", "look"] (spDFirst K) := by
  obtain ⟨fd, F⟩ := T.d_Dark_first_apart
  refine ⟨fd, F.ok sc_Dark_first_apart (fun _ _ _ _ h => by obtain ⟨_, _, rfl, _⟩ := sp2o h; rfl) (fun cdv A outer s H vs Q E hr h => ?_), T.mt_Dark_first_apart, T.kc_Dark, F.bindsN fun _ _ _ _ _ _ us hl => match us, hl with | [_, _], _ => rfl⟩
  replace h := sp2o h
  obtain ⟨v0, v1, rfl, h⟩ := h
  refine ⟨_, PSs.nox (pss_cons (ps_for (by first | exact PassesOwn.never | exact passes_of rfl) rfl (pi_list (pe_fd T.kc_Dark T.na_Dark_heard (pv 0) rfl)) (pg_name (i := 2) sc_Dark_first_apart.nd rfl (by first | exact Or.inl rfl | exact Or.inr rfl))
  (pss_one (ps_if (pt_truth (pe_methO (pv 0) (D_Dark_is_apart T) (hr.mono (by decide)) pass0 (pa_cons (pv 1) (pa_cons (pv 2) pa_nil))) (by intro _; rfl))
  (pss_one (ps_ret (pv 2)))
  pss_nil)))
  (pss_one (ps_ret pe_non))), ?_⟩
  obtain ⟨G, p, L, ls, l, gh, rfl, hD, hl, hL, mL, ml, mls, k⟩ := h
  obtain ⟨dx, hl', hp, hd⟩ := id hD
  obtain ⟨hl'', xs, e, hs, hx⟩ := dp_lst hd.dp
  cases e
  have hxl := dpa_len hx
  rw [List.length_map] at hxl
  walk_at "rd"
  refine ⟨_, _, _, _, rfl, hp, rfl, ?_⟩
  refine ⟨_, rfl, ⟨_, gh.seq hs⟩, ?_⟩
  refine for_list (xs := xs) (fun i σ H1 => ∃ G' v2, Go [] G H G' H1 ∧ σ = [some (.ref p), some v1, v2] ∧ (ls.take i).find? (apart L l) = none)
    ⟨G, none, Go.refl gh, rfl, rfl⟩ (fun i σ H1 _ ⟨G', _, g, _⟩ => g.gh.seq (g.gg.seq hs)) ?_ ?_
  · rintro i v σ H1 hi ⟨G', v2, g, rfl, hf⟩
    obtain ⟨d, hd1, hd2⟩ := dpa_at hx hi
    rw [List.getElem?_map] at hd1
    obtain ⟨m, hm, rfl⟩ := Option.map_eq_some_iff.mp hd1
    have hmm : m ∈ ls := List.mem_of_getElem? hm
    have hlt := (List.getElem?_eq_some_iff.mp hm).1
    have hD1 := hD.go g (fun z => nomatch z)
    obtain ⟨dx1, hl1, hp1, _⟩ := id hD1
    walk_at "rd"
    refine ⟨_, _, _, rfl, hp1, rfl, ?_⟩
    walk_at "rd"
    refine sp3 ⟨G', p, L, ls, l, m, g.gh, rfl, hD1, dpm g.gg hl, dpm g.gg hd2, hL, mL, ml, mls.2 m hmm, fun G2 H2 go2 => ?_⟩
    have go2' := g.trans go2 (fun _ z => nomatch z)
    walk_at "rd"
    refine ifb (fun z => ?_) (fun z => ?_)
    · walk_at "rd"
      have e : ls.find? (apart L l) = some m := by
        have : ls = ls.take i ++ m :: ls.drop (i + 1) := by
          rw [← List.getElem?_eq_some_iff.mp hm |>.2, List.getElem_cons_drop, List.take_append_drop]
        rw [this, List.find?_append, hf, List.find?_cons_of_pos z]
        rfl
      rw [e] at k
      exact k G2 H2 v go2' (dpm go2'.gg hd2)
    · refine ⟨G2, _, go2', rfl, ?_⟩
      rw [List.take_succ, hm, List.find?_append, hf]
      simp [z]
  · rintro σ H1 ⟨G', v2, g, rfl, hf⟩
    rw [hxl, List.take_length] at hf
    rw [hf] at k
    walk_at "rd"
    exact k _ _ _ g .non
def spDHear (K : PySem.W.Frag) : Sp := Sp4 fun a b c d H Q E => ∃ (G : Hp) (p : Addr) (L : Int) (ls : List Look) (l : Look), Same G H ∧ a = .ref p ∧ G p = none ∧ DkAt K G H p L ls ∧ b = .str l.1 ∧ c = .int l.2.1 ∧ d = .int l.2.2 ∧ 0 < L ∧ Md L ∧ MdL l ∧ MdL (homeL L l) ∧ GdL ls ∧ ls.length < 1000 ∧
  (∀ o, ls.find? (apart L (homeL L l)) = some o → ∀ G' H' v d, Go [] G H G' H' → Dp K G' v (.tuple [lk (homeL L l), lk o]) → H' d = none → E (.ref (He.ga K "Clash")) (some d) (upd H' d (.xd [("what", v)]))) ∧
  (ls.find? (apart L (homeL L l)) = none → ∀ G' H', Go [p] G H G' H' → DkAt K G' H' p L (insL ls (homeL L l)) → Q .non H')
theorem sc_Dark_hear : FnScope ["self", "word", "x", "y", "look", "other"] ["self", "word", "x", "y"] (defScope s_Dark_hear) := ⟨rfl, rfl, rfl, by decide +kernel, rfl, by decide +kernel, by decide +kernel⟩
theorem D_Dark_hear (T : Txt w K mg) : OkM P w K mg base (L2.CX P w) 5 "Dark" "hear" ["self", "word", "x", "y"] (spDHear K) := by
  obtain ⟨fd, F⟩ := T.d_Dark_hear
  refine ⟨fd, F.ok sc_Dark_hear (fun _ _ _ _ h => by obtain ⟨_, _, _, _, rfl, _⟩ := sp4o h; rfl) (fun cdv A outer s H vs Q E hr h => ?_), T.mt_Dark_hear, T.kc_Dark, F.bindsN fun _ _ _ _ _ _ us hl => match us, hl with | [_, _, _, _], _ => rfl⟩
  replace h := sp4o h
  obtain ⟨v0, v1, v2, v3, rfl, h⟩ := h
  refine ⟨_,  (pss_cons (ps_set (i := 4) sc_Dark_hear.nd rfl (by first | exact Or.inl rfl | exact Or.inr rfl) (pe_methO (pv 0) (D_Dark_home T) (hr.mono (by decide)) pass0 (pa_cons (pv 1) (pa_cons (pv 2) (pa_cons (pv 3) pa_nil)))))
  (pss_cons (ps_set (i := 5) sc_Dark_hear.nd rfl (by first | exact Or.inl rfl | exact Or.inr rfl) (pe_methO (pv 0) (D_Dark_first_apart T) (hr.mono (by decide)) pass0 (pa_cons (pv 4) pa_nil)))
  (pss_cons (ps_if (pt_cmpR op_notN (pv 5) pe_non (nomark _))
  (pss_one (ps_raise rfl (takes_of rfl rfl rfl rfl) (pmk_what T.x_Clash (hr.mono (by decide)) rfl (pe_tup (pa_cons (pv 4) (pa_cons (pv 5) pa_nil))))))
  pss_nil)
  (pss_one (ps_if (pt_cmpR (op_notInD (hu65 hr)) (pv 4) (pe_fd T.kc_Dark T.na_Dark_heard (pv 0) rfl) (by rfl))
  (pss_one (ps_fd T.kc_Dark T.na_Dark_heard (pv 0) (pe_callB (cr_sortedX hr.units) (by rfl) T.f_sorted (by decide +kernel) (pa_cons (pe_op op_cat (pe_fd T.kc_Dark T.na_Dark_heard (pv 0) rfl) (pe_lst (pa_cons (pv 4) pa_nil))) pa_nil)) rfl))
  pss_nil))))), ?_⟩
  obtain ⟨G, p, L, ls, l, gh, rfl, gp, hD, rfl, rfl, rfl, hL, mL, ml, mh, mls, hlen, k1, k2⟩ := h
  walk_at "rd"
  obtain ⟨dx, hl', hp, hd⟩ := id hD
  refine ⟨_, _, _, rfl, hp, rfl, ?_⟩
  walk_at "rd"
  refine sp4 ⟨G, p, L, ls, l, rfl, hD, rfl, rfl, rfl, hL, mL, ml, fun q hq => ?_⟩
  obtain ⟨G1, go1, gh1, s1, e1⟩ := go_new (o := .tup [.str (homeL L l).1, .int (homeL L l).2.1, .int (homeL L l).2.2]) (Go.refl (ex := []) gh) hq
  have hlk : Dp K G1 (.ref q) (lk (homeL L l)) := lk_dp (SqT.of e1)
  have hD1 := hD.go go1 (fun z => nomatch z)
  obtain ⟨dx1, l1, hp1, hd1⟩ := id hD1
  walk_at "rd"
  refine ⟨_, _, _, rfl, hp1, rfl, ?_⟩
  walk_at "rd"
  refine sp2 ⟨G1, p, L, ls, homeL L l, gh1, rfl, hD1, hlk, hL, mL, mh, mls, fun G2 H2 r go2 hr2 => ?_⟩
  have go2' := go1.trans go2 (fun _ z => nomatch z)
  walk_at "rd"
  cases hf : ls.find? (apart L (homeL L l)) with
  | some o =>
    rw [hf] at hr2
    obtain ⟨ro, rfl, hro⟩ := dp_lk hr2
    refine ifn (fun hne => ?_) (fun z => nomatch z)
    walk_at "rd"
    intro p3 hp3
    obtain ⟨G3, go3, gh3, s3, e3⟩ := go_new (o := .tup [.ref q, .ref ro]) go2' hp3
    walk_at "rd"
    refine fun d hd => k1 o hf G3 _ _ d go3 (.tup (SqT.of e3) (.cons (dpm (go2.gg.trans s3) hlk) (.cons ?_ .nil))) hd
    exact dpm s3 (lk_dp hro)
  | none =>
    rw [hf] at hr2
    obtain rfl := dp_non hr2
    refine ifn (fun hne => absurd rfl hne) (fun _ => ?_)
    have hD2 := hD.go go2' (fun z => nomatch z)
    obtain ⟨dx2, l2, hp2, hd2⟩ := id hD2
    have hlk2 := dpm go2.gg hlk
    walk_at "rd"
    refine ⟨_, _, _, _, rfl, hp2, rfl, ?_⟩
    refine ⟨_, _, dpm go2.gh hlk2, dpm go2.gh hd2.dp, shaped_lk mh.w, shaped_lks mls.w, ?_⟩
    rw [any_eqv]
    walk_at "rd"
    have hpn : G2 p = none := go2'.nw p gp (by obtain ⟨_, _, e, _⟩ := hD; rw [e]; simp)
    refine ifn (fun hm => ?_) (fun hm => ?_)
    · walk_at "rd"
      refine ⟨_, _, _, _, rfl, hp2, rfl, ?_⟩
      obtain ⟨xs, hs, hx⟩ := hd2
      walk_at "rd"
      intro t1 ht1
      have hxl := dpa_len hx
      rw [List.length_map] at hxl
      refine ⟨_, _, _, _, rfl, rfl, by rw [upd_ne (ne_of_none (go2.gh _ _ hs) ht1)]; exact go2.gh _ _ hs, upd_same, szl (by show xs.length + 1 ≤ 1000000; omega), fun t2 ht2 => ?_⟩
      obtain ⟨G3, go3, gh3, s3, e3⟩ := go_new (o := .lst (xs ++ [V.ref q])) (go2'.tmp (o := .lst [.ref q]) ht1) ht2
      have hx3 : DpAll K G3 (xs ++ [V.ref q]) ((ls ++ [homeL L l]).map lk) := by
        rw [List.map_append]
        exact dpa_snoc (dpam s3 hx) (dpm s3 hlk2)
      refine ⟨_, _, _, rfl, SqL.of upd_same, dpam gh3 hx3, allAlike_lk _, sortable_lk _, depths_lk, fun ys t3 hys ht3 => ?_⟩
      have hys3 := hys G3 hx3
      rw [srt_lk] at hys3
      have go4 := go3.new (o := .lst ys) ht3
      have gp4 : upd G3 t3 (.lst ys) p = none := by
        have hp3 : H2 p ≠ none := by rw [hp2]; simp
        have ht1' : p ≠ t1 := fun z => hp3 (z ▸ ht1)
        have hne2 : p ≠ t2 := fun z => by rw [← z, upd_ne ht1'] at ht2; exact hp3 ht2
        have hne3 : p ≠ t3 := fun z => by rw [← z, upd_ne hne2, upd_ne ht1'] at ht3; exact hp3 ht3
        rw [upd_ne hne3]
        exact go3.nw p gp (by obtain ⟨_, _, e, _⟩ := hD; rw [e]; simp)
      have hp4 : (upd (upd (upd H2 t1 (.lst [.ref q])) t2 (.lst (xs ++ [.ref q]))) t3 (.lst ys)) p = some (.ins (He.ga K "Dark") dx2 [("turn", .int L), ("heard", .ref l2)]) :=
        go4.kp p _ (fun z => nomatch z) (by obtain ⟨dx0, l0, e, _⟩ := hD; have e5 := go2'.kp p _ (fun z => nomatch z) e; rw [hp2] at e5; rw [e, e5])
      walk_at "rd"
      refine ⟨_, _, _, rfl, hp4, by show 2 < 1000; decide, ?_⟩
      have e : insL ls (homeL L l) = sortL (ls ++ [homeL L l]) := if_neg hm
      have k3 := k2 hf
      rw [e] at k3
      have go5 : Go [p] G H (upd G3 t3 (.lst ys)) (upd (upd (upd H2 t1 (.lst [.ref q])) t2 (.lst (xs ++ [.ref q]))) t3 (.lst ys)) := ⟨go4.gg, go4.gh, fun b o _ z => go4.kp b o (fun z => nomatch z) z, go4.lv, go4.nw⟩
      refine k3 _ _ (go5.set gp4 (.inl List.mem_cons_self)) ⟨dx2, t3, upd_same, ys, upd_same, dpam (fun b u z => ?_) hys3⟩
      rw [upd_ne (ne_of_none (gh3 b u z) ht3)]
      exact z
    · have e : insL ls (homeL L l) = ls := if_pos hm
      have k3 := k2 hf
      rw [e] at k3
      exact k3 G2 H2 ⟨go2'.gg, go2'.gh, fun b o _ z => go2'.kp b o (fun z => nomatch z) z, go2'.lv, go2'.nw⟩ hD2

end
end Dk
namespace Dk
open PySem PySem.Spec L2
local macro_rules | `(tactic| walk_at "sq") => `(tactic| first | assumption | exact SqT.of (by assumption) | exact SqL.of (by assumption) | exact SqT.of upd_same | exact SqL.of upd_same | exact seqT (by assumption) (by assumption) | exact Same.seq (by assumption) (by assumption))
local macro_rules | `(tactic| walk_at "rd") => `(tactic| repeat (first | refine ⟨_, rfl, ?_⟩ | refine ⟨_, _, rfl, rfl, ?_⟩ | refine ⟨_, _, rfl, ?_⟩ | refine ⟨rfl, ?_⟩ | refine ⟨_, _, _, _, rfl, rfl, by walk_at "sq", by rfl, ?_⟩ | refine ⟨_, _, rfl, by walk_at "sq", rfl, ?_⟩ | refine ⟨_, _, rfl, Or.inl ⟨_, by walk_at "sq", rfl⟩, ?_⟩ | refine ⟨_, _, rfl, Or.inr ⟨_, by walk_at "sq", rfl⟩, ?_⟩ | refine ⟨Nat.le_of_ble_eq_true rfl, ?_⟩))

section
variable {P : Program} {w : World} {K : PySem.W.Frag} {mg : Str → Option Value} {base : Heap}
def sideW (s : Bool) : Str := if s = true then "slow" else "fast"
theorem side_slow (s : Bool) : decide (V.str (sideW s) = V.str "slow") = s := by
  cases s <;> decide +kernel
def spTb : Sp := Sp3 fun a b c H Q _ => ∃ (s : Bool) (d L : Int), a = .str (sideW s) ∧ b = .int d ∧ c = .int L ∧ 0 < L ∧ Sm L ∧ Q (.int (tb s d L)) H
theorem sc_turns_between : FnScope ["side", "lead", "length"] ["side", "lead", "length"] (defScope s_turns_between) := ⟨rfl, rfl, rfl, by decide +kernel, rfl, by decide +kernel, by decide +kernel⟩
theorem D_turns_between (T : Txt w K mg) : Ok P w K mg base CX0 1 "turns_between" ["side", "lead", "length"] spTb := by
  obtain ⟨fd, F⟩ := T.d_turns_between
  refine ⟨fd, F.ok sc_turns_between (fun _ _ _ _ h => by obtain ⟨_, _, _, rfl, _⟩ := sp3o h; rfl) (fun cdv A outer s H vs Q E hr h => ?_), T.g_turns_between, F.kp, F.bindsN fun _ _ _ _ _ _ us hl => match us, hl with | [_, _, _], _ => rfl⟩
  replace h := sp3o h
  obtain ⟨v0, v1, v2, rfl, h⟩ := h
  refine ⟨_, PSs.nox (pss_one (ps_ret (pe_ifExp (pt_cmpR op_eq (pv 0) (pe_constS rfl T.c_SLOW) (nomark _)) (pe_op op_fdivW (pv 1) (pv 2)) (pe_un un_neg (pe_op op_fdivW (pe_un un_neg (pv 1)) (pv 2)))))), ?_⟩
  obtain ⟨s', d, L, rfl, rfl, rfl, hL, mL, k⟩ := h
  walk_at "rd"
  rw [side_slow]
  walk_at "rd"
  refine ifb (fun z => ?_) (fun z => ?_)
  · subst z
    walk_at "rd"
    refine ⟨Sm.div hL mL, ?_⟩
    exact k
  · subst z
    walk_at "rd"
    refine ⟨Sm.div hL mL, ?_⟩
    walk_at "rd"
    exact k
def lsD (ls : List Look) : PyData := .list (ls.map lk)
def spLby (K : PySem.W.Frag) : Sp := Sp2 fun a b H Q _ => ∃ (G : Hp) (p : Addr) (L : Int) (ls : List Look) (s : Bool), Same G H ∧ a = .ref p ∧ DkAt K G H p L ls ∧ b = .str (sideW s) ∧ ls.length ≤ 1000 ∧
  ∀ G' H' r, Go [] G H G' H' → Dp K G' r (lsD (sideOf s ls)) → Q r H'
theorem side_in (s : Bool) (w : Str) : inV (.str w) [.str "at", .str (if s = true then "from" else "upto")] = (decide (w = "at") || decide (w = if s = true then "from" else "upto")) := by
  unfold inV
  simp only [List.any_cons, List.any_nil, Bool.or_false]
  have e : ∀ a : Str, eqV (.str a) (.str w) = decide (w = a) := fun a => by
    show (a == w) = _
    by_cases h : a = w
    · subst h; simp
    · have h' : ¬ w = a := fun z => h z.symm
      simp [h, h']
  rw [e, e]
  cases s <;> rfl
theorem side_row (T : Txt w K mg) (s : Bool) : ∃ a, KDct K w (He.ga K "WORDS_paces") (sideW s) (.ref a) ∧ ∀ H, SqT K H a [.str "at", .str (if s = true then "from" else "upto")] := by
  cases s with
  | true => exact ⟨_, kdct_of T.t_WORDS_paces T.m_n_WORDS_paces_slow, fun H => tupK_ok T.m_u_WORDS_paces_slow H⟩
  | false => exact ⟨_, kdct_of T.t_WORDS_paces T.m_n_WORDS_paces_fast, fun H => tupK_ok T.m_u_WORDS_paces_fast H⟩
theorem sc_looks_by : FnScope ["hand", "side", "look"] ["hand", "side"] (defScope s_looks_by) := ⟨rfl, rfl, rfl, by decide +kernel, rfl, by decide +kernel, by decide +kernel⟩
theorem D_looks_by (T : Txt w K mg) : Ok P w K mg base CX0 2 "looks_by" ["hand", "side"] (spLby K) := by
  obtain ⟨fd, F⟩ := T.d_looks_by
  refine ⟨fd, F.ok sc_looks_by (fun _ _ _ _ h => by obtain ⟨_, _, rfl, _⟩ := sp2o h; rfl) (fun cdv A outer s H vs Q E hr h => ?_), T.g_looks_by, F.kp, F.bindsN fun _ _ _ _ _ _ us hl => match us, hl with | [_, _], _ => rfl⟩
  replace h := sp2o h
  obtain ⟨v0, v1, rfl, h⟩ := h
  refine ⟨_, PSs.nox (pss_one (ps_ret (pe_lc (own := [("look", 2)]) (g := (gName 2)) rfl sc_looks_by.nd (pi_list (pe_methO0 (pv 0) (D_Dark_looks T) (hr.mono (by decide)) pass0)) (blkOk_by (own := [("look", 2)]) (N := ["hand", "side", "look"]) (sc := defScope s_looks_by) (by decide +kernel)) (fun _ _ _ _ _ => (pg_name (i := 2) sc_looks_by.nd rfl (Or.inl rfl))) (fun _ _ _ _ _ => pts_one (pt_cmpR (op_in_seqK K) (pe_ix (ix_tupK K) (pv 2) pe_int (fun _ _ => rfl)) (pe_ix (ix_kdictK K w) (pe_glob (v := .ref (He.ga K "WORDS_paces")) rfl T.o_WORDS_paces rfl) (pv 1) (fun _ _ => rfl)) (by rfl))) (fun _ _ _ _ _ => (pv 2))))), ?_⟩
  obtain ⟨G, p, L, ls, s', gh, rfl, hD, rfl, hl, k⟩ := h
  obtain ⟨dx, l, hp, hd⟩ := id hD
  walk_at "rd"
  refine ⟨_, _, _, rfl, hp, rfl, ?_⟩
  refine sp1 ⟨G, p, L, ls, gh, rfl, hD, fun l2 ys hl2 hys => ?_⟩
  obtain ⟨G2, go2, gh2, s2, e2⟩ := go_new (o := .lst ys) (Go.refl (ex := []) gh) hl2
  have hys := dpam s2 hys
  have hyl := dpa_len hys
  rw [List.length_map] at hyl
  refine ⟨_, rfl, ⟨_, SqL.of upd_same⟩, ?_⟩
  intro D hD2
  have hD0 := (go2.nn hD2)
  refine lc_list (xs := ys) (fun i H1 => ∃ zs, Go [] G H G2 H1 ∧ H1 D = some (.lst zs) ∧ DpAll K G2 zs ((sideOf s' (ls.take i)).map lk) ∧ zs.length ≤ i) ⟨[], go2.tmp hD2, upd_same, .nil, Nat.le_refl _⟩ (fun i H1 _ ⟨_, g, _⟩ => SqL.of (g.gh _ _ e2)) ?_ ?_
  · rintro i v H1 hi ⟨zs, g, e, hz, hzl⟩
    obtain ⟨d, hd1, hd2⟩ := dpa_at hys hi
    rw [List.getElem?_map] at hd1
    obtain ⟨m, hm, rfl⟩ := Option.map_eq_some_iff.mp hd1
    obtain ⟨a, rfl, ha⟩ := dp_lk hd2
    have hlt := (List.getElem?_eq_some_iff.mp hm).1
    have ha1 := seqT g.gh ha
    obtain ⟨row, kd, hrow⟩ := side_row T s'
    walk_at "rd"
    refine ⟨_, _, _, rfl, rfl, kd, ?_⟩
    refine ⟨_, _, rfl, .inr (hrow H1), rfl, by cases s' <;> rfl, ?_⟩
    have eb : inV (.str m.1) [.str "at", .str (if s' = true then "from" else "upto")] = bySide s' m := side_in s' m.1
    walk_at "rd"
    rw [eb]
    have et : (ls.take (i + 1)) = ls.take i ++ [m] := by rw [List.take_succ, hm]; rfl
    refine ifb (fun z => ?_) (fun z => ?_)
    · have z : bySide s' m = true := z
      walk_at "rd"
      refine ⟨_, e, slt (by omega), zs ++ [.ref a], g.set hD0 (.inr ?_), upd_same, ?_, by rw [List.length_append]; show _ + 1 ≤ _; omega⟩
      · cases eH : H D with
        | none => rfl
        | some o => 
          have := go2.lv D hD2
          rw [eH] at this
          cases this
      · rw [et]
        unfold sideOf
        rw [List.filter_append, List.map_append]
        have ef : [m].filter (bySide s') = [m] := by simp [z]
        rw [ef]
        exact dpa_snoc hz hd2
    · have z : bySide s' m = false := z
      refine ⟨zs, g, e, ?_, by omega⟩
      rw [et]
      unfold sideOf
      have ef : [m].filter (bySide s') = [] := by simp [z]
      rw [List.filter_append, ef, List.append_nil]
      exact hz
  · rintro H1 ⟨zs, g, e, hz, hzl⟩
    rw [hyl, List.take_length] at hz
    refine k _ _ _ (g.seal e hD0 (go2.lv D hD2)) (.lst (SqL.of upd_same) (dpam (fun b u z => ?_) hz))
    rw [upd_ne (ne_of_none z hD0)]
    exact z
/-- what led_by gathers -/
def prD (s : Bool) (L x : Int) (l : Look) : PyData := .tuple [.int (ledv s L l x), lk l]
theorem alike_pr (s : Bool) (L x : Int) (a b : Look) : PySem.W.alike (prD s L x a) (prD s L x b) = true := by
  simp [prD, lk, PySem.W.alike, PySem.W.alikeAll]
theorem depth_pr (s : Bool) (L x : Int) : ∀ ls : List Look, PyData.depthAll (ls.map (prD s L x)) ≤ 2
  | [] => by simp [PyData.depthAll]
  | l :: ls => by
    rw [List.map_cons, PyData.depthAll]
    refine Nat.max_le.mpr ⟨?_, depth_pr s L x ls⟩
    simp [prD, PyData.depth, PyData.depthAll, depth_lk]
theorem pr_lt (s : Bool) (L x : Int) (a b : Look) : (PySem.W.dataLt (prD s L x a) (prD s L x b) = true → ledv s L a x ≤ ledv s L b x) ∧ (PySem.W.dataLt (prD s L x a) (prD s L x b) = false → ledv s L b x ≤ ledv s L a x) := by
  unfold prD
  rw [PySem.W.dataLt_pair (by simp [PySem.W.alike]) (alike_lk a b), PySem.W.dataLt_int]
  simp only [PyData.eqv, beq_iff_eq]
  by_cases h : ledv s L a x = ledv s L b x
  · rw [if_pos h]
    exact ⟨fun _ => by omega, fun _ => by omega⟩
  · rw [if_neg h]
    exact ⟨fun z => by have := of_decide_eq_true z; omega, fun z => by have := of_decide_eq_false z; omega⟩
theorem maxD_pr (s : Bool) (L x : Int) : ∀ (r : List Look) (l0 : Look), ∃ l ∈ l0 :: r, PySem.W.maxD (prD s L x l0) (r.map (prD s L x)) = prD s L x l ∧ ∀ m ∈ l0 :: r, ledv s L m x ≤ ledv s L l x
  | [], l0 => ⟨l0, List.mem_cons_self, rfl, fun m hm => by rw [List.mem_singleton.mp hm]; exact Int.le_refl _⟩
  | m :: r, l0 => by
    unfold PySem.W.maxD
    rw [List.map_cons, List.foldl_cons]
    obtain ⟨p1, p2⟩ := pr_lt s L x l0 m
    cases hb : PySem.W.dataLt (prD s L x l0) (prD s L x m) with
    | true =>
      rw [if_pos rfl]
      obtain ⟨l, hl, e, k⟩ := maxD_pr s L x r m
      refine ⟨l, List.mem_cons_of_mem _ hl, e, fun m' hm' => ?_⟩
      rcases List.mem_cons.mp hm' with rfl | hm'
      · exact Int.le_trans (p1 hb) (k m List.mem_cons_self)
      · exact k m' hm'
    | false =>
      rw [if_neg Bool.false_ne_true]
      obtain ⟨l, hl, e, k⟩ := maxD_pr s L x r l0
      refine ⟨l, ?_, e, fun m' hm' => ?_⟩
      · rcases List.mem_cons.mp hl with rfl | hl
        · exact List.mem_cons_self
        · exact List.mem_cons_of_mem _ (List.mem_cons_of_mem _ hl)
      · rcases List.mem_cons.mp hm' with rfl | hm'
        · exact k _ List.mem_cons_self
        · rcases List.mem_cons.mp hm' with rfl | hm'
          · exact Int.le_trans (p2 hb) (k l0 List.mem_cons_self)
          · exact k m' (List.mem_cons_of_mem _ hm')
theorem minD_pr (s : Bool) (L x : Int) : ∀ (r : List Look) (l0 : Look), ∃ l ∈ l0 :: r, PySem.W.minD (prD s L x l0) (r.map (prD s L x)) = prD s L x l ∧ ∀ m ∈ l0 :: r, ledv s L l x ≤ ledv s L m x
  | [], l0 => ⟨l0, List.mem_cons_self, rfl, fun m hm => by rw [List.mem_singleton.mp hm]; exact Int.le_refl _⟩
  | m :: r, l0 => by
    unfold PySem.W.minD
    rw [List.map_cons, List.foldl_cons]
    obtain ⟨p1, p2⟩ := pr_lt s L x m l0
    cases hb : PySem.W.dataLt (prD s L x m) (prD s L x l0) with
    | true =>
      rw [if_pos rfl]
      obtain ⟨l, hl, e, k⟩ := minD_pr s L x r m
      refine ⟨l, List.mem_cons_of_mem _ hl, e, fun m' hm' => ?_⟩
      rcases List.mem_cons.mp hm' with rfl | hm'
      · exact Int.le_trans (k m List.mem_cons_self) (p1 hb)
      · exact k m' hm'
    | false =>
      rw [if_neg Bool.false_ne_true]
      obtain ⟨l, hl, e, k⟩ := minD_pr s L x r l0
      refine ⟨l, ?_, e, fun m' hm' => ?_⟩
      · rcases List.mem_cons.mp hl with rfl | hl
        · exact List.mem_cons_self
        · exact List.mem_cons_of_mem _ (List.mem_cons_of_mem _ hl)
      · rcases List.mem_cons.mp hm' with rfl | hm'
        · exact k _ List.mem_cons_self
        · rcases List.mem_cons.mp hm' with rfl | hm'
          · exact Int.le_trans (k l0 List.mem_cons_self) (p2 hb)
          · exact k m' (List.mem_cons_of_mem _ hm')
theorem tb_abs {s : Bool} {d L : Int} (hL : 0 < L) : (tb s d L).natAbs ≤ d.natAbs := by
  unfold tb
  cases s with
  | true => exact ediv_abs hL
  | false =>
    have := ediv_abs (a := -d) hL
    show (-(-d / L)).natAbs ≤ _
    omega
def spLed (K : PySem.W.Frag) : Sp := Sp4 fun a b c d H Q _ => ∃ (G : Hp) (s : Bool) (L x : Int) (ls : List Look), Same G H ∧ a = .str (sideW s) ∧ Dp K G b (lsD ls) ∧ c = .int L ∧ d = .int x ∧ ls ≠ [] ∧ GdL ls ∧ 0 < L ∧ Md L ∧ Mx x ∧
  ∀ G' H' r l, Go [] G H G' H' → l ∈ ls → ledv s L l x = ledS s L ls x → Dp K G' r (.tuple [.int (ledS s L ls x), lk l]) → Q r H'
theorem sc_led_by : FnScope ["side", "looks", "length", "x", "found", "look"] ["side", "looks", "length", "x"] (defScope s_led_by) := ⟨rfl, rfl, rfl, by decide +kernel, rfl, by decide +kernel, by decide +kernel⟩
theorem D_led_by (T : Txt w K mg) : Ok P w K mg base CX0 2 "led_by" ["side", "looks", "length", "x"] (spLed K) := by
  obtain ⟨fd, F⟩ := T.d_led_by
  refine ⟨fd, F.ok sc_led_by (fun _ _ _ _ h => by obtain ⟨_, _, _, _, rfl, _⟩ := sp4o h; rfl) (fun cdv A outer s H vs Q E hr h => ?_), T.g_led_by, F.kp, F.bindsN fun _ _ _ _ _ _ us hl => match us, hl with | [_, _, _, _], _ => rfl⟩
  replace h := sp4o h
  obtain ⟨v0, v1, v2, v3, rfl, h⟩ := h
  refine ⟨_, PSs.nox (pss_cons (ps_set (i := 4) sc_led_by.nd rfl (by first | exact Or.inl rfl | exact Or.inr rfl) (pe_lst pa_nil))
  (pss_cons (ps_for (by first | exact PassesOwn.never | exact passes_of rfl) rfl (pi_list (pv 1)) (pg_name (i := 5) sc_led_by.nd rfl (by first | exact Or.inl rfl | exact Or.inr rfl))
  (pss_one (ps_expr (pe_bm PySem.F.plainAttrs_list PySem.F.slot_list_append PySem.F.type_list_append mt_append (pv 4) (pa_cons (pe_tup (pa_cons (pe_op op_add (pe_ix ix_tup (pv 5) pe_int (fun _ _ => rfl)) (pe_op op_mulW (pe_callO (D_turns_between T) (hr.mono (by decide)) rfl pass0 (pa_cons (pv 0) (pa_cons (pe_op op_sub (pv 3) (pe_ix ix_tup (pv 5) pe_int (fun _ _ => rfl))) (pa_cons (pv 2) pa_nil)))) (pv 2))) (pa_cons (pv 5) pa_nil))) pa_nil)))))
  (pss_one (ps_ret (pe_ifExp (pt_cmpR op_eq (pv 0) (pe_constS rfl T.c_SLOW) (nomark _)) (pe_callB (cr_maxX rfl hr.units) (by rfl) T.f_max (by decide +kernel) (pa_cons (pv 4) pa_nil)) (pe_callB (cr_minX rfl hr.units) (by rfl) T.f_min (by decide +kernel) (pa_cons (pv 4) pa_nil))))))), ?_⟩
  obtain ⟨G, s', L, x, ls, gh, rfl, hb, rfl, rfl, hne, hg, hL, mL, mx, k⟩ := h
  obtain ⟨q, xs, rfl, hq, hd⟩ := dp_lst hb
  have hxl := dpa_len hd
  rw [List.length_map] at hxl
  walk_at "rd"
  intro D hD
  have hD0 := Dk.Same.fr gh hD
  walk_at "rd"
  have goD : Go [] G H G (upd H D (.lst [])) := (Go.refl gh).tmp hD
  refine ⟨⟨_, goD.gh.seq hq⟩, ?_⟩
  refine for_list (xs := xs) (fun i σ H1 => ∃ G' zs v5, Go [] G H G' H1 ∧ G' D = none ∧ H1 D = some (.lst zs) ∧ DpAll K G' zs ((ls.take i).map (prD s' L x)) ∧ zs.length ≤ i ∧ σ = [some (.str (sideW s')), some (.ref q), some (.int L), some (.int x), some (.ref D), v5])
    ⟨G, [], none, goD, hD0, upd_same, .nil, Nat.le_refl _, rfl⟩ (fun i σ H1 _ ⟨G', _, _, g, _⟩ => g.gh.seq (g.gg.seq hq)) ?_ ?_
  · rintro i v σ H1 hi ⟨G', zs, v5, g, gD, e, hz, hzl, rfl⟩
    obtain ⟨d, hd1, hd2⟩ := dpa_at hd hi
    rw [List.getElem?_map] at hd1
    obtain ⟨m, hm, rfl⟩ := Option.map_eq_some_iff.mp hd1
    have hmm : m ∈ ls := List.mem_of_getElem? hm
    have hlt := (List.getElem?_eq_some_iff.mp hm).1
    have mm := hg.2 m hmm
    have hd2 := dpm g.gg hd2
    obtain ⟨a, rfl, ha⟩ := dp_lk hd2
    have ha1 := seqT g.gh ha
    have sd : Sm (x - m.2.1) := Mx.sub mx mm.x.mx
    walk_at "rd"
    refine ⟨.inl ⟨rfl, _, SqL.of e⟩, ?_⟩
    walk_at "rd"
    refine sp3 ⟨s', x - m.2.1, L, rfl, rfl, rfl, hL, mL.sm, ?_⟩
    walk_at "rd"
    refine ⟨Sm.mul (Sm.le (tb_abs hL) sd) mL.sm, ?_⟩
    walk_at "rd"
    intro t ht
    obtain ⟨G2, go2, gh2, s2, e2, f2⟩ := go_newN (o := .tup [.int (m.2.2 + tb s' (x - m.2.1) L * L), .ref a]) g ht
    have hDt : D ≠ t := ne_of_none e ht
    walk_at "rd"
    have e3 : (upd H1 t (.tup [.int (m.2.2 + tb s' (x - m.2.1) L * L), .ref a])) D = some (.lst zs) := by rw [upd_ne hDt]; exact e
    refine ⟨_, _, _, rfl, rfl, e3, slt (by have := hg.1; omega), ?_⟩
    have gD2 : G2 D = none := (f2 D hDt).trans gD
    refine ⟨G2, zs ++ [.ref t], _, go2.set gD2 (.inr hD), gD2, upd_same, ?_, by rw [List.length_append]; show _ + 1 ≤ _; omega, rfl⟩
    have et : (ls.take (i + 1)) = ls.take i ++ [m] := by rw [List.take_succ, hm]; rfl
    rw [et, List.map_append]
    exact dpa_snoc (dpam s2 hz) (.tup (SqT.of e2) (.cons (.int _) (.cons (dpm s2 hd2) .nil)))
  · rintro σ H1 ⟨G', zs, v5, g, gD, e, hz, hzl, rfl⟩
    rw [hxl, List.take_length] at hz
    have hal : PySem.W.AlikeAll (ls.map (prD s' L x)) := ⟨fun a ha b hb => by
      obtain ⟨l1, _, rfl⟩ := List.mem_map.mp ha
      obtain ⟨l2, _, rfl⟩ := List.mem_map.mp hb
      exact alike_pr s' L x l1 l2, fun a ha => by
      obtain ⟨l1, _, rfl⟩ := List.mem_map.mp ha
      intro z
      cases z⟩
    have hdep := depth_pr s' L x ls
    have hz1 := dpam g.gh hz
    obtain ⟨l0, r, rfl⟩ : ∃ l0 r, ls = l0 :: r := by
      cases ls with
      | nil => exact absurd rfl hne
      | cons l0 r => exact ⟨l0, r, rfl⟩
    walk_at "rd"
    rw [side_slow]
    refine ifb (fun z => ?_) (fun z => ?_)
    · subst z
      walk_at "rd"
      refine ⟨_, _, _, _, rfl, SqL.of e, hz1, hal, Nat.le_trans hdep (by decide), fun y hy => ?_⟩
      obtain ⟨l, hl, em, hmx⟩ := maxD_pr true L x r l0
      have hy := hy G' hz
      rw [em] at hy
      have eb : ledv true L l x = ledS true L (l0 :: r) x := (best_eq (s := true) (List.mem_map.mpr ⟨l, hl, rfl⟩) fun v hv => by
        obtain ⟨l2, hl2, rfl⟩ := List.mem_map.mp hv
        exact hmx l2 hl2).symm
      refine k G' _ y l g hl eb ?_
      rw [← eb]
      exact hy
    · subst z
      walk_at "rd"
      refine ⟨_, _, _, _, rfl, SqL.of e, hz1, hal, Nat.le_trans hdep (by decide), fun y hy => ?_⟩
      obtain ⟨l, hl, em, hmx⟩ := minD_pr false L x r l0
      have hy := hy G' hz
      rw [em] at hy
      have eb : ledv false L l x = ledS false L (l0 :: r) x := (best_eq (s := false) (List.mem_map.mpr ⟨l, hl, rfl⟩) fun v hv => by
        obtain ⟨l2, hl2, rfl⟩ := List.mem_map.mp hv
        exact hmx l2 hl2).symm
      refine k G' _ y l g hl eb ?_
      rw [← eb]
      exact hy

end
end Dk
namespace Dk
open PySem PySem.Spec L2
local macro_rules | `(tactic| walk_at "sq") => `(tactic| first | assumption | exact SqT.of (by assumption) | exact SqL.of (by assumption) | exact SqT.of upd_same | exact SqL.of upd_same | exact seqT (by assumption) (by assumption) | exact Same.seq (by assumption) (by assumption))
local macro_rules | `(tactic| walk_at "rd") => `(tactic| repeat (first | refine ⟨_, rfl, ?_⟩ | refine ⟨_, _, rfl, rfl, ?_⟩ | refine ⟨_, _, rfl, ?_⟩ | refine ⟨rfl, ?_⟩ | refine ⟨_, _, _, _, rfl, rfl, by walk_at "sq", by rfl, ?_⟩ | refine ⟨_, _, rfl, by walk_at "sq", rfl, ?_⟩ | refine ⟨_, _, rfl, Or.inl ⟨_, by walk_at "sq", rfl⟩, ?_⟩ | refine ⟨_, _, rfl, Or.inr ⟨_, by walk_at "sq", rfl⟩, ?_⟩ | refine ⟨Nat.le_of_ble_eq_true rfl, ?_⟩))

section
variable {P : Program} {w : World} {K : PySem.W.Frag} {mg : Str → Option Value} {base : Heap}
def HandsAt (K : PySem.W.Frag) (G H : Hp) (a : Addr) (L : Int) (hs : List (List Look)) : Prop := ∃ ps : List Addr, SqL K G a (ps.map V.ref) ∧ ps.length = hs.length ∧ ∀ (i : Nat) (p : Addr) (ls : List Look), ps[i]? = some p → hs[i]? = some ls → DkAt K G H p L ls
theorem HandsAt.go {K : PySem.W.Frag} {G H G' H' : Hp} {a : Addr} {L : Int} {hs : List (List Look)} (h : HandsAt K G H a L hs) (g : Go [] G H G' H') : HandsAt K G' H' a L hs := by
  obtain ⟨ps, h1, h2, h3⟩ := h
  exact ⟨ps, g.gg.seq h1, h2, fun i p ls e f => (h3 i p ls e f).go g (fun z => nomatch z)⟩
theorem HandsAt.fst {K : PySem.W.Frag} {G H : Hp} {a : Addr} {L : Int} {hs : List (List Look)} (h : HandsAt K G H a L hs) (hne : hs ≠ []) : ∃ (ps : List Addr) (p : Addr) (ls : List Look), SqL K G a (.ref p :: ps.map V.ref) ∧ DkAt K G H p L ls := by
  obtain ⟨ps, h1, h2, h3⟩ := h
  cases hs with
  | nil => exact absurd rfl hne
  | cons ls hs =>
    cases ps with
    | nil => cases h2
    | cons p ps => exact ⟨ps, p, ls, h1, h3 0 p ls rfl rfl⟩
def spNR (K : PySem.W.Frag) : Sp := Sp1 fun a H Q _ => ∃ (G : Hp) (q : Addr) (L : Int) (hs : List (List Look)), Same G H ∧ a = .ref q ∧ HandsAt K G H q L hs ∧ hs ≠ [] ∧ hs.length ≤ 900 ∧ ∀ H', Go [] G H G H' → Q (.int L) H'
theorem sc_need_round : FnScope ["hands", "length", "number", "hand"] ["hands"] (defScope s_need_round) := ⟨rfl, rfl, rfl, by decide +kernel, rfl, by decide +kernel, by decide +kernel⟩
theorem D_need_round (T : Txt w K mg) : Ok P w K mg base CX0 3 "need_round" ["hands"] (spNR K) := by
  obtain ⟨fd, F⟩ := T.d_need_round
  refine ⟨fd, F.ok sc_need_round (fun _ _ _ _ h => by obtain ⟨_, rfl, _⟩ := sp1o h; rfl) (fun cdv A outer s H vs Q E hr h => ?_), T.g_need_round, F.kp, F.bindsN fun _ _ _ _ _ _ us hl => match us, hl with | [_], _ => rfl⟩
  replace h := sp1o h
  obtain ⟨v0, rfl, h⟩ := h
  refine ⟨_, PSs.nox (pss_cons (ps_if (pt_cmpR op_eq (pe_callB call_len (by rfl) T.f_len (by decide +kernel) (pa_cons (pv 0) pa_nil)) pe_int (nomark _))
  (pss_one ps_dead)
  pss_nil)
  (pss_cons (ps_set (i := 1) sc_need_round.nd rfl (by first | exact Or.inl rfl | exact Or.inr rfl) (pe_methO0 (pe_ix ix_list (pv 0) pe_int (fun _ _ => rfl)) (D_Dark_length T) (hr.mono (by decide)) pass0))
  (pss_cons (ps_for (by first | exact PassesOwn.never | exact passes_of rfl) rfl (pi_enum (by rfl) T.f_enumerate (pa_cons (pv 0) pa_nil)) (pg_tup rfl (pgs_cons (pg_name (i := 2) sc_need_round.nd rfl (by first | exact Or.inl rfl | exact Or.inr rfl)) (pgs_cons (pg_name (i := 3) sc_need_round.nd rfl (by first | exact Or.inl rfl | exact Or.inr rfl)) pgs_nil)))
  (pss_one (ps_if (pt_cmpR op_ne (pe_methO0 (pv 3) (D_Dark_length T) (hr.mono (by decide)) pass0) (pv 1) (nomark _))
  (pss_one ps_dead)
  pss_nil)))
  (pss_one (ps_ret (pv 1)))))), ?_⟩
  obtain ⟨G, q, L, hs, gh, rfl, hA, hne, hl, k⟩ := h
  obtain ⟨ps, hq, hpl, hD⟩ := id hA
  have hpos : 0 < hs.length := List.length_pos_iff.mpr hne
  obtain ⟨ps0, p0, ls0, hq0, hD0⟩ := hA.fst hne
  have hq01 := gh.seq hq0
  obtain ⟨dx0, l0, hp0, hd0⟩ := id hD0
  walk_at "rd"
  refine ⟨q, _, 0, .ref p0, rfl, rfl, hq01, atI_nat (j := 0) rfl, ?_⟩
  refine ⟨_, _, _, rfl, hp0, rfl, ?_⟩
  refine sp1 ⟨G, p0, L, ls0, rfl, hD0, ?_⟩
  walk_at "rd"
  refine ⟨_, _, rfl, gh.seq hq, ?_⟩
  refine for_it (walk_enum (xs := ps.map V.ref)) (fun i σ H1 => ∃ v2 v3, Go [] G H G H1 ∧ σ = [some (.ref q), some (.int L), v2, v3]) ⟨none, none, Go.refl gh, rfl⟩ (fun i σ H1 _ ⟨_, _, g, _⟩ => g.gh.seq hq) ?_ ?_
  · rintro i v σ H1 H2 hi ⟨v2, v3, g, rfl⟩ ⟨t, x, y, rfl, ht, rfl, e1, e2⟩
    cases e1
    rw [List.length_map] at hi
    dsimp only at e2
    rw [List.getElem?_map] at e2
    obtain ⟨p, hp, rfl⟩ := Option.map_eq_some_iff.mp e2
    have hDi := hD i p _ hp (List.getElem?_eq_getElem (by omega))
    have hDi := hDi.go (g.tmp ht (o := .tup [.int (i : Nat), .ref p])) (fun z => nomatch z)
    obtain ⟨dx1, l1, hp1, hd1⟩ := id hDi
    walk_at "rd"
    refine ⟨_, _, _, rfl, hp1, rfl, ?_⟩
    refine sp1 ⟨G, p, L, _, rfl, hDi, ?_⟩
    walk_at "rd"
    refine ifn (fun z => absurd rfl z) (fun _ => ?_)
    exact ⟨_, _, g.tmp ht, rfl⟩
  · rintro σ H1 ⟨v2, v3, g, rfl⟩
    walk_at "rd"
    exact k _ g
/-- a ring that shows the pace -/
def Shown (s : Bool) (L : Int) (rows : List (List Look)) (p : Int) (q : Nat) (shown : List Look) : Prop :=
  shown.length = q * rows.length ∧ ∃ n0 : Nat, tr s L rows ((n0 + q) * rows.length) = tr s L rows (n0 * rows.length) + p * L ∧
    ∀ i, i < q * rows.length → ∃ l, shown[i]? = some l ∧ l ∈ rows.getD (i % rows.length) [] ∧ ledv s L l (tr s L rows (n0 * rows.length + i)) = tr s L rows (n0 * rows.length + i + 1)
def GoneIs (s : Bool) (L : Int) (hs : List (List Look)) (d : PyData) : Prop :=
  ((∃ ls ∈ rowsOf s hs, ls = []) ∧ d = .none) ∨ ((∀ ls ∈ rowsOf s hs, ls ≠ []) ∧ ∃ (p : Int) (q : Nat) (shown : List Look), d = .tuple [dI2 (p, (q : Int)), lsD shown] ∧ IsPace (rnd s L (rowsOf s hs)) L p q ∧ Shown s L (rowsOf s hs) p q shown)
theorem any_nil : ∀ rows : List (List Look), ((rows.map lsD).any fun z => PyData.eqv z (.list [])) = rows.any fun ls => ls.isEmpty
  | [] => rfl
  | ls :: rows => by
    rw [List.map_cons, List.any_cons, List.any_cons, any_nil rows]
    cases ls with
    | nil => simp [lsD, PyData.eqv, PyData.eqvAll]
    | cons l ls => simp [lsD, PyData.eqv, PyData.eqvAll]
theorem shaped_rows {rows : List (List Look)} (h : ∀ ls ∈ rows, ∀ l ∈ ls, isW l.1) : SeqAt.shaped (.list (rows.map lsD)) = true := by
  have h1 : ∀ {rows : List (List Look)}, (∀ ls ∈ rows, ∀ l ∈ ls, isW l.1) → PyData.canLayAll0 (rows.map lsD) = true := by
    intro rows
    induction rows with
    | nil => intro _; simp [PyData.canLayAll0]
    | cons ls rows ih =>
      intro h
      rw [List.map_cons]
      have e : (lsD ls).canLay0 = true := by simpa only [lsD, PyData.canLay0] using canLay_lks (h ls List.mem_cons_self)
      simp only [PyData.canLayAll0, e, ih fun x hx => h x (List.mem_cons_of_mem _ hx), Bool.and_self]
  have h2 : ∀ rows : List (List Look), PyData.depthAll (rows.map lsD) ≤ 2 := by
    intro rows
    induction rows with
    | nil => simp [PyData.depthAll]
    | cons ls rows ih =>
      rw [List.map_cons, PyData.depthAll]
      refine Nat.max_le.mpr ⟨?_, ih⟩
      have := depth_lks ls
      have e : (lsD ls).depth = PyData.depthAll (ls.map lk) + 1 := by unfold lsD; rw [PyData.depth]
      omega
  have e1 : (PyData.list (rows.map lsD)).canLay0 = true := by simpa only [PyData.canLay0] using h1 h
  have e2 : (PyData.list (rows.map lsD)).depth = PyData.depthAll (rows.map lsD) + 1 := by rw [PyData.depth]
  have := h2 rows
  unfold SeqAt.shaped
  rw [e1, e2, Bool.true_and]
  exact decide_eq_true (by omega)
structure GInv (K : PySem.W.Frag) (G H G3 : Hp) (s : Bool) (L : Int) (rows : List (List Look)) (M R : Addr) (n : Nat) (H' : Hp) : Prop where
  ex : ∃ (G' : Hp) (kvs : List (Key × V)) (zs : List V) (shown : List Look), Go [] G H G' H' ∧ Same G3 G' ∧ G' M = none ∧ G' R = none ∧ H' M = some (.dK kvs) ∧ kvs.length = n ∧
    (∀ i, i < n → ∃ t, valV kvs (.inl (tr s L rows (i * rows.length) % L)) = some (.ref t) ∧ SqT K G' t [.int (tr s L rows (i * rows.length)), .int ((i * rows.length : Nat) : Int)]) ∧
    (∀ z : Int, (∀ i, i < n → tr s L rows (i * rows.length) % L ≠ z) → valV kvs (.inl z) = none) ∧ H' R = some (.lst zs) ∧ DpAll K G' zs (shown.map lk) ∧ shown.length = n * rows.length ∧
    (∀ i, i < n * rows.length → ∃ l, shown[i]? = some l ∧ l ∈ rows.getD (i % rows.length) [] ∧ ledv s L l (tr s L rows i) = tr s L rows (i + 1)) ∧
    ∀ i k, i < k → k < n → tr s L rows (i * rows.length) % L ≠ tr s L rows (k * rows.length) % L
theorem dpa_drop {K : PySem.W.Frag} {H : Hp} : ∀ (k : Nat) {xs : List V} {ds : List PyData}, DpAll K H xs ds → DpAll K H (xs.drop k) (ds.drop k)
  | 0, _, _, h => h
  | _ + 1, _, _, .nil => .nil
  | k + 1, _, _, .cons _ t => dpa_drop k t
theorem cut_from {xs : List V} {k : Nat} (h : k ≤ xs.length) : cutV xs (some (k : Int)) none = xs.drop k := by
  unfold cutV
  rw [HT.sIx_nat, HT.sIx_none, Nat.min_eq_left h, List.take_of_length_le (by rw [List.length_drop]; omega)]
def spGone (K : PySem.W.Frag) : Sp := Sp2 fun a b H Q _ => ∃ (G : Hp) (q : Addr) (L : Int) (hs : List (List Look)) (s : Bool), Same G H ∧ a = .ref q ∧ HandsAt K G H q L hs ∧ b = .str (sideW s) ∧ 0 < L ∧ Md L ∧ hs ≠ [] ∧ hs.length ≤ 900 ∧ (∀ ls ∈ hs, GdL ls) ∧
  ∀ G' H' r d, Go [] G H G' H' → GoneIs s L hs d → Dp K G' r d → Q r H'
theorem dpa_at2 {K : PySem.W.Frag} {H : Hp} : ∀ {xs : List V} {ds : List PyData} {i : Nat} {d : PyData}, DpAll K H xs ds → ds[i]? = some d → ∃ x, xs[i]? = some x ∧ Dp K H x d
  | _, _, 0, _, .cons h _, e => by
    cases e
    exact ⟨_, rfl, h⟩
  | _, _, i + 1, _, .cons _ t, e => dpa_at2 (i := i) t e
theorem gdl_side {s : Bool} {ls : List Look} (h : GdL ls) : GdL (sideOf s ls) := ⟨Nat.le_trans (List.length_filter_le ..) h.1, fun l hl => h.2 l (List.mem_filter.mp hl).1⟩
theorem sc_gone_round : FnScope ["hands", "side", "length", "rows", "x", "met", "row", "looks", "look", "begun", "first", "shown", "hand"] ["hands", "side"] (defScope s_gone_round) := ⟨rfl, rfl, rfl, by decide +kernel, rfl, by decide +kernel, by decide +kernel⟩
theorem D_gone_round (T : Txt w K mg) : Ok P w K mg base CX0 4 "gone_round" ["hands", "side"] (spGone K) := by
  obtain ⟨fd, F⟩ := T.d_gone_round
  refine ⟨fd, F.ok sc_gone_round (fun _ _ _ _ h => by obtain ⟨_, _, rfl, _⟩ := sp2o h; rfl) (fun cdv A outer s H vs Q E hr h => ?_), T.g_gone_round, F.kp, F.bindsN fun _ _ _ _ _ _ us hl => match us, hl with | [_, _], _ => rfl⟩
  replace h := sp2o h
  obtain ⟨v0, v1, rfl, h⟩ := h
  refine ⟨_, PSs.nox (pss_cons (ps_expr (pe_callO (D_need_round T) (hr.mono (by decide)) rfl pass0 (pa_cons (pv 0) pa_nil)))
  (pss_cons (ps_set (i := 2) sc_gone_round.nd rfl (by first | exact Or.inl rfl | exact Or.inr rfl) (pe_methO0 (pe_ix ix_list (pv 0) pe_int (fun _ _ => rfl)) (D_Dark_length T) (hr.mono (by decide)) pass0))
  (pss_cons (ps_setLc (own := [("hand", 12)]) (g := (gName 12)) (tt := tYes) (i := 3) rfl sc_gone_round.nd rfl rfl (sw_true rfl rfl rfl (by decide +kernel)) (pi_list (pv 0)) (blkOk_by (own := [("hand", 12)]) (N := ["hands", "side", "length", "rows", "x", "met", "row", "looks", "look", "begun", "first", "shown", "hand"]) (sc := defScope s_gone_round) (by decide +kernel)) (fun _ _ _ _ _ => (pg_name (i := 12) sc_gone_round.nd rfl (Or.inl rfl))) (fun _ _ _ _ _ => pts_nil) (fun _ _ _ _ _ => (pe_callO (D_looks_by T) (hr.mono (by decide)) rfl pass0 (pa_cons (pv 12) (pa_cons (pv 1) pa_nil)))))
  (pss_cons (ps_if (pt_cmpR (op_inD (hu65 hr)) (pe_lst pa_nil) (pv 3) (by rfl))
  (pss_one (ps_ret pe_non))
  pss_nil)
  (pss_cons (ps_set (i := 4) sc_gone_round.nd rfl (by first | exact Or.inl rfl | exact Or.inr rfl) pe_int)
  (pss_cons (ps_set (i := 5) sc_gone_round.nd rfl (by first | exact Or.inl rfl | exact Or.inr rfl) pe_dnewK)
  (pss_cons (ps_set (i := 6) sc_gone_round.nd rfl (by first | exact Or.inl rfl | exact Or.inr rfl) (pe_lst pa_nil))
  (pss_cons (ps_while (by first | exact PassesOwn.never | exact passes_of rfl) (pt_cmp (pc_dnotin (hu_of hr) (pe_op op_mod (pv 4) (pv 2)) (pv 5)))
  (pss_cons (ps_dput (hu_of hr) (pv 5) (pe_op op_mod (pv 4) (pv 2)) (pe_tup (pa_cons (pv 4) (pa_cons (pe_callB call_len (by rfl) T.f_len (by decide +kernel) (pa_cons (pv 6) pa_nil)) pa_nil))) rfl)
  (pss_one (ps_for (by first | exact PassesOwn.never | exact passes_of rfl) rfl (pi_list (pv 3)) (pg_name (i := 7) sc_gone_round.nd rfl (by first | exact Or.inl rfl | exact Or.inr rfl))
  (pss_cons (ps_asg (pe_callO (D_led_by T) (hr.mono (by decide)) rfl pass0 (pa_cons (pv 1) (pa_cons (pv 7) (pa_cons (pv 2) (pa_cons (pv 4) pa_nil))))) (pg_tup rfl (pgs_cons (pg_name (i := 4) sc_gone_round.nd rfl (by first | exact Or.inl rfl | exact Or.inr rfl)) (pgs_cons (pg_name (i := 8) sc_gone_round.nd rfl (by first | exact Or.inl rfl | exact Or.inr rfl)) pgs_nil))))
  (pss_one (ps_expr (pe_bm PySem.F.plainAttrs_list PySem.F.slot_list_append PySem.F.type_list_append mt_append (pv 6) (pa_cons (pv 8) pa_nil)))))))))
  (pss_cons (ps_asg (pe_dget (hu_of hr) (pv 5) (pe_op op_mod (pv 4) (pv 2)) (fun _ _ => rfl)) (pg_tup rfl (pgs_cons (pg_name (i := 9) sc_gone_round.nd rfl (by first | exact Or.inl rfl | exact Or.inr rfl)) (pgs_cons (pg_name (i := 10) sc_gone_round.nd rfl (by first | exact Or.inl rfl | exact Or.inr rfl)) pgs_nil))))
  (pss_cons (ps_set (i := 11) sc_gone_round.nd rfl (by first | exact Or.inl rfl | exact Or.inr rfl) (pe_slice sl_list (pv 6) (po_some (pv 10)) po_none))
  (pss_one (ps_ret (pe_tup (pa_cons (pe_tup (pa_cons (pe_op op_fdivW (pe_op op_sub (pv 4) (pv 9)) (pv 2)) (pa_cons (pe_op op_fdivW (pe_callB call_len (by rfl) T.f_len (by decide +kernel) (pa_cons (pv 11) pa_nil)) (pe_callB call_len (by rfl) T.f_len (by decide +kernel) (pa_cons (pv 0) pa_nil))) pa_nil))) (pa_cons (pv 11) pa_nil))))))))))))))), ?_⟩
  obtain ⟨G, q, L, hs, s', gh, rfl, hA, rfl, hL, mL, hne, hl, hg, k⟩ := h
  walk_at "rd"
  refine sp1 ⟨G, q, L, hs, gh, rfl, hA, hne, hl, fun H1 go1 => ?_⟩
  have hA1 := hA.go go1
  obtain ⟨ps0, p0, ls0, hq0, hD0⟩ := hA1.fst hne
  have hq01 := go1.gh.seq hq0
  obtain ⟨dx0, l0, hp0, hd0⟩ := id hD0
  obtain ⟨ps, hq, hpl, hD⟩ := id hA
  walk_at "rd"
  refine ⟨q, _, 0, .ref p0, rfl, rfl, hq01, atI_nat (j := 0) rfl, ?_⟩
  refine ⟨_, _, _, rfl, hp0, rfl, ?_⟩
  refine sp1 ⟨G, p0, L, ls0, rfl, hD0, ?_⟩
  walk_at "rd"
  refine ⟨⟨_, go1.gh.seq hq⟩, ?_⟩
  intro D hD2
  have hDn := go1.nn hD2
  have hDH := go1.lv D hD2
  refine lc_list (xs := ps.map V.ref) (fun i H2 => ∃ G2 zs, Go [] G H G2 H2 ∧ G2 D = none ∧ H2 D = some (.lst zs) ∧ DpAll K G2 zs ((rowsOf s' (hs.take i)).map lsD) ∧ zs.length ≤ i) ⟨G, [], go1.tmp hD2, hDn, upd_same, .nil, Nat.le_refl _⟩ (fun i H2 _ ⟨G2, zs, g, _⟩ => g.gh.seq (g.gg.seq hq)) ?_ ?_
  · rintro i v H2 hi ⟨G2, zs, g, gD, e, hz, hzl⟩
    rw [List.getElem?_map] at hi
    obtain ⟨p, hp, rfl⟩ := Option.map_eq_some_iff.mp hi
    have hip := (List.getElem?_eq_some_iff.mp hp).1
    have hin : i < hs.length := by omega
    obtain ⟨ls, hls⟩ : ∃ ls, hs[i]? = some ls := ⟨_, List.getElem?_eq_getElem hin⟩
    have hlm : ls ∈ hs := List.mem_of_getElem? hls
    have hDi := (hD i p ls hp hls).go g (fun z => nomatch z)
    walk_at "rd"
    refine sp2 ⟨G2, p, L, ls, s', g.gh, rfl, hDi, rfl, (hg ls hlm).1, fun G3 H3 r go3 hr => ?_⟩
    have g3 := g.trans go3 (fun _ z => nomatch z)
    have eH2 : H2 D ≠ none := by rw [e]; simp
    have gD3 := go3.nw D gD eH2
    have e3 := go3.kp D _ (fun z => nomatch z) e
    have et : hs.take (i + 1) = hs.take i ++ [ls] := by rw [List.take_succ, hls]; rfl
    walk_at "rd"
    refine ⟨_, e3, slt (by omega), G3, zs ++ [r], g3.set gD3 (.inr hDH), gD3, upd_same, ?_, by rw [List.length_append]; show _ + 1 ≤ _; omega⟩
    rw [et]
    unfold rowsOf
    rw [List.map_append, List.map_append]
    exact dpa_snoc (dpam go3.gg hz) hr
  · rintro H2 ⟨G2, zs, g, gD, e, hz, hzl⟩
    rw [List.length_map, hpl, List.take_length] at hz
    rw [List.length_map, hpl] at hzl
    obtain ⟨rows, hrows⟩ : ∃ rows, rowsOf s' hs = rows := ⟨_, rfl⟩
    have hrl : rows.length = hs.length := by rw [← hrows]; unfold rowsOf; rw [List.length_map]
    have hrg : ∀ ls ∈ rows, GdL ls := fun ls hls => by
      rw [← hrows] at hls
      unfold rowsOf at hls
      obtain ⟨l0, h0, rfl⟩ := List.mem_map.mp hls
      exact gdl_side (hg l0 h0)
    unfold GoneIs at k
    rw [hrows] at k hz
    have g3 := g.seal e gD hDH
    have hz3 := dpam (same_seal (o := .lst zs) gD) hz
    have hDD : (upd G2 D (.lst zs)) D = some (.lst zs) := upd_same
    generalize upd G2 D (.lst zs) = G3 at g3 hz3 hDD
    have hrd : Dp K G3 (.ref D) (.list (rows.map lsD)) := .lst (SqL.of hDD) hz3
    walk_at "rd"
    intro t0 ht0
    have g4 := g3.tmp (o := .lst []) ht0
    refine ⟨_, rfl, ?_⟩
    refine ⟨.list [], rows.map lsD, .lst (SqL.of upd_same) .nil, dpm g4.gh hrd, rfl, shaped_rows fun ls hls => (hrg ls hls).w, ?_⟩
    rw [any_nil]
    walk_at "rd"
    refine ifb (fun z => ?_) (fun z => ?_)
    · obtain ⟨ls, h1, h2⟩ := List.any_eq_true.mp z
      walk_at "rd"
      exact k _ _ _ _ g4 (.inl ⟨⟨ls, h1, List.isEmpty_iff.mp h2⟩, rfl⟩) .non
    have hne2 : ∀ ls ∈ rows, ls ≠ [] := fun ls hls e0 => by
      have := List.any_eq_false.mp z ls hls
      rw [e0] at this
      exact this rfl
    clear z
    walk_at "rd"
    intro M hM
    have g5 := g4.tmp (o := .dK []) hM
    walk_at "rd"
    intro R hR
    have g6 := g5.tmp (o := .lst []) hR
    walk_at "rd"
    have hnH : ∀ b, (upd (upd (upd H2 t0 (.lst [])) M (.dK [])) R (.lst [])) b = none → H b = none := fun b hb => g6.lv b hb
    have hMH : H M = none := g4.lv M hM
    have hRH : H R = none := g5.lv R hR
    have gM : G3 M = none := g4.nn hM
    have gR : G3 R = none := g5.nn hR
    have hMR : M ≠ R := ne_of_none (o := .dK []) upd_same hR
    have h0 : 0 < rows.length := by rw [hrl]; exact List.length_pos_iff.mpr hne
    have start : GInv K G H G3 s' L rows M R 0 (upd (upd (upd H2 t0 (.lst [])) M (.dK [])) R (.lst [])) := ⟨G3, [], [], [], g6, Same.refl _, gM, gR, by rw [upd_ne hMR, upd_same], rfl, fun i hi => absurd hi (by omega), fun z _ => rfl, upd_same, .nil, by simp, fun i hi => absurd hi (by omega), fun i k _ hk => absurd hk (by omega)⟩
    refine ⟨fun m σ H' => ∃ (n : Nat) (v7 v8 v12 : Option V), m + n = 1002 ∧ σ = [some (.ref q), some (.str (sideW s')), some (.int L), some (.ref D), some (.int (tr s' L rows (n * rows.length))), some (.ref M), some (.ref R), v7, v8, none, none, none, v12] ∧ GInv K G H G3 s' L rows M R n H',
      ⟨1002, 0, none, none, none, rfl, ?_, start⟩, ?_⟩
    · rw [Nat.zero_mul]
      rfl
    rintro m σ H3 ⟨n, v7, v8, v12, hm, rfl, ⟨G4, kvs, zs2, shown, g7, s7, gM7, gR7, eM, hkl, hv1, hv2, eR, hz7, hsl, hsh, hdist⟩⟩
    have hvis := visits hL hne2 h0 hdist
    have hlast : (rows.getD (rows.length - 1) []).length ≤ 1000 := by
      have e1 : rows[rows.length - 1]? = some rows[rows.length - 1] := List.getElem?_eq_getElem (by omega)
      rw [List.getD_eq_getElem?_getD, e1]
      exact (hrg _ (List.getElem_mem _)).1
    have hB : ∀ ls ∈ rows, ∀ l ∈ ls, l.2.1.natAbs + l.2.2.natAbs + L.natAbs ≤ 3 * 2 ^ 2000 := fun ls hls l hl => by
      have h1 := (hrg ls hls).2 l hl
      have h2 := h1.x
      have h3 := h1.y
      unfold Md at h2 h3 mL
      omega
    have hX : ∀ i, i ≤ 2 ^ 20 → Mx (tr s' L rows i) := fun i hi => by
      have h1 := tr_abs (s := s') hL hne2 hB h0 i
      have h2 : i * (3 * 2 ^ 2000) ≤ 2 ^ 20 * (2 ^ 2 * 2 ^ 2000) := Nat.mul_le_mul hi (Nat.mul_le_mul_right _ (by decide))
      rw [← Nat.pow_add, ← Nat.pow_add] at h2
      exact Nat.lt_of_le_of_lt (Nat.le_trans h1 h2) (Nat.pow_lt_pow_right (by decide) (by decide))
    have hnl : n * rows.length ≤ 1001 * 900 := Nat.mul_le_mul (by omega) (by omega)
    walk_at "rd"
    refine ⟨hL, ?_⟩
    walk_at "rd"
    refine ⟨_, _, rfl, DGet.k (k := .inl (tr s' L rows (n * rows.length) % L)) eM, ?_⟩
    by_cases hex : ∃ i, i < n ∧ tr s' L rows (i * rows.length) % L = tr s' L rows (n * rows.length) % L
    · obtain ⟨i0, hi0, he0⟩ := hex
      obtain ⟨t, ht1, ht2⟩ := hv1 i0 hi0
      rw [he0] at ht1
      rw [ht1]
      refine ⟨false, rfl, ?_⟩
      show { nx := _, rt := _ : Ends }.nx _ _
      walk_at "rd"
      refine ⟨hL, ?_⟩
      walk_at "rd"
      refine ⟨_, _, rfl, dig (k := .inl (tr s' L rows (n * rows.length) % L)) eM ht1, ?_⟩
      have hT := seqT g7.gh ht2
      have hin : i0 * rows.length ≤ n * rows.length := Nat.mul_le_mul_right _ (Nat.le_of_lt hi0)
      have hzl2 : zs2.length = n * rows.length := by
        have := dpa_len hz7
        rw [List.length_map] at this
        omega
      walk_at "rd"
      refine ⟨R, _, rfl, SqL.of eR, fun w1 hw1 => ?_⟩
      rw [cut_from (by omega)]
      obtain ⟨G8, go8, gh8, s8, e8⟩ := go_new (o := .lst (zs2.drop (i0 * rows.length))) g7 hw1
      have hdl : (zs2.drop (i0 * rows.length)).length = (n - i0) * rows.length := by rw [List.length_drop, hzl2, Nat.sub_mul]
      have hq8 := go8.gh.seq (go8.gg.seq hq)
      have hw8 : SqL K (upd H3 w1 (.lst (zs2.drop (i0 * rows.length)))) w1 (zs2.drop (i0 * rows.length)) := SqL.of upd_same
      obtain ⟨ep, hP⟩ := pace_found hL hne2 hdist hi0 he0.symm
      walk_at "rd"
      refine ⟨Sm.div hL mL.sm, ?_⟩
      walk_at "rd"
      have hpl9 : (ps.map V.ref).length = rows.length := by rw [List.length_map, hpl, hrl]
      have ediv : ((zs2.drop (i0 * rows.length)).length : Int) / ((ps.map V.ref).length : Int) = ((n - i0 : Nat) : Int) := by
        rw [hdl, hpl9, Int.natCast_mul, Int.mul_ediv_cancel _ (by omega)]
      refine ⟨Sm.div (by rw [hpl9]; omega) (Sm.of (by rw [hpl9]; exact Nat.lt_of_le_of_lt (m := 900) (by omega) (by decide))), ?_⟩
      dsimp only
      rw [ediv]
      walk_at "rd"
      intro w2 hw2
      obtain ⟨G9, go9, gh9, s9, e9⟩ := go_new (o := .tup [.int ((tr s' L rows (n * rows.length) - tr s' L rows (i0 * rows.length)) / L), .int ((n - i0 : Nat) : Int)]) go8 hw2
      walk_at "rd"
      intro w3 hw3
      obtain ⟨G10, go10, gh10, s10, e10⟩ := go_new (o := .tup [.ref w2, .ref w1]) go9 hw3
      have hz10 := dpam (s8.trans (s9.trans s10)) hz7
      have hdr := dpa_drop (i0 * rows.length) hz10
      rw [← List.map_drop] at hdr
      refine k G10 _ (.ref w3) _ go10 (.inr ⟨hne2, _, n - i0, shown.drop (i0 * rows.length), rfl, hP, ?_, i0, ?_, fun i hi => ?_⟩) (.tup (SqT.of e10) (.cons (i2_dp (seqT s10 (SqT.of e9))) (.cons (.lst (SqL.of (s10 _ _ (s9 _ _ e8))) hdr) .nil)))
      · rw [List.length_drop, hsl, Nat.sub_mul]
      · rw [show i0 + (n - i0) = n by omega]
        exact ep
      · rw [Nat.sub_mul] at hi
        obtain ⟨l, b1, b2, b3⟩ := hsh (i0 * rows.length + i) (by omega)
        refine ⟨l, by rw [List.getElem?_drop]; exact b1, ?_, b3⟩
        rw [Nat.add_comm, Nat.add_mul_mod_self_right] at b2
        exact b2
    · have hnone : valV kvs (.inl (tr s' L rows (n * rows.length) % L)) = none := hv2 _ fun i hi e => hex ⟨i, hi, e⟩
      rw [hnone]
      refine ⟨true, rfl, ?_⟩
      refine ⟨fun σ' H4 => ∃ (v7 v8 v12 : Option V), σ' = [some (.ref q), some (.str (sideW s')), some (.int L), some (.ref D), some (.int (tr s' L rows ((n + 1) * rows.length))), some (.ref M), some (.ref R), v7, v8, none, none, none, v12] ∧ GInv K G H G3 s' L rows M R (n + 1) H4,
        fun σ' H4 ⟨v7, v8, v12, e1, e2⟩ => ⟨m - 1, by omega, n + 1, v7, v8, v12, by omega, e1, e2⟩, ?_⟩
      walk_at "rd"
      intro t ht
      obtain ⟨G5, go5, gh5, s5, e5, f5⟩ := go_newN (o := .tup [.int (tr s' L rows (n * rows.length)), .int ((zs2.length : Nat) : Int)]) g7 ht
      have hMt : M ≠ t := ne_of_none eM ht
      have hRt : R ≠ t := ne_of_none eR ht
      have hzl2 : zs2.length = n * rows.length := by
        have := dpa_len hz7
        rw [List.length_map] at this
        omega
      walk_at "rd"
      refine ⟨hL, ?_⟩
      have e5n := e5
      rw [hzl2] at e5n
      have hM5 : (upd H3 t (.tup [.int (tr s' L rows (n * rows.length)), .int ((zs2.length : Nat) : Int)])) M = some (.dK kvs) := by rw [upd_ne hMt]; exact eM
      have hR5 : (upd H3 t (.tup [.int (tr s' L rows (n * rows.length)), .int ((zs2.length : Nat) : Int)])) R = some (.lst zs2) := by rw [upd_ne hRt]; exact eR
      refine ⟨_, _, rfl, DPut.k (k := .inl (tr s' L rows (n * rows.length) % L)) hM5 (slt (by omega)), ?_⟩
      have gM5 : G5 M = none := (f5 M hMt).trans gM7
      have gR5 : G5 R = none := (f5 R hRt).trans gR7
      have g8 := go5.set (o := .dK (putK kvs (.inl (tr s' L rows (n * rows.length) % L)) (.ref t))) gM5 (.inr hMH)
      have hR6 : (upd (upd H3 t (.tup [.int (tr s' L rows (n * rows.length)), .int ((zs2.length : Nat) : Int)])) M (.dK (putK kvs (.inl (tr s' L rows (n * rows.length) % L)) (.ref t)))) R = some (.lst zs2) := by rw [upd_ne hMR.symm]; exact hR5
      have hDD5 := s5 _ _ (s7 _ _ hDD)
      walk_at "rd"
      refine ⟨⟨_, SqL.of (g8.gh _ _ hDD5)⟩, ?_⟩
      refine for_list (xs := zs) (fun j σ H5 => ∃ (G6 : Hp) (zs3 : List V) (shown3 : List Look) (v7 v8 v12 : Option V), Go [] G H G6 H5 ∧ Same G5 G6 ∧ G6 M = none ∧ G6 R = none ∧ H5 M = some (.dK (putK kvs (.inl (tr s' L rows (n * rows.length) % L)) (.ref t))) ∧
          H5 R = some (.lst zs3) ∧ DpAll K G6 zs3 (shown3.map lk) ∧ shown3.length = n * rows.length + j ∧
          (∀ i, i < n * rows.length + j → ∃ l, shown3[i]? = some l ∧ l ∈ rows.getD (i % rows.length) [] ∧ ledv s' L l (tr s' L rows i) = tr s' L rows (i + 1)) ∧
          σ = [some (.ref q), some (.str (sideW s')), some (.int L), some (.ref D), some (.int (tr s' L rows (n * rows.length + j))), some (.ref M), some (.ref R), v7, v8, none, none, none, v12])
        ⟨G5, zs2, shown, v7, v8, v12, g8, Same.refl _, gM5, gR5, upd_same, hR6, dpam s5 hz7, hsl, hsh, rfl⟩ (fun j σ H5 _ ⟨G6, _, _, _, _, _, g, sg, _⟩ => SqL.of (g.gh _ _ (sg _ _ hDD5))) ?_ ?_
      · rintro j v σ H5 hj ⟨G6, zs3, shown3, v7, v8, v12, g, sg, gM6, gR6, eM6, eR6, hz6, hl6, hsh6, rfl⟩
        obtain ⟨d, hd1, hd2⟩ := dpa_at hz3 hj
        rw [List.getElem?_map] at hd1
        obtain ⟨ls, hls, rfl⟩ := Option.map_eq_some_iff.mp hd1
        have hlm : ls ∈ rows := List.mem_of_getElem? hls
        have hjl := (List.getElem?_eq_some_iff.mp hls).1
        have hd6 := dpm (s7.trans (s5.trans sg)) hd2
        have hmod : (n * rows.length + j) % rows.length = j := by rw [Nat.add_comm, Nat.add_mul_mod_self_right, Nat.mod_eq_of_lt hjl]
        have hrow : rows.getD ((n * rows.length + j) % rows.length) [] = ls := by rw [hmod, List.getD_eq_getElem?_getD, hls]; rfl
        have hnext : ledS s' L ls (tr s' L rows (n * rows.length + j)) = tr s' L rows (n * rows.length + (j + 1)) := by
          show _ = ledS s' L (rows.getD ((n * rows.length + j) % rows.length) []) _
          rw [hrow]
          rfl
        walk_at "rd"
        refine sp4 ⟨G6, s', L, tr s' L rows (n * rows.length + j), ls, g.gh, rfl, hd6, rfl, rfl, hne2 ls hlm, hrg ls hlm, hL, mL, hX _ (by omega), fun G7 H7 r l go7 hl7 hv7 hr7 => ?_⟩
        obtain ⟨a, ys, rfl, ha, hys⟩ := dp_tup hr7
        obtain ⟨y1, ys, rfl, hy1, hys⟩ := dpa_cons hys
        obtain ⟨y2, ys, rfl, hy2, hys⟩ := dpa_cons hys
        obtain rfl := dpa_nil hys
        obtain rfl := dp_int hy1
        have g' := g.trans go7 (fun _ z => nomatch z)
        have ha7 := seqT go7.gh ha
        have gM8 := go7.nw M gM6 (by rw [eM6]; simp)
        have gR8 := go7.nw R gR6 (by rw [eR6]; simp)
        have eM8 := go7.kp M _ (fun z => nomatch z) eM6
        have eR8 := go7.kp R _ (fun z => nomatch z) eR6
        have hz6l := dpa_len hz6
        rw [List.length_map] at hz6l
        walk_at "rd"
        refine ⟨.inl ⟨rfl, _, SqL.of eR8⟩, ?_⟩
        walk_at "rd"
        refine ⟨_, _, _, rfl, rfl, eR8, slt (by omega), ?_⟩
        refine ⟨G7, zs3 ++ [y2], shown3 ++ [l], _, _, _, g'.set gR8 (.inr hRH), sg.trans go7.gg, gM8, gR8, by rw [upd_ne hMR]; exact eM8, upd_same, ?_, by rw [List.length_append]; show _ + 1 = _; omega, fun i hi => ?_, by rw [← hnext]; rfl⟩
        · rw [List.map_append]
          exact dpa_snoc (dpam go7.gg hz6) hy2
        · rcases Nat.lt_or_ge i (n * rows.length + j) with hlt | hge
          · obtain ⟨l1, a1, a2, a3⟩ := hsh6 i hlt
            exact ⟨l1, by rw [List.getElem?_append_left (by omega)]; exact a1, a2, a3⟩
          · have ei : i = n * rows.length + j := by omega
            subst ei
            exact ⟨l, by rw [List.getElem?_append_right (by omega), hl6, Nat.sub_self]; rfl, by rw [hrow]; exact hl7, by rw [hv7, hnext]; rfl⟩
      · rintro σ H5 ⟨G6, zs3, shown3, v7, v8, v12, g, sg, gM6, gR6, eM6, eR6, hz6, hl6, hsh6, rfl⟩
        have hzl3 : zs.length = rows.length := by
          have := dpa_len hz3
          rw [List.length_map] at this
          exact this
        rw [hzl3] at hl6 hsh6
        rw [hzl3, ← Nat.succ_mul]
        rw [← Nat.succ_mul] at hl6 hsh6
        refine ⟨v7, v8, v12, rfl, G6, _, zs3, shown3, g, s7.trans (s5.trans sg), gM6, gR6, eM6, ?_, fun i hi => ?_, fun z hz => ?_, eR6, hz6, hl6, hsh6, fun i k hik hk => ?_⟩
        · rw [putK_new _ hnone, List.length_append, hkl]
          rfl
        · rw [valV_put]
          rcases Nat.lt_or_ge i n with hlt | hge
          · obtain ⟨t1, b1, b2⟩ := hv1 i hlt
            have hne3 : ¬ ((.inl (tr s' L rows (i * rows.length) % L) : Key) = .inl (tr s' L rows (n * rows.length) % L)) := fun z => hex ⟨i, hlt, Sum.inl.inj z⟩
            rw [if_neg hne3]
            exact ⟨t1, b1, seqT (s5.trans sg) b2⟩
          · have ei : i = n := by omega
            subst ei
            rw [if_pos rfl]
            refine ⟨t, rfl, ?_⟩
            exact seqT sg (SqT.of e5n)
        · rw [valV_put, if_neg (fun z2 => hz n (Nat.lt_succ_self n) (Sum.inl.inj z2).symm)]
          exact hv2 z fun i hi => hz i (Nat.lt_succ_of_lt hi)
        · rcases Nat.lt_or_ge k n with hlt | hge
          · exact hdist i k hik hlt
          · have ek : k = n := by omega
            subst ek
            exact fun z => hex ⟨i, hik, z⟩

end
end Dk
namespace Dk
open PySem PySem.Spec L2
local macro_rules | `(tactic| walk_at "sq") => `(tactic| first | assumption | exact SqT.of (by assumption) | exact SqL.of (by assumption) | exact SqT.of upd_same | exact SqL.of upd_same | exact seqT (by assumption) (by assumption) | exact Same.seq (by assumption) (by assumption))
local macro_rules | `(tactic| walk_at "rd") => `(tactic| repeat (first | refine ⟨_, rfl, ?_⟩ | refine ⟨_, _, rfl, rfl, ?_⟩ | refine ⟨_, _, rfl, ?_⟩ | refine ⟨rfl, ?_⟩ | refine ⟨_, _, _, _, rfl, rfl, by walk_at "sq", by rfl, ?_⟩ | refine ⟨_, _, rfl, by walk_at "sq", rfl, ?_⟩ | refine ⟨_, _, rfl, Or.inl ⟨_, by walk_at "sq", rfl⟩, ?_⟩ | refine ⟨_, _, rfl, Or.inr ⟨_, by walk_at "sq", rfl⟩, ?_⟩ | refine ⟨Nat.le_of_ble_eq_true rfl, ?_⟩))

section
variable {P : Program} {w : World} {K : PySem.W.Frag} {mg : Str → Option Value} {base : Heap}
def optP : Option (Int × Int) → PyData
  | none => .none
  | some p => dI2 p
def spPaces (K : PySem.W.Frag) : Sp := Sp1 fun a H Q _ => ∃ (G : Hp) (q : Addr) (L : Int) (hs : List (List Look)), Same G H ∧ a = .ref q ∧ HandsAt K G H q L hs ∧ 0 < L ∧ Md L ∧ hs ≠ [] ∧ hs.length ≤ 900 ∧ (∀ ls ∈ hs, GdL ls) ∧
  ∀ G' H' r ro rf, Go [] G H G' H' → PaceIs true L hs ro → PaceIs false L hs rf → Dp K G' r (.tuple [optP ro, optP rf]) → Q r H'
theorem gone_pace {s : Bool} {L : Int} {hs : List (List Look)} {d : PyData} (h : GoneIs s L hs d) : ∃ o, PaceIs s L hs o ∧ ((o = none ∧ d = .none) ∨ ∃ p shown, o = some p ∧ d = .tuple [dI2 p, lsD shown]) := by
  rcases h with ⟨h1, rfl⟩ | ⟨h1, p, q, shown, rfl, hP, _⟩
  · exact ⟨none, .inl ⟨h1, rfl⟩, .inl ⟨rfl, rfl⟩⟩
  · exact ⟨some (p, (q : Int)), .inr ⟨h1, p, q, rfl, hP⟩, .inr ⟨_, shown, rfl, rfl⟩⟩
theorem sc_paces : FnScope ["hands", "found", "side", "told"] ["hands"] (defScope s_paces) := ⟨rfl, rfl, rfl, by decide +kernel, rfl, by decide +kernel, by decide +kernel⟩
theorem D_paces (T : Txt w K mg) : Ok P w K mg base CX0 5 "paces" ["hands"] (spPaces K) := by
  obtain ⟨fd, F⟩ := T.d_paces
  refine ⟨fd, F.ok sc_paces (fun _ _ _ _ h => by obtain ⟨_, rfl, _⟩ := sp1o h; rfl) (fun cdv A outer s H vs Q E hr h => ?_), T.g_paces, F.kp, F.bindsN fun _ _ _ _ _ _ us hl => match us, hl with | [_], _ => rfl⟩
  replace h := sp1o h
  obtain ⟨v0, rfl, h⟩ := h
  refine ⟨_, PSs.nox (pss_cons (ps_setLc (own := [("side", 2)]) (g := (gName 2)) (tt := tYes) (i := 1) rfl sc_paces.nd rfl rfl (sw_true rfl rfl rfl (by decide +kernel)) (pi_kd (pe_glob (v := .ref (He.ga K "WORDS_paces")) rfl T.o_WORDS_paces rfl)) (blkOk_by (own := [("side", 2)]) (N := ["hands", "found", "side", "told"]) (sc := defScope s_paces) (by decide +kernel)) (fun _ _ _ _ _ => (pg_name (i := 2) sc_paces.nd rfl (Or.inl rfl))) (fun _ _ _ _ _ => pts_nil) (fun _ _ _ _ _ => (pe_callO (D_gone_round T) (hr.mono (by decide)) rfl pass0 (pa_cons (pv 0) (pa_cons (pv 2) pa_nil)))))
  (pss_one (ps_ret (pe_callTy call_tuple_of (by rfl) T.f_tuple (by decide +kernel) (pa_cons (pe_lc (own := [("told", 3)]) (g := (gName 3)) (tt := tYes) rfl sc_paces.nd (pi_list (pv 1)) (blkOk_by (own := [("told", 3)]) (N := ["hands", "found", "side", "told"]) (sc := defScope s_paces) (by decide +kernel)) (fun _ _ _ _ _ => (pg_name (i := 3) sc_paces.nd rfl (Or.inl rfl))) (fun _ _ _ _ _ => pts_nil) (fun _ _ _ _ _ => (pe_ifExp (pt_cmpR op_isN (pv 3) pe_non (nomark _)) pe_non (pe_ix (ix_tupK K) (pv 3) pe_int (fun _ _ => rfl))))) pa_nil))))), ?_⟩
  obtain ⟨G, q, L, hs, gh, rfl, hA, hL, mL, hne, hl, hg, k⟩ := h
  walk_at "rd"
  refine ⟨_, _, rfl, T.t_WORDS_paces, ?_⟩
  intro D hD
  have hDG := Dk.Same.fr gh hD
  refine lc_it walk_kd (fun i H1 => ∃ (G1 : Hp) (zs : List V) (ds : List PyData), Go [] G H G1 H1 ∧ G1 D = none ∧ H1 D = some (.lst zs) ∧ DpAll K G1 zs ds ∧ ds.length = i ∧ (∀ d, ds[0]? = some d → GoneIs true L hs d) ∧ (∀ d, ds[1]? = some d → GoneIs false L hs d))
    ⟨G, [], [], (Go.refl gh).tmp hD, hDG, upd_same, .nil, rfl, (fun d e => by cases e), (fun d e => by cases e)⟩ (fun _ _ _ _ => trivial) ?_ ?_
  · rintro i v H1 H2 hi ⟨G1, zs, ds, g, gD, e, hz, hdl, hd0, hd1⟩ ⟨rfl, z, hz1, rfl⟩
    obtain ⟨s', rfl, hsi⟩ : ∃ s', z = sideW s' ∧ ((i = 0 ∧ s' = true) ∨ (i = 1 ∧ s' = false)) := by
      rcases i with _ | _ | i
      · exact ⟨true, by cases hz1; rfl, .inl ⟨rfl, rfl⟩⟩
      · exact ⟨false, by cases hz1; rfl, .inr ⟨rfl, rfl⟩⟩
      · cases hz1
    walk_at "rd"
    refine sp2 ⟨G1, q, L, hs, s', g.gh, rfl, hA.go g, rfl, hL, mL, hne, hl, hg, fun G3 H3 r d g3 hd hr => ?_⟩
    have g4 := g.trans g3 (fun _ z => nomatch z)
    have eD : H2 D ≠ none := by rw [e]; simp
    have gD3 := g3.nw D gD eD
    have e3 := g3.kp D _ (fun z => nomatch z) e
    have hzl := dpa_len hz
    have hi2 : i < 2 := hi
    refine ⟨_, e3, slt (by omega), G3, zs ++ [r], ds ++ [d], g4.set gD3 (.inr hD), gD3, upd_same, dpa_snoc (dpam g3.gg hz) hr, by rw [List.length_append, hdl]; rfl, fun d' e' => ?_, fun d' e' => ?_⟩
    · rcases hsi with ⟨rfl, rfl⟩ | ⟨rfl, rfl⟩
      · rw [List.getElem?_append_right (by omega), hdl] at e'
        cases e'
        exact hd
      · rw [List.getElem?_append_left (by omega)] at e'
        exact hd0 d' e'
    · rcases hsi with ⟨rfl, rfl⟩ | ⟨rfl, rfl⟩
      · rw [List.getElem?_eq_none (by rw [List.length_append, hdl]; exact Nat.le_refl 1)] at e'
        cases e'
      · rw [List.getElem?_append_right (by omega), hdl] at e'
        cases e'
        exact hd
  · rintro H1 ⟨G1, zs, ds, g, gD, e, hz, hdl, hd0, hd1⟩
    obtain ⟨d0, d1, rfl⟩ : ∃ d0 d1, ds = [d0, d1] := by
      rcases ds with _ | ⟨d0, _ | ⟨d1, _ | ⟨d2, ds⟩⟩⟩
      · cases hdl
      · cases hdl
      · exact ⟨d0, d1, rfl⟩
      · cases hdl
    obtain ⟨ro, p0, c0⟩ := gone_pace (hd0 d0 rfl)
    obtain ⟨rf, p1, c1⟩ := gone_pace (hd1 d1 rfl)
    have g1 := g.seal e gD hD
    have hz1 := dpam (same_seal (o := .lst zs) gD) hz
    have hDD : (upd G1 D (.lst zs)) D = some (.lst zs) := upd_same
    generalize upd G1 D (.lst zs) = G2 at g1 hz1 hDD
    walk_at "rd"
    refine ⟨⟨_, SqL.of e⟩, ?_⟩
    intro D2 hD2
    have hDG2 := g1.nn hD2
    have key : ∀ (i : Nat) (d : PyData), ([d0, d1] : List PyData)[i]? = some d → ∃ o : Option (Int × Int), ([ro, rf] : List (Option (Int × Int)))[i]? = some o ∧ ((o = none ∧ d = .none) ∨ ∃ p shown, o = some p ∧ d = .tuple [dI2 p, lsD shown]) := by
      intro i d hi
      rcases i with _ | _ | i
      · cases hi; exact ⟨ro, rfl, c0⟩
      · cases hi; exact ⟨rf, rfl, c1⟩
      · cases hi
    have hzl := dpa_len hz1
    refine lc_list (xs := zs) (fun i H2 => ∃ ys, Go [] G H G2 H2 ∧ H2 D2 = some (.lst ys) ∧ DpAll K G2 ys (([ro, rf].take i).map optP)) ⟨[], g1.tmp hD2, upd_same, .nil⟩ (fun i H2 _ ⟨_, g, _⟩ => SqL.of (g.gh _ _ hDD)) ?_ ?_
    · rintro i v H2 hi ⟨ys, g, e2, hy⟩
      obtain ⟨d, hd2, hv⟩ := dpa_at hz1 hi
      obtain ⟨o, ho, hc⟩ := key i d hd2
      have hyl := dpa_len hy
      rw [List.length_map, List.length_take] at hyl
      have et : ([ro, rf].take (i + 1)) = [ro, rf].take i ++ [o] := by rw [List.take_succ, ho]; rfl
      have fin : ∀ y, Dp K G2 y (optP o) → ∃ acc, H2 D2 = some (.lst acc) ∧ acc.length < sizeLine ∧ ∃ ys, Go [] G H G2 (upd H2 D2 (.lst (acc ++ [y]))) ∧ (upd H2 D2 (.lst (acc ++ [y]))) D2 = some (.lst ys) ∧ DpAll K G2 ys (([ro, rf].take (i + 1)).map optP) := fun y hy2 => by
        refine ⟨ys, e2, slt (by have : ([ro, rf] : List (Option (Int × Int))).length = 2 := rfl
                                omega), ys ++ [y], g.set hDG2 (.inr (g1.lv D2 hD2)), upd_same, ?_⟩
        rw [et, List.map_append]
        exact dpa_snoc hy hy2
      walk_at "rd"
      rcases hc with ⟨rfl, rfl⟩ | ⟨p, shown, rfl, rfl⟩
      · obtain rfl := dp_non hv
        refine ifd (fun _ => ?_) (fun z => absurd rfl z)
        walk_at "rd"
        exact fin _ .non
      · obtain ⟨a, ws, rfl, ha, hws⟩ := dp_tup hv
        obtain ⟨w1, ws, rfl, hw1, hws⟩ := dpa_cons hws
        refine ifd (fun z => nomatch z) (fun _ => ?_)
        have ha2 := seqT g.gh ha
        walk_at "rd"
        refine ⟨a, _, 0, w1, rfl, rfl, ha2, atI_nat (j := 0) rfl, ?_⟩
        exact fin _ hw1
    · rintro H2 ⟨ys, g, e2, hy⟩
      have : zs.length = 2 := hzl
      rw [this] at hy
      walk_at "rd"
      refine ⟨_, _, rfl, .inl ⟨SqL.of e2, fun l hl' => ?_⟩⟩
      obtain ⟨G5, go5, gh5, s5, e5⟩ := go_new (o := .tup ys) g hl'
      exact k G5 _ _ ro rf go5 p0 p1 (.tup (SqT.of e5) (dpam s5 hy))

theorem go_dark {ex : List Addr} {G H G1 H1 H' : Hp} {C : Addr} {K : PySem.W.Frag} {x dx l : Addr} {L : Int} (a : Go ex G H G1 H1) (hx : H1 x = none) (hdx : H1 dx = none) (hne : dx ≠ x) (hC : C = He.ga K "Dark") (hl : (upd (upd H1 dx (.own x)) x (.ins C dx [])) l = none)
    (ho : ∀ b, b ≠ x → b ≠ l → H' b = (upd (upd H1 dx (.own x)) x (.ins C dx [])) b) (h1 : H' x = some (.ins C dx [("turn", .int L), ("heard", .ref l)])) (h2 : H' l = some (.lst [])) :
    ∃ G2, Go ex G H G2 H' ∧ Same G1 G2 ∧ G2 x = none ∧ DkAt K G2 H' x L [] := by
  subst hC
  have hlx : l ≠ x := fun z => by rw [z, upd_same] at hl; cases hl
  rw [upd_ne hlx] at hl
  have hld : l ≠ dx := fun z => by rw [z, upd_same] at hl; cases hl
  rw [upd_ne hld] at hl
  have old : ∀ b o, H1 b = some o → H' b = some o := fun b o e => by
    have n1 := ne_of_none e hx
    have n2 := ne_of_none e hdx
    have n3 := ne_of_none e hl
    rw [ho b n1 n3, upd_ne n1, upd_ne n2]
    exact e
  have lv : ∀ b, H' b = none → H1 b = none := fun b e => by
    have n1 : b ≠ x := fun z => by rw [z, h1] at e; cases e
    have n3 : b ≠ l := fun z => by rw [z, h2] at e; cases e
    rw [ho b n1 n3, upd_ne n1] at e
    by_cases n2 : b = dx
    · rw [n2, upd_same] at e; cases e
    · rw [upd_ne n2] at e; exact e
  have gl : G1 l = none := a.nn hl
  refine ⟨upd G1 l (.lst []), ⟨fun b u z => ?_, fun b u z => ?_, fun b o hb z => old b o (a.kp b o hb z), fun b z => a.lv b (lv b z), fun b z1 z2 => ?_⟩, same_seal gl, ?_, dx, l, h1, [], upd_same, .nil⟩
  · exact same_seal gl b u (a.gg b u z)
  · by_cases e : b = l
    · rw [e, upd_same] at z; rw [e, h2]; exact z
    · rw [upd_ne e] at z; exact old b u (a.gh b u z)
  · have n : b ≠ l := fun e => z2 (by rw [e]; exact a.lv l hl)
    rw [upd_ne n]
    exact a.nw b z1 z2
  · rw [upd_ne hlx.symm]
    exact a.nn hx

end
end Dk
namespace Dk
open PySem PySem.Spec L2
local macro_rules | `(tactic| walk_at "sq") => `(tactic| first | assumption | exact SqT.of (by assumption) | exact SqL.of (by assumption) | exact SqT.of upd_same | exact SqL.of upd_same | exact seqT (by assumption) (by assumption) | exact Same.seq (by assumption) (by assumption))
local macro_rules | `(tactic| walk_at "rd") => `(tactic| repeat (first | refine ⟨_, rfl, ?_⟩ | refine ⟨_, _, rfl, rfl, ?_⟩ | refine ⟨_, _, rfl, ?_⟩ | refine ⟨rfl, ?_⟩ | refine ⟨_, _, _, _, rfl, rfl, by walk_at "sq", by rfl, ?_⟩ | refine ⟨_, _, rfl, by walk_at "sq", rfl, ?_⟩ | refine ⟨_, _, rfl, Or.inl ⟨_, by walk_at "sq", rfl⟩, ?_⟩ | refine ⟨_, _, rfl, Or.inr ⟨_, by walk_at "sq", rfl⟩, ?_⟩ | refine ⟨Nat.le_of_ble_eq_true rfl, ?_⟩))

section
variable {P : Program} {w : World} {K : PySem.W.Frag} {mg : Str → Option Value} {base : Heap}
def spBelow (K : PySem.W.Frag) : Sp := Sp2 fun a b H Q _ => ∃ (x y : Addr) (p q : Int × Int), a = .ref x ∧ b = .ref y ∧ SqT K H x [.int p.1, .int p.2] ∧ SqT K H y [.int q.1, .int q.2] ∧
  (Sm p.1 ∧ Sm p.2 ∧ Sm q.1 ∧ Sm q.2) ∧ Q (.bl (decide (p.1 * q.2 < q.1 * p.2))) H

def spLowest : Sp := Sp2 fun a b H Q _ => ∃ i j : Int, a = .int i ∧ b = .int j ∧ 0 < j ∧ Sm j ∧ ∀ p, H p = none → Q (.ref p) (upd H p (.tup [.int (low2 i j).1, .int (low2 i j).2]))

theorem gcd_pos {i j : Int} (h : 0 < j) : 0 < (Int.gcd i j : Int) := by
  have := Int.gcd_pos_of_ne_zero_right i (b := j) (by omega)
  omega
theorem gcd_le {i j : Int} (h : 0 < j) : (Int.gcd i j : Int) ≤ j := Int.le_of_dvd h (Int.gcd_dvd_right ..)
theorem gcd_sm {i j : Int} (h : 0 < j) (b : Sm j) : Sm (Int.gcd i j) := Sm.le (by have := gcd_le (i := i) h; omega) b

def spBag (K : PySem.W.Frag) : Sp := Sp1 fun a H Q _ => ∃ (x : Addr) (ns : List Int), a = .ref x ∧ SqL K H x (ns.map V.int) ∧ ns.length ≤ 63 ∧
  ∀ (H' : Hp) (b g : Addr), Go [] H H H H' → H b = none → H g = none → BagAt H' b g 0 → Q (.ref b) H'
theorem sc__law_bag : FnScope ["script", "fold", "great", "cell"] ["script"] (defScope s__law_bag) := ⟨rfl, rfl, rfl, by decide +kernel, rfl, by decide +kernel, by decide +kernel⟩
theorem D__law_bag (T : Txt w K mg) : Ok P w K mg base CX0 1 "_law_bag" ["script"] (spBag K) := by
  obtain ⟨fd, F⟩ := T.d__law_bag
  refine ⟨fd, F.ok sc__law_bag (fun _ _ _ _ h => by obtain ⟨_, rfl, _⟩ := sp1o h; rfl) (fun cdv A outer s H vs Q E hr h => ?_), T.g__law_bag, F.kp, F.bindsN fun _ _ _ _ _ _ us hl => match us, hl with | [_], _ => rfl⟩
  replace h := sp1o h
  obtain ⟨v0, rfl, h⟩ := h
  refine ⟨_, PSs.nox (pss_cons (ps_par (i := 1) (j := 2) (by rfl) sc__law_bag.nd rfl rfl (by decide) rfl rfl (pa_cons pe_int (pa_cons (pe_lst pa_nil) pa_nil)) (by rfl))
  (pss_cons (ps_for (by first | exact PassesOwn.never | exact passes_of rfl) rfl (pi_list (pv 0)) (pg_name (i := 3) sc__law_bag.nd rfl (by first | exact Or.inl rfl | exact Or.inr rfl))
  (pss_cons (ps_set (i := 1) sc__law_bag.nd rfl (by first | exact Or.inl rfl | exact Or.inr rfl) (pe_op op_mod (pe_op op_add (pe_op op_mulW (pv 1) pe_int) (pv 3)) pe_int))
  (pss_one (ps_if (pt_cmpR op_ge (pe_callB call_abs (by rfl) T.f_abs (by decide +kernel) (pa_cons (pv 3) pa_nil)) (pe_op op_pow pe_int pe_int) (nomark _))
  (pss_one (ps_expr (pe_bm PySem.F.plainAttrs_list PySem.F.slot_list_append PySem.F.type_list_append mt_append (pv 2) (pa_cons (pe_callB call_abs (by rfl) T.f_abs (by decide +kernel) (pa_cons (pv 3) pa_nil)) pa_nil))))
  pss_nil))))
  (pss_one (ps_ret (pe_disp (pps_cons pe_str (pv 2) (pps_cons pe_str pe_int (pps_cons pe_str pe_int (pps_cons pe_str (pv 1) pps_nil)))) (by rfl) (by rfl) (fun z => by cases z) (by decide)))))), ?_⟩
  obtain ⟨x, ns, rfl, hx, hl, k⟩ := h
  walk_at "rd"
  intro g hg
  have go0 : Go [] H H H (upd H g (.lst [])) := (Go.refl (Same.refl H)).tmp hg
  walk_at "rd"
  refine ⟨⟨_, go0.gh.seq hx⟩, ?_⟩
  refine for_list (xs := ns.map V.int) (fun i σ H1 => ∃ (f : Int) (gr : List Int) (v3 : Option V), Go [] H H H H1 ∧ H1 g = some (.lst (gr.map V.int)) ∧ σ = [some (.ref x), some (.int f), some (.ref g), v3] ∧
    0 ≤ f ∧ f < 2305843009213693951 ∧ (∀ c ∈ gr, 0 ≤ c) ∧ gr.length ≤ i) ⟨11, [], none, go0, upd_same, rfl, by decide, by decide, by simp, Nat.le_refl _⟩ (fun i σ H1 _ ⟨f, gr, v3, go1, _⟩ => go1.gh.seq hx) ?_ ?_
  · rintro i y σ H1 hi ⟨f, gr, v3, go1, hg1, rfl, f0, f1, hc, hlen⟩
    have hi63 : i < 63 := by
      have q := (List.getElem?_eq_some_iff.mp hi).1
      rw [List.length_map] at q
      omega
    obtain ⟨u, rfl⟩ : ∃ u, y = V.int u := by
      rw [List.getElem?_map] at hi
      cases e : ns[i]? with
      | none => rw [e] at hi; cases hi
      | some u => rw [e] at hi; exact ⟨u, (Option.some.inj hi).symm⟩
    walk_at "rd"
    refine ⟨wide_mul (a := 70) (b := 70) (by omega) (by decide) (by decide) (by decide) (by decide), ?_⟩
    walk_at "rd"
    refine ⟨by show (0 : Int) < 2305843009213693951; decide, ?_⟩
    have m0 := Int.emod_nonneg (f * 1000003 + u) (b := 2305843009213693951) (by decide)
    have m1 := Int.emod_lt_of_pos (f * 1000003 + u) (b := 2305843009213693951) (by decide)
    walk_at "rd"
    refine ⟨by show CPow 10 18; exact ⟨by decide, by decide, by decide⟩, ?_⟩
    walk_at "rd"
    refine ifd (fun hb => ?_) (fun hb => ?_)
    · walk_at "rd"
      refine ⟨.inl ⟨rfl, _, SqL.of hg1⟩, ?_⟩
      walk_at "rd"
      refine ⟨_, _, _, rfl, rfl, hg1, slt (by rw [List.length_map]; omega), ?_⟩
      rw [abs_if]
      refine ⟨_, gr ++ [(u.natAbs : Int)], _, go1.set hg (.inr hg), by rw [upd_same, List.map_append]; rfl, rfl, m0, m1, ?_, by rw [List.length_append]; show _ + 1 ≤ _; omega⟩
      intro c h
      rcases List.mem_append.mp h with h | h
      · exact hc c h
      · have : c = (u.natAbs : Int) := by simpa using h
        omega
    · exact ⟨_, gr, _, go1, hg1, rfl, m0, m1, hc, by omega⟩
  · rintro σ H1 ⟨f, gr, v3, go1, hg1, rfl, f0, f1, hc, hlen⟩
    rw [List.length_map] at hlen
    walk_at "rd"
    intro b hb
    walk_at "rd"
    refine ⟨upd_same, [(kG, .ref g), (kL, .int 0), (kT, .int 0), (kF, .int f)], rfl, by show 4 ≤ 15; decide, ?_⟩
    rw [bag_new, upd_upd]
    have hbg : g ≠ b := ne_of_none hg1 hb
    exact k _ b g (go1.tmp hb) (go1.lv b hb) hg ⟨gr, 0, 0, f, upd_same, by rw [upd_ne hbg]; exact hg1, hc, by omega, by decide, by decide, by decide, f0, f1⟩
/-- a draw: any number from 0 below many -/
def spDraw : Sp := Sp2 fun a m H Q _ => ∃ (b g : Addr) (many : Int) (n : Nat), a = .ref b ∧ m = .int many ∧ BagAt H b g n ∧ n < 1000000 ∧ 0 < many ∧ Sm many ∧
  ∀ (H' : Hp) (r : Int), (∀ c o, c ≠ b → c ≠ g → H c = some o → H' c = some o) → (∀ c, H' c = none → H c = none) → BagAt H' b g (n + 1) → 0 ≤ r → r < many → Q (.int r) H'
theorem BagAt.ne {H : Hp} {b g : Addr} {n : Nat} (h : BagAt H b g n) : b ≠ g := by
  obtain ⟨gr, l, t, f, h1, h2, r⟩ := h.at_
  exact ne_of h1 h2 (by intro z; cases z)
theorem upd_lv {H : Hp} {b : Addr} {o u : HO} (h : H b = some u) : ∀ c, upd H b o c = none → H c = none := fun c e => by
  by_cases hc : c = b
  · rw [hc, upd_same] at e; cases e
  · rw [upd_ne hc] at e; exact e
theorem sc__law_draw : FnScope ["bag", "many", "drawn", "turn", "mixed"] ["bag", "many"] (defScope s__law_draw) := ⟨rfl, rfl, rfl, by decide +kernel, rfl, by decide +kernel, by decide +kernel⟩
theorem D__law_draw (T : Txt w K mg) : Ok P w K mg base CX0 1 "_law_draw" ["bag", "many"] spDraw := by
  obtain ⟨fd, F⟩ := T.d__law_draw
  refine ⟨fd, F.ok sc__law_draw (fun _ _ _ _ h => by obtain ⟨_, _, rfl, _⟩ := sp2o h; rfl) (fun cdv A outer s H vs Q E hr h => ?_), T.g__law_draw, F.kp, F.bindsN fun _ _ _ _ _ _ us hl => match us, hl with | [_, _], _ => rfl⟩
  replace h := sp2o h
  obtain ⟨v0, v1, rfl, h⟩ := h
  refine ⟨_, PSs.nox (pss_mid (ps_if (PW.pt (pw_and (pt_cmpR op_lt (pe_dget (hu_of hr) (pv 0) pe_str (fun _ _ => rfl)) (pv 1) (nomark _)) (pw_and1 (pt_cmpR op_gt (pe_callB call_len (by rfl) T.f_len (by decide +kernel) (pa_cons (pe_dget (hu_of hr) (pv 0) pe_str (fun _ _ => rfl)) pa_nil)) pe_int (nomark _)))))
  (pss_one (ps_dput (hu_of hr) (pv 0) pe_str (pe_bm PySem.F.plainAttrs_list PySem.F.slot_list_pop PySem.F.type_list_pop mt_popAt (pe_dget (hu_of hr) (pv 0) pe_str (fun _ _ => rfl)) (pa_cons pe_int pa_nil)) rfl))
  pss_nil)
  (pss_cons (ps_if (pt_cmpR op_ge (pe_dget (hu_of hr) (pv 0) pe_str (fun _ _ => rfl)) (pv 1) (nomark _))
  (pss_cons (ps_set (i := 2) sc__law_draw.nd rfl (by first | exact Or.inl rfl | exact Or.inr rfl) (pe_op op_mod (pe_dget (hu_of hr) (pv 0) pe_str (fun _ _ => rfl)) (pv 1)))
  (pss_cons (ps_dput (hu_of hr) (pv 0) pe_str (pe_op op_fdivW (pe_dget (hu_of hr) (pv 0) pe_str (fun _ _ => rfl)) (pv 1)) rfl)
  (pss_one (ps_ret (pv 2)))))
  pss_nil)
  (pss_cons (ps_daug (hu_of hr) (pv 0) pe_str pe_int in_add (fun _ _ _ => rfl))
  (pss_cons (ps_set (i := 3) sc__law_draw.nd rfl (by first | exact Or.inl rfl | exact Or.inr rfl) (pe_dget (hu_of hr) (pv 0) pe_str (fun _ _ => rfl)))
  (pss_cons (ps_set (i := 4) sc__law_draw.nd rfl (by first | exact Or.inl rfl | exact Or.inr rfl) (pe_op op_add (pe_op op_mulW (pe_op op_add (pe_dget (hu_of hr) (pv 0) pe_str (fun _ _ => rfl)) (pe_op op_mulW pe_int (pv 3))) (pe_op op_pow (pe_op op_add (pv 3) pe_int) pe_int)) (pe_op op_mulW pe_int (pv 3))))
  (pss_one (ps_ret (pe_op op_mod (pe_op op_fdivW (pe_op op_mod (pe_op op_pow (pe_op op_mod (pv 4) pe_int) pe_int) (pe_op op_add (pe_op op_pow pe_int pe_int) pe_int)) pe_int) (pv 1))))))))), ?_⟩
  obtain ⟨b, g, many, n, rfl, rfl, hb, hn, h0, hs, k⟩ := h
  have hne := hb.ne
  obtain ⟨gr, l, t, f, h1, h2, hc, hl, l0, t0, tn, f0, f1⟩ := hb.at_
  refine ⟨fun σ' H' => ∃ (gr : List Int) (l t f : Int), σ' = [some (.ref b), some (.int many), none, none, none] ∧ (∀ c o, c ≠ b → c ≠ g → H c = some o → H' c = some o) ∧ (∀ c, H' c = none → H c = none) ∧
    H' b = some (.dK (bagD g l t f)) ∧ H' g = some (.lst (gr.map V.int)) ∧ (∀ c ∈ gr, 0 ≤ c) ∧ gr.length ≤ 63 ∧ 0 ≤ l ∧ 0 ≤ t ∧ t ≤ n ∧ 0 ≤ f ∧ f < 2305843009213693951, ?_, ?_⟩
  · walk_at "rd"
    refine ⟨_, _, rfl, dig (k := kL) h1 (bag_l _ _ _ _), ?_⟩
    walk_at "rd"
    refine ifd (fun hb => ?_) (fun hb => ?_)
    · walk_at "rd"
      refine ⟨_, _, rfl, dig (k := kG) h1 (bag_g _ _ _ _), ?_⟩
      walk_at "rd"
      refine ifd (fun hp => ?_) (fun hp => ?_)
      · obtain ⟨c, r, rfl⟩ : ∃ c r, gr = c :: r := by
          cases gr with
          | nil => exact absurd hp (by simp)
          | cons c r => exact ⟨c, r, rfl⟩
        walk_at "rd"
        refine ⟨_, _, rfl, dig (k := kG) h1 (bag_g _ _ _ _), ?_⟩
        refine ⟨.inl ⟨rfl, _, SqL.of h2⟩, ?_⟩
        refine ⟨g, _, 0, 0, .int c, rfl, rfl, h2, by decide, by decide, seqi (i := 0) (by simp), rfl, ?_⟩
        have h1' : upd H g (.lst (((c :: r).map V.int).eraseIdx 0)) b = some (.dK (bagD g l t f)) := by rw [upd_ne hne]; exact h1
        walk_at "rd"
        refine ⟨_, _, rfl, dip (k := kL) h1' (by show 4 ≤ 1000; decide) (bag_pl _ _ _ _ _), ?_⟩
        refine ⟨r, c, t, f, rfl, fun z o z1 z2 e => by rw [upd_ne z1, upd_ne z2]; exact e, fun z e => ?_, upd_same, by rw [upd_ne hne.symm, upd_same]; rfl, fun z h => hc z (List.mem_cons_of_mem _ h), ?_, hc c List.mem_cons_self, t0, tn, f0, f1⟩
        · exact upd_lv h2 z (upd_lv h1' z e)
        · have : (c :: r).length = r.length + 1 := rfl
          omega
      · exact ⟨gr, l, t, f, rfl, fun z o _ _ e => e, fun z e => e, h1, h2, hc, hl, l0, t0, tn, f0, f1⟩
    · exact ⟨gr, l, t, f, rfl, fun z o _ _ e => e, fun z e => e, h1, h2, hc, hl, l0, t0, tn, f0, f1⟩
  · clear h1 h2 hc hl l0 t0 tn f0 f1 hb gr l t f
    rintro σ' H' ⟨gr, l, t, f, rfl, kp, lv, h1, h2, hc, hl, l0, t0, tn, f0, f1⟩
    walk_at "rd"
    refine ⟨_, _, rfl, dig (k := kL) h1 (bag_l _ _ _ _), ?_⟩
    walk_at "rd"
    refine ifd (fun hb => ?_) (fun hb => ?_)
    · walk_at "rd"
      refine ⟨_, _, rfl, dig (k := kL) h1 (bag_l _ _ _ _), ?_⟩
      walk_at "rd"
      refine ⟨h0, ?_⟩
      walk_at "rd"
      refine ⟨_, _, rfl, dig (k := kL) h1 (bag_l _ _ _ _), ?_⟩
      walk_at "rd"
      refine ⟨Sm.div h0 hs, ?_⟩
      walk_at "rd"
      refine ⟨_, _, rfl, dip (k := kL) h1 (by show 4 ≤ 1000; decide) (bag_pl _ _ _ _ _), ?_⟩
      walk_at "rd"
      refine k _ _ (fun z o z1 z2 e => by rw [upd_ne z1]; exact kp z o z1 z2 e) (fun z e => lv z (upd_lv h1 z e)) ⟨gr, l / many, t, f, upd_same, by rw [upd_ne hne.symm]; exact h2, hc, hl, Int.ediv_nonneg l0 (by omega), t0, by omega, f0, f1⟩ (Int.emod_nonneg _ (by omega)) (Int.emod_lt_of_pos _ h0)
    · walk_at "rd"
      refine ⟨_, _, rfl, dig (k := kT) h1 (bag_t _ _ _ _), ?_⟩
      walk_at "rd"
      refine ⟨_, dip (k := kT) h1 (by show 4 ≤ 1000; decide) (bag_pt _ _ _ _ _), ?_⟩
      have h1' : upd H' b (.dK (bagD g l (t + 1) f)) b = some (.dK (bagD g l (t + 1) f)) := upd_same
      walk_at "rd"
      refine ⟨_, _, rfl, dig (k := kT) h1' (bag_t _ _ _ _), ?_⟩
      walk_at "rd"
      refine ⟨_, _, rfl, dig (k := kF) h1' (bag_f _ _ _ _), ?_⟩
      walk_at "rd"
      refine ⟨wide_mul (a := 64) (b := 64) (by decide) (by omega) (by decide) (by decide) (by decide), ?_⟩
      walk_at "rd"
      refine ⟨⟨by decide, by decide, by omega⟩, ?_⟩
      have hp2 : ((t + 1 + 29) ^ Int.toNat 2).natAbs < 2 ^ 64 := by
        have e : (t + 1 + 29) ^ Int.toNat 2 = (t + 1 + 29) * (t + 1 + 29) := by show (t + 1 + 29) ^ 2 = _; rw [Int.pow_succ, Int.pow_succ, Int.pow_zero, Int.one_mul]
        rw [e, Int.natAbs_mul]
        have : (t + 1 + 29).natAbs ≤ 2000000 := by omega
        exact Nat.lt_of_le_of_lt (Nat.mul_le_mul this this) (by decide)
      refine ⟨_, _, rfl, rfl, wide_mul (a := 64) (b := 64) (by omega) hp2 (by decide) (by decide) (by decide), ?_⟩
      walk_at "rd"
      refine ⟨wide_mul (a := 64) (b := 64) (by decide) (by omega) (by decide) (by decide) (by decide), ?_⟩
      walk_at "rd"
      refine ⟨by show (0 : Int) < 2305843009213693951; decide, ?_⟩
      generalize ((f + 17 * (t + 1)) * (t + 1 + 29) ^ Int.toNat 2 + 7919 * (t + 1)) = mixed
      have m0 := Int.emod_nonneg mixed (b := 2305843009213693951) (by decide)
      have m1 := Int.emod_lt_of_pos mixed (b := 2305843009213693951) (by decide)
      walk_at "rd"
      refine ⟨⟨by decide, by decide, by omega⟩, ?_⟩
      walk_at "rd"
      refine ⟨⟨by decide, by decide, by decide⟩, ?_⟩
      walk_at "rd"
      refine ⟨by show (0 : Int) < 10 ^ Int.toNat 18 + 9; decide, ?_⟩
      walk_at "rd"
      refine ⟨wide_div (b := 10) (by decide) (by decide) (by decide) (by decide), ?_⟩
      walk_at "rd"
      refine ⟨h0, ?_⟩
      refine k _ _ (fun z o z1 z2 e => by rw [upd_ne z1]; exact kp z o z1 z2 e) (fun z e => lv z (upd_lv h1 z e)) ⟨gr, l, t + 1, f, upd_same, by rw [upd_ne hne.symm]; exact h2, hc, hl, l0, by omega, by omega, f0, f1⟩ (Int.emod_nonneg _ (by omega)) (Int.emod_lt_of_pos _ h0)

/-- behind a draw -/
theorem Go.draw {G0 H0 G H H' : Hp} {b g : Addr} {ex : List Addr} (a : Go ex G0 H0 G H) (gb : G b = none) (gg : G g = none) (hb : b ∈ ex ∨ H0 b = none) (hg : g ∈ ex ∨ H0 g = none) (kp : ∀ c o, c ≠ b → c ≠ g → H c = some o → H' c = some o) (lv : ∀ c, H' c = none → H c = none) : Go ex G0 H0 G H' where
  gg := a.gg
  gh := fun c o e => kp c o (ne_of_none e gb) (ne_of_none e gg) (a.gh c o e)
  kp := fun c o hc e => by
    refine kp c o (fun z => ?_) (fun z => ?_) (a.kp c o hc e)
    · rcases hb with h | h
      · exact hc (z ▸ h)
      · rw [z, h] at e; cases e
    · rcases hg with h | h
      · exact hc (z ▸ h)
      · rw [z, h] at e; cases e
  lv := fun c e => a.lv c (lv c e)
  nw := a.nw
/-- what stands around a draw: G0 H0 at the entry -/
structure Dr (ex : List Addr) (G0 H0 G H : Hp) (b g : Addr) (n : Nat) : Prop where
  go : Go ex G0 H0 G H
  bag : BagAt H b g n
  gb : G b = none
  gg : G g = none
  eb : b ∈ ex ∨ H0 b = none
  eg : g ∈ ex ∨ H0 g = none
theorem Dr.gh {ex : List Addr} {G0 H0 G H : Hp} {b g : Addr} {n : Nat} (a : Dr ex G0 H0 G H b g n) : Same G H := a.go.gh
theorem Dr.draw {ex : List Addr} {G0 H0 G H : Hp} {b g : Addr} {n : Nat} {many : Int} {Q : VK} {E : XK} (a : Dr ex G0 H0 G H b g n) (hn : n < 1000000) (h0 : 0 < many) (hs : Sm many)
    (k : ∀ (H' : Hp) (r : Int), Dr ex G0 H0 G H' b g (n + 1) → (∀ c o, c ≠ b → c ≠ g → H c = some o → H' c = some o) → 0 ≤ r → r < many → Q (.int r) H') : spDraw [.ref b, .int many] H Q E :=
  sp2 ⟨b, g, many, n, rfl, rfl, a.bag, hn, h0, hs, fun H' r kp lv bag r0 r1 => k H' r ⟨a.go.draw a.gb a.gg a.eb a.eg kp lv, bag, a.gb, a.gg, a.eb, a.eg⟩ kp r0 r1⟩
/-- a new shared object -/
theorem Dr.new {ex : List Addr} {G0 H0 G H : Hp} {b g : Addr} {n : Nat} {p : Addr} {o : HO} (a : Dr ex G0 H0 G H b g n) (h : H p = none) :
    ∃ G2, Dr ex G0 H0 G2 (upd H p o) b g n ∧ Same G G2 ∧ G2 p = some o := by
  obtain ⟨G2, g2, _, s2, e2⟩ := go_new (o := o) a.go h
  obtain ⟨gr, l, t, f, h1, h2, _⟩ := a.bag.at_
  refine ⟨upd G p o, ⟨a.go.new h, a.bag.kept fun c u e => by rw [upd_ne (ne_of_none e h)]; exact e, ?_, ?_, a.eb, a.eg⟩, fun c u e => by rw [upd_ne (ne_of_none (a.go.gh c u e) h)]; exact e, upd_same⟩
  · rw [upd_ne (ne_of_none h1 h)]; exact a.gb
  · rw [upd_ne (ne_of_none h2 h)]; exact a.gg
/-- behind a def that leaves the bag alone -/
theorem Dr.go_ {ex : List Addr} {G0 H0 G H G' H' : Hp} {b g : Addr} {n : Nat} (a : Dr ex G0 H0 G H b g n) (h : Go [] G H G' H') : Dr ex G0 H0 G' H' b g n := by
  obtain ⟨gr, l, t, f, h1, h2, _⟩ := a.bag.at_
  exact ⟨a.go.trans h (fun _ z => nomatch z), a.bag.kept fun c o e => h.kp c o (fun z => nomatch z) e, h.nw b a.gb (by rw [h1]; simp), h.nw g a.gg (by rw [h2]; simp), a.eb, a.eg⟩
theorem Dr.more {ex : List Addr} {G0 H0 G H : Hp} {b g : Addr} {n m : Nat} (a : Dr ex G0 H0 G H b g n) (k : n ≤ m) : Dr ex G0 H0 G H b g m := ⟨a.go, a.bag.more k, a.gb, a.gg, a.eb, a.eg⟩
theorem at_in {l : List Int} {r : Int} (h0 : 0 ≤ r) (h1 : r < l.length) : ∃ v, atI (l.map V.int) r = some (.int v) ∧ v ∈ l := by
  obtain ⟨j, rfl⟩ : ∃ j : Nat, r = (j : Int) := ⟨r.toNat, by omega⟩
  have h2 : j < l.length := by omega
  refine ⟨l[j], atI_nat ?_, List.getElem_mem h2⟩
  rw [List.getElem?_map, List.getElem?_eq_getElem h2]
  rfl

theorem Dr.tmp {ex : List Addr} {G0 H0 G H : Hp} {b g : Addr} {n : Nat} {p : Addr} {o : HO} (a : Dr ex G0 H0 G H b g n) (h : H p = none) : Dr ex G0 H0 G (upd H p o) b g n :=
  ⟨a.go.tmp h, a.bag.kept fun c u e => by rw [upd_ne (ne_of_none e h)]; exact e, a.gb, a.gg, a.eb, a.eg⟩
theorem Dr.set {ex : List Addr} {G0 H0 G H : Hp} {b g : Addr} {n : Nat} {p : Addr} {o : HO} (a : Dr ex G0 H0 G H b g n) (hg : G p = none) (h : p ∈ ex ∨ H0 p = none) (h1 : p ≠ b) (h2 : p ≠ g) : Dr ex G0 H0 G (upd H p o) b g n := by
  obtain ⟨gr, l, t, f, e1, e2, r⟩ := a.bag.at_
  exact ⟨a.go.set hg h, ⟨gr, l, t, f, by rw [upd_ne h1.symm]; exact e1, by rw [upd_ne h2.symm]; exact e2, r⟩, a.gb, a.gg, a.eb, a.eg⟩
theorem Dr.seal {ex : List Addr} {G0 H0 G H : Hp} {b g : Addr} {n : Nat} {p : Addr} {o : HO} (a : Dr ex G0 H0 G H b g n) (e : H p = some o) (hg : G p = none) (h : H0 p = none) (h1 : p ≠ b) (h2 : p ≠ g) : Dr ex G0 H0 (upd G p o) H b g n :=
  ⟨a.go.seal e hg h, a.bag, by rw [upd_ne h1.symm]; exact a.gb, by rw [upd_ne h2.symm]; exact a.gg, a.eb, a.eg⟩
/-- behind a def that draws -/
theorem Dr.goB {ex : List Addr} {G0 H0 G H G' H' : Hp} {b g : Addr} {n n' : Nat} (a : Dr ex G0 H0 G H b g n) (h : Go [b, g] G H G' H') (bag : BagAt H' b g n') (gb : G' b = none) (gg : G' g = none) : Dr ex G0 H0 G' H' b g n' :=
  ⟨a.go.trans h (fun x hx => by
    rcases List.mem_cons.mp hx with rfl | hx
    · exact a.eb
    · rw [List.mem_singleton.mp hx]; exact a.eg), bag, gb, gg, a.eb, a.eg⟩
theorem BagAt.nb {H : Hp} {b g : Addr} {n : Nat} (h : BagAt H b g n) {p : Addr} (e : H p = none) : p ≠ b ∧ p ≠ g := by
  obtain ⟨gr, l, t, f, e1, e2, r⟩ := h.at_
  exact ⟨(ne_of_none e1 e).symm, (ne_of_none e2 e).symm⟩
theorem sm_c {i : Int} (h : -(10 ^ 100) ≤ i ∧ i ≤ 10 ^ 100) : Sm i := pow_sm (n := 400) (by omega) (by decide)
theorem Dr.newN {ex : List Addr} {G0 H0 G H : Hp} {b g : Addr} {n : Nat} {p : Addr} {o : HO} (a : Dr ex G0 H0 G H b g n) (h : H p = none) :
    ∃ G2, Dr ex G0 H0 G2 (upd H p o) b g n ∧ Same G G2 ∧ G2 p = some o ∧ ∀ c, c ≠ p → G2 c = G c := by
  obtain ⟨n1, n2⟩ := a.bag.nb h
  exact ⟨upd G p o, ⟨a.go.new h, a.bag.kept fun c u e => by rw [upd_ne (ne_of_none e h)]; exact e, by rw [upd_ne n1.symm]; exact a.gb, by rw [upd_ne n2.symm]; exact a.gg, a.eb, a.eg⟩, same_seal (a.go.nn h), upd_same, fun c hc => upd_ne hc⟩
/-- behind a method that changes its own instance -/
theorem Dr.goP {ex : List Addr} {G0 H0 G H G' H' : Hp} {b g p : Addr} {n : Nat} (a : Dr ex G0 H0 G H b g n) (h : Go [p] G H G' H') (hp : p ∈ ex ∨ H0 p = none) (h1 : p ≠ b) (h2 : p ≠ g) : Dr ex G0 H0 G' H' b g n := by
  obtain ⟨gr, l, t, f, e1, e2, r⟩ := a.bag.at_
  have n1 : b ∉ [p] := fun z => h1 (List.mem_singleton.mp z).symm
  have n2 : g ∉ [p] := fun z => h2 (List.mem_singleton.mp z).symm
  exact ⟨a.go.trans h (fun x hx => by rw [List.mem_singleton.mp hx]; exact hp), ⟨gr, l, t, f, h.kp b _ n1 e1, h.kp g _ n2 e2, r⟩, h.nw b a.gb (by rw [e1]; simp), h.nw g a.gg (by rw [e2]; simp), a.eb, a.eg⟩

def spDivi : Sp := Sp2 fun a b H Q _ => ∃ i j : Int, a = .int i ∧ b = .int j ∧ 0 < j ∧ Q (.int (Int.gcd i j)) H
theorem sc__law_divisor : FnScope ["one", "other"] ["one", "other"] (defScope s__law_divisor) := ⟨rfl, rfl, rfl, by decide +kernel, rfl, by decide +kernel, by decide +kernel⟩
theorem D__law_divisor (T : Txt w K mg) : Ok P w K mg base CX0 1 "_law_divisor" ["one", "other"] spDivi := by
  obtain ⟨fd, F⟩ := T.d__law_divisor
  refine ⟨fd, F.ok sc__law_divisor (fun _ _ _ _ h => by obtain ⟨_, _, rfl, _⟩ := sp2o h; rfl) (fun cdv A outer s H vs Q E hr h => ?_), T.g__law_divisor, F.kp, F.bindsN fun _ _ _ _ _ _ us hl => match us, hl with | [_, _], _ => rfl⟩
  replace h := sp2o h
  obtain ⟨v0, v1, rfl, h⟩ := h
  refine ⟨_, PSs.nox (pss_cons (ps_while (by first | exact PassesOwn.never | exact passes_of rfl) (pt_cmpR op_ne (pv 1) pe_int (nomark _))
  (pss_one (ps_par (i := 0) (j := 1) (by rfl) sc__law_divisor.nd rfl rfl (by decide) rfl rfl (pa_cons (pv 1) (pa_cons (pe_op op_mod (pv 0) (pv 1)) pa_nil)) (by rfl))))
  (pss_one (ps_ret (pe_callB call_abs (by rfl) T.f_abs (by decide +kernel) (pa_cons (pv 0) pa_nil))))), ?_⟩
  obtain ⟨i, j, rfl, rfl, hj, k⟩ := h
  have hj2 : ((j.toNat : Nat) : Int) = j := by omega
  refine ⟨fun m σ H' => H' = H ∧ ∃ (a : Int) (b : Nat), m = b ∧ σ = [some (.int a), some (.int b)] ∧ Int.gcd a b = Int.gcd i j, ⟨_, rfl, i, j.toNat, rfl, by rw [hj2]; rfl, by rw [hj2]⟩, ?_⟩
  rintro m σ H' ⟨rfl, a, b, rfl, rfl, hg⟩
  walk_at "rd"
  refine ifn (fun hb => ?_) (fun hb => ?_)
  · have hm : 0 < (m : Int) := by
      have : (m : Int) ≠ 0 := fun z => hb (by rw [z])
      omega
    refine ⟨fun σ' H2 => H2 = H' ∧ ∃ (a' : Int) (b' : Nat), b' < m ∧ σ' = [some (.int a'), some (.int b')] ∧ Int.gcd a' b' = Int.gcd i j, fun σ' H2 ⟨e, a', b', hl, e2, e3⟩ => ⟨b', hl, e, a', b', rfl, e2, e3⟩, ?_⟩
    walk_at "rd"
    refine ⟨hm, ?_⟩
    walk_at "rd"
    have e0 := Int.emod_nonneg a (b := (m : Int)) (by omega)
    have e1 := Int.emod_lt_of_pos a hm
    have e2 : (((a % (m : Int)).toNat : Nat) : Int) = a % (m : Int) := by omega
    refine ⟨(m : Int), (a % (m : Int)).toNat, by omega, by rw [e2]; rfl, ?_⟩
    have e3 := Int.gcd_add_mul_right_right (m : Int) (a % (m : Int)) (a / (m : Int))
    have e4 : a % (m : Int) + a / (m : Int) * (m : Int) = a := by
      have := Int.emod_add_mul_ediv a (m : Int)
      rw [Int.mul_comm (m : Int)] at this
      exact this
    rw [e4] at e3
    rw [e2, ← hg, Int.gcd_comm a, e3]
  · have hm : m = 0 := by
      have := V.int.inj hb
      omega
    subst hm
    walk_at "rd"
    rw [abs_if]
    have : (a.natAbs : Int) = Int.gcd i j := by
      rw [← hg]
      show (a.natAbs : Int) = ((Int.gcd a 0 : Nat) : Int)
      rw [Int.gcd_zero_right]
    rw [this]
    exact k
theorem sc__law_lowest : FnScope ["top", "under", "divisor"] ["top", "under"] (defScope s__law_lowest) := ⟨rfl, rfl, rfl, by decide +kernel, rfl, by decide +kernel, by decide +kernel⟩
theorem D__law_lowest (T : Txt w K mg) : Ok P w K mg base CX0 2 "_law_lowest" ["top", "under"] spLowest := by
  obtain ⟨fd, F⟩ := T.d__law_lowest
  refine ⟨fd, F.ok sc__law_lowest (fun _ _ _ _ h => by obtain ⟨_, _, rfl, _⟩ := sp2o h; rfl) (fun cdv A outer s H vs Q E hr h => ?_), T.g__law_lowest, F.kp, F.bindsN fun _ _ _ _ _ _ us hl => match us, hl with | [_, _], _ => rfl⟩
  replace h := sp2o h
  obtain ⟨v0, v1, rfl, h⟩ := h
  refine ⟨_, PSs.nox (pss_cons (ps_set (i := 2) sc__law_lowest.nd rfl (by first | exact Or.inl rfl | exact Or.inr rfl) (pe_callO (D__law_divisor T) (hr.mono (by decide)) rfl pass0 (pa_cons (pv 0) (pa_cons (pv 1) pa_nil))))
  (pss_one (ps_ret (pe_tup (pa_cons (pe_op op_fdivW (pv 0) (pv 2)) (pa_cons (pe_op op_fdivW (pv 1) (pv 2)) pa_nil)))))), ?_⟩
  obtain ⟨i, j, rfl, rfl, hj, hs, k⟩ := h
  walk_at "rd"
  refine sp2 ⟨_, _, rfl, rfl, hj, ?_⟩
  walk_at "rd"
  refine ⟨Sm.div (gcd_pos hj) (gcd_sm hj hs), ?_⟩
  walk_at "rd"
  refine ⟨Sm.div (gcd_pos hj) (gcd_sm hj hs), ?_⟩
  exact ⟨sz2, fun p hp => k p hp⟩

theorem sc__law_below : FnScope ["one", "other"] ["one", "other"] (defScope s__law_below) := ⟨rfl, rfl, rfl, by decide +kernel, rfl, by decide +kernel, by decide +kernel⟩
theorem D__law_below (T : Txt w K mg) : Ok P w K mg base CX0 1 "_law_below" ["one", "other"] (spBelow K) := by
  obtain ⟨fd, F⟩ := T.d__law_below
  refine ⟨fd, F.ok sc__law_below (fun _ _ _ _ h => by obtain ⟨_, _, rfl, _⟩ := sp2o h; rfl) (fun cdv A outer s H vs Q E hr h => ?_), T.g__law_below, F.kp, F.bindsN fun _ _ _ _ _ _ us hl => match us, hl with | [_, _], _ => rfl⟩
  replace h := sp2o h
  obtain ⟨v0, v1, rfl, h⟩ := h
  refine ⟨_, PSs.nox (pss_one (ps_ret (pe_cmpR op_lt (pe_op op_mulW (pe_ix ix_tup (pv 0) pe_int (fun _ _ => rfl)) (pe_ix ix_tup (pv 1) pe_int (fun _ _ => rfl))) (pe_op op_mulW (pe_ix ix_tup (pv 1) pe_int (fun _ _ => rfl)) (pe_ix ix_tup (pv 0) pe_int (fun _ _ => rfl))) (nomark _)))), ?_⟩
  obtain ⟨x, y, p, q, rfl, rfl, hx, hy, ⟨s1, s2, s3, s4⟩, k⟩ := h
  walk_at "rd"
  refine ⟨Sm.mul s1 s4, ?_⟩
  walk_at "rd"
  refine ⟨Sm.mul s3 s2, ?_⟩
  walk_at "rd"
  exact k

end
end Dk
namespace Dk
open PySem PySem.Spec L2
local macro_rules | `(tactic| walk_at "sq") => `(tactic| first | assumption | exact SqT.of (by assumption) | exact SqL.of (by assumption) | exact SqT.of upd_same | exact SqL.of upd_same | exact seqT (by assumption) (by assumption) | exact Same.seq (by assumption) (by assumption))
local macro_rules | `(tactic| walk_at "rd") => `(tactic| repeat (first | refine ⟨_, rfl, ?_⟩ | refine ⟨_, _, rfl, rfl, ?_⟩ | refine ⟨_, _, rfl, ?_⟩ | refine ⟨rfl, ?_⟩ | refine ⟨_, _, _, _, rfl, rfl, by walk_at "sq", by rfl, ?_⟩ | refine ⟨_, _, rfl, by walk_at "sq", rfl, ?_⟩ | refine ⟨_, _, rfl, Or.inl ⟨_, by walk_at "sq", rfl⟩, ?_⟩ | refine ⟨_, _, rfl, Or.inr ⟨_, by walk_at "sq", rfl⟩, ?_⟩ | refine ⟨Nat.le_of_ble_eq_true rfl, ?_⟩))

section
variable {P : Program} {w : World} {K : PySem.W.Frag} {mg : Str → Option Value} {base : Heap}
/-- a fraction, or none -/
def OptAt (K : PySem.W.Frag) (G : Hp) (v : V) : Option (Int × Int) → Prop
  | none => v = .non
  | some l => ∃ a, v = .ref a ∧ SqT K G a [.int l.1, .int l.2]
theorem OptAt.kept {K : PySem.W.Frag} {G G' : Hp} {v : V} {o : Option (Int × Int)} (h : OptAt K G v o) (s : Same G G') : OptAt K G' v o := by
  cases o with
  | none => exact h
  | some l =>
    obtain ⟨a, e, t⟩ := h
    exact ⟨a, e, seqT s t⟩
def spSides (K : PySem.W.Frag) : Sp := Sp2 fun a b H Q _ => ∃ (G : Hp) (t u n : Int), Same G H ∧ Dp K G a (dI2 (t, u)) ∧ b = .int n ∧ 1 ≤ n ∧ n ≤ 10 ^ 6 ∧ 0 < u ∧ t.natAbs < 2 ^ 1000 ∧ u.natAbs < 2 ^ 1000 ∧
  ∀ (G' H' : Hp) (r : V) (lo hi : Int × Int), Go [] G H G' H' → Nb t u n lo hi → Dp K G' r (.tuple [dI2 lo, dI2 hi]) → Q r H'
def dn1 (t u : Int) (m : Nat) (a k : Int) : Prop := 1 ≤ k ∧ k ≤ (m : Int) ∧ (a = t * k / u ∨ a = t * k / u + 1)
def dn2 (t u : Int) (m : Nat) (j : Nat) (a k : Int) : Prop := dn1 t u m a k ∨ (k = (m : Int) + 1 ∧ ((1 ≤ j ∧ a = t * k / u) ∨ (2 ≤ j ∧ a = t * k / u + 1)))
theorem sm1500 {i : Int} (h : i.natAbs < 2 ^ 1500) : Sm i := Sm.of (Nat.lt_trans h (Nat.pow_lt_pow_right (by decide) (by decide)))
theorem sc__law_sides : FnScope ["pace", "most", "lower", "upper", "under", "down", "top", "one"] ["pace", "most"] (defScope s__law_sides) := ⟨rfl, rfl, rfl, by decide +kernel, rfl, by decide +kernel, by decide +kernel⟩
theorem D__law_sides (T : Txt w K mg) : Ok P w K mg base CX0 3 "_law_sides" ["pace", "most"] (spSides K) := by
  obtain ⟨fd, F⟩ := T.d__law_sides
  refine ⟨fd, F.ok sc__law_sides (fun _ _ _ _ h => by obtain ⟨_, _, rfl, _⟩ := sp2o h; rfl) (fun cdv A outer s H vs Q E hr h => ?_), T.g__law_sides, F.kp, F.bindsN fun _ _ _ _ _ _ us hl => match us, hl with | [_, _], _ => rfl⟩
  replace h := sp2o h
  obtain ⟨v0, v1, rfl, h⟩ := h
  refine ⟨_, PSs.nox (pss_cons (ps_asg (pe_tup (pa_cons pe_non (pa_cons pe_non pa_nil))) (pg_tup rfl (pgs_cons (pg_name (i := 2) sc__law_sides.nd rfl (by first | exact Or.inl rfl | exact Or.inr rfl)) (pgs_cons (pg_name (i := 3) sc__law_sides.nd rfl (by first | exact Or.inl rfl | exact Or.inr rfl)) pgs_nil))))
  (pss_cons (ps_for (by first | exact PassesOwn.never | exact passes_of rfl) rfl (pi_range2 rfl T.f_range (pa_cons pe_int (pa_cons (pe_op op_add (pv 1) pe_int) pa_nil))) (pg_name (i := 4) sc__law_sides.nd rfl (by first | exact Or.inl rfl | exact Or.inr rfl))
  (pss_cons (ps_set (i := 5) sc__law_sides.nd rfl (by first | exact Or.inl rfl | exact Or.inr rfl) (pe_op op_fdivW (pe_op op_mulW (pe_ix ix_tup (pv 0) pe_int (fun _ _ => rfl)) (pv 4)) (pe_ix ix_tup (pv 0) pe_int (fun _ _ => rfl))))
  (pss_one (ps_for (by first | exact PassesOwn.never | exact passes_of rfl) rfl (pi_tup (pe_tup (pa_cons (pv 5) (pa_cons (pe_op op_add (pv 5) pe_int) pa_nil)))) (pg_name (i := 6) sc__law_sides.nd rfl (by first | exact Or.inl rfl | exact Or.inr rfl))
  (pss_cons (ps_set (i := 7) sc__law_sides.nd rfl (by first | exact Or.inl rfl | exact Or.inr rfl) (pe_callO (D__law_lowest T) (hr.mono (by decide)) rfl pass0 (pa_cons (pv 6) (pa_cons (pv 4) pa_nil))))
  (pss_mid (ps_if (PW.pt (pw_and (pt_not (pt_val (pe_callO (D__law_below T) (hr.mono (by decide)) rfl pass0 (pa_cons (pv 0) (pa_cons (pv 7) pa_nil))))) (pw_and1 (PW.pt (pw_or (pt_cmpR op_isN (pv 2) pe_non (nomark _)) (pw_or1 (pt_val (pe_callO (D__law_below T) (hr.mono (by decide)) rfl pass0 (pa_cons (pv 2) (pa_cons (pv 7) pa_nil))))))))))
  (pss_one (ps_set (i := 2) sc__law_sides.nd rfl (by first | exact Or.inl rfl | exact Or.inr rfl) (pv 7)))
  pss_nil)
  (pss_one (ps_if (PW.pt (pw_and (pt_not (pt_val (pe_callO (D__law_below T) (hr.mono (by decide)) rfl pass0 (pa_cons (pv 7) (pa_cons (pv 0) pa_nil))))) (pw_and1 (PW.pt (pw_or (pt_cmpR op_isN (pv 3) pe_non (nomark _)) (pw_or1 (pt_val (pe_callO (D__law_below T) (hr.mono (by decide)) rfl pass0 (pa_cons (pv 7) (pa_cons (pv 3) pa_nil))))))))))
  (pss_one (ps_set (i := 3) sc__law_sides.nd rfl (by first | exact Or.inl rfl | exact Or.inr rfl) (pv 7)))
  pss_nil))))))))
  (pss_one (ps_ret (pe_tup (pa_cons (pv 2) (pa_cons (pv 3) pa_nil))))))), ?_⟩
  obtain ⟨G, t, u, n, gh, ha, rfl, h1, h2, hu, ht, hu2, k⟩ := h
  obtain ⟨x, rfl, hx⟩ := dp_i2 ha
  have st : Sm t := Sm.of (Nat.lt_trans ht (Nat.pow_lt_pow_right (by decide) (by decide)))
  have su : Sm u := Sm.of (Nat.lt_trans hu2 (Nat.pow_lt_pow_right (by decide) (by decide)))
  walk_at "rd"
  intro p0 hp0
  have go0 : Go [] G H G (upd H p0 (.tup [.non, .non])) := (Go.refl gh).tmp hp0
  walk_at "rd"
  refine ⟨⟨by decide, by decide, by omega, by omega⟩, ?_⟩
  refine for_range (lo := 1) (n := (n + 1 - 1).toNat) (fun i σ H1 => ∃ (G1 : Hp) (vl vr : V) (l r : Option (Int × Int)) (v4 v5 v6 v7 : Option V), Go [] G H G1 H1 ∧ OptAt K G1 vl l ∧ OptAt K G1 vr r ∧ LoI t u (dn1 t u i) i l ∧ HiI t u (dn1 t u i) i r ∧
      σ = [some (.ref x), some (.int n), some vl, some vr, v4, v5, v6, v7])
    ⟨G, .non, .non, none, none, none, none, none, none, go0, rfl, rfl, ⟨fun a k h => absurd h.1 (by have := h.2.1; omega), fun l e => nomatch e⟩, ⟨fun a k h => absurd h.1 (by have := h.2.1; omega), fun l e => nomatch e⟩, rfl⟩ ?_ ?_
  · rintro i σ H1 hi ⟨G1, vl, vr, l, r, v4, v5, v6, v7, go1, ol, or_, il, ir, rfl⟩
    have gh1 := go1.gh
    have hx1 := seqT gh1 (seqT go1.gg hx)
    rw [Int.add_comm 1 (i : Int)]
    have hi2 : (i : Int) + 1 ≤ n := by omega
    have hm : Sm ((i : Int) + 1) := Sm.of (Nat.lt_of_le_of_lt (m := 10 ^ 6) (by omega) (Nat.lt_of_lt_of_le (m := 2 ^ 60) (by decide) (Nat.pow_le_pow_right (by decide) (by decide))))
    walk_at "rd"
    refine ⟨st.mul hm, ?_⟩
    walk_at "rd"
    refine ⟨Sm.div hu su, ?_⟩
    walk_at "rd"
    have hdn : (t * ((i : Int) + 1) / u).natAbs + 1 < 2 ^ 1500 := by
      have e1 := ediv_abs (a := t * ((i : Int) + 1)) hu
      rw [Int.natAbs_mul] at e1
      have e2 : t.natAbs * ((i : Int) + 1).natAbs ≤ 2 ^ 1000 * 2 ^ 60 := Nat.mul_le_mul (Nat.le_of_lt ht) (by omega)
      rw [← Nat.pow_add] at e2
      have e3 : 2 ^ 1060 + 1 < 2 ^ 1500 := by
        have : 2 ^ 1060 * 2 ≤ 2 ^ 1500 := by rw [← Nat.pow_succ]; exact Nat.pow_le_pow_right (by decide) (by decide)
        have := Nat.one_lt_two_pow (n := 1060) (by decide)
        omega
      omega
    obtain ⟨dn, hd⟩ : ∃ dn, t * ((i : Int) + 1) / u = dn := ⟨_, rfl⟩
    have hd' : t * ((i : Int) + 1) / u = dn := hd
    rw [hd] at hdn
    dsimp -proj only
    rw [hd]
    intro p1 hp1
    have go2 := go1.tmp (o := .tup [.int dn, .int (dn + 1)]) hp1
    refine ⟨_, rfl, ⟨_, SqT.of upd_same⟩, ?_⟩
    have ep1 : (upd H1 p1 (.tup [.int dn, .int (dn + 1)])) p1 = some (.tup [.int dn, .int (dn + 1)]) := upd_same
    have hk0 : (0 : Int) < (i : Int) + 1 := by omega
    refine for_tup (xs := [.int dn, .int (dn + 1)]) (fun j σ H2 => ∃ (G2 : Hp) (vl vr : V) (l r : Option (Int × Int)) (v6 v7 : Option V), Go [] G H G2 H2 ∧ Same G1 G2 ∧ H2 p1 = some (.tup [.int dn, .int (dn + 1)]) ∧ OptAt K G2 vl l ∧ OptAt K G2 vr r ∧
        LoI t u (dn2 t u i j) (i + 1) l ∧ HiI t u (dn2 t u i j) (i + 1) r ∧ σ = [some (.ref x), some (.int n), some vl, some vr, some (.int ((i : Int) + 1)), some (.int dn), v6, v7])
      ⟨G1, vl, vr, l, r, v6, v7, go2, Same.refl _, ep1, ol, or_, il.mono (by omega) (fun a k h => by
          rcases h with h | ⟨_, h | h⟩
          · exact h
          · omega
          · omega), ir.mono (by omega) (fun a k h => by
          rcases h with h | ⟨_, h | h⟩
          · exact h
          · omega
          · omega), rfl⟩ (fun j σ H2 _ ⟨_, _, _, _, _, _, _, _, _, e, _⟩ => SqT.of e) ?_ ?_
    · clear il ir ol or_ l r vl vr v6 v7 go2 ep1
      rintro j v σ H2 hj ⟨G2, vl, vr, l, r, v6, v7, g, s2, ep, ol, or_, il, ir, rfl⟩
      obtain ⟨c, rfl, hc, hcb⟩ : ∃ c : Int, v = .int c ∧ ((j = 0 ∧ c = dn) ∨ (j = 1 ∧ c = dn + 1)) ∧ c.natAbs < 2 ^ 1500 := by
        rcases j with _ | _ | j
        · cases hj; exact ⟨dn, rfl, .inl ⟨rfl, rfl⟩, by omega⟩
        · cases hj; exact ⟨dn + 1, rfl, .inr ⟨rfl, rfl⟩, by omega⟩
        · cases hj
      walk_at "rd"
      refine sp2 ⟨_, _, rfl, rfl, hk0, hm, fun q hq => ?_⟩
      obtain ⟨G3, g3, gh3, s3, e3⟩ := go_new (o := .tup [.int (low2 c ((i : Int) + 1)).1, .int (low2 c ((i : Int) + 1)).2]) g hq
      have hone : SqT K G3 q [.int (low2 c ((i : Int) + 1)).1, .int (low2 c ((i : Int) + 1)).2] := SqT.of e3
      have sc1 : Sm (low2 c ((i : Int) + 1)).1 := Sm.le (low2_abs hk0) (sm1500 hcb)
      have pc := low2_pos (i := c) hk0
      have sc2 : Sm (low2 c ((i : Int) + 1)).2 := Sm.le (by omega) hm
      have hx3 := seqT (go1.gg.trans (s2.trans s3)) hx
      have ol := ol.kept s3
      have or_ := or_.kept s3
      have ep : (upd H2 q (.tup [.int (low2 c ((i : Int) + 1)).1, .int (low2 c ((i : Int) + 1)).2])) p1 = some (.tup [.int dn, .int (dn + 1)]) := (upd_ne (ne_of_none ep hq)).trans ep
      have dnew : ∀ a k, dn2 t u i (j + 1) a k → (dn2 t u i j a k ∧ 0 < k ∨ (a = c ∧ k = (i : Int) + 1)) := by
        intro a k h
        rcases h with h | ⟨hk, h⟩
        · exact .inl ⟨.inl h, by have := h.1; omega⟩
        · rw [hk, hd'] at h
          rcases hc with ⟨hj0, hc0⟩ | ⟨hj1, hc1⟩
          · exact .inr ⟨by omega, hk⟩
          · rcases h with h | h
            · exact .inl ⟨.inr ⟨hk, .inl ⟨by omega, by rw [hk, hd']; exact h.2⟩⟩, by omega⟩
            · exact .inr ⟨by omega, hk⟩
      have fin : ∀ (vl' vr' : V) (l' r' : Option (Int × Int)) (v7' : Option V), OptAt K G3 vl' l' → OptAt K G3 vr' r' → LoI t u (fun b m => dn2 t u i j b m ∧ 0 < m ∨ (b = c ∧ m = (i : Int) + 1)) (i + 1) l' → HiI t u (fun b m => dn2 t u i j b m ∧ 0 < m ∨ (b = c ∧ m = (i : Int) + 1)) (i + 1) r' →
          ∃ (G4 : Hp) (wl wr : V) (l2 r2 : Option (Int × Int)) (w6 w7 : Option V), Go [] G H G4 (upd H2 q (.tup [.int (low2 c ((i : Int) + 1)).1, .int (low2 c ((i : Int) + 1)).2])) ∧ Same G1 G4 ∧ (upd H2 q (.tup [.int (low2 c ((i : Int) + 1)).1, .int (low2 c ((i : Int) + 1)).2])) p1 = some (.tup [.int dn, .int (dn + 1)]) ∧ OptAt K G4 wl l2 ∧ OptAt K G4 wr r2 ∧
            LoI t u (dn2 t u i (j + 1)) (i + 1) l2 ∧ HiI t u (dn2 t u i (j + 1)) (i + 1) r2 ∧ [some (.ref x), some (.int n), some vl', some vr', some (.int ((i : Int) + 1)), some (.int dn), some (.int c), v7'] = [some (V.ref x), some (.int n), some wl, some wr, some (.int ((i : Int) + 1)), some (.int dn), w6, w7] :=
        fun vl' vr' l' r' v7' a1 a2 a3 a4 => ⟨G3, vl', vr', l', r', _, v7', g3, s2.trans s3, ep, a1, a2, a3.mono (Int.le_refl _) dnew, a4.mono (Int.le_refl _) dnew, rfl⟩
      walk_at "rd"
      have gx3 := seqT gh3 hx3
      have gone := seqT gh3 hone
      refine ⟨fun σ' H' => H' = upd H2 q (.tup [.int (low2 c ((i : Int) + 1)).1, .int (low2 c ((i : Int) + 1)).2]) ∧ ∃ vl' l', OptAt K G3 vl' l' ∧ LoI t u (fun b m => dn2 t u i j b m ∧ 0 < m ∨ (b = c ∧ m = (i : Int) + 1)) (i + 1) l' ∧
        σ' = [some (.ref x), some (.int n), some vl', some vr, some (.int ((i : Int) + 1)), some (.int dn), some (.int c), some (.ref q)], ?_, ?_⟩
      · walk_at "rd"
        refine sp2 ⟨x, q, (t, u), low2 c ((i : Int) + 1), rfl, rfl, gx3, gone, ⟨st, su, sc1, sc2⟩, ?_⟩
        walk_at "rd"
        have cle := cand_le (a := c) (t := t) (u := u) hk0
        have keep : (c * u ≤ t * ((i : Int) + 1) → ∃ l0, l = some l0 ∧ ¬ l0.1 * (low2 c ((i : Int) + 1)).2 < (low2 c ((i : Int) + 1)).1 * l0.2) → ∃ vl' l', OptAt K G3 vl' l' ∧ LoI t u (fun b m => dn2 t u i j b m ∧ 0 < m ∨ (b = c ∧ m = (i : Int) + 1)) (i + 1) l' ∧
            [some (V.ref x), some (.int n), some vl, some vr, some (.int ((i : Int) + 1)), some (.int dn), some (.int c), some (.ref q)] = [some (V.ref x), some (.int n), some vl', some vr, some (.int ((i : Int) + 1)), some (.int dn), some (.int c), some (.ref q)] :=
          fun hb => ⟨vl, l, ol, il.keep hk0 hb, rfl⟩
        have take : c * u ≤ t * ((i : Int) + 1) → (∀ l0, l = some l0 → l0.1 * (low2 c ((i : Int) + 1)).2 < (low2 c ((i : Int) + 1)).1 * l0.2) → ∃ vl' l', OptAt K G3 vl' l' ∧ LoI t u (fun b m => dn2 t u i j b m ∧ 0 < m ∨ (b = c ∧ m = (i : Int) + 1)) (i + 1) l' ∧
            [some (V.ref x), some (.int n), some (V.ref q), some vr, some (.int ((i : Int) + 1)), some (.int dn), some (.int c), some (.ref q)] = [some (V.ref x), some (.int n), some vl', some vr, some (.int ((i : Int) + 1)), some (.int dn), some (.int c), some (.ref q)] :=
          fun ha hb => ⟨.ref q, some (low2 c ((i : Int) + 1)), ⟨q, rfl, hone⟩, il.take hk0 (Int.le_refl _) hcb ha hb, rfl⟩
        refine ifn (fun hb => ?_) (fun hb => ?_)
        · have hle : c * u ≤ t * ((i : Int) + 1) := cle.mpr (Int.not_lt.mp hb)
          cases l with
          | none =>
            have ol0 : vl = .non := ol
            subst ol0
            walk_at "rd"
            walk_at "rd"
            exact take hle fun l0 e => nomatch e
          | some l0 =>
            obtain ⟨al, rfl, tl⟩ := id ol
            obtain ⟨_, _, _, _, lb⟩ := il.ok l0 rfl
            have lok := il.ok l0 rfl
            have sl2 : Sm l0.2 := Sm.le (by omega) hm
            walk_at "rd"
            walk_at "rd"
            refine sp2 ⟨al, q, l0, low2 c ((i : Int) + 1), rfl, rfl, seqT gh3 tl, gone, ⟨sm1500 lb, sl2, sc1, sc2⟩, ?_⟩
            walk_at "rd"
            refine ifd (fun hlt => ?_) (fun hlt => ?_)
            · walk_at "rd"
              exact take hle fun l1 e => by cases e; exact hlt
            · exact ⟨rfl, keep fun _ => ⟨l0, rfl, hlt⟩⟩
        · exact ⟨rfl, keep fun hc2 => absurd (cle.mp hc2) (Int.not_le.mpr hb)⟩
      · rintro σ' H' ⟨rfl, vl', l', ol', il', rfl⟩
        walk_at "rd"
        refine sp2 ⟨q, x, low2 c ((i : Int) + 1), (t, u), rfl, rfl, gone, gx3, ⟨sc1, sc2, st, su⟩, ?_⟩
        walk_at "rd"
        have cge := cand_ge (a := c) (t := t) (u := u) hk0
        have keep : (t * ((i : Int) + 1) ≤ c * u → ∃ l0, r = some l0 ∧ ¬ (low2 c ((i : Int) + 1)).1 * l0.2 < l0.1 * (low2 c ((i : Int) + 1)).2) → _ :=
          fun hb => fin vl' vr l' r (some (.ref q)) ol' or_ il' (ir.keep hk0 hb)
        have take : t * ((i : Int) + 1) ≤ c * u → (∀ l0, r = some l0 → (low2 c ((i : Int) + 1)).1 * l0.2 < l0.1 * (low2 c ((i : Int) + 1)).2) → _ :=
          fun ha hb => fin vl' (.ref q) l' (some (low2 c ((i : Int) + 1))) (some (.ref q)) ol' ⟨q, rfl, hone⟩ il' (ir.take hk0 (Int.le_refl _) hcb ha hb)
        refine ifn (fun hb => ?_) (fun hb => ?_)
        · have hle : t * ((i : Int) + 1) ≤ c * u := cge.mpr (Int.not_lt.mp hb)
          cases r with
          | none =>
            have or0 : vr = .non := or_
            subst or0
            walk_at "rd"
            walk_at "rd"
            exact take hle fun l0 e => nomatch e
          | some l0 =>
            obtain ⟨al, rfl, tl⟩ := id or_
            have lok := ir.ok l0 rfl
            have sl2 : Sm l0.2 := Sm.le (by omega) hm
            walk_at "rd"
            walk_at "rd"
            refine sp2 ⟨q, al, low2 c ((i : Int) + 1), l0, rfl, rfl, gone, seqT gh3 tl, ⟨sc1, sc2, sm1500 lok.2.2.2.2, sl2⟩, ?_⟩
            walk_at "rd"
            refine ifd (fun hlt => ?_) (fun hlt => ?_)
            · walk_at "rd"
              exact take hle fun l1 e => by cases e; exact hlt
            · exact keep fun _ => ⟨l0, rfl, hlt⟩
        · exact keep fun hc2 => absurd (cge.mp hc2) (Int.not_le.mpr hb)
    · rintro σ H2 ⟨G2, vl, vr, l, r, v6, v7, g, s2, ep, ol, or_, il, ir, rfl⟩
      have dd : ∀ a k, dn1 t u (i + 1) a k → dn2 t u i 2 a k := by
        intro a k ⟨d1, d2, d3⟩
        by_cases hk : k ≤ (i : Int)
        · exact .inl ⟨d1, hk, d3⟩
        · refine .inr ⟨by omega, ?_⟩
          rcases d3 with d3 | d3
          · exact .inl ⟨by decide, d3⟩
          · exact .inr ⟨by decide, d3⟩
      exact ⟨G2, vl, vr, l, r, _, _, _, _, g, ol, or_, il.mono (by omega) dd, ir.mono (by omega) dd, rfl⟩
  · rintro σ H1 ⟨G1, vl, vr, l, r, v4, v5, v6, v7, go1, ol, or_, il, ir, rfl⟩
    have hn : (((n + 1 - 1).toNat : Nat) : Int) = n := by omega
    rw [hn] at il ir
    have dd : ∀ a k, (1 ≤ k ∧ k ≤ n ∧ (a = t * k / u ∨ a = t * k / u + 1)) → dn1 t u (n + 1 - 1).toNat a k := fun a k h => ⟨h.1, by omega, h.2.2⟩
    obtain ⟨lo, hi, rfl, rfl, hnb⟩ := nb_all hu h1 (il.mono (Int.le_refl _) dd) (ir.mono (Int.le_refl _) dd)
    obtain ⟨a, rfl, ta⟩ := ol
    obtain ⟨b, rfl, tb_⟩ := or_
    walk_at "rd"
    intro p2 hp2
    obtain ⟨G2, g2, gh2, s2, e2⟩ := go_new (o := .tup [.ref a, .ref b]) go1 hp2
    exact k G2 _ _ lo hi g2 hnb (.tup (SqT.of e2) (.cons (i2_dp (seqT s2 ta)) (.cons (i2_dp (seqT s2 tb_)) .nil)))

end
end Dk
namespace Dk
open PySem PySem.Spec L2
local macro_rules | `(tactic| walk_at "sq") => `(tactic| first | assumption | exact SqT.of (by assumption) | exact SqL.of (by assumption) | exact SqT.of upd_same | exact SqL.of upd_same | exact seqT (by assumption) (by assumption) | exact Same.seq (by assumption) (by assumption))
local macro_rules | `(tactic| walk_at "rd") => `(tactic| repeat (first | refine ⟨_, rfl, ?_⟩ | refine ⟨_, _, rfl, rfl, ?_⟩ | refine ⟨_, _, rfl, ?_⟩ | refine ⟨rfl, ?_⟩ | refine ⟨_, _, _, _, rfl, rfl, by walk_at "sq", by rfl, ?_⟩ | refine ⟨_, _, rfl, by walk_at "sq", rfl, ?_⟩ | refine ⟨_, _, rfl, Or.inl ⟨_, by walk_at "sq", rfl⟩, ?_⟩ | refine ⟨_, _, rfl, Or.inr ⟨_, by walk_at "sq", rfl⟩, ?_⟩ | refine ⟨Nat.le_of_ble_eq_true rfl, ?_⟩))

section
variable {P : Program} {w : World} {K : PySem.W.Frag} {mg : Str → Option Value} {base : Heap}
def lookOk (s : Int) (l : Look) : Prop := TrueL (evF s) l ∧ isW l.1 ∧ l.2.1.natAbs ≤ 10 ^ 33 ∧ l.2.2.natAbs ≤ 10 ^ 33
def spLooks44 (K : PySem.W.Frag) : Sp := Sp4 fun a c d e H Q _ => ∃ (G : Hp) (b g : Addr) (n : Nat) (L s m : Int), Same G H ∧ a = .ref b ∧ c = .int L ∧ d = .int s ∧ e = .int m ∧ BagAt H b g n ∧ G b = none ∧ G g = none ∧ 1 ≤ L ∧ L ≤ 10 ^ 30 ∧ -(10 ^ 30) ≤ s ∧ s ≤ 2 * 10 ^ 30 ∧ 1 ≤ m ∧ m ≤ 12 ∧ n < 900000 ∧
  ∀ (G' H' : Hp) (l : Addr) (ls : List Look), Go [b, g] G H G' H' → BagAt H' b g (n + 100) → G' b = none → G' g = none → LsAt K G' l ls → ls.length = m.toNat → (∀ l ∈ ls, lookOk s l) → Q (.ref l) H'
theorem sc__law_looks : FnScope ["bag", "length", "step", "many", "found", "x", "k", "way", "word", "slack", "y"] ["bag", "length", "step", "many"] (defScope s__law_looks) := ⟨rfl, rfl, rfl, by decide +kernel, rfl, by decide +kernel, by decide +kernel⟩
theorem D__law_looks (T : Txt w K mg) : Ok P w K mg base CX0 2 "_law_looks" ["bag", "length", "step", "many"] (spLooks44 K) := by
  obtain ⟨fd, F⟩ := T.d__law_looks
  refine ⟨fd, F.ok sc__law_looks (fun _ _ _ _ h => by obtain ⟨_, _, _, _, rfl, _⟩ := sp4o h; rfl) (fun cdv A outer s H vs Q E hr h => ?_), T.g__law_looks, F.kp, F.bindsN fun _ _ _ _ _ _ us hl => match us, hl with | [_, _, _, _], _ => rfl⟩
  replace h := sp4o h
  obtain ⟨v0, v1, v2, v3, rfl, h⟩ := h
  refine ⟨_, PSs.nox (pss_cons (ps_par (i := 4) (j := 5) (by rfl) sc__law_looks.nd rfl rfl (by decide) rfl rfl (pa_cons (pe_lst pa_nil) (pa_cons (pe_callO (D__law_draw T) (hr.mono (by decide)) rfl pass0 (pa_cons (pv 0) (pa_cons (pv 1) pa_nil))) pa_nil)) (by rfl))
  (pss_cons (ps_for (by first | exact PassesOwn.never | exact passes_of rfl) rfl (pi_range1 rfl T.f_range (pa_cons (pv 3) pa_nil)) (pg_name (i := 6) sc__law_looks.nd rfl (by first | exact Or.inl rfl | exact Or.inr rfl))
  (pss_cons (ps_set (i := 7) sc__law_looks.nd rfl (by first | exact Or.inl rfl | exact Or.inr rfl) (pe_callO (D__law_draw T) (hr.mono (by decide)) rfl pass0 (pa_cons (pv 0) (pa_cons pe_int pa_nil))))
  (pss_mid (ps_if (pt_cmpR op_eq (pv 7) pe_int (nomark _))
  (pss_one (ps_set (i := 5) sc__law_looks.nd rfl (by first | exact Or.inl rfl | exact Or.inr rfl) (pe_callO (D__law_draw T) (hr.mono (by decide)) rfl pass0 (pa_cons (pv 0) (pa_cons (pv 1) pa_nil)))))
  pss_nil)
  (pss_mid (ps_if (pt_cmpR op_eq (pv 7) pe_int (nomark _))
  (pss_one (ps_set (i := 5) sc__law_looks.nd rfl (by first | exact Or.inl rfl | exact Or.inr rfl) (pe_op op_add (pe_op op_add (pv 5) pe_int) (pe_callO (D__law_draw T) (hr.mono (by decide)) rfl pass0 (pa_cons (pv 0) (pa_cons pe_int pa_nil))))))
  pss_nil)
  (pss_cons (ps_par (i := 8) (j := 9) (by rfl) sc__law_looks.nd rfl rfl (by decide) rfl rfl (pa_cons (pe_ix ix_tup (pe_tup (pa_cons pe_str (pa_cons pe_str (pa_cons pe_str (pa_cons pe_str pa_nil))))) (pe_callO (D__law_draw T) (hr.mono (by decide)) rfl pass0 (pa_cons (pv 0) (pa_cons pe_int pa_nil))) (fun _ _ => rfl)) (pa_cons pe_int pa_nil)) (by rfl))
  (pss_mid (ps_if (pt_cmpR op_eq (pe_callO (D__law_draw T) (hr.mono (by decide)) rfl pass0 (pa_cons (pv 0) (pa_cons pe_int pa_nil))) pe_int (nomark _))
  (pss_one (ps_set (i := 9) sc__law_looks.nd rfl (by first | exact Or.inl rfl | exact Or.inr rfl) (pe_callO (D__law_draw T) (hr.mono (by decide)) rfl pass0 (pa_cons (pv 0) (pa_cons (pv 1) pa_nil)))))
  pss_nil)
  (pss_cons (ps_set (i := 10) sc__law_looks.nd rfl (by first | exact Or.inl rfl | exact Or.inr rfl) (pe_op op_add (pe_op op_add (pv 5) (pv 2)) (pe_op op_mulW (pv 9) (pe_op op_sub (pe_callTy call_int1 (by rfl) T.f_int (by decide +kernel) (pa_cons (pe_cmpR op_eq (pv 8) pe_str (nomark _)) pa_nil)) (pe_callTy call_int1 (by rfl) T.f_int (by decide +kernel) (pa_cons (pe_cmpR op_eq (pv 8) pe_str (nomark _)) pa_nil))))))
  (pss_cons (ps_expr (pe_bm PySem.F.plainAttrs_list PySem.F.slot_list_append PySem.F.type_list_append mt_append (pv 4) (pa_cons (pe_tup (pa_cons (pv 8) (pa_cons (pv 5) (pa_cons (pv 10) pa_nil)))) pa_nil)))
  (pss_one (ps_set (i := 5) sc__law_looks.nd rfl (by first | exact Or.inl rfl | exact Or.inr rfl) (pe_op op_add (pv 5) (pv 2))))))))))))
  (pss_one (ps_ret (pv 4))))), ?_⟩
  obtain ⟨G, b, g, n, L, s', m, gh, rfl, rfl, rfl, rfl, bag, gb, gg, l1, l2, s1, s2, m1, m2, hn, k⟩ := h
  have D : Dr [b, g] G H G H b g n := ⟨Go.refl gh, bag, gb, gg, .inl (by simp), .inl (by simp)⟩
  walk_at "rd"
  intro q hq
  obtain ⟨hqb, hqg⟩ := D.bag.nb hq
  have hqG := D.go.nn hq
  have D := D.tmp (o := .lst []) hq
  have eq0 : (upd H q (.lst [])) q = some (.lst []) := upd_same
  walk_at "rd"
  refine D.draw (many := L) (by omega) (by omega) (sm_c (by omega)) (fun H1 x0 D kp r0 r1 => ?_)
  have eq0 := kp q _ hqb hqg eq0
  walk_at "rd"
  refine ⟨by omega, by omega, ?_⟩
  refine for_range (lo := 0) (n := m.toNat) (fun i σ H' => ∃ (G' : Hp) (zs : List V) (ls : List Look) (x : Int) (v6 v7 v8 v9 v10 : Option V), Dr [b, g] G H G' H' b g (n + 1 + i * 6) ∧ G' q = none ∧ H' q = some (.lst zs) ∧ DpAll K G' zs (ls.map lk) ∧ ls.length = i ∧ (∀ l ∈ ls, lookOk s' l) ∧ x.natAbs ≤ (i + 1) * (4 * 10 ^ 30) ∧
      σ = [some (.ref b), some (.int L), some (.int s'), some (.int m), some (.ref q), some (.int x), v6, v7, v8, v9, v10])
    ⟨G, [], [], x0, none, none, none, none, none, D, hqG, eq0, .nil, rfl, (fun l hl => by cases hl), by omega, rfl⟩ ?_ ?_
  · rintro i σ H2 hi ⟨G2, zs, ls, x, v6, v7, v8, v9, v10, D, gq, eq, hz, hll, hok, hx, rfl⟩
    have hi12 : i < 12 := by omega
    generalize hnn : n + 1 + i * 6 = nn at D
    walk_at "rd"
    refine D.draw (many := 4) (by omega) (by decide) (sm_c (by decide)) (fun H3 way D kp w0 w1 => ?_)
    have eq := kp q _ hqb hqg eq
    walk_at "rd"
    refine ⟨fun σ' H' => ∃ x : Int, Dr [b, g] G H G2 H' b g (nn + 2) ∧ H' q = some (.lst zs) ∧ x.natAbs ≤ (i + 1) * (4 * 10 ^ 30) ∧
      σ' = [some (.ref b), some (.int L), some (.int s'), some (.int m), some (.ref q), some (.int x), some (.int (0 + (i : Nat))), some (.int way), v8, v9, v10], ?_, ?_⟩
    · walk_at "rd"
      refine ifd (fun _ => ?_) (fun _ => ?_)
      · walk_at "rd"
        refine D.draw (many := L) (by omega) (by omega) (sm_c (by omega)) (fun H4 x1 D kp r0 r1 => ?_)
        have eq := kp q _ hqb hqg eq
        walk_at "rd"
        exact ⟨x1, D, eq, by omega, rfl⟩
      · exact ⟨x, D.more (by omega), eq, hx, rfl⟩
    clear D hx eq kp
    rintro σ' H4 ⟨x, D, eq, hx, rfl⟩
    refine ⟨fun σ' H' => ∃ x : Int, Dr [b, g] G H G2 H' b g (nn + 3) ∧ H' q = some (.lst zs) ∧ x.natAbs ≤ (i + 1) * (4 * 10 ^ 30) + 4 ∧
      σ' = [some (.ref b), some (.int L), some (.int s'), some (.int m), some (.ref q), some (.int x), some (.int (0 + (i : Nat))), some (.int way), v8, v9, v10], ?_, ?_⟩
    · walk_at "rd"
      refine ifd (fun _ => ?_) (fun _ => ?_)
      · walk_at "rd"
        refine D.draw (many := 3) (by omega) (by decide) (sm_c (by decide)) (fun H5 x1 D kp r0 r1 => ?_)
        have eq := kp q _ hqb hqg eq
        walk_at "rd"
        exact ⟨x + 1 + x1, D, eq, by omega, rfl⟩
      · exact ⟨x, D.more (by omega), eq, Nat.le_trans hx (Nat.le_add_right _ _), rfl⟩
    clear D hx eq
    rintro σ' H5 ⟨x, D, eq, hx, rfl⟩
    walk_at "rd"
    intro p1 hp1
    have hp1q : q ≠ p1 := ne_of_none eq hp1
    obtain ⟨G3, D, s3, hT, f3⟩ := D.newN (o := .tup (([("at" : Str), "at", "from", "upto"]).map V.str)) hp1
    have gq3 : G3 q = none := (f3 q hp1q).trans gq
    have eq : (upd H5 p1 (.tup (([("at" : Str), "at", "from", "upto"]).map V.str))) q = some (.lst zs) := (upd_ne hp1q).trans eq
    walk_at "rd"
    refine D.draw (many := 4) (by omega) (by decide) (sm_c (by decide)) (fun H6 wi D kp r0 r1 => ?_)
    have eq := kp q _ hqb hqg eq
    obtain ⟨wd, hwd, hwm⟩ : ∃ wd : Str, atI (([("at" : Str), "at", "from", "upto"]).map V.str) wi = some (.str wd) ∧ isW wd := by
      obtain ⟨j, rfl⟩ : ∃ j : Nat, wi = (j : Int) := ⟨wi.toNat, by omega⟩
      have hj : j < 4 := by omega
      rcases j with _ | _ | _ | _ | j
      · exact ⟨"at", atI_nat rfl, .inl rfl⟩
      · exact ⟨"at", atI_nat rfl, .inl rfl⟩
      · exact ⟨"from", atI_nat rfl, .inr (.inl rfl)⟩
      · exact ⟨"upto", atI_nat rfl, .inr (.inr rfl)⟩
      · omega
    refine ⟨p1, _, wi, _, rfl, rfl, SqT.of (D.gh _ _ hT), hwd, ?_⟩
    walk_at "rd"
    refine ⟨fun σ' H' => ∃ sl : Int, Dr [b, g] G H G3 H' b g (nn + 6) ∧ H' q = some (.lst zs) ∧ 0 ≤ sl ∧ sl ≤ 10 ^ 30 ∧
      σ' = [some (.ref b), some (.int L), some (.int s'), some (.int m), some (.ref q), some (.int x), some (.int (0 + (i : Nat))), some (.int way), some (.str wd), some (.int sl), v10], ?_, ?_⟩
    · walk_at "rd"
      refine D.draw (many := 2) (by omega) (by decide) (sm_c (by decide)) (fun H7 d2 D kp r0 r1 => ?_)
      have eq := kp q _ hqb hqg eq
      walk_at "rd"
      refine ifd (fun _ => ?_) (fun _ => ?_)
      · walk_at "rd"
        refine D.draw (many := L) (by omega) (by omega) (sm_c (by omega)) (fun H8 x1 D kp r0 r1 => ?_)
        have eq := kp q _ hqb hqg eq
        walk_at "rd"
        exact ⟨x1, D.more (by omega), eq, r0, by omega, rfl⟩
      · exact ⟨0, D.more (by omega), eq, by decide, by decide, rfl⟩
    clear D eq kp
    rintro σ' H7 ⟨sl, D, eq, sl0, sl1, rfl⟩
    walk_at "rd"
    refine .inr ⟨_, rfl, ?_⟩
    walk_at "rd"
    refine .inr ⟨_, rfl, ?_⟩
    walk_at "rd"
    obtain ⟨c, hc⟩ : ∃ c : Int, ((if decide (V.str wd = V.str "upto") = true then (1 : Int) else 0) - if decide (V.str wd = V.str "from") = true then (1 : Int) else 0) = c := ⟨_, rfl⟩
    have hcc : (wd ≠ "upto" → c ≤ 0) ∧ (wd ≠ "from" → 0 ≤ c) ∧ (c = -1 ∨ c = 0 ∨ c = 1) := by
      rw [← hc]
      by_cases h1 : wd = "upto"
      · by_cases h2 : wd = "from"
        · rw [decide_eq_true (congrArg V.str h1), decide_eq_true (congrArg V.str h2)]
          exact ⟨fun z => absurd h1 z, fun z => absurd h2 z, .inr (.inl rfl)⟩
        · rw [decide_eq_true (congrArg V.str h1), decide_eq_false (fun z => h2 (V.str.inj z))]
          exact ⟨fun z => absurd h1 z, fun _ => by decide, .inr (.inr rfl)⟩
      · by_cases h2 : wd = "from"
        · rw [decide_eq_false (fun z => h1 (V.str.inj z)), decide_eq_true (congrArg V.str h2)]
          exact ⟨fun _ => by decide, fun z => absurd h2 z, .inl rfl⟩
        · rw [decide_eq_false (fun z => h1 (V.str.inj z)), decide_eq_false (fun z => h2 (V.str.inj z))]
          exact ⟨fun _ => by decide, fun _ => by decide, .inr (.inl rfl)⟩
    dsimp -proj only
    rw [hc]
    refine ⟨Sm.mul (sm_c (by omega)) (sm_c (by omega)), ?_⟩
    obtain ⟨y, hy⟩ : ∃ y, x + s' + sl * c = y := ⟨_, rfl⟩
    have hsc : -(10 ^ 30) ≤ sl * c ∧ sl * c ≤ 10 ^ 30 ∧ (c ≤ 0 → sl * c ≤ 0) ∧ (0 ≤ c → 0 ≤ sl * c) := by
      rcases hcc.2.2 with e | e | e <;> rw [e] <;> omega
    walk_at "rd"
    refine ⟨.inl ⟨rfl, _, SqL.of eq⟩, ?_⟩
    walk_at "rd"
    intro t ht
    have hqt : q ≠ t := ne_of_none eq ht
    obtain ⟨G4, D, s4, e4, f4⟩ := D.newN (o := .tup [.str wd, .int x, .int (x + s' + sl * c)]) ht
    have gq4 : G4 q = none := (f4 q hqt).trans gq3
    have eq4 : (upd H7 t (.tup [.str wd, .int x, .int (x + s' + sl * c)])) q = some (.lst zs) := (upd_ne hqt).trans eq
    have hzl := dpa_len hz
    rw [List.length_map] at hzl
    walk_at "rd"
    refine ⟨_, _, _, rfl, rfl, eq4, slt (by omega), ?_⟩
    walk_at "rd"
    have hnew : lookOk s' (wd, x, x + s' + sl * c) := by
      refine ⟨⟨fun hw => ?_, fun hw => ?_⟩, hwm, ?_, ?_⟩
      · have := hsc.2.2.1 (hcc.1 hw)
        show x + s' + sl * c ≤ x + s'
        omega
      · have := hsc.2.2.2 (hcc.2.1 hw)
        show x + s' ≤ x + s' + sl * c
        omega
      · show x.natAbs ≤ 10 ^ 33
        have : (i + 1) * (4 * 10 ^ 30) ≤ 12 * (4 * 10 ^ 30) := Nat.mul_le_mul_right _ (by omega)
        omega
      · show (x + s' + sl * c).natAbs ≤ 10 ^ 33
        have : (i + 1) * (4 * 10 ^ 30) ≤ 12 * (4 * 10 ^ 30) := Nat.mul_le_mul_right _ (by omega)
        omega
    refine ⟨G4, zs ++ [.ref t], ls ++ [(wd, x, x + s' + sl * c)], x + s', _, _, _, _, _, (D.set gq4 (.inr hq) hqb hqg).more (by omega), gq4, upd_same, ?_, by rw [List.length_append, hll]; rfl, ?_, ?_, rfl⟩
    · rw [List.map_append]
      exact dpa_snoc (dpam (s3.trans s4) hz) (lk_dp (SqT.of e4))
    · intro l hl
      rcases List.mem_append.mp hl with hl | hl
      · exact hok l hl
      · rw [List.mem_singleton.mp hl]
        exact hnew
    · rw [Nat.succ_mul]
      omega
  · rintro σ H2 ⟨G2, zs, ls, x, v6, v7, v8, v9, v10, D, gq, eq, hz, hll, hok, hx, rfl⟩
    walk_at "rd"
    have D := D.seal eq gq hq hqb hqg
    exact k _ _ q ls D.go (D.bag.more (by omega)) D.gb D.gg ⟨zs, upd_same, dpam (same_seal gq) hz⟩ hll hok
theorem Dr.dark {ex : List Addr} {G0 H0 G H H' : Hp} {b g : Addr} {n : Nat} {C : Addr} {K : PySem.W.Frag} {x dx l : Addr} {L : Int} (a : Dr ex G0 H0 G H b g n) (hx : H x = none) (hdx : H dx = none) (hne : dx ≠ x) (hC : C = He.ga K "Dark") (hl : (upd (upd H dx (.own x)) x (.ins C dx [])) l = none)
    (ho : ∀ b, b ≠ x → b ≠ l → H' b = (upd (upd H dx (.own x)) x (.ins C dx [])) b) (h1 : H' x = some (.ins C dx [("turn", .int L), ("heard", .ref l)])) (h2 : H' l = some (.lst [])) :
    ∃ G2, Dr ex G0 H0 G2 H' b g n ∧ Same G G2 ∧ G2 x = none ∧ DkAt K G2 H' x L [] := by
  obtain ⟨G2, g2, s2, gx, hD⟩ := go_dark (Go.refl (ex := []) a.gh) hx hdx hne hC hl ho h1 h2
  exact ⟨G2, a.go_ g2, s2, gx, hD⟩

end
end Dk
namespace Dk
open PySem PySem.Spec L2
local macro_rules | `(tactic| walk_at "sq") => `(tactic| first | assumption | exact SqT.of (by assumption) | exact SqL.of (by assumption) | exact SqT.of upd_same | exact SqL.of upd_same | exact seqT (by assumption) (by assumption) | exact Same.seq (by assumption) (by assumption))
local macro_rules | `(tactic| walk_at "rd") => `(tactic| repeat (first | refine ⟨_, rfl, ?_⟩ | refine ⟨_, _, rfl, rfl, ?_⟩ | refine ⟨_, _, rfl, ?_⟩ | refine ⟨rfl, ?_⟩ | refine ⟨_, _, _, _, rfl, rfl, by walk_at "sq", by rfl, ?_⟩ | refine ⟨_, _, rfl, by walk_at "sq", rfl, ?_⟩ | refine ⟨_, _, rfl, Or.inl ⟨_, by walk_at "sq", rfl⟩, ?_⟩ | refine ⟨_, _, rfl, Or.inr ⟨_, by walk_at "sq", rfl⟩, ?_⟩ | refine ⟨Nat.le_of_ble_eq_true rfl, ?_⟩))

section
variable {P : Program} {w : World} {K : PySem.W.Frag} {mg : Str → Option Value} {base : Heap}
def spLaw (K : PySem.W.Frag) : Sp := Sp1 fun a H Q _ => ∃ (x : Addr) (ns : List Int), a = .ref x ∧ SqL K H x (ns.map V.int) ∧ ns.length ≤ 63 ∧ ∀ H', Q (.bl true) H'
theorem p30 : (10 : Int) ^ Int.toNat 30 - 1 = 10 ^ 30 - 1 := rfl
theorem mi_33 {i : Int} (h : i.natAbs ≤ 10 ^ 33) : Mi i := Nat.lt_of_lt_of_le (m := 2 ^ 400) (by omega) (Nat.pow_le_pow_right (by decide) (by decide))
theorem dp_two {K : PySem.W.Frag} {H : Hp} {v : V} {a b : Int × Int} (h : Dp K H v (.tuple [dI2 a, dI2 b])) : ∃ c p q, v = .ref c ∧ SqT K H c [.ref p, .ref q] ∧ SqT K H p [.int a.1, .int a.2] ∧ SqT K H q [.int b.1, .int b.2] := by
  obtain ⟨c, xs, rfl, h1, h2⟩ := dp_tup h
  obtain ⟨x, r, rfl, hx, h2⟩ := dpa_cons h2
  obtain ⟨y, r, rfl, hy, h2⟩ := dpa_cons h2
  obtain rfl := dpa_nil h2
  obtain ⟨p, rfl, hp⟩ := dp_i2 hx
  obtain ⟨q, rfl, hq⟩ := dp_i2 hy
  exact ⟨c, p, q, rfl, h1, hp, hq⟩
theorem sc_law : FnScope ["script", "bag", "turn", "length", "step", "looks", "dark", "word", "x", "y", "slow", "fast", "many", "pace", "lower", "upper", "look"] ["script"] (defScope s_law) := ⟨rfl, rfl, rfl, by decide +kernel, rfl, by decide +kernel, by decide +kernel⟩
theorem D_law (T : Txt w K mg) {fd : FuncData} (F : FunD K "law" "law" (defArgs s_law) (defBody s_law) (defScope s_law) [] [] (He.fAd K ("law", none)) fd) : FnOk P w K mg base CX0 6 (He.ga K "law") fd ["script"] (spLaw K) := by
  refine F.ok sc_law (fun _ _ _ _ h => by obtain ⟨_, rfl, _⟩ := sp1o h; rfl) (fun cdv A outer s H vs Q E hr h => ?_)
  replace h := sp1o h
  obtain ⟨v0, rfl, h⟩ := h
  refine ⟨_, PSs.nox (pss_cons (ps_set (i := 1) sc_law.nd rfl (by first | exact Or.inl rfl | exact Or.inr rfl) (pe_callO (D__law_bag T) (hr.mono (by decide)) rfl pass0 (pa_cons (pv 0) pa_nil)))
  (pss_cons (ps_for (by first | exact PassesOwn.never | exact passes_of rfl) rfl (pi_range1 rfl T.f_range (pa_cons (pe_op op_add pe_int (pe_callB (call_min2 rfl) (by rfl) T.f_min (by decide +kernel) (pa_cons pe_int (pa_cons (pe_callB call_len (by rfl) T.f_len (by decide +kernel) (pa_cons (pv 0) pa_nil)) pa_nil)))) pa_nil)) (pg_name (i := 2) sc_law.nd rfl (by first | exact Or.inl rfl | exact Or.inr rfl))
  (pss_cons (ps_set (i := 3) sc_law.nd rfl (by first | exact Or.inl rfl | exact Or.inr rfl) (pe_op op_add pe_int (pe_callO (D__law_draw T) (hr.mono (by decide)) rfl pass0 (pa_cons (pv 1) (pa_cons (pe_ix ix_tup (pe_tup (pa_cons pe_int (pa_cons pe_int (pa_cons (pe_op op_sub (pe_op op_pow pe_int pe_int) pe_int) pa_nil)))) (pe_callO (D__law_draw T) (hr.mono (by decide)) rfl pass0 (pa_cons (pv 1) (pa_cons pe_int pa_nil))) (fun _ _ => rfl)) pa_nil)))))
  (pss_cons (ps_set (i := 4) sc_law.nd rfl (by first | exact Or.inl rfl | exact Or.inr rfl) (pe_op op_sub (pe_callO (D__law_draw T) (hr.mono (by decide)) rfl pass0 (pa_cons (pv 1) (pa_cons (pe_op op_mulW pe_int (pv 3)) pa_nil))) (pv 3)))
  (pss_cons (ps_set (i := 5) sc_law.nd rfl (by first | exact Or.inl rfl | exact Or.inr rfl) (pe_callO (D__law_looks T) (hr.mono (by decide)) rfl pass0 (pa_cons (pv 1) (pa_cons (pv 3) (pa_cons (pv 4) (pa_cons (pe_op op_add pe_int (pe_callO (D__law_draw T) (hr.mono (by decide)) rfl pass0 (pa_cons (pv 1) (pa_cons pe_int pa_nil)))) pa_nil))))))
  (pss_cons (ps_set (i := 6) sc_law.nd rfl (by first | exact Or.inl rfl | exact Or.inr rfl) (pe_makeO (D_Dark___init__ T) (hr.mono (by decide)) rfl passL (pa_cons (pv 3) pa_nil)))
  (pss_cons (ps_for (by first | exact PassesOwn.never | exact passes_of rfl) rfl (pi_list (pv 5)) (pg_tup rfl (pgs_cons (pg_name (i := 7) sc_law.nd rfl (by first | exact Or.inl rfl | exact Or.inr rfl)) (pgs_cons (pg_name (i := 8) sc_law.nd rfl (by first | exact Or.inl rfl | exact Or.inr rfl)) (pgs_cons (pg_name (i := 9) sc_law.nd rfl (by first | exact Or.inl rfl | exact Or.inr rfl)) pgs_nil))))
  (pss_one (ps_expr (pe_methO (pv 6) (D_Dark_hear T) (hr.mono (by decide)) passL (pa_cons (pv 7) (pa_cons (pv 8) (pa_cons (pv 9) pa_nil)))))))
  (pss_cons (ps_asg (pe_callO (D_paces T) (hr.mono (by decide)) rfl pass0 (pa_cons (pe_lst (pa_cons (pv 6) pa_nil)) pa_nil)) (pg_tup rfl (pgs_cons (pg_name (i := 10) sc_law.nd rfl (by first | exact Or.inl rfl | exact Or.inr rfl)) (pgs_cons (pg_name (i := 11) sc_law.nd rfl (by first | exact Or.inl rfl | exact Or.inr rfl)) pgs_nil))))
  (pss_cons (ps_set (i := 12) sc_law.nd rfl (by first | exact Or.inl rfl | exact Or.inr rfl) (pe_lenSetD (by rfl) T.f_len (by rfl) T.f_set (pe_lc (own := [("look", 16)]) (g := (gName 16)) (tt := tYes) rfl sc_law.nd (pi_list (pv 5)) (blkOk_by (own := [("look", 16)]) (N := ["script", "bag", "turn", "length", "step", "looks", "dark", "word", "x", "y", "slow", "fast", "many", "pace", "lower", "upper", "look"]) (sc := defScope s_law) (by decide +kernel)) (fun _ _ _ _ _ => (pg_name (i := 16) sc_law.nd rfl (Or.inl rfl))) (fun _ _ _ _ _ => pts_nil) (fun _ _ _ _ _ => (pe_op op_mod (pe_ix (ix_tupK K) (pv 16) pe_int (fun _ _ => rfl)) (pv 3))))))
  (pss_cons (ps_set (i := 13) sc_law.nd rfl (by first | exact Or.inl rfl | exact Or.inr rfl) (pe_callO (D__law_lowest T) (hr.mono (by decide)) rfl pass0 (pa_cons (pv 4) (pa_cons (pv 3) pa_nil))))
  (pss_cons (ps_asg (pe_callO (D__law_sides T) (hr.mono (by decide)) rfl pass0 (pa_cons (pv 13) (pa_cons (pv 12) pa_nil))) (pg_tup rfl (pgs_cons (pg_name (i := 14) sc_law.nd rfl (by first | exact Or.inl rfl | exact Or.inr rfl)) (pgs_cons (pg_name (i := 15) sc_law.nd rfl (by first | exact Or.inl rfl | exact Or.inr rfl)) pgs_nil))))
  (pss_mid (ps_if (PW.pt (pw_and (pt_cmpR op_notN (pv 10) pe_non (nomark _)) (pw_and1 (PW.pt (pw_or (pt_val (pe_callO (D__law_below T) (hr.mono (by decide)) rfl pass0 (pa_cons (pv 14) (pa_cons (pv 10) pa_nil)))) (pw_or1 (pt_cmpR op_gt (pe_ix ix_tup (pv 10) pe_int (fun _ _ => rfl)) (pv 12) (nomark _))))))))
  (pss_one (ps_ret pe_bl))
  pss_nil)
  (pss_mid (ps_if (PW.pt (pw_and (pt_cmpR op_notN (pv 11) pe_non (nomark _)) (pw_and1 (PW.pt (pw_or (pt_val (pe_callO (D__law_below T) (hr.mono (by decide)) rfl pass0 (pa_cons (pv 11) (pa_cons (pv 15) pa_nil)))) (pw_or1 (pt_cmpR op_gt (pe_ix ix_tup (pv 11) pe_int (fun _ _ => rfl)) (pv 12) (nomark _))))))))
  (pss_one (ps_ret pe_bl))
  pss_nil)
  (pss_one (ps_if (PW.pt (pw_and (pt_cmpR op_lt (pv 12) (pe_ix ix_tup (pv 13) pe_int (fun _ _ => rfl)) (nomark _)) (pw_and1 (PW.pt (pw_or (pt_cmpR (op_eqD hr.units) (pv 10) (pv 13) (nomark _)) (pw_or1 (pt_cmpR (op_eqD hr.units) (pv 11) (pv 13) (nomark _))))))))
  (pss_one (ps_ret pe_bl))
  pss_nil))))))))))))))
  (pss_one (ps_ret pe_bl)))), ?_⟩
  obtain ⟨x, cells, rfl, hx, hl, k⟩ := h
  walk_at "rd"
  refine sp1 ⟨x, cells, rfl, hx, hl, fun H1 b g go1 hb hg bag => ?_⟩
  have D0 : Dr [] H H H H1 b g 0 := ⟨go1, bag, hb, hg, .inr hb, .inr hg⟩
  have hx1 := go1.gh.seq hx
  walk_at "rd"
  have hmin : (if ((cells.map V.int).length : Int) < 3 then ((cells.map V.int).length : Int) else 3) ≤ 3 ∧ 0 ≤ (if ((cells.map V.int).length : Int) < 3 then ((cells.map V.int).length : Int) else 3) := by split <;> omega
  generalize (if ((cells.map V.int).length : Int) < 3 then ((cells.map V.int).length : Int) else 3) = laps at hmin
  refine ⟨by omega, by omega, ?_⟩
  refine for_range (lo := 0) (n := (1 + laps).toNat) (fun i σ H' => ∃ (G' : Hp) (v2 v3 v4 v5 v6 v7 v8 v9 v10 v11 v12 v13 v14 v15 v16 : Option V), Dr [] H H G' H' b g (i * 200) ∧ σ = [some (.ref x), some (.ref b), v2, v3, v4, v5, v6, v7, v8, v9, v10, v11, v12, v13, v14, v15, v16])
    ⟨H, none, none, none, none, none, none, none, none, none, none, none, none, none, none, none, D0, rfl⟩ ?_ ?_
  · rintro i σ H2 hi ⟨G2, v2, v3, v4, v5, v6, v7, v8, v9, v10, v11, v12, v13, v14, v15, v16, D, rfl⟩
    have hi4 : i * 200 < 1000 := by omega
    generalize hn : i * 200 = n at D hi4
    walk_at "rd"
    refine ⟨⟨by decide, by decide, by decide⟩, ?_⟩
    walk_at "rd"
    intro p1 hp1
    obtain ⟨G3, D, s3, hT⟩ := D.new (o := .tup (([12, 60, 10 ^ Int.toNat 30 - 1] : List Int).map V.int)) hp1
    walk_at "rd"
    refine D.draw (many := 3) (by omega) (by decide) (sm_c (by decide)) (fun H3 r D kp r0 r1 => ?_)
    obtain ⟨m1, hv, hm⟩ := at_in (l := [12, 60, 10 ^ Int.toNat 30 - 1]) r0 r1
    have hm1 : 0 < m1 ∧ m1 ≤ 10 ^ 30 - 1 := by
      rw [p30] at hm
      simp only [List.mem_cons, List.mem_nil_iff, or_false] at hm
      omega
    refine ⟨p1, _, r, _, rfl, rfl, SqT.of (D.gh _ _ hT), hv, ?_⟩
    walk_at "rd"
    refine D.draw (many := m1) (by omega) (by omega) (sm_c (by omega)) (fun H4 L0 D kp t1 t2 => ?_)
    walk_at "rd"
    have hL : 1 ≤ 1 + L0 ∧ 1 + L0 ≤ 10 ^ 30 := by omega
    dsimp -proj only
    generalize 1 + L0 = L at hL
    have sL : Sm L := sm_c (by omega)
    refine ⟨Sm.mul (sm_c (by decide)) sL, ?_⟩
    walk_at "rd"
    refine D.draw (many := 3 * L) (by omega) (by omega) (sm_c (by omega)) (fun H5 s0 D kp t1 t2 => ?_)
    walk_at "rd"
    have hs : -(10 ^ 30) ≤ s0 - L ∧ s0 - L ≤ 2 * 10 ^ 30 := by omega
    dsimp -proj only
    generalize s0 - L = s at hs
    refine D.draw (many := 12) (by omega) (by decide) (sm_c (by decide)) (fun H6 m0 D kp t1 t2 => ?_)
    walk_at "rd"
    refine sp4 ⟨G3, b, g, _, L, s, 1 + m0, D.gh, rfl, rfl, rfl, rfl, D.bag, D.gb, D.gg, hL.1, hL.2, hs.1, hs.2, by omega, by omega, by omega, fun G4 H7 ql ls go4 bag4 gb4 gg4 hls hll hok => ?_⟩
    have D := D.goB go4 bag4 gb4 gg4
    walk_at "rd"
    intro px dx hpx hdx hne
    refine sp2 ⟨px, dx, L, rfl, rfl, upd_same, fun z => absurd z (by omega), fun _ l H8 hl8 ho8 h81 h82 => ⟨rfl, ?_⟩⟩
    have hpxH := D.go.lv px hpx
    obtain ⟨hpb, hpg⟩ := D.bag.nb hpx
    obtain ⟨G5, D, s5, gx5, hD5⟩ := D.dark hpx hdx hne rfl hl8 ho8 h81 h82
    obtain ⟨xs, exs, hxs⟩ := hls
    have exs5 := s5 _ _ exs
    have hxs5 := dpam s5 hxs
    have hxl := dpa_len hxs
    rw [List.length_map] at hxl
    walk_at "rd"
    refine ⟨⟨_, SqL.of (D.gh _ _ exs5)⟩, ?_⟩
    generalize hnn : (n + 1 + 1 + 1 + 1 + 100) = nn at D
    refine for_list (xs := xs) (fun j σ H' => ∃ (G' : Hp) (heard : List Look) (w7 w8 w9 : Option V), Dr [] H H G' H' b g nn ∧ Same G5 G' ∧ G' px = none ∧ DkAt K G' H' px L heard ∧ heard.length ≤ j ∧ (∀ m, m ∈ heard ↔ m ∈ (ls.take j).map (homeL L)) ∧
        σ = [some (.ref x), some (.ref b), some (.int (0 + (i : Nat))), some (.int L), some (.int s), some (.ref ql), some (.ref px), w7, w8, w9, v10, v11, v12, v13, v14, v15, v16])
      ⟨G5, [], v7, v8, v9, D, Same.refl _, gx5, hD5, Nat.le_refl _, (fun m => by simp), rfl⟩ (fun j σ H' _ ⟨_, _, _, _, _, D, s, _⟩ => SqL.of (D.gh _ _ (s _ _ exs5))) ?_ ?_
    · rintro j v σ H9 hj ⟨G6, heard, w7, w8, w9, D, s6, gx6, hD6, hhl, hmem, rfl⟩
      obtain ⟨d, hd1, hd2⟩ := dpa_at hxs5 hj
      rw [List.getElem?_map] at hd1
      obtain ⟨m, hm, rfl⟩ := Option.map_eq_some_iff.mp hd1
      have hmm : m ∈ ls := List.mem_of_getElem? hm
      have hjl := (List.getElem?_eq_some_iff.mp hm).1
      obtain ⟨ht, hw, bx, by_⟩ := hok m hmm
      obtain ⟨a, rfl, ha⟩ := dp_lk (dpm s6 hd2)
      have ha9 := seqT D.gh ha
      have mhome : MdL (homeL L m) := homeL_md (by omega) (mi_33 (by omega)) hw (mi_33 bx) (mi_33 by_)
      have trueh : ∀ z ∈ heard, MdL z ∧ TrueL (evF s) z := fun z hz => by
        obtain ⟨z0, hz0, rfl⟩ := List.mem_map.mp ((hmem z).mp hz)
        obtain ⟨t1, t2, t3, t4⟩ := hok z0 (List.mem_of_mem_take hz0)
        exact ⟨homeL_md (by omega) (mi_33 (by omega)) t2 (mi_33 t3) (mi_33 t4), TrueL.home (lap_ev s L) t1⟩
      have hnf : heard.find? (apart L (homeL L m)) = none := List.find?_eq_none.mpr fun z hz => by
        rw [apart_true (lap_ev s L) (by omega) (TrueL.home (lap_ev s L) ht) (trueh z hz).2]
        exact Bool.false_ne_true
      obtain ⟨dx6, l6, hp6, _⟩ := id hD6
      walk_at "rd"
      refine ⟨_, _, _, rfl, hp6, rfl, ?_⟩
      walk_at "rd"
      refine sp4 ⟨G6, px, L, heard, m, D.gh, rfl, gx6, hD6, rfl, rfl, rfl, by omega, (mi_33 (by omega)).md, ⟨hw, (mi_33 bx).md, (mi_33 by_).md⟩, mhome, ⟨by omega, fun z hz => (trueh z hz).1⟩, by omega, (fun o ho => by rw [hnf] at ho; cases ho), fun _ G7 H10 g7 hD7 => ?_⟩
      have D := D.goP g7 (.inr hpxH) hpb hpg
      refine ⟨G7, _, _, _, _, D, s6.trans g7.gg, g7.nw px gx6 (by rw [hp6]; simp), hD7, by have := insL_len heard (homeL L m); omega, fun z => ?_, rfl⟩
      have et : (ls.take (j + 1)) = ls.take j ++ [m] := by rw [List.take_succ, hm]; rfl
      rw [insL_mem, hmem, et, List.map_append, List.mem_append, List.map_cons, List.map_nil, List.mem_singleton]
    rintro σ H9 ⟨G6, heard, w7, w8, w9, D, s6, gx6, hD6, hhl, hmem, rfl⟩
    rw [hxl, List.take_length] at hmem
    rw [hxl] at hhl
    have hls12 : ls.length ≤ 12 := by omega
    have trueh : ∀ z ∈ heard, MdL z ∧ TrueL (evF s) z := fun z hz => by
      obtain ⟨z0, hz0, rfl⟩ := List.mem_map.mp ((hmem z).mp hz)
      obtain ⟨t1, t2, t3, t4⟩ := hok z0 hz0
      exact ⟨homeL_md (by omega) (mi_33 (by omega)) t2 (mi_33 t3) (mi_33 t4), TrueL.home (lap_ev s L) t1⟩
    walk_at "rd"
    intro qh hqh
    obtain ⟨G7, D, s7, e7, f7⟩ := D.newN (o := .lst [.ref px]) hqh
    have hA : HandsAt K G7 (upd H9 qh (.lst [.ref px])) qh L [heard] := ⟨[px], SqL.of e7, rfl, fun j p l2 e4 e5 => by
      rcases j with _ | j
      · cases e4
        cases e5
        exact (hD6.new hqh).kept s7 (fun _ z => z)
      · cases e4⟩
    walk_at "rd"
    refine sp1 ⟨G7, qh, L, [heard], D.gh, rfl, hA, by omega, (mi_33 (by omega)).md, (fun z => nomatch z), (by show 1 ≤ 900; decide), (fun l2 hl2 => by rw [List.mem_singleton.mp hl2]; exact ⟨by omega, fun z hz => (trueh z hz).1⟩), fun G8 H10 r ro rf g8 pa1 pa2 hr => ?_⟩
    have D := D.go_ g8
    obtain ⟨rt, rs, rfl, hrt, hrs⟩ := dp_tup hr
    obtain ⟨vs, rs, rfl, hvs, hrs⟩ := dpa_cons hrs
    obtain ⟨vf, rs, rfl, hvf, hrs⟩ := dpa_cons hrs
    obtain rfl := dpa_nil hrs
    have hrt1 := seqT D.gh hrt
    have exs8 := g8.gg _ _ (s7 _ _ (s6 _ _ exs5))
    have hxs8 := dpam (s6.trans (s7.trans g8.gg)) hxs5
    walk_at "rd"
    refine ⟨⟨_, SqL.of (D.gh _ _ exs8)⟩, ?_⟩
    intro D2 hD2
    obtain ⟨hDb, hDg⟩ := D.bag.nb hD2
    have hDH := D.go.lv D2 hD2
    have hDG := D.go.nn hD2
    refine lc_list (xs := xs) (fun j H' => Dr [] H H G8 H' b g nn ∧ H' D2 = some (.lst (((ls.take j).map fun l => l.2.1 % L).map V.int))) ⟨D.tmp hD2, upd_same⟩ (fun j H' _ ⟨D, _⟩ => SqL.of (D.gh _ _ exs8)) ?_ ?_
    · rintro j v H11 hj ⟨D, e⟩
      obtain ⟨d, hd1, hd2⟩ := dpa_at hxs8 hj
      rw [List.getElem?_map] at hd1
      obtain ⟨m, hm, rfl⟩ := Option.map_eq_some_iff.mp hd1
      obtain ⟨a, rfl, ha⟩ := dp_lk hd2
      have ha9 := seqT D.gh ha
      have et : (ls.take (j + 1)) = ls.take j ++ [m] := by rw [List.take_succ, hm]; rfl
      walk_at "rd"
      refine ⟨by omega, ?_⟩
      walk_at "rd"
      refine ⟨_, e, slt (by rw [List.length_map, List.length_map, List.length_take]; omega), D.set hDG (.inr hDH) hDb hDg, ?_⟩
      rw [upd_same, et, List.map_append, List.map_append]
      rfl
    rintro H11 ⟨D, e⟩
    rw [hxl, List.take_length] at e
    obtain ⟨ps, hps⟩ : ∃ ps, ls.map (fun l => l.2.1 % L) = ps := ⟨_, rfl⟩
    rw [hps] at e
    have hpl : ps.length = ls.length := by rw [← hps, List.length_map]
    refine ⟨_, _, rfl, SqL.of e, by omega, ?_⟩
    have hol := once_len ps
    have hin : ∀ l ∈ heard, l.2.1 ∈ once ps := fun l hl => by
      obtain ⟨z0, hz0, rfl⟩ := List.mem_map.mp ((hmem l).mp hl)
      rw [homeL_x, once_mem, ← hps]
      exact List.mem_map.mpr ⟨z0, hz0, rfl⟩
    have hone : 1 ≤ (once ps).length := by
      have : ls ≠ [] := fun e0 => by rw [e0] at hll; have : (0 : Nat) = (1 + m0).toNat := hll; omega
      obtain ⟨z0, r, rfl⟩ : ∃ z0 r, ls = z0 :: r := by
        cases ls with
        | nil => exact absurd rfl this
        | cons z0 r => exact ⟨z0, r, rfl⟩
      have : z0.2.1 % L ∈ once ps := once_mem.mpr (by rw [← hps]; exact List.mem_cons_self)
      exact List.length_pos_of_mem this
    have hB : ∀ l ∈ heard, l.2.1.natAbs + l.2.2.natAbs + L.natAbs ≤ 3 * 2 ^ 2000 := fun l hl => by
      have h1 := (trueh l hl).1.x
      have h2 := (trueh l hl).1.y
      have h3 := (mi_33 (i := L) (by omega)).md
      unfold Md at h1 h2 h3
      omega
    have slowI := even_slow (s := s) (by omega) (fun l hl => (trueh l hl).2) hin hB pa1
    have fastI := even_fast (s := s) (by omega) (fun l hl => (trueh l hl).2) hin hB pa2
    obtain ⟨my, hmy⟩ : ∃ my, (once ps).length = my := ⟨_, rfl⟩
    rw [hmy] at slowI fastI hone hol
    dsimp -proj only
    rw [hmy]
    have smp : ∀ p : Int, p.natAbs ≤ my * (3 * 2 ^ 2000) → Sm p := fun p hp => by
      have h1 : my * (3 * 2 ^ 2000) ≤ 2 ^ 4 * (2 ^ 2 * 2 ^ 2000) := Nat.mul_le_mul (by omega) (Nat.mul_le_mul_right _ (by decide))
      rw [← Nat.pow_add, ← Nat.pow_add] at h1
      exact Nat.lt_of_le_of_lt (Nat.le_trans hp h1) (Nat.pow_lt_pow_right (by decide) (by decide))
    walk_at "rd"
    refine sp2 ⟨_, _, rfl, rfl, by omega, sL, fun p3 hp3 => ?_⟩
    obtain ⟨G9, D, s9, hP⟩ := D.new (o := .tup [.int (low2 s L).1, .int (low2 s L).2]) hp3
    have hlp := low2_pos (i := s) (j := L) (by omega)
    have hla := low2_abs (i := s) (j := L) (by omega)
    have hlx := low2_cross s L
    have hda : Dp K G9 (.ref p3) (dI2 ((low2 s L).1, (low2 s L).2)) := i2_dp (SqT.of hP)
    have hvs := dpm s9 hvs
    have hvf := dpm s9 hvf
    generalize (low2 s L).1 = tp at hlp hla hlx hda D hP ⊢
    generalize (low2 s L).2 = un at hlp hla hlx hda D hP ⊢
    walk_at "rd"
    have btp : tp.natAbs < 2 ^ 200 := Nat.lt_of_le_of_lt hla (by omega)
    have ht1 : tp.natAbs < 2 ^ 1000 := Nat.lt_trans btp (Nat.pow_lt_pow_right (by decide) (by decide))
    have hu1 : un.natAbs < 2 ^ 1000 := Nat.lt_of_lt_of_le (m := 2 ^ 200) (by omega) (Nat.pow_le_pow_right (by decide) (by decide))
    refine sp2 ⟨G9, tp, un, (my : Int), D.gh, hda, rfl, by omega, by omega, by omega, ht1, hu1, fun G10 H12 r3 lo hi g10 nb hr3 => ?_⟩
    have D := D.go_ g10
    have hvs := dpm g10.gg hvs
    have hvf := dpm g10.gg hvf
    have hda := dpm g10.gg hda
    obtain ⟨c1, a1, b1, rfl, hc1, hl1, hh1⟩ := dp_two hr3
    have hc1' := seqT D.gh hc1
    have ab := nb_abs nb (by omega) (by omega)
    have smn : ∀ z : Int, z.natAbs ≤ tp.natAbs * (my : Int).natAbs → Sm z := fun z h2 => Sm.of (by
      have : tp.natAbs * (my : Int).natAbs ≤ 2 ^ 200 * 2 ^ 10 := Nat.mul_le_mul (Nat.le_of_lt btp) (by omega)
      rw [← Nat.pow_add] at this
      exact Nat.lt_of_le_of_lt (Nat.le_trans h2 this) (Nat.pow_lt_pow_right (by decide) (by decide)))
    have smb : ∀ z : Int, 1 ≤ z → z ≤ (my : Int) → Sm z := fun z h1 h2 => sm_c (by omega)
    have k1 := smn lo.1 ab.1
    have k2 := smn hi.1 ab.2
    have k5 := smb lo.2 nb.l1 nb.l2
    have k6 := smb hi.2 nb.r1 nb.r2
    walk_at "rd"
    refine ⟨fun σ' H' => H' = H12 ∧ σ' = [some (.ref x), some (.ref b), some (.int (0 + (i : Nat))), some (.int L), some (.int s), some (.ref ql), some (.ref px), w7, w8, w9, some vs, some vf, some (.int (my : Int)), some (.ref p3), some (.ref a1), some (.ref b1), v16], ?_, ?_⟩
    · rcases slowI with e0 | ⟨p, q, e0, q1, q2, q3, q4, q5⟩
      · rw [e0] at hvs
        obtain rfl := dp_non hvs
        walk_at "rd"
        exact rfl
      · rw [e0] at hvs
        obtain ⟨as, rfl, has⟩ := dp_i2 hvs
        have has' := seqT D.gh has
        have hq : p * un ≤ tp * q := frac_trans (a := s) (b := L) (c := tp) (d := un) (e := p) (f := q) (by omega) (by omega) (by omega) q4 (by omega)
        have hlt := nb.lt p q q1 (by omega) hq
        walk_at "rd"
        refine sp2 ⟨a1, as, lo, (p, q), rfl, rfl, seqT D.gh hl1, has', ⟨k1, k5, smp p q5, smb q q1 (by omega)⟩, ?_⟩
        rw [decide_eq_false (show ¬ lo.1 * q < p * lo.2 by omega)]
        walk_at "rd"
        refine ifd (fun z => absurd z (by show ¬ ((my : Int) < q); omega)) (fun _ => ?_)
        exact ⟨rfl, rfl⟩
    rintro σ' H13 ⟨rfl, rfl⟩
    refine ⟨fun σ' H' => H' = H13 ∧ σ' = [some (.ref x), some (.ref b), some (.int (0 + (i : Nat))), some (.int L), some (.int s), some (.ref ql), some (.ref px), w7, w8, w9, some vs, some vf, some (.int (my : Int)), some (.ref p3), some (.ref a1), some (.ref b1), v16], ?_, ?_⟩
    · rcases fastI with e0 | ⟨p, q, e0, q1, q2, q3, q4, q5⟩
      · rw [e0] at hvf
        obtain rfl := dp_non hvf
        walk_at "rd"
        exact rfl
      · rw [e0] at hvf
        obtain ⟨as, rfl, has⟩ := dp_i2 hvf
        have has' := seqT D.gh has
        have hq : tp * q ≤ p * un := frac_trans (a := s) (b := L) (c := p) (d := q) (e := tp) (f := un) (by omega) (by omega) (by omega) (by omega) q4
        have hlt := nb.rt p q q1 (by omega) hq
        walk_at "rd"
        refine sp2 ⟨as, b1, (p, q), hi, rfl, rfl, has', seqT D.gh hh1, ⟨smp p q5, smb q q1 (by omega), k2, k6⟩, ?_⟩
        rw [decide_eq_false (show ¬ p * hi.2 < hi.1 * q by omega)]
        walk_at "rd"
        refine ifd (fun z => absurd z (by show ¬ ((my : Int) < q); omega)) (fun _ => ?_)
        exact ⟨rfl, rfl⟩
    rintro σ' H14 ⟨rfl, rfl⟩
    have fin : ∃ (G' : Hp) (v2 v3 v4 v5 v6 v7 v8 v9 v10 v11 v12 v13 v14 v15 v16' : Option V), Dr [] H H G' H14 b g ((i + 1) * 200) ∧ [some (V.ref x), some (.ref b), some (.int (0 + (i : Nat))), some (.int L), some (.int s), some (.ref ql), some (.ref px), w7, w8, w9, some vs, some vf, some (.int (my : Int)), some (.ref p3), some (.ref a1), some (.ref b1), v16] = [some (V.ref x), some (.ref b), v2, v3, v4, v5, v6, v7, v8, v9, v10, v11, v12, v13, v14, v15, v16'] :=
      ⟨G10, _, _, _, _, _, _, _, _, _, _, _, _, _, _, _, D.more (by omega), rfl⟩
    obtain ⟨a3, e3', ht3⟩ := dp_i2 hda
    cases e3'
    have ht3' := seqT D.gh ht3
    have shp : SeqAt.shaped (dI2 (tp, un)) = true := by
      unfold SeqAt.shaped
      simp [PyData.canLay0, PyData.canLayAll0, PyData.depth, PyData.depthAll, dI2]
    have sho : ∀ o, SeqAt.shaped (optP o) = true := fun o => by
      cases o with
      | none => rfl
      | some w =>
        unfold SeqAt.shaped optP
        simp [PyData.canLay0, PyData.canLayAll0, PyData.depth, PyData.depthAll, dI2]
    have ne : ∀ o : Option (Int × Int), (my : Int) < un → (o = none ∨ ∃ p q : Int, o = some (p, q) ∧ 1 ≤ q ∧ q ≤ (my : Int)) → PyData.eqv (optP o) (dI2 (tp, un)) = false := fun o hlt ho => by
      rcases ho with rfl | ⟨p, q, rfl, h1, h2⟩
      · rfl
      · have : ¬ q = un := by omega
        simp [optP, dI2, PyData.eqv, PyData.eqvAll, this]
    walk_at "rd"
    refine ifd (fun hlt => ?_) (fun _ => ?_)
    · have hlt : (my : Int) < un := hlt
      walk_at "rd"
      refine ⟨_, _, dpm D.gh hvs, dpm D.gh hda, sho _, shp, ?_⟩
      rw [ne ro hlt (slowI.imp id fun ⟨p, q, e, h1, h2, _⟩ => ⟨p, q, e, h1, by omega⟩)]
      walk_at "rd"
      refine ⟨_, _, dpm D.gh hvf, dpm D.gh hda, sho _, shp, ?_⟩
      rw [ne rf hlt (fastI.imp id fun ⟨p, q, e, h1, h2, _⟩ => ⟨p, q, e, h1, by omega⟩)]
      walk_at "rd"
      exact fin
    · exact fin
  · rintro σ H2 ⟨G2, v2, v3, v4, v5, v6, v7, v8, v9, v10, v11, v12, v13, v14, v15, v16, D, rfl⟩
    exact k _

end
end Dk
namespace Dk
open PySem PySem.Spec L2
def e_low : He.DefD := ⟨("low", none), "low", "low", defArgs s_low, defBody s_low, defScope s_low, [], []⟩
def e_high : He.DefD := ⟨("high", none), "high", "high", defArgs s_high, defBody s_high, defScope s_high, [], []⟩
def e_need_round : He.DefD := ⟨("need_round", none), "need_round", "need_round", defArgs s_need_round, defBody s_need_round, defScope s_need_round, [], []⟩
def e_looks_by : He.DefD := ⟨("looks_by", none), "looks_by", "looks_by", defArgs s_looks_by, defBody s_looks_by, defScope s_looks_by, [], []⟩
def e_turns_between : He.DefD := ⟨("turns_between", none), "turns_between", "turns_between", defArgs s_turns_between, defBody s_turns_between, defScope s_turns_between, [], []⟩
def e_led_by : He.DefD := ⟨("led_by", none), "led_by", "led_by", defArgs s_led_by, defBody s_led_by, defScope s_led_by, [], []⟩
def e_gone_round : He.DefD := ⟨("gone_round", none), "gone_round", "gone_round", defArgs s_gone_round, defBody s_gone_round, defScope s_gone_round, [], []⟩
def e_paces : He.DefD := ⟨("paces", none), "paces", "paces", defArgs s_paces, defBody s_paces, defScope s_paces, [], []⟩
def e_need_length : He.DefD := ⟨("need_length", none), "need_length", "need_length", defArgs s_need_length, defBody s_need_length, defScope s_need_length, [], []⟩
def e_need_word : He.DefD := ⟨("need_word", none), "need_word", "need_word", defArgs s_need_word, defBody s_need_word, defScope s_need_word, [], []⟩
def e_not_short : He.DefD := ⟨("not_short", none), "not_short", "not_short", defArgs s_not_short, defBody s_not_short, defScope s_not_short, [], []⟩
def e_not_beyond : He.DefD := ⟨("not_beyond", none), "not_beyond", "not_beyond", defArgs s_not_beyond, defBody s_not_beyond, defScope s_not_beyond, [], []⟩
def e_Dark___init__ : He.DefD := ⟨("Dark", some "__init__"), "__init__", "Dark.__init__", defArgs s_Dark___init__, defBody s_Dark___init__, defScope s_Dark___init__, [], []⟩
def e_Dark___eq__ : He.DefD := ⟨("Dark", some "__eq__"), "__eq__", "Dark.__eq__", defArgs s_Dark___eq__, defBody s_Dark___eq__, defScope s_Dark___eq__, [], []⟩
def e_Dark_length : He.DefD := ⟨("Dark", some "length"), "length", "Dark.length", defArgs s_Dark_length, defBody s_Dark_length, defScope s_Dark_length, [], []⟩
def e_Dark_looks : He.DefD := ⟨("Dark", some "looks"), "looks", "Dark.looks", defArgs s_Dark_looks, defBody s_Dark_looks, defScope s_Dark_looks, [], []⟩
def e_Dark_home : He.DefD := ⟨("Dark", some "home"), "home", "Dark.home", defArgs s_Dark_home, defBody s_Dark_home, defScope s_Dark_home, [], []⟩
def e_Dark_is_apart : He.DefD := ⟨("Dark", some "is_apart"), "is_apart", "Dark.is_apart", defArgs s_Dark_is_apart, defBody s_Dark_is_apart, defScope s_Dark_is_apart, [], []⟩
def e_Dark_first_apart : He.DefD := ⟨("Dark", some "first_apart"), "first_apart", "Dark.first_apart", defArgs s_Dark_first_apart, defBody s_Dark_first_apart, defScope s_Dark_first_apart, [], []⟩
def e_Dark_hear : He.DefD := ⟨("Dark", some "hear"), "hear", "Dark.hear", defArgs s_Dark_hear, defBody s_Dark_hear, defScope s_Dark_hear, [], []⟩
def e_Dark_least : He.DefD := ⟨("Dark", some "least"), "least", "Dark.least", defArgs s_Dark_least, defBody s_Dark_least, defScope s_Dark_least, [], []⟩
def e_Dark_greatest : He.DefD := ⟨("Dark", some "greatest"), "greatest", "Dark.greatest", defArgs s_Dark_greatest, defBody s_Dark_greatest, defScope s_Dark_greatest, [], []⟩
def e__law_bag : He.DefD := ⟨("_law_bag", none), "_law_bag", "_law_bag", defArgs s__law_bag, defBody s__law_bag, defScope s__law_bag, [], []⟩
def e__law_draw : He.DefD := ⟨("_law_draw", none), "_law_draw", "_law_draw", defArgs s__law_draw, defBody s__law_draw, defScope s__law_draw, [], []⟩
def e__law_divisor : He.DefD := ⟨("_law_divisor", none), "_law_divisor", "_law_divisor", defArgs s__law_divisor, defBody s__law_divisor, defScope s__law_divisor, [], []⟩
def e__law_lowest : He.DefD := ⟨("_law_lowest", none), "_law_lowest", "_law_lowest", defArgs s__law_lowest, defBody s__law_lowest, defScope s__law_lowest, [], []⟩
def e__law_below : He.DefD := ⟨("_law_below", none), "_law_below", "_law_below", defArgs s__law_below, defBody s__law_below, defScope s__law_below, [], []⟩
def e__law_sides : He.DefD := ⟨("_law_sides", none), "_law_sides", "_law_sides", defArgs s__law_sides, defBody s__law_sides, defScope s__law_sides, [], []⟩
def e__law_looks : He.DefD := ⟨("_law_looks", none), "_law_looks", "_law_looks", defArgs s__law_looks, defBody s__law_looks, defScope s__law_looks, [], []⟩
def e_law : He.DefD := ⟨("law", none), "law", "law", defArgs s_law, defBody s_law, defScope s_law, [], []⟩
def e_NoLength___init__ : He.DefD := ⟨("NoLength", some "__init__"), "__init__", "NoLength.__init__", defArgs s_NoLength___init__, defBody s_NoLength___init__, defScope s_NoLength___init__, [], []⟩
def e_Clash___init__ : He.DefD := ⟨("Clash", some "__init__"), "__init__", "Clash.__init__", defArgs s_Clash___init__, defBody s_Clash___init__, defScope s_Clash___init__, [], []⟩
def fn : List He.DefD := [e_low, e_high, e_need_round, e_looks_by, e_turns_between, e_led_by, e_gone_round, e_paces, e_need_length, e_need_word, e_not_short, e_not_beyond, e_Dark___init__, e_Dark___eq__, e_Dark_length, e_Dark_looks, e_Dark_home, e_Dark_is_apart, e_Dark_first_apart, e_Dark_hear, e_Dark_least, e_Dark_greatest, e__law_bag, e__law_draw, e__law_divisor, e__law_lowest, e__law_below, e__law_sides, e__law_looks, e_law, e_NoLength___init__, e_Clash___init__]
def fa1 : List He.Fa := [.glo "low", .glo "high", .glo "need_round", .glo "looks_by", .glo "turns_between", .glo "led_by", .glo "gone_round", .glo "paces", .glo "need_length", .glo "need_word", .glo "not_short", .glo "not_beyond", .glo "_law_bag", .glo "_law_draw", .glo "_law_divisor", .glo "_law_lowest", .glo "_law_below", .glo "_law_sides", .glo "_law_looks", .glo "law", .glo "DialError", .glo "NoLength", .glo "NoWord", .glo "Clash", .glo "NoRound", .glo "Dark", .free "len", .free "abs", .free "range", .free "min", .free "max", .free "isinstance", .free "sorted", .free "list", .free "tuple", .free "set", .free "int", .free "enumerate", .str "SLOW" "slow", .str "AT" "at"]
def fa2 : List He.Fa := [.str "FROM" "from", .str "UPTO" "upto", .glo "WORDS_paces", .glo "WORDS_darks", .cls "Dark", .mkr "Dark", .noat "Dark" "turn", .noat "Dark" "heard", .meth "Dark" "__eq__", .meth "Dark" "length", .meth "Dark" "looks", .meth "Dark" "home", .meth "Dark" "is_apart", .meth "Dark" "first_apart", .meth "Dark" "hear", .meth "Dark" "least", .meth "Dark" "greatest"]
def fa : List He.Fa := fa1 ++ fa2
def tabs0 : List He.Tab := [(fun K => He.ga K "WORDS_paces", ["slow", "fast"])]
def ex (K : PySem.W.Frag) : Bool := (excB K "NoLength") && ((excB K "Clash") && ((decide (PySem.W.nsIn K (He.ga K "WORDS_paces") "slow" = some (some (.ref (refAt K (He.ga K "WORDS_paces") "slow"))))) && ((decide (tupK K (refAt K (He.ga K "WORDS_paces") "slow") [V.str "at", V.str "from"] = true)) && ((decide (PySem.W.nsIn K (He.ga K "WORDS_paces") "fast" = some (some (.ref (refAt K (He.ga K "WORDS_paces") "fast"))))) && ((decide (tupK K (refAt K (He.ga K "WORDS_paces") "fast") [V.str "at", V.str "upto"] = true)) && (decide (tupK K (He.ga K "WORDS_darks") [V.str "at", V.str "from", V.str "upto"] = true)))))))
abbrev R : PySem.W.OpenRow := PySem.W.OpenLaw.row PySem.Challenge.rw_darkpace_k44_whole_no_looks_tell_more
abbrev hk : PySem.W.Hook := He.hookX 5 fa fn tabs0 [] ex
def ob (s : PySem.W.SharedT) : He.AlX := He.obsX 5 fa fn tabs0 [] ex (HandSHeadRun.getT s)
theorem ob_eq (s : PySem.W.SharedT) : ob s = hk.obs s.abs := He.obsX_eq (HandSHeadRun.getT_eq s)
def ns1 : List PySem.Str := ["_wall", "DialError", "NoLength", "NoWord", "Clash", "NoRound", "low", "high", "need_round", "SLOW", "WORDS_paces", "looks_by", "turns_between", "led_by", "gone_round", "paces"]
def ns2 : List PySem.Str := ["AT", "FROM", "UPTO", "WORDS_darks", "need_length", "need_word", "not_short", "not_beyond", "Dark", "_law_bag", "_law_draw", "_law_divisor", "_law_lowest", "_law_below", "_law_sides", "_law_looks"]
def loose : List PySem.Str := ns1 ++ ns2
theorem run (w : World) : HandSHeadRun.RunEq R (PySem.W.view R.prog [38]) hk ob 6000 loose w := by
  revert w
  refine world_by fun b w => ?_
  cases b
  · intro os
    kernel_rfl
  · intro os
    kernel_rfl
theorem facts {w : World} {K : PySem.W.Frag} {h : Heap} {mg : Str → Option Value} (X : K.In h) (G : h.Ns mainGlobals mg) (c : He.SaysX fa fn tabs0 [] ex w h K) : Txt w K mg := by
  have m := c.more
  unfold ex at m
  simp only [Bool.and_eq_true, decide_eq_true_eq] at m
  obtain ⟨h0, h1, h2, h3, h4, h5, h6⟩ := m
  exact {
    d_low := c.t.d.def_ 0 (d := e_low) rfl
    d_high := c.t.d.def_ 1 (d := e_high) rfl
    d_need_round := c.t.d.def_ 2 (d := e_need_round) rfl
    d_looks_by := c.t.d.def_ 3 (d := e_looks_by) rfl
    d_turns_between := c.t.d.def_ 4 (d := e_turns_between) rfl
    d_led_by := c.t.d.def_ 5 (d := e_led_by) rfl
    d_gone_round := c.t.d.def_ 6 (d := e_gone_round) rfl
    d_paces := c.t.d.def_ 7 (d := e_paces) rfl
    d_need_length := c.t.d.def_ 8 (d := e_need_length) rfl
    d_need_word := c.t.d.def_ 9 (d := e_need_word) rfl
    d_not_short := c.t.d.def_ 10 (d := e_not_short) rfl
    d_not_beyond := c.t.d.def_ 11 (d := e_not_beyond) rfl
    d_Dark___init__ := c.t.d.def_ 12 (d := e_Dark___init__) rfl
    d_Dark___eq__ := c.t.d.def_ 13 (d := e_Dark___eq__) rfl
    d_Dark_length := c.t.d.def_ 14 (d := e_Dark_length) rfl
    d_Dark_looks := c.t.d.def_ 15 (d := e_Dark_looks) rfl
    d_Dark_home := c.t.d.def_ 16 (d := e_Dark_home) rfl
    d_Dark_is_apart := c.t.d.def_ 17 (d := e_Dark_is_apart) rfl
    d_Dark_first_apart := c.t.d.def_ 18 (d := e_Dark_first_apart) rfl
    d_Dark_hear := c.t.d.def_ 19 (d := e_Dark_hear) rfl
    d_Dark_least := c.t.d.def_ 20 (d := e_Dark_least) rfl
    d_Dark_greatest := c.t.d.def_ 21 (d := e_Dark_greatest) rfl
    d__law_bag := c.t.d.def_ 22 (d := e__law_bag) rfl
    d__law_draw := c.t.d.def_ 23 (d := e__law_draw) rfl
    d__law_divisor := c.t.d.def_ 24 (d := e__law_divisor) rfl
    d__law_lowest := c.t.d.def_ 25 (d := e__law_lowest) rfl
    d__law_below := c.t.d.def_ 26 (d := e__law_below) rfl
    d__law_sides := c.t.d.def_ 27 (d := e__law_sides) rfl
    d__law_looks := c.t.d.def_ 28 (d := e__law_looks) rfl
    d_law := c.t.d.def_ 29 (d := e_law) rfl
    g_low := He.glo_ok X G (c.t.d.fact 0 (f := .glo "low") rfl)
    g_high := He.glo_ok X G (c.t.d.fact 1 (f := .glo "high") rfl)
    g_need_round := He.glo_ok X G (c.t.d.fact 2 (f := .glo "need_round") rfl)
    g_looks_by := He.glo_ok X G (c.t.d.fact 3 (f := .glo "looks_by") rfl)
    g_turns_between := He.glo_ok X G (c.t.d.fact 4 (f := .glo "turns_between") rfl)
    g_led_by := He.glo_ok X G (c.t.d.fact 5 (f := .glo "led_by") rfl)
    g_gone_round := He.glo_ok X G (c.t.d.fact 6 (f := .glo "gone_round") rfl)
    g_paces := He.glo_ok X G (c.t.d.fact 7 (f := .glo "paces") rfl)
    g_need_length := He.glo_ok X G (c.t.d.fact 8 (f := .glo "need_length") rfl)
    g_need_word := He.glo_ok X G (c.t.d.fact 9 (f := .glo "need_word") rfl)
    g_not_short := He.glo_ok X G (c.t.d.fact 10 (f := .glo "not_short") rfl)
    g_not_beyond := He.glo_ok X G (c.t.d.fact 11 (f := .glo "not_beyond") rfl)
    g__law_bag := He.glo_ok X G (c.t.d.fact 12 (f := .glo "_law_bag") rfl)
    g__law_draw := He.glo_ok X G (c.t.d.fact 13 (f := .glo "_law_draw") rfl)
    g__law_divisor := He.glo_ok X G (c.t.d.fact 14 (f := .glo "_law_divisor") rfl)
    g__law_lowest := He.glo_ok X G (c.t.d.fact 15 (f := .glo "_law_lowest") rfl)
    g__law_below := He.glo_ok X G (c.t.d.fact 16 (f := .glo "_law_below") rfl)
    g__law_sides := He.glo_ok X G (c.t.d.fact 17 (f := .glo "_law_sides") rfl)
    g__law_looks := He.glo_ok X G (c.t.d.fact 18 (f := .glo "_law_looks") rfl)
    g_law := He.glo_ok X G (c.t.d.fact 19 (f := .glo "law") rfl)
    k_DialError := He.glo_ok X G (c.t.d.fact 20 (f := .glo "DialError") rfl)
    k_NoLength := He.glo_ok X G (c.t.d.fact 21 (f := .glo "NoLength") rfl)
    k_NoWord := He.glo_ok X G (c.t.d.fact 22 (f := .glo "NoWord") rfl)
    k_Clash := He.glo_ok X G (c.t.d.fact 23 (f := .glo "Clash") rfl)
    k_NoRound := He.glo_ok X G (c.t.d.fact 24 (f := .glo "NoRound") rfl)
    k_Dark := He.glo_ok X G (c.t.d.fact 25 (f := .glo "Dark") rfl)
    f_len := He.free_ok X G (c.t.d.fact 26 (f := .free "len") rfl)
    f_abs := He.free_ok X G (c.t.d.fact 27 (f := .free "abs") rfl)
    f_range := He.free_ok X G (c.t.d.fact 28 (f := .free "range") rfl)
    f_min := He.free_ok X G (c.t.d.fact 29 (f := .free "min") rfl)
    f_max := He.free_ok X G (c.t.d.fact 30 (f := .free "max") rfl)
    f_isinstance := He.free_ok X G (c.t.d.fact 31 (f := .free "isinstance") rfl)
    f_sorted := He.free_ok X G (c.t.d.fact 32 (f := .free "sorted") rfl)
    f_list := He.free_ok X G (c.t.d.fact 33 (f := .free "list") rfl)
    f_tuple := He.free_ok X G (c.t.d.fact 34 (f := .free "tuple") rfl)
    f_set := He.free_ok X G (c.t.d.fact 35 (f := .free "set") rfl)
    f_int := He.free_ok X G (c.t.d.fact 36 (f := .free "int") rfl)
    f_enumerate := He.free_ok X G (c.t.d.fact 37 (f := .free "enumerate") rfl)
    c_SLOW := He.str_ok X G (c.t.d.fact 38 (f := .str "SLOW" "slow") rfl)
    c_AT := He.str_ok X G (c.t.d.fact 39 (f := .str "AT" "at") rfl)
    c_FROM := He.str_ok X G (c.t.d.fact 40 (f := .str "FROM" "from") rfl)
    c_UPTO := He.str_ok X G (c.t.d.fact 41 (f := .str "UPTO" "upto") rfl)
    o_WORDS_paces := He.glo_ok X G (c.t.d.fact 42 (f := .glo "WORDS_paces") rfl)
    o_WORDS_darks := He.glo_ok X G (c.t.d.fact 43 (f := .glo "WORDS_darks") rfl)
    kc_Dark := He.cls_ok (c.t.d.fact 44 (f := .cls "Dark") rfl)
    mk_Dark := He.mkr_ok (c.t.d.fact 45 (f := .mkr "Dark") rfl)
    na_Dark_turn := He.noat_ok (c.t.d.fact 46 (f := .noat "Dark" "turn") rfl)
    na_Dark_heard := He.noat_ok (c.t.d.fact 47 (f := .noat "Dark" "heard") rfl)
    mt_Dark___eq__ := He.meth_ok (c.t.d.fact 48 (f := .meth "Dark" "__eq__") rfl)
    mt_Dark_length := He.meth_ok (c.t.d.fact 49 (f := .meth "Dark" "length") rfl)
    mt_Dark_looks := He.meth_ok (c.t.d.fact 50 (f := .meth "Dark" "looks") rfl)
    mt_Dark_home := He.meth_ok (c.t.d.fact 51 (f := .meth "Dark" "home") rfl)
    mt_Dark_is_apart := He.meth_ok (c.t.d.fact 52 (f := .meth "Dark" "is_apart") rfl)
    mt_Dark_first_apart := He.meth_ok (c.t.d.fact 53 (f := .meth "Dark" "first_apart") rfl)
    mt_Dark_hear := He.meth_ok (c.t.d.fact 54 (f := .meth "Dark" "hear") rfl)
    mt_Dark_least := He.meth_ok (c.t.d.fact 55 (f := .meth "Dark" "least") rfl)
    mt_Dark_greatest := He.meth_ok (c.t.d.fact 56 (f := .meth "Dark" "greatest") rfl)
    x_NoLength := excB_ok h0 (He.glo_ok X G (c.t.d.fact 21 (f := .glo "NoLength") rfl)) (c.t.d.def_ 30 (d := e_NoLength___init__) rfl) ⟨rfl, rfl, rfl, by decide +kernel, rfl, by decide +kernel, by decide +kernel⟩ ⟨rfl, rfl⟩ (fun _ _ _ _ _ _ us hl => match us, hl with | [_, _], _ => rfl)
    x_Clash := excB_ok h1 (He.glo_ok X G (c.t.d.fact 23 (f := .glo "Clash") rfl)) (c.t.d.def_ 31 (d := e_Clash___init__) rfl) ⟨rfl, rfl, rfl, by decide +kernel, rfl, by decide +kernel, by decide +kernel⟩ ⟨rfl, rfl⟩ (fun _ _ _ _ _ _ us hl => match us, hl with | [_, _], _ => rfl)
    m_n_WORDS_paces_slow := h2
    m_u_WORDS_paces_slow := h3
    m_n_WORDS_paces_fast := h4
    m_u_WORDS_paces_fast := h5
    m_u_WORDS_darks := h6
    t_WORDS_paces := kd_of (c.t.tabW 0 rfl) }
end Dk
open PySem PySem.W PySem.Calls PyProof.Rows
theorem PySem.Challenge.cw_darkpace_k44_whole_no_looks_tell_more_holds : PySem.Challenge.rw_darkpace_k44_whole_no_looks_tell_more.Holds := by
  w_on; o_law
  refine HandSHeadRun.head_any (r := OpenLaw.row PySem.Challenge.rw_darkpace_k44_whole_no_looks_tell_more) (q := view (OpenLaw.row PySem.Challenge.rw_darkpace_k44_whole_no_looks_tell_more).prog [38]) (H := Dk.hk) (ob := Dk.ob) (M := 6000) (loose := Dk.loose) (d := HandSHeadRun.topDef (OpenLaw.row PySem.Challenge.rw_darkpace_k44_whole_no_looks_tell_more).prog 38) (kwd := []) Dk.ob_eq
    (by kernel_rfl) (fun s => by kernel_rfl) Dk.run (by kernel_rfl) (by kernel_rfl) (by kernel_rfl) (by rfl) (by first | assumption | decide +kernel) (by decide +kernel) ⟨rfl, rfl, rfl, rfl, rfl, by decide +kernel⟩ ?hw ?hc
  case hw => w_witness2
  case hc =>
    refine L2.walk_ofE (l := PySem.Challenge.rw_darkpace_k44_whole_no_looks_tell_more) (n := 63) (k := 6) (x := "script") (CX := L2.CX0) rfl (by decide) (by kernel_rfl) ⟨rfl, by decide, by decide⟩ ?F (fun _ _ _ _ z => z)
    intro w mg fa h Y G hmg0
    obtain ⟨K, KX, c⟩ := Y
    have hmg : mg ("law" : PySem.Str) = some (.ref fa) := by
      have e : (HandSHeadRun.topDef (OpenLaw.row PySem.Challenge.rw_darkpace_k44_whole_no_looks_tell_more).prog 38).name = ("law" : PySem.Str) := by kernel_rfl
      rw [← e]
      exact hmg0
    have T := Dk.facts KX G c
    have e := hmg.symm.trans T.g_law
    cases e
    obtain ⟨fd, F⟩ := T.d_law
    have b := L2.FunD.bindsA (ps := ["script"]) F fun _ _ _ _ _ _ us hl => match us, hl with | [_], _ => rfl
    exact ⟨K, fd, Dk.spLaw K, KX, fun s v => b s [v] rfl, fun H a ns hl _ hS => Dk.sp1 ⟨a, ns, rfl, hS, hl, fun _ => rfl⟩, fun base _ _ => Dk.D_law T F⟩
