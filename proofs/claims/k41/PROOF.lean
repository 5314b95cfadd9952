import PyProof.Rows.All
import Wide.All
import OpenK.AllK
import Wide.FinOn
import HandS.ForMost
import HandS.ForExc
import HandS.HeadHook4
import HandS.Head2
import HandS.HeadEnd
import HandS.Defaults
import HandS.ExcInit
import HandS.ExcField
import HandS.Wide
import HandS.IsInst
import HandS.ExcIs
import PySem.Challenge.RW_darkpace_k41_whole_neighbours_are_next
set_option Elab.async false
set_option linter.all false
set_option maxRecDepth 100000
set_option maxHeartbeats 4000000
namespace Dk
open PySem PySem.Spec L2

/-! ### G (what is shared, never changed) lies within H; ex: what may change -/
structure Go (ex : List Addr) (G H G' H' : Hp) : Prop where
  gg : Same G G'
  gh : Same G' H'
  kp : ∀ b o, b ∉ ex → H b = some o → H' b = some o
  lv : ∀ b, H' b = none → H b = none
  nw : ∀ b, G b = none → H b ≠ none → G' b = none

theorem Go.refl {ex : List Addr} {G H : Hp} (h : Same G H) : Go ex G H G H :=
  ⟨Same.refl _, h, fun _ _ _ e => e, fun _ h => h, fun _ h _ => h⟩
theorem Go.trans {ex ex' : List Addr} {G H G1 H1 G2 H2 : Hp} (a : Go ex G H G1 H1) (b : Go ex' G1 H1 G2 H2) (hs : ∀ x ∈ ex', x ∈ ex ∨ H x = none) : Go ex G H G2 H2 where
  gg := a.gg.trans b.gg
  gh := b.gh
  kp := fun c o hc e => b.kp c o (fun h => by
    rcases hs c h with h | h
    · exact hc h
    · rw [h] at e; cases e) (a.kp c o hc e)
  lv := fun c h => a.lv c (b.lv c h)
  nw := fun c h1 h2 => b.nw c (a.nw c h1 h2) fun h => h2 (a.lv c h)
theorem Go.new {ex : List Addr} {G H G1 H1 : Hp} {p : Addr} {o : HO} (a : Go ex G H G1 H1) (h : H1 p = none) : Go ex G H (upd G1 p o) (upd H1 p o) where
  gg := fun b u e => by
    have e1 := a.gg b u e
    rw [upd_ne (ne_of_none (a.gh b u e1) h)]
    exact e1
  gh := fun b u e => by
    by_cases hb : b = p
    · rw [hb, upd_same] at e; rw [hb, upd_same]; exact e
    · rw [upd_ne hb] at e; rw [upd_ne hb]; exact a.gh b u e
  kp := fun b u hb e => by
    have e1 := a.kp b u hb e
    rw [upd_ne (ne_of_none e1 h)]; exact e1
  lv := fun b e => by
    by_cases hb : b = p
    · rw [hb]; exact a.lv p h
    · rw [upd_ne hb] at e; exact a.lv b e
  nw := fun b e1 e2 => by
    have hb : b ≠ p := fun z => e2 (by rw [z]; exact a.lv p h)
    rw [upd_ne hb]; exact a.nw b e1 e2
/-- a new object of one's own -/
theorem Go.tmp {ex : List Addr} {G H G1 H1 : Hp} {p : Addr} {o : HO} (a : Go ex G H G1 H1) (h : H1 p = none) : Go ex G H G1 (upd H1 p o) where
  gg := a.gg
  gh := fun b u e => by
    have e1 := a.gh b u e
    rw [upd_ne (ne_of_none e1 h)]; exact e1
  kp := fun b u hb e => by
    have e1 := a.kp b u hb e
    rw [upd_ne (ne_of_none e1 h)]; exact e1
  lv := fun b e => by
    by_cases hb : b = p
    · rw [hb]; exact a.lv p h
    · rw [upd_ne hb] at e; exact a.lv b e
  nw := a.nw
/-- it changes -/
theorem Go.set {ex : List Addr} {G H G1 H1 : Hp} {p : Addr} {o : HO} (a : Go ex G H G1 H1) (hg : G1 p = none) (h : p ∈ ex ∨ H p = none) : Go ex G H G1 (upd H1 p o) where
  gg := a.gg
  gh := fun b u e => by
    rw [upd_ne (ne_of_none e hg)]; exact a.gh b u e
  kp := fun b u hb e => by
    have hne : b ≠ p := fun z => by
      rcases h with h | h
      · exact hb (z ▸ h)
      · rw [z, h] at e; cases e
    rw [upd_ne hne]; exact a.kp b u hb e
  lv := fun b e => by
    by_cases hb : b = p
    · rw [hb, upd_same] at e; cases e
    · rw [upd_ne hb] at e; exact a.lv b e
  nw := a.nw
/-- from now on it is shared -/
theorem Go.seal {ex : List Addr} {G H G1 H1 : Hp} {p : Addr} {o : HO} (a : Go ex G H G1 H1) (e : H1 p = some o) (hg : G1 p = none) (h : H p = none) : Go ex G H (upd G1 p o) H1 where
  gg := fun b u q => by
    have e1 := a.gg b u q
    rw [upd_ne (ne_of_none e1 hg)]; exact e1
  gh := fun b u q => by
    by_cases hb : b = p
    · rw [hb, upd_same] at q; rw [hb, e]; exact q
    · rw [upd_ne hb] at q; exact a.gh b u q
  kp := a.kp
  lv := a.lv
  nw := fun b e1 e2 => by
    have hb : b ≠ p := fun z => e2 (by rw [z]; exact h)
    rw [upd_ne hb]; exact a.nw b e1 e2
theorem Go.nn {ex : List Addr} {G H G1 H1 : Hp} {p : Addr} (a : Go ex G H G1 H1) (h : H1 p = none) : G1 p = none := by
  cases e : G1 p with
  | none => rfl
  | some o => rw [a.gh p o e] at h; cases h
theorem Same.fr {G H : Hp} {p : Addr} (a : Same G H) (h : H p = none) : G p = none := by
  cases e : G p with
  | none => rfl
  | some o => rw [a p o e] at h; cases h

/-! ### data -/
theorem seqT {K : PySem.W.Frag} {H H' : Hp} {a : Addr} {xs : List V} (e : Same H H') (h : SqT K H a xs) : SqT K H' a xs := by
  rcases h with (h | ⟨o, h⟩) | h
  · exact .inl (.inl (e _ _ h))
  · exact .inl (.inr ⟨o, e _ _ h⟩)
  · exact .inr h
mutual
theorem dpm {K : PySem.W.Frag} {H H' : Hp} (e : Same H H') : ∀ {d : PyData} {v : V}, Dp K H v d → Dp K H' v d
  | _, _, .non => .non
  | _, _, .bl b => .bl b
  | _, _, .int i => .int i
  | _, _, .str x => .str x
  | _, _, .lst h1 h2 => .lst (e.seq h1) (dpam e h2)
  | _, _, .tup h1 h2 => .tup (seqT e h1) (dpam e h2)
theorem dpam {K : PySem.W.Frag} {H H' : Hp} (e : Same H H') : ∀ {ds : List PyData} {vs : List V}, DpAll K H vs ds → DpAll K H' vs ds
  | _, _, .nil => .nil
  | _, _, .cons h1 h2 => .cons (dpm e h1) (dpam e h2)
end
section
variable {K : PySem.W.Frag} {H : Hp} {v : V}
theorem dp_int {i : Int} (h : Dp K H v (.int i)) : v = .int i := by cases h; rfl
theorem dp_str {i : Str} (h : Dp K H v (.str i)) : v = .str i := by cases h; rfl
theorem dp_bl {i : Bool} (h : Dp K H v (.bool i)) : v = .bl i := by cases h; rfl
theorem dp_non (h : Dp K H v .none) : v = .non := by cases h; rfl
theorem dp_tup {ds : List PyData} (h : Dp K H v (.tuple ds)) : ∃ a xs, v = .ref a ∧ SqT K H a xs ∧ DpAll K H xs ds := by
  cases h with
  | tup h1 h2 => exact ⟨_, _, rfl, h1, h2⟩
theorem dp_lst {ds : List PyData} (h : Dp K H v (.list ds)) : ∃ a xs, v = .ref a ∧ SqL K H a xs ∧ DpAll K H xs ds := by
  cases h with
  | lst h1 h2 => exact ⟨_, _, rfl, h1, h2⟩
theorem dpa_nil {vs : List V} (h : DpAll K H vs []) : vs = [] := by cases h; rfl
theorem dpa_cons {vs : List V} {d : PyData} {ds : List PyData} (h : DpAll K H vs (d :: ds)) : ∃ v r, vs = v :: r ∧ Dp K H v d ∧ DpAll K H r ds := by
  cases h with
  | cons h1 h2 => exact ⟨_, _, rfl, h1, h2⟩
end
/-- a pair of whole numbers -/
abbrev dI2 (p : Int × Int) : PyData := .tuple [.int p.1, .int p.2]
theorem dp_i2 {K : PySem.W.Frag} {H : Hp} {v : V} {p : Int × Int} (h : Dp K H v (dI2 p)) : ∃ a, v = .ref a ∧ SqT K H a [.int p.1, .int p.2] := by
  obtain ⟨a, xs, rfl, h1, h2⟩ := dp_tup h
  obtain ⟨x, r, rfl, hx, h2⟩ := dpa_cons h2
  obtain ⟨y, r, rfl, hy, h2⟩ := dpa_cons h2
  obtain rfl := dpa_nil h2
  rw [dp_int hx, dp_int hy] at h1
  exact ⟨a, rfl, h1⟩
theorem i2_dp {K : PySem.W.Frag} {H : Hp} {a : Addr} {p : Int × Int} (h : SqT K H a [.int p.1, .int p.2]) : Dp K H (.ref a) (dI2 p) := .tup h (.cons (.int _) (.cons (.int _) .nil))

/-! ### a def of the text, its promise kept -/
def Ok (P : Program) (w : World) (K : PySem.W.Frag) (mg : Str → Option Value) (base : Heap) (CX : CXT) (k : Nat) (x : Str) (ps : List Str) (sp : Sp) : Prop :=
  ∃ fd, FnOk P w K mg base CX k (He.ga K x) fd ps sp ∧ mg x = some (.ref (He.ga K x)) ∧ PySem.W.keepIn K (.ref (He.ga K x)) = true ∧ Binds K fd ps []
section
variable {X : Cx} {CX : CXT} {k : Nat} {x : Str} {ps : List Str} {sp : Sp} {E : XK} {p pos : Pos} {e : Expr} {es : List Expr} {t : TA}
theorem pe_callO (F : Ok X.prog X.w X.K X.mg X.base CX k x ps sp) (hr : Room k X.A) (hg : Gl X x) (hx : Passes CX X E) (ha : PA X (e :: es) t) (hdb : (x == ("__debug__" : Str)) = false := by decide)
    (he : starEach (e :: es) X.env = (false, eval e X.env) :: starEach es X.env := by rfl) (hpl : (backTo pos (starEach es X.env)).any (·.1) = false := by rfl) :
    PE X (.Call (.Name x p) (e :: es) [] pos) (tCall sp [] E t) := by
  obtain ⟨fd, G, m, kp, b⟩ := F
  exact pe_call G hr hg m kp b .nil hx ha hdb he hpl
end
/-- an if whose test is a decision -/
theorem ifd {p A B : Prop} [Decidable p] (h1 : p → A) (h2 : ¬ p → B) : if decide p = true then A else B := by
  by_cases h : p
  · rw [if_pos (decide_eq_true h)]; exact h1 h
  · rw [if_neg (by rw [decide_eq_false h]; decide)]; exact h2 h
theorem ifb {b : Bool} {A B : Prop} (h1 : b = true → A) (h2 : b = false → B) : if b = true then A else B := by
  cases b with
  | true => exact h1 rfl
  | false => exact h2 rfl
end Dk
namespace Dk
open PySem PySem.Spec L2
@[irreducible] def Sp1 (f : V → Hp → VK → XK → Prop) : Sp := fun vs H Q E => ∃ a, vs = [a] ∧ f a H Q E
theorem sp1 {f : V → Hp → VK → XK → Prop} {a : V} {H : Hp} {Q : VK} {E : XK} (h : f a H Q E) : Sp1 f [a] H Q E := by
  unfold Sp1
  exact ⟨a, rfl, h⟩
theorem sp1o {f : V → Hp → VK → XK → Prop} {vs : List V} {H : Hp} {Q : VK} {E : XK} (h : Sp1 f vs H Q E) : ∃ a, vs = [a] ∧ f a H Q E := by
  unfold Sp1 at h
  exact h
@[irreducible] def Sp2 (f : V → V → Hp → VK → XK → Prop) : Sp := fun vs H Q E => ∃ a b, vs = [a, b] ∧ f a b H Q E
theorem sp2 {f : V → V → Hp → VK → XK → Prop} {a b : V} {H : Hp} {Q : VK} {E : XK} (h : f a b H Q E) : Sp2 f [a, b] H Q E := by
  unfold Sp2
  exact ⟨a, b, rfl, h⟩
theorem sp2o {f : V → V → Hp → VK → XK → Prop} {vs : List V} {H : Hp} {Q : VK} {E : XK} (h : Sp2 f vs H Q E) : ∃ a b, vs = [a, b] ∧ f a b H Q E := by
  unfold Sp2 at h
  exact h
@[irreducible] def Sp3 (f : V → V → V → Hp → VK → XK → Prop) : Sp := fun vs H Q E => ∃ a b c, vs = [a, b, c] ∧ f a b c H Q E
theorem sp3 {f : V → V → V → Hp → VK → XK → Prop} {a b c : V} {H : Hp} {Q : VK} {E : XK} (h : f a b c H Q E) : Sp3 f [a, b, c] H Q E := by
  unfold Sp3
  exact ⟨a, b, c, rfl, h⟩
theorem sp3o {f : V → V → V → Hp → VK → XK → Prop} {vs : List V} {H : Hp} {Q : VK} {E : XK} (h : Sp3 f vs H Q E) : ∃ a b c, vs = [a, b, c] ∧ f a b c H Q E := by
  unfold Sp3 at h
  exact h
@[irreducible] def Sp4 (f : V → V → V → V → Hp → VK → XK → Prop) : Sp := fun vs H Q E => ∃ a b c d, vs = [a, b, c, d] ∧ f a b c d H Q E
theorem sp4 {f : V → V → V → V → Hp → VK → XK → Prop} {a b c d : V} {H : Hp} {Q : VK} {E : XK} (h : f a b c d H Q E) : Sp4 f [a, b, c, d] H Q E := by
  unfold Sp4
  exact ⟨a, b, c, d, rfl, h⟩
theorem sp4o {f : V → V → V → V → Hp → VK → XK → Prop} {vs : List V} {H : Hp} {Q : VK} {E : XK} (h : Sp4 f vs H Q E) : ∃ a b c d, vs = [a, b, c, d] ∧ f a b c d H Q E := by
  unfold Sp4 at h
  exact h
@[irreducible] def Sp5 (f : V → V → V → V → V → Hp → VK → XK → Prop) : Sp := fun vs H Q E => ∃ a b c d e, vs = [a, b, c, d, e] ∧ f a b c d e H Q E
theorem sp5 {f : V → V → V → V → V → Hp → VK → XK → Prop} {a b c d e : V} {H : Hp} {Q : VK} {E : XK} (h : f a b c d e H Q E) : Sp5 f [a, b, c, d, e] H Q E := by
  unfold Sp5
  exact ⟨a, b, c, d, e, rfl, h⟩
theorem sp5o {f : V → V → V → V → V → Hp → VK → XK → Prop} {vs : List V} {H : Hp} {Q : VK} {E : XK} (h : Sp5 f vs H Q E) : ∃ a b c d e, vs = [a, b, c, d, e] ∧ f a b c d e H Q E := by
  unfold Sp5 at h
  exact h
@[irreducible] def Sp6 (f : V → V → V → V → V → V → Hp → VK → XK → Prop) : Sp := fun vs H Q E => ∃ a b c d e g, vs = [a, b, c, d, e, g] ∧ f a b c d e g H Q E
theorem sp6 {f : V → V → V → V → V → V → Hp → VK → XK → Prop} {a b c d e g : V} {H : Hp} {Q : VK} {E : XK} (h : f a b c d e g H Q E) : Sp6 f [a, b, c, d, e, g] H Q E := by
  unfold Sp6
  exact ⟨a, b, c, d, e, g, rfl, h⟩
theorem sp6o {f : V → V → V → V → V → V → Hp → VK → XK → Prop} {vs : List V} {H : Hp} {Q : VK} {E : XK} (h : Sp6 f vs H Q E) : ∃ a b c d e g, vs = [a, b, c, d, e, g] ∧ f a b c d e g H Q E := by
  unfold Sp6 at h
  exact h
@[irreducible] def Sp7 (f : V → V → V → V → V → V → V → Hp → VK → XK → Prop) : Sp := fun vs H Q E => ∃ a b c d e g i, vs = [a, b, c, d, e, g, i] ∧ f a b c d e g i H Q E
theorem sp7 {f : V → V → V → V → V → V → V → Hp → VK → XK → Prop} {a b c d e g i : V} {H : Hp} {Q : VK} {E : XK} (h : f a b c d e g i H Q E) : Sp7 f [a, b, c, d, e, g, i] H Q E := by
  unfold Sp7
  exact ⟨a, b, c, d, e, g, i, rfl, h⟩
theorem sp7o {f : V → V → V → V → V → V → V → Hp → VK → XK → Prop} {vs : List V} {H : Hp} {Q : VK} {E : XK} (h : Sp7 f vs H Q E) : ∃ a b c d e g i, vs = [a, b, c, d, e, g, i] ∧ f a b c d e g i H Q E := by
  unfold Sp7 at h
  exact h
end Dk
namespace Dk
open PySem PySem.Spec L2
theorem sz2 : (2 : Nat) ≤ sizeLine := by decide
theorem szl {n : Nat} (h : n ≤ 1000000) : n ≤ sizeLine := Nat.le_trans h (by decide)
theorem slt {n : Nat} (h : n < 1000000) : n < sizeLine := Nat.lt_of_lt_of_le h (by decide)
end Dk
namespace Dk
open PySem PySem.Spec L2
/-- a new object, shared from now on -/
theorem go_new {ex : List Addr} {G H G1 H1 : Hp} {p : Addr} {o : HO} (a : Go ex G H G1 H1) (h : H1 p = none) :
    ∃ G2, Go ex G H G2 (upd H1 p o) ∧ Same G2 (upd H1 p o) ∧ Same G1 G2 ∧ G2 p = some o :=
  ⟨_, a.new h, (a.new (o := o) h).gh, fun b u e => by rw [upd_ne (ne_of_none (a.gh b u e) h)]; exact e, upd_same⟩
end Dk
namespace Dk
open PySem PySem.Spec L2
section
variable {X : Cx}
/-- a statement, then the rest, what stands between told once -/
def tMid (t u : TS) : TS := fun D σ H => ∃ M : L2.St → Hp → Prop, t { D with nx := M } σ H ∧ ∀ σ' H', M σ' H' → u D σ' H'
theorem pss_mid {st : Stmt} {rest : List Stmt} {t u : TS} (h1 : PS X st t) (h2 : PSs X rest u) : PSs X (st :: rest) (tMid t u) := by
  refine ⟨fun pins s σ H D I ⟨M, hm, hu⟩ => ?_⟩
  refine PySem.wpAny_execs_cons (thn (h1.run pins s σ H { D with nx := M } I hm) fun f s1 q => ?_)
  cases f with
  | next =>
    obtain ⟨σ', H', I', q⟩ := q
    exact h2.run pins s1 σ' H' D I' (hu σ' H' q)
  | ret v => exact q
  | brk => exact q
  | cont => exact q
end
theorem dig {H : Hp} {a : Addr} {kvs : List (Key × V)} {k : Key} {v : V} (e : H a = some (.dK kvs)) (h : valV kvs k = some v) : DGet H a (kV k) (some v) := by
  have := DGet.k (k := k) e
  rw [h] at this
  exact this
theorem dip {H : Hp} {a : Addr} {kvs kvs' : List (Key × V)} {k : Key} {v : V} (e : H a = some (.dK kvs)) (hl : kvs.length ≤ 1000) (h : putK kvs k v = kvs') : DPut H a (kV k) v (upd H a (.dK kvs')) := by
  have := DPut.k (k := k) (v := v) e (slt (by omega))
  rw [h] at this
  exact this
end Dk
namespace Dk
theorem ifn {p A B : Prop} [Decidable p] (h1 : ¬ p → A) (h2 : p → B) : if (!decide p) = true then A else B := by
  by_cases h : p
  · rw [if_neg (by rw [decide_eq_true h]; decide)]; exact h2 h
  · rw [if_pos (by rw [decide_eq_false h]; rfl)]; exact h1 h
end Dk
namespace Dk
open PySem PySem.Spec L2
/-! ### an own refusal: its class, its __init__, one field -/
abbrev whatBody (q1 q2 q3 q4 : Pos) : List Stmt := [.Assign [.Attribute (.Name "self" q1) "what" q2] (.Name "what" q3) q4]
structure ExcT (K : PySem.W.Frag) (mg : Str → Option Value) (x : Str) : Prop where
  g : mg x = some (.ref (He.ga K x))
  oex : OexC K (He.ga K x)
  ini : PySem.W.findIn K (.ref (He.ga K x)) "__init__" = some (some (.ref (He.ma K (He.ga K x) "__init__")))
  typ : PySem.W.typeIn K (.ref (He.ma K (He.ga K x) "__init__")) = some (.type "function")
  noW : PySem.W.findIn K (.ref (He.ga K x)) "what" = some none
  xf : XfC K (He.ga K x)
  ec : ExcC K (He.ga K x)
  fn : ∃ (fd : FuncData) (qual : Str) (args : Arguments) (sc : Scope) (q1 q2 q3 q4 : Pos), FunD K "__init__" qual args (whatBody q1 q2 q3 q4) sc [] [] (He.ma K (He.ga K x) "__init__") fd ∧
    FnScope ["self", "what"] ["self", "what"] sc ∧ Binds K fd ["self", "what"] [] ∧ (sc.names.lookup ("self" : Str) = some NameKind.local ∧ sc.names.lookup ("what" : Str) = some NameKind.local)
def oexB (K : PySem.W.Frag) (C : Addr) : Bool := match K.lookup C with
  | some ⟨.type "type", _, .cls cd, sl⟩ => (match cd.mro, sl.toList with
    | .ref C2 :: bm, [_, _, _, _, some (.builtin n), _] => C2 == C && (n == "ValueError.__new__" && (!cd.hasDel && (cd.hasDict && PySem.HandSPX.refsVE bm)))
    | _, _ => false)
  | _ => false
theorem oexB_ok {K : PySem.W.Frag} {C : Addr} (h : oexB K C = true) : ∃ nm q N bs bm sn sub ab col dd k0 k1 k2 k3 k5, K.lookup C = some (excClassObj nm q C N bs bm true sn sub ab col dd k0 k1 k2 k3 k5 "ValueError.__new__") ∧ PySem.HandSPX.refsVE bm = true := by
  unfold oexB at h
  split at h
  · rename_i dd cd sl ho
    split at h
    · rename_i C2 bm k0 k1 k2 k3 n k5 hm hs
      simp only [Bool.and_eq_true, beq_iff_eq, Bool.not_eq_true'] at h
      obtain ⟨h1, h2, h3, h4, h5⟩ := h
      obtain ⟨nm, bs, mro, ns, qn, hd, sn, sub, ab, col, del⟩ := cd
      dsimp only at hm h3 h4
      subst h1 h2 hm h3 h4
      have hsl : sl = #[k0, k1, k2, k3, some (.builtin "ValueError.__new__"), k5] := by
        obtain ⟨l⟩ := sl
        simp only at hs
        rw [hs]
      subst hsl
      exact ⟨nm, qn, ns, bs, bm, sn, sub, ab, col, dd, k0, k1, k2, k3, k5, ho, h5⟩
    · cases h
  · cases h
def excB (K : PySem.W.Frag) (x : Str) : Bool :=
  oexB K (He.ga K x) && (decide (PySem.W.findIn K (.ref (He.ga K x)) "__setattr__" = some (some (.builtin "object.__setattr__"))) && (decide (PySem.W.subIn K (.ref (He.ga K x)) (.type "BaseException") = some true) &&
    (decide (PySem.W.typeIn K (.ref (He.ga K x)) = some (.type "type")) && (PySem.W.keepIn K (.ref (He.ga K x)) && (decide (PySem.W.findIn K (.ref (He.ga K x)) "__init__" = some (some (.ref (He.ma K (He.ga K x) "__init__")))) &&
      (decide (PySem.W.typeIn K (.ref (He.ma K (He.ga K x) "__init__")) = some (.type "function")) && (decide (PySem.W.findIn K (.ref (He.ga K x)) "what" = some none) && (xfB K (He.ga K x) &&
        (decide (PySem.W.findIn K (.ref (He.ga K x)) "__class__" = some (some (.builtin "object.__class__"))) && (decide (PySem.W.specialIn K (.builtin "object.__class__") "__get__" = some (some (.builtin "getset_descriptor.__get__"))) && (decide (PySem.W.takesIn K (.builtin "object.__class__") = some true) && decide (PySem.W.mroIn K (He.ga K x) (.type "object") = some true))))))))))))
theorem excB_ok {K : PySem.W.Frag} {mg : Str → Option Value} {x qual : Str} {args : Arguments} {sc : Scope} {q1 q2 q3 q4 : Pos} (h : excB K x = true) (g : mg x = some (.ref (He.ga K x)))
    (F : ∃ fd, FunD K "__init__" qual args (whatBody q1 q2 q3 q4) sc [] [] (He.fAd K (x, some "__init__")) fd) (S : FnScope ["self", "what"] ["self", "what"] sc) (hl : sc.names.lookup ("self" : Str) = some NameKind.local ∧ sc.names.lookup ("what" : Str) = some NameKind.local)
    (b : ∀ (kV doc pm : Value) (an : Option Addr) (cdv ct : Value) (us : List Value), us.length = 2 → bindArgs (PySem.W.fnOf "__init__" qual args (whatBody q1 q2 q3 q4) sc .none kV doc pm an cdv ct) ⟨us, []⟩ = pure ((["self", "what"] : List Str).zip us)) : ExcT K mg x := by
  unfold excB at h
  simp only [Bool.and_eq_true, decide_eq_true_eq] at h
  obtain ⟨h1, h2, h3, h4, h5, h6, h7, h8, h9, g1, g2, g3, g4⟩ := h
  obtain ⟨fd, F⟩ := F
  have xf := xfB_ok h9
  exact ⟨g, ⟨oexB_ok h1, h2, h3, h4, h5⟩, h6, h7, h8, xf, ⟨xf.ga, xf.gg, xf.exC, xf.hdC, g1, g2, g3, g4⟩, fd, qual, args, sc, q1, q2, q3, q4, F, S, F.bindsN b, hl⟩
section
variable {P : Program} {w : World} {K : PySem.W.Frag} {mg : Str → Option Value} {base : Heap}
def spWhat (K : PySem.W.Frag) (C : Addr) : Sp := Sp2 fun a v H Q _ => ∃ e, a = .ref e ∧ OexC K C ∧ PySem.W.findIn K (.ref C) "what" = some none ∧ H e = some (exo e C none) ∧ ∀ dx, H dx = none → dx ≠ e → Q .non (upd (upd H dx (exd dx [("what", v)])) e (exo e C (some dx)))
theorem ok_what {qual : Str} {args : Arguments} {sc : Scope} {q1 q2 q3 q4 : Pos} {f C : Addr} {fd : FuncData} (F : FunD K "__init__" qual args (whatBody q1 q2 q3 q4) sc [] [] f fd) (S : FnScope ["self", "what"] ["self", "what"] sc)
    (hl : sc.names.lookup ("self" : Str) = some NameKind.local ∧ sc.names.lookup ("what" : Str) = some NameKind.local) : FnOk P w K mg base CX0 1 f fd ["self", "what"] (spWhat K C) := by
  refine F.ok S (fun _ _ _ _ h => by obtain ⟨_, _, rfl, _⟩ := sp2o h; rfl) (fun cdv A outer s H vs Q E hr h => ?_)
  obtain ⟨a, v, rfl, e, rfl, T, hw, he, k⟩ := sp2o h
  refine ⟨_, PSs.nox (pss_one (ps_ost (pv 0 rfl (Or.inl hl.1)) (pv 1 rfl (Or.inl hl.2)))), ?_⟩
  exact ⟨_, rfl, _, rfl, e, C, rfl, T, hw, .inl ⟨he, fun dx h1 h2 => k dx h1 h2⟩⟩
end
section
variable {X : Cx} {x : Str} {p pos : Pos} {e : Expr} {te : TE}
/-- weaker ends -/
def tMo (te : TE) : TE := fun σ H Q => ∃ R : VK, te σ H R ∧ ∀ v H', R v H' → Q v H'
theorem pe_mono (h : PE X e te) : PE X e (tMo te) := ⟨fun pins s σ H Q I ⟨R, q, m⟩ => thn (h.run pins s σ H R I q) fun v s1 ⟨x, H1, I1, r1, q1⟩ => ⟨x, H1, I1, r1, m x H1 q1⟩⟩
/-- X(e), the refusal made -/
def tMkW (C : Addr) (te : TE) : St → Hp → XK → Prop := fun σ H Q => te σ H fun v H1 => ∀ d, H1 d = none → Q (.ref C) (some d) (upd H1 d (.xd [("what", v)]))
theorem pmk_what (T : ExcT X.K X.mg x) (hr : Room 2 X.A) (hg : Gl X x) (he : PE X e te)
    (hdb : (x == ("__debug__" : Str)) = false := by decide) (hs : starEach (e :: []) X.env = (false, eval e X.env) :: starEach [] X.env := by rfl) (hpl : (backTo pos (starEach [] X.env)).any (·.1) = false := by rfl) :
    PMk X (.Call (.Name x p) (e :: []) [] pos) (tMkW (He.ga X.K x) te) := by
  obtain ⟨fd, qual, args, sc, q1, q2, q3, q4, F, S, b, hl⟩ := T.fn
  have G : FnOk X.prog X.w X.K X.mg X.base CX0 1 (He.ma X.K (He.ga X.K x) "__init__") fd ["self", "what"] (spWhat X.K (He.ga X.K x)) := ok_what F S hl
  have key := pmk_oex (es := []) (p := p) (pos := pos) T.oex T.ini T.typ G hr b .nil (fun _ _ _ _ _ _ _ h => h.elim) hg T.g (pa_cons (pe_mono he) pa_nil hs) hdb hs hpl
  intro pins s σ H Q I h
  refine key pins s σ H Q I ?_
  refine ⟨_, h, fun v H1 q => ⟨(by show 1 ≤ 1000; decide), fun a ha => ?_⟩⟩
  refine sp2 ⟨a, rfl, T.oex, T.noW, upd_same, fun dx hdx hne => ⟨rfl, dx, [("what", v)], upd_same, ?_, ?_, ?_⟩⟩
  · rw [upd_ne hne, upd_same]
  · rw [upd_ne hne] at hdx; exact hdx
  · rw [upd_ne hne] at hdx
    have e : upd (del (upd (upd (upd H1 a (exo a (He.ga X.K x) none)) dx (exd dx [("what", v)])) a (exo a (He.ga X.K x) (some dx))) a) dx (.xd [("what", v)]) = upd H1 dx (.xd [("what", v)]) := by
      funext b
      by_cases hb : b = dx
      · rw [hb, upd_same, upd_same]
      · rw [upd_ne hb, upd_ne hb]
        by_cases ha2 : b = a
        · rw [ha2, del_same, ha]
        · rw [del_ne ha2, upd_ne ha2, upd_ne hb, upd_ne ha2]
    rw [e]
    exact q dx hdx
end
end Dk
namespace Dk
open PySem PySem.Spec PySem.W
section
variable {prog : Program} {w : World} {A : Around} {E : Value → Shared → Prop} {s : Shared} {K : Frag} {x D : Addr} {ox : Obj} {od : Option Obj}
/-- what the class D says, for isinstance of a refusal of it -/
theorem excls_at {Q : Option Value → Shared → Prop} (T : L2.ExcC K D) (X : K.In s.heap) (I : InstAt s.heap x ox D od) (h : Q (some (.ref D)) { s with toks := s.toks + 1 }) : wpAny (model prog w) A (getAttr? (.ref x) "__class__") Q E s := by
  have hf : findObj K D od "__class__" = some (.bind (.builtin "getset_descriptor.__get__") (.builtin "object.__class__")) := by
    obtain ⟨cd, hc, _⟩ := any_some T.hd
    unfold findObj
    rw [hc, Option.bind_some, T.ha, Option.bind_some]
    simp [T.hn, T.ht]
  obtain ⟨hp, g, d, t, os⟩ := s
  have typ := I.type (M := model prog w)
  have gtr := looks_findIn (M := model prog w) X T.hg
  have gta := looks_findIn (M := model prog w) X T.hk
  have fnd := looks_find (M := model prog w) X I hf
  have below : Looks (model prog w) hp (isInstance (.ref x) (.type "BaseException")) true := typ.andThen (looks_subIn X T.hs)
  have n1 : (Value.builtin "BaseException.__getattribute__" == Value.builtin "object.__getattribute__") = false := by decide +kernel
  have n2 : (onTheHeap (Value.ref D) && Value.builtin "BaseException.__getattribute__" == Value.builtin "object.__getattribute__") = false := by rw [n1]; rfl
  have n3 : (false && onTheHeap (Value.builtin "BaseException.__getattribute__")) = false := rfl
  unfold getAttr? getAttrBy? getAttrBy
  refine wpAny_bind (wpAny_mkText (wpAny_bind (wpAny_attempt (wpAny_holding (wpAny_bind (typ.at (wpAny_bind (gtr.at ?_))))))))
  show wpAny _ _ (if (onTheHeap (Value.ref D) && Value.builtin "BaseException.__getattribute__" == Value.builtin "object.__getattribute__") = true then _ else _) _ _ _
  rw [n2, if_neg Bool.false_ne_true]
  unfold getAttrByItsOwn hookBefore
  refine wpAny_bind ?_
  rw [if_pos (show onTheHeap (Value.ref D) = true from rfl)]
  refine gta.at (wpAny_bind (wpAny_attempt (wpAny_holding ?_)))
  unfold callGetattribute
  rw [n3, if_neg Bool.false_ne_true]
  unfold boundAndCalled
  rw [PySem.F.excAttr_ValueError.ga.bind (.ref x)]
  refine wpAny_bind (wpAny_pure ?_)
  show wpAny _ _ (call (.builtin "BaseException.__getattribute__") [.ref x, .str "__class__" t]) _ _ _
  refine wpAny_call (codeAny_call_builtin PySem.F.excAttr_ValueError.ga.plain PySem.F.entry_bexc_ga ?_)
  refine @check_slot (model prog w) _ _ ⟨hp, g, d, t + 1, os⟩ "BaseException.__getattribute__" "BaseException" "__getattribute__" (.ref x) [.str "__class__" t] [] _ (by decide +kernel) (by decide +kernel) below (PySem.F.args_bexc_ga (.ref x) (.str "__class__" t)) ?_
  unfold Builtin.«object.__getattribute__»
  refine wpAny_bind (wpAny_of_eq (a := ((Value.ref x : Value), [Value.str "__class__" t])) (by first | rfl | (simp only [slotArgs]; rfl)) ?_)
  refine wpAny_bind (wpAny_pure (wpAny_bind (typ.at (wpAny_bind (fnd.at ?_)))))
  show wpAny _ _ (holding [Value.builtin "object.__class__"] (call (.builtin "getset_descriptor.__get__") [.builtin "object.__class__", .ref x, .ref D]) >>= ret) _ _ _
  refine wpAny_bind (wpAny_holding (wpAny_call (class_get (s := ⟨hp, g, d, t + 1, os⟩) (ox := ox) (od := od) X I T.hm ?_)))
  refine wpAny_pure ?_
  show wpAny _ _ (handedOut (.ref D)) _ _ _
  rw [handedOut_of (v := .ref D) rfl]
  first
    | exact wpAny_pure (wpAny_pure h)
    | exact wpAny_pure h
    | exact wpAny_pure (wpAny_bind (wpAny_pure (wpAny_pure h)))
theorem exc_kit (T : L2.ExcC K D) : KitX K (.ref x) (.ref D) (fun h => ∃ od, InstAt h x ox D od) where
  ty := fun _ _ _ ⟨_, I⟩ => I.type
  it := fun _ _ X _ => by
    obtain ⟨cd, hc, _⟩ := any_some T.hd
    unfold clsIn at hc
    split at hc
    · rename_i c' d' cd' sl' ho
      intro A' Q' E' s' k q
      unfold isType loadHead
      exact wpAny_bind (wpAny_loadPart (k _ _ (X _ _ ho)) (wpAny_pure q))
    · cases hc
  ne := fun h tp dd its n sl X htp => by
    obtain ⟨cd, hc, _⟩ := any_some T.hd
    refine Bool.eq_false_iff.mpr fun q => ?_
    have e : D = tp := Value.ref.inj (beq_iff_eq.mp q)
    subst e
    unfold clsIn at hc
    split at hc
    · rename_i c' d' cd' sl' ho
      have z := (X _ _ ho).symm.trans htp
      cases z
    · cases hc
  ca := fun X ⟨_, I⟩ k => excls_at T X I k
end
end Dk
namespace Dk
open PySem PySem.Spec L2
/-- isinstance(e, c), isinstance(e, (c, ..)), e the refusal that the suite holds, of class D, its dict at dd -/
def rIsX (K : PySem.W.Frag) (cls : Value) (a : Addr) (d : Option Addr) : List V → Hp → VK → Prop := fun xs H Q => ∃ (D : Addr) (c : V) (b : Bool) (dd : Addr) (fs : List (Str × V)), xs = [.ref a, c] ∧ cls = .ref D ∧ ExcC K D ∧ d = some dd ∧ H dd = some (.xd fs) ∧
  ((∃ cv, (∀ u, RelV c u → u = cv) ∧ PySem.W.kitOne K (.ref D) cv = some b) ∨ ∃ (p : Addr) (as : List Addr), c = .ref p ∧ SqT K H p (as.map V.ref) ∧ PySem.W.kitAny K (.ref D) (as.map Value.ref) = some b) ∧ Q (.bl b) H
theorem refs_eq : ∀ {as : List Addr} {us : List Value}, Vals (as.map V.ref) us → us = as.map Value.ref
  | [], _, .nil => rfl
  | _ :: _, _, .cons r t => by
    cases r
    rw [refs_eq t]
    rfl
theorem call_isX {X : Cx} {a : Addr} {cls : Value} {oe : Obj} {d : Option Addr} {pn : List (Addr × Obj)} (hz : Zc cls d oe) (hf : ∃ vs, oe.data = .fields vs) : CallR (X.suite a ((a, oe) :: pn)) (.builtin "isinstance") (rIsX X.K cls a d) := by
  intro pins s σ H xs us Q I r h
  obtain ⟨D, c, b, dd, fs, rfl, rfl, T, rfl, hd, hc, q⟩ := h
  obtain ⟨u1, u2, rfl, r1, r2⟩ := vals2 r
  cases r1
  obtain ⟨hget, _⟩ := I.pin (a, oe) (List.mem_append.mpr (.inl List.mem_cons_self))
  obtain ⟨vs, hv⟩ := hf
  have hx : ObjOk X.prog X.w H s.heap dd (.xd fs) := I.hok dd _ hd
  obtain ⟨mA, hns, _⟩ := hx
  obtain ⟨od, ho, _⟩ := lookIn_ns hns
  have J : ∃ od, PySem.W.InstAt s.heap a oe D od := ⟨some od, hget, hz.1, by unfold PySem.W.notCls; rw [hv] <;> rfl, by rw [hz.2]; exact ho⟩
  rcases hc with ⟨cv, hcv, e⟩ | ⟨p, as, rfl, hT, e⟩
  · have ec := hcv _ r2
    subst ec
    exact PySem.W.kia_one (exc_kit T) I.kIn J e (fun z => nomatch z) fun tk => ⟨.bl b, H, I.kept (t' := tk) fun _ _ z => z, rfl, q⟩
  · cases r2
    obtain ⟨its, rv, o, h1, h2, n, h3⟩ : ∃ its : List Value, Vals (as.map V.ref) its ∧ ∃ o, s.heap.get? p = some o ∧ o.cls = .type "tuple" ∧ ∃ n, o.data = .seq its.toArray n := by
      obtain ⟨its, rv, ht, _⟩ := I.tuple hT
      exact ⟨its, rv, ht⟩
    have e3 := refs_eq rv
    subst e3
    obtain ⟨oc, od', dt, sl⟩ := o
    simp only at h2 h3
    subst h2 h3
    exact PySem.W.kia_tup (exc_kit T) I.kIn J h1 e (fun z => nomatch z) fun tk => ⟨.bl b, H, I.kept (t' := tk) fun _ _ z => z, rfl, q⟩
/-- e.what, e the refusal that the suite holds -/
def tWh (K : PySem.W.Frag) (a : Addr) (cls : Value) (d : Option Addr) (f : Str) (te : TE) : TE := fun σ H Q => te σ H fun x H1 => x = .ref a ∧ ∃ C : Addr, cls = .ref C ∧ XfC K C ∧ PySem.W.findIn K (.ref C) f = some none ∧
  ∃ (dd : Addr) (fs : List (Str × V)) (v : V), d = some dd ∧ H1 dd = some (.xd fs) ∧ fs.lookup f = some v ∧ Q v H1
theorem pe_wh {X : Cx} {a : Addr} {oe : Obj} {cls : Value} {d : Option Addr} {pn : List (Addr × Obj)} {e : Expr} {te : TE} {pos : Pos} {n : Str} (hz : Zc cls d oe) (hf : ∃ vs, oe.data = .fields vs) (he : PE (X.suite a ((a, oe) :: pn)) e te)
    (hb : attributeBase e n X.env (eval e X.env) = eval e X.env := by rfl) : PE (X.suite a ((a, oe) :: pn)) (.Attribute e n pos) (tWh X.K a cls d n te) := by
  refine ⟨fun pins s σ H Q I h => ?_⟩
  refine attr_of hb (thn (he.run pins s σ H _ I h) fun u s1 hh => ?_)
  obtain ⟨x, H1, I1, rx, rfl, C, rfl, T, hno, dd, fs, v, rfl, hdd, l, q⟩ := hh
  obtain rfl : u = Value.ref a := rx
  obtain ⟨ha, _⟩ := I1.pin (a, oe) (List.mem_append_left _ List.mem_cons_self)
  obtain ⟨vs, hd⟩ := hf
  have hx : ObjOk X.prog X.w H1 s1.heap dd (.xd fs) := I1.hok dd _ hdd
  obtain ⟨mA, hns, hr⟩ := hx
  obtain ⟨od, ho, hl⟩ := lookIn_ns hns
  obtain ⟨u, hu, ru⟩ := RelO.some_of (v := v) (o := mA n) (by rw [← l]; exact hr n)
  have J : PySem.W.InstAt s1.heap a oe C (some od) := ⟨ha, hz.1, by unfold PySem.W.notCls; rw [hd] <;> rfl, by rw [hz.2]; exact ho⟩
  exact PySem.HandSPX.exc_get I1.kIn J T.ga T.gg T.exC (PySem.W.findObj_own T.hdC hno rfl (by rw [hl, hu])) (handed_of ru) ⟨v, H1, I1.tok _, ru, q⟩
/-- a raising def, called within a try -/
theorem pe_callSO {X : Cx} {CX : CXT} {k : Nat} {x : Str} {ps : List Str} {sp : Sp} {E : L2.St → XK} {p pos : Pos} {e : Expr} {es : List Expr} {t : TA} (F : Ok X.prog X.w X.K X.mg X.base CX k x ps sp) (hr : Room k X.A) (hg : Gl X x) (hx : ∀ σ, PassesAt CX X σ (E σ)) (ha : PA X (e :: es) t)
    (hdb : (x == ("__debug__" : Str)) = false := by decide) (he : starEach (e :: es) X.env = (false, eval e X.env) :: starEach es X.env := by rfl) (hpl : (backTo pos (starEach es X.env)).any (·.1) = false := by rfl) :
    PE X (.Call (.Name x p) (e :: es) [] pos) (tCallS sp E t) := by
  obtain ⟨fd, G, m, kp, b⟩ := F
  exact pe_callS G hr hg m kp b hx ha hdb he hpl
end Dk
namespace Dk
open PySem PySem.Spec L2
/-! ### the bag of draws -/
abbrev kG : Key := .inr "great"
abbrev kL : Key := .inr "left"
abbrev kT : Key := .inr "turn"
abbrev kF : Key := .inr "fold"
theorem gl : ¬ kG = kL := by decide +kernel
theorem gt : ¬ kG = kT := by decide +kernel
theorem gf : ¬ kG = kF := by decide +kernel
theorem lt_ : ¬ kL = kT := by decide +kernel
theorem lf : ¬ kL = kF := by decide +kernel
theorem tf : ¬ kT = kF := by decide +kernel
theorem lg : ¬ kL = kG := by decide +kernel
theorem tg : ¬ kT = kG := by decide +kernel
theorem fg : ¬ kF = kG := by decide +kernel
theorem tl : ¬ kT = kL := by decide +kernel
theorem fl : ¬ kF = kL := by decide +kernel
theorem ft : ¬ kF = kT := by decide +kernel
def bagD (g : Addr) (l t f : Int) : List (Key × V) := [(kG, .ref g), (kL, .int l), (kT, .int t), (kF, .int f)]
theorem bag_g (g : Addr) (l t f : Int) : valV (bagD g l t f) kG = some (.ref g) := valV_pos rfl
theorem bag_l (g : Addr) (l t f : Int) : valV (bagD g l t f) kL = some (.int l) := (valV_neg gl).trans (valV_pos rfl)
theorem bag_t (g : Addr) (l t f : Int) : valV (bagD g l t f) kT = some (.int t) := (valV_neg gt).trans ((valV_neg lt_).trans (valV_pos rfl))
theorem bag_f (g : Addr) (l t f : Int) : valV (bagD g l t f) kF = some (.int f) := (valV_neg gf).trans ((valV_neg lf).trans ((valV_neg tf).trans (valV_pos rfl)))
theorem bag_pl (g : Addr) (l t f x : Int) : putK (bagD g l t f) kL (.int x) = bagD g x t f := by
  unfold putK bagD
  rw [if_pos (by simp [List.any_cons])]
  simp only [List.map_cons, List.map_nil, if_neg gl, if_neg tl, if_neg fl, if_true]
theorem bag_pt (g : Addr) (l t f x : Int) : putK (bagD g l t f) kT (.int x) = bagD g l x f := by
  unfold putK bagD
  rw [if_pos (by simp [List.any_cons])]
  simp only [List.map_cons, List.map_nil, if_neg gt, if_neg lt_, if_neg ft, if_true]
theorem bag_new (g : Addr) (l t f : Int) : mergeK [] [(kG, .ref g), (kL, .int l), (kT, .int t), (kF, .int f)] = bagD g l t f := by
  have n1 : valV ([] : List (Key × V)) kG = none := rfl
  have e1 := putK_new (.ref g) n1
  have n2 : valV ([(kG, V.ref g)] : List (Key × V)) kL = none := (valV_neg gl).trans rfl
  have n3 : valV ([(kG, V.ref g), (kL, V.int l)] : List (Key × V)) kT = none := (valV_neg gt).trans ((valV_neg lt_).trans rfl)
  have n4 : valV ([(kG, V.ref g), (kL, V.int l), (kT, V.int t)] : List (Key × V)) kF = none := (valV_neg gf).trans ((valV_neg lf).trans ((valV_neg tf).trans rfl))
  show putK (putK (putK (putK [] kG (.ref g)) kL (.int l)) kT (.int t)) kF (.int f) = _
  rw [e1]
  show putK (putK (putK [(kG, V.ref g)] kL (.int l)) kT (.int t)) kF (.int f) = _
  rw [putK_new _ n2]
  show putK (putK [(kG, V.ref g), (kL, V.int l)] kT (.int t)) kF (.int f) = _
  rw [putK_new _ n3]
  show putK [(kG, V.ref g), (kL, V.int l), (kT, V.int t)] kF (.int f) = _
  rw [putK_new _ n4]
  rfl
/-- the bag at b, its great numbers at g, drawn from n times at most -/
structure BagAt (H : Hp) (b g : Addr) (n : Nat) : Prop where
  at_ : ∃ (great : List Int) (l t f : Int), H b = some (.dK (bagD g l t f)) ∧ H g = some (.lst (great.map V.int)) ∧ (∀ c ∈ great, 0 ≤ c) ∧ great.length ≤ 63 ∧ 0 ≤ l ∧ 0 ≤ t ∧ t ≤ n ∧ 0 ≤ f ∧ f < 2305843009213693951
theorem BagAt.kept {H H' : Hp} {b g : Addr} {n : Nat} (h : BagAt H b g n) (k : ∀ c o, H c = some o → H' c = some o) : BagAt H' b g n := by
  obtain ⟨gr, l, t, f, h1, h2, r⟩ := h.at_
  exact ⟨gr, l, t, f, k _ _ h1, k _ _ h2, r⟩
theorem BagAt.more {H : Hp} {b g : Addr} {n m : Nat} (h : BagAt H b g n) (k : n ≤ m) : BagAt H b g m := by
  obtain ⟨gr, l, t, f, h1, h2, h3, h4, h5, h6, h7, r⟩ := h.at_
  exact ⟨gr, l, t, f, h1, h2, h3, h4, h5, h6, by omega, r⟩
end Dk
namespace Dk
open PySem PySem.Spec L2
theorem seqi {i n : Nat} (h : i < n) : seqIndex? (i : Int) n = some i := by
  have h1 : ¬ ((i : Int) < 0) := by omega
  have h2 : (0 ≤ (i : Int)) := by omega
  have h3 : (i : Int) < (n : Int) := by omega
  simp [seqIndex?, h1, h2, h]
end Dk
namespace Dk
/-- l is the greatest of the lower fractions by bottoms to n -/
structure LowIs (t u n : Int) (l : Int × Int) : Prop where
  lo : 1 ≤ l.2
  hi : l.2 ≤ n
  at_ : l.1 = t * l.2 / u
  top : ∀ k, 1 ≤ k → k ≤ n → (t * k / u) * l.2 ≤ l.1 * k
structure UpIs (t u n : Int) (l : Int × Int) : Prop where
  lo : 1 ≤ l.2
  hi : l.2 ≤ n
  at_ : l.1 = 0 - (0 - t * l.2) / u
  top : ∀ k, 1 ≤ k → k ≤ n → l.1 * k ≤ (0 - (0 - t * k) / u) * l.2
theorem LowIs.one (t u : Int) : LowIs t u 1 (t * 1 / u, 1) where
  lo := Int.le_refl _
  hi := Int.le_refl _
  at_ := rfl
  top := fun k h1 h2 => by
    have : k = 1 := by omega
    subst this
    exact Int.le_refl _
theorem UpIs.one (t u : Int) : UpIs t u 1 (0 - (0 - t * 1) / u, 1) where
  lo := Int.le_refl _
  hi := Int.le_refl _
  at_ := rfl
  top := fun k h1 h2 => by
    have : k = 1 := by omega
    subst this
    exact Int.le_refl _
/-- a chain of fractions: a/b < c/d, e/f ≤ a/b -/
theorem frac_trans {a b c d e f : Int} (hb : 0 < b) (hd : 0 < d) (hf : 0 < f) (h1 : e * b ≤ a * f) (h2 : a * d ≤ c * b) : e * d ≤ c * f := by
  have h3 : e * b * d ≤ a * f * d := Int.mul_le_mul_of_nonneg_right h1 (by omega)
  have h4 : a * d * f ≤ c * b * f := Int.mul_le_mul_of_nonneg_right h2 (by omega)
  have h5 : (e * d) * b ≤ (c * f) * b := by
    have e1 : e * b * d = (e * d) * b := by rw [Int.mul_assoc, Int.mul_comm b d, ← Int.mul_assoc]
    have e2 : a * f * d = a * d * f := by rw [Int.mul_assoc, Int.mul_comm f d, ← Int.mul_assoc]
    have e3 : c * b * f = (c * f) * b := by rw [Int.mul_assoc, Int.mul_comm b f, ← Int.mul_assoc]
    rw [e1, e2] at h3
    rw [e3] at h4
    exact Int.le_trans h3 h4
  exact Int.le_of_mul_le_mul_right h5 hb
theorem LowIs.more {t u n : Int} {l : Int × Int} (h : LowIs t u n l) (hlt : l.1 * (n + 1) < (t * (n + 1) / u) * l.2) : LowIs t u (n + 1) (t * (n + 1) / u, n + 1) where
  lo := by have := h.lo; have := h.hi; show 1 ≤ n + 1; omega
  hi := Int.le_refl _
  at_ := rfl
  top := fun k h1 h2 => by
    by_cases hk : k = n + 1
    · subst hk; exact Int.le_refl _
    · have := h.lo
      have := h.hi
      exact frac_trans (a := l.1) (b := l.2) (by omega) (by show 0 < n + 1; omega) (by omega) (h.top k h1 (by omega)) (Int.le_of_lt hlt)
theorem LowIs.keep {t u n : Int} {l : Int × Int} (h : LowIs t u n l) (hge : ¬ l.1 * (n + 1) < (t * (n + 1) / u) * l.2) : LowIs t u (n + 1) l where
  lo := h.lo
  hi := by have := h.hi; omega
  at_ := h.at_
  top := fun k h1 h2 => by
    by_cases hk : k = n + 1
    · subst hk; omega
    · exact h.top k h1 (by omega)
theorem UpIs.more {t u n : Int} {l : Int × Int} (h : UpIs t u n l) (hlt : (0 - (0 - t * (n + 1)) / u) * l.2 < l.1 * (n + 1)) : UpIs t u (n + 1) (0 - (0 - t * (n + 1)) / u, n + 1) where
  lo := by have := h.lo; have := h.hi; show 1 ≤ n + 1; omega
  hi := Int.le_refl _
  at_ := rfl
  top := fun k h1 h2 => by
    by_cases hk : k = n + 1
    · subst hk; exact Int.le_refl _
    · have := h.lo
      have := h.hi
      exact frac_trans (a := l.1) (b := l.2) (by omega) (by omega) (by show 0 < n + 1; omega) (Int.le_of_lt hlt) (h.top k h1 (by omega))
theorem UpIs.keep {t u n : Int} {l : Int × Int} (h : UpIs t u n l) (hge : ¬ (0 - (0 - t * (n + 1)) / u) * l.2 < l.1 * (n + 1)) : UpIs t u (n + 1) l where
  lo := h.lo
  hi := by have := h.hi; omega
  at_ := h.at_
  top := fun k h1 h2 => by
    by_cases hk : k = n + 1
    · subst hk; omega
    · exact h.top k h1 (by omega)
/-- the two neighbours of t / u among the fractions with bottoms to n -/
structure Nb (t u n : Int) (l r : Int × Int) : Prop where
  l1 : 1 ≤ l.2
  l2 : l.2 ≤ n
  lg : Int.gcd l.1 l.2 = 1
  le : l.1 * u ≤ t * l.2
  lt : ∀ p q, 1 ≤ q → q ≤ n → p * u ≤ t * q → p * l.2 ≤ l.1 * q
  r1 : 1 ≤ r.2
  r2 : r.2 ≤ n
  rg : Int.gcd r.1 r.2 = 1
  ge : t * r.2 ≤ r.1 * u
  rt : ∀ p q, 1 ≤ q → q ≤ n → t * q ≤ p * u → r.1 * q ≤ p * r.2
theorem low_le {t u k : Int} (hu : 0 < u) : (t * k / u) * u ≤ t * k := Int.ediv_mul_le _ (by omega)
theorem up_ge {t u k : Int} (hu : 0 < u) : t * k ≤ (0 - (0 - t * k) / u) * u := by
  have := Int.ediv_mul_le (0 - t * k) (b := u) (by omega)
  rw [Int.sub_mul]
  omega
/-- lowest terms -/
def low2 (i j : Int) : Int × Int := (i / (Int.gcd i j : Int), j / (Int.gcd i j : Int))
theorem low2_pos {i j : Int} (hj : 0 < j) : 1 ≤ (low2 i j).2 ∧ (low2 i j).2 ≤ j := by
  have hg : 0 < Int.gcd i j := Int.gcd_pos_of_ne_zero_right _ (by omega)
  have hd : (Int.gcd i j : Int) ∣ j := Int.gcd_dvd_right ..
  obtain ⟨c, hc⟩ := hd
  have : j / (Int.gcd i j : Int) = c := by
    rw [hc]
    have e : ((Int.gcd i j : Int) * c) / (Int.gcd i j : Int) = c := Int.mul_ediv_cancel_left _ (by omega)
    rw [← hc] at e
    rw [← hc]
    exact e
  show 1 ≤ j / (Int.gcd i j : Int) ∧ j / (Int.gcd i j : Int) ≤ j
  rw [this]
  have hg' : (1 : Int) ≤ (Int.gcd i j : Int) := by omega
  have hcp : 0 < c := by
    rcases Int.lt_trichotomy c 0 with h | h | h
    · have := Int.mul_neg_of_pos_of_neg (a := (Int.gcd i j : Int)) (b := c) (by omega) h
      omega
    · rw [h] at hc; simp at hc; omega
    · exact h
  refine ⟨hcp, ?_⟩
  have : 1 * c ≤ (Int.gcd i j : Int) * c := Int.mul_le_mul_of_nonneg_right hg' (by omega)
  omega
theorem low2_mul (i j : Int) : (low2 i j).1 * (Int.gcd i j : Int) = i ∧ (low2 i j).2 * (Int.gcd i j : Int) = j :=
  ⟨Int.ediv_mul_cancel (Int.gcd_dvd_left ..), Int.ediv_mul_cancel (Int.gcd_dvd_right ..)⟩
theorem low2_gcd {i j : Int} (hj : 0 < j) : Int.gcd (low2 i j).1 (low2 i j).2 = 1 := by
  have hg : 0 < Int.gcd i j := Int.gcd_pos_of_ne_zero_right _ (by omega)
  exact Int.gcd_ediv_gcd_ediv_gcd hg
/-- the same fraction -/
theorem low2_cross (i j : Int) : (low2 i j).1 * j = i * (low2 i j).2 := by
  obtain ⟨h1, h2⟩ := low2_mul i j
  generalize (low2 i j).1 = a at *
  generalize (low2 i j).2 = b at *
  generalize (Int.gcd i j : Int) = g at *
  subst h1 h2
  rw [← Int.mul_assoc, Int.mul_right_comm]
theorem nb_of {t u n : Int} {l r : Int × Int} (hu : 0 < u) (hn : 1 ≤ n) (hl : LowIs t u (min n u) l) (hr : UpIs t u (min n u) r) : Nb t u n (low2 l.1 l.2) (low2 r.1 r.2) := by
  have l0 := hl.lo
  have r0 := hr.lo
  have l9 := hl.hi
  have r9 := hr.hi
  have hlp := low2_pos (i := l.1) (j := l.2) (by omega)
  have hrp := low2_pos (i := r.1) (j := r.2) (by omega)
  have hlc := low2_cross l.1 l.2
  have hrc := low2_cross r.1 r.2
  have hll : l.1 * u ≤ t * l.2 := by rw [hl.at_]; exact low_le hu
  have hrr : t * r.2 ≤ r.1 * u := by rw [hr.at_]; exact up_ge hu
  have lle : (low2 l.1 l.2).1 * u ≤ t * (low2 l.1 l.2).2 := frac_trans (a := l.1) (b := l.2) (by omega) hu (by omega) (by rw [hlc]; exact Int.le_refl _) hll
  have rge : t * (low2 r.1 r.2).2 ≤ (low2 r.1 r.2).1 * u := frac_trans (a := r.1) (b := r.2) (by omega) (by omega) hu hrr (by rw [hrc]; exact Int.le_refl _)
  refine ⟨hlp.1, by omega, low2_gcd (by omega), lle, ?_, hrp.1, by omega, low2_gcd (by omega), rge, ?_⟩
  · intro p q h1 h2 h3
    have key : p * l.2 ≤ l.1 * q := by
      by_cases hq : q ≤ u
      · have h4 := hl.top q h1 (by omega)
        have h5 : p ≤ t * q / u := (Int.le_ediv_iff_mul_le hu).mpr h3
        have h6 : p * l.2 ≤ (t * q / u) * l.2 := Int.mul_le_mul_of_nonneg_right h5 (by omega)
        exact Int.le_trans h6 h4
      · have h4 := hl.top u (by omega) (by omega)
        have h5 : t * u / u = t := Int.mul_ediv_cancel _ (by omega)
        rw [h5] at h4
        exact frac_trans (a := t) (b := u) hu (by omega) (by omega) h3 h4
    exact frac_trans (a := l.1) (b := l.2) (by omega) (by omega) (by omega) key (by rw [hlc]; exact Int.le_refl _)
  · intro p q h1 h2 h3
    have key : r.1 * q ≤ p * r.2 := by
      by_cases hq : q ≤ u
      · have h4 := hr.top q h1 (by omega)
        have h5 : 0 - (0 - t * q) / u ≤ p := by
          have : 0 - p ≤ (0 - t * q) / u := (Int.le_ediv_iff_mul_le hu).mpr (by rw [Int.sub_mul]; omega)
          omega
        have h6 : (0 - (0 - t * q) / u) * r.2 ≤ p * r.2 := Int.mul_le_mul_of_nonneg_right h5 (by omega)
        exact Int.le_trans h4 h6
      · have h4 := hr.top u (by omega) (by omega)
        have h5 : 0 - (0 - t * u) / u = t := by
          have : (0 - t * u) = (0 - t) * u := by rw [Int.sub_mul]; omega
          rw [this, Int.mul_ediv_cancel _ (by omega)]
          omega
        rw [h5] at h4
        exact frac_trans (a := t) (b := u) hu (by omega) (by omega) h4 h3
    exact frac_trans (a := r.1) (b := r.2) (by omega) (by omega) (by omega) (by rw [hrc]; exact Int.le_refl _) key
end Dk
namespace Dk
theorem bezN (a b : Nat) : ∃ x y : Int, (a : Int) * x + (b : Int) * y = (Nat.gcd a b : Int) := by
  induction a, b using Nat.gcd.induction with
  | H0 n => exact ⟨0, 1, by simp⟩
  | H1 m n hm ih =>
    obtain ⟨x, y, e⟩ := ih
    refine ⟨y - ((n / m : Nat) : Int) * x, x, ?_⟩
    rw [Nat.gcd_rec, ← e]
    have h : (n : Int) = (m : Int) * ((n / m : Nat) : Int) + ((n % m : Nat) : Int) := by
      have := Nat.div_add_mod n m
      omega
    have h2 : (n : Int) * x = (m : Int) * ((n / m : Nat) : Int) * x + ((n % m : Nat) : Int) * x := by
      rw [← Int.add_mul, ← h]
    rw [Int.mul_sub, h2, ← Int.mul_assoc]
    omega
theorem bezI (a b : Int) (hb : 0 < b) : ∃ x y : Int, a * x + b * y = (Int.gcd a b : Int) := by
  obtain ⟨x, y, e⟩ := bezN a.natAbs b.natAbs
  have e2 : (Int.gcd a b : Int) = (Nat.gcd a.natAbs b.natAbs : Int) := rfl
  have hb' : (b.natAbs : Int) = b := by omega
  rw [hb'] at e
  rcases Int.le_total 0 a with h | h
  · have ha : (a.natAbs : Int) = a := by omega
    rw [ha] at e
    exact ⟨x, y, by rw [e2, e]⟩
  · have ha : (a.natAbs : Int) = -a := by omega
    rw [ha] at e
    refine ⟨-x, y, ?_⟩
    rw [e2, ← e, Int.mul_neg, Int.neg_mul]
theorem dvd_gcd1 {a b d : Int} (h : Int.gcd a b = 1) (h1 : d ∣ a) (h2 : d ∣ b) (hd : 0 < d) : d = 1 := by
  have h3 : d ∣ (Int.gcd a b : Int) := Int.dvd_coe_gcd h1 h2
  rw [h] at h3
  obtain ⟨c, hc⟩ := h3
  have hc' : d * c = 1 := by omega
  rcases Int.lt_trichotomy c 0 with h | h | h
  · have := Int.mul_neg_of_pos_of_neg hd h; omega
  · rw [h] at hc'; simp at hc'
  · have : d * 1 ≤ d * c := Int.mul_le_mul_of_nonneg_left (by omega) (by omega)
    omega
/-- equal fractions in lowest terms are one -/
theorem frac_one {a b c d : Int} (hb : 0 < b) (hd : 0 < d) (h1 : Int.gcd a b = 1) (h2 : Int.gcd c d = 1) (e : a * d = c * b) : a = c ∧ b = d := by
  obtain ⟨x, y, e1⟩ := bezI a b hb
  obtain ⟨x', y', e2⟩ := bezI c d hd
  rw [h1] at e1
  rw [h2] at e2
  have b_d : b ∣ d := ⟨c * x + d * y, by
    have : d * (a * x + b * y) = d := by rw [e1]; simp
    have h3 : d * (a * x) = b * (c * x) := by
      rw [← Int.mul_assoc, Int.mul_comm d a, e, Int.mul_comm c b, Int.mul_assoc]
    rw [Int.mul_add, h3] at this
    have h4 : d * (b * y) = b * (d * y) := by rw [← Int.mul_assoc, Int.mul_comm d b, Int.mul_assoc]
    rw [Int.mul_add, ← h4]
    exact this.symm⟩
  have d_b : d ∣ b := ⟨a * x' + b * y', by
    have : b * (c * x' + d * y') = b := by rw [e2]; simp
    have h3 : b * (c * x') = d * (a * x') := by
      rw [← Int.mul_assoc, Int.mul_comm b c, ← e, Int.mul_comm a d, Int.mul_assoc]
    rw [Int.mul_add, h3] at this
    have h4 : b * (d * y') = d * (b * y') := by rw [← Int.mul_assoc, Int.mul_comm b d, Int.mul_assoc]
    rw [Int.mul_add, ← h4]
    exact this.symm⟩
  have e3 : b = d := Int.le_antisymm (Int.le_of_dvd hd b_d) (Int.le_of_dvd hb d_b)
  subst e3
  exact ⟨Int.eq_of_mul_eq_mul_right (by omega) e, rfl⟩
/-- the next fractions -/
theorem Nb.next {t u n : Int} {l r : Int × Int} (h : Nb t u n l r) (hg : Int.gcd t u = 1) (hn : 1 ≤ n) (hu : n < u) :
    r.1 * l.2 - l.1 * r.2 = 1 ∧ n < l.2 + r.2 ∧ l.1 * u < t * l.2 ∧ t * r.2 < r.1 * u := by
  obtain ⟨l1, l2⟩ := l
  obtain ⟨r1, r2⟩ := r
  have a1 : 1 ≤ l2 := h.l1
  have a2 : l2 ≤ n := h.l2
  have a3 : Int.gcd l1 l2 = 1 := h.lg
  have a4 : l1 * u ≤ t * l2 := h.le
  have a5 := h.lt
  have b1 : 1 ≤ r2 := h.r1
  have b2 : r2 ≤ n := h.r2
  have b3 : Int.gcd r1 r2 = 1 := h.rg
  have b4 : t * r2 ≤ r1 * u := h.ge
  have b5 := h.rt
  show r1 * l2 - l1 * r2 = 1 ∧ n < l2 + r2 ∧ l1 * u < t * l2 ∧ t * r2 < r1 * u
  have sl : l1 * u < t * l2 := by
    rcases Int.lt_or_eq_of_le a4 with z | z
    · exact z
    · have := (frac_one (by omega) (by omega) a3 hg z).2
      omega
  have sr : t * r2 < r1 * u := by
    rcases Int.lt_or_eq_of_le b4 with z | z
    · exact z
    · have := (frac_one (by omega) (by omega) hg b3 z).2
      omega
  have hD : 1 ≤ r1 * l2 - l1 * r2 := by
    have c1 : l1 * u * r2 < t * l2 * r2 := Int.mul_lt_mul_of_pos_right sl (by omega)
    have c2 : t * r2 * l2 < r1 * u * l2 := Int.mul_lt_mul_of_pos_right sr (by omega)
    have c3 : (l1 * r2) * u < (r1 * l2) * u := by
      have e1 : l1 * u * r2 = (l1 * r2) * u := by rw [Int.mul_right_comm]
      have e2 : t * l2 * r2 = t * r2 * l2 := by rw [Int.mul_right_comm]
      have e3 : r1 * u * l2 = (r1 * l2) * u := by rw [Int.mul_right_comm]
      rw [e1, e2] at c1
      rw [e3] at c2
      exact Int.lt_trans c1 c2
    have := Int.lt_of_mul_lt_mul_right c3 (by omega)
    omega
  obtain ⟨bx, byy, e0⟩ := bezI l1 l2 (by omega)
  rw [a3] at e0
  -- x * l2 - y * l1 = 1, n - l2 < y ≤ n
  obtain ⟨x, y, exy, y1, y2⟩ : ∃ x y : Int, x * l2 - y * l1 = 1 ∧ n - l2 < y ∧ y ≤ n := by
    refine ⟨byy + l1 * ((n + bx) / l2), -bx + l2 * ((n + bx) / l2), ?_, ?_, ?_⟩
    · have q1 : (byy + l1 * ((n + bx) / l2)) * l2 = byy * l2 + l1 * ((n + bx) / l2) * l2 := Int.add_mul ..
      have q2 : (-bx + l2 * ((n + bx) / l2)) * l1 = -bx * l1 + l2 * ((n + bx) / l2) * l1 := Int.add_mul ..
      have q3 : l2 * ((n + bx) / l2) * l1 = l1 * ((n + bx) / l2) * l2 := by
        rw [Int.mul_comm l2, Int.mul_assoc, Int.mul_comm l2 l1, ← Int.mul_assoc, Int.mul_comm _ l1]
      rw [q1, q2, q3, Int.neg_mul, Int.mul_comm byy l2, Int.mul_comm bx l1]
      have : l1 * bx + l2 * byy = 1 := by omega
      omega
    · have := Int.emod_lt_of_pos (n + bx) (b := l2) (by omega)
      have := Int.emod_add_mul_ediv (n + bx) l2
      omega
    · have := Int.emod_nonneg (n + bx) (b := l2) (by omega)
      have := Int.emod_add_mul_ediv (n + bx) l2
      omega
  have ypos : 1 ≤ y := by omega
  have c1 : t * y ≤ x * u := by
    by_cases z : x * u ≤ t * y
    · have := a5 x y ypos y2 z
      have e : x * l2 ≤ l1 * y := this
      rw [Int.mul_comm l1 y] at e
      omega
    · omega
  have c2 : r1 * y ≤ x * r2 := b5 x y ypos y2 c1
  -- r2 = (x r2 - r1 y) l2 + D y
  have key : r2 = (x * r2 - r1 * y) * l2 + (r1 * l2 - l1 * r2) * y := by
    have e1 : (x * l2 - y * l1) * r2 = r2 := by rw [exy]; simp
    have e2 : (x * r2 - r1 * y) * l2 + (r1 * l2 - l1 * r2) * y = (x * l2 - y * l1) * r2 := by
      simp only [Int.sub_mul]
      have f1 : x * r2 * l2 = x * l2 * r2 := Int.mul_right_comm ..
      have f2 : r1 * y * l2 = r1 * l2 * y := Int.mul_right_comm ..
      have f3 : l1 * r2 * y = y * l1 * r2 := by rw [Int.mul_comm _ y, ← Int.mul_assoc]
      omega
    rw [e2, e1]
  have hz : x * r2 - r1 * y = 0 := by
    by_cases z : x * r2 - r1 * y = 0
    · exact z
    · have g1 : 1 * l2 ≤ (x * r2 - r1 * y) * l2 := Int.mul_le_mul_of_nonneg_right (by omega) (by omega)
      have g2 : 1 * y ≤ (r1 * l2 - l1 * r2) * y := Int.mul_le_mul_of_nonneg_right hD (by omega)
      omega
  rw [hz] at key
  have key2 : r2 = (r1 * l2 - l1 * r2) * y := by omega
  have hx : r1 = (r1 * l2 - l1 * r2) * x := by
    have g1 : r1 * y = ((r1 * l2 - l1 * r2) * x) * y := by
      have g2 : r1 * y = x * r2 := by omega
      rw [g2, Int.mul_right_comm, ← key2, Int.mul_comm]
    exact Int.eq_of_mul_eq_mul_right (by omega) g1
  have hD1 : r1 * l2 - l1 * r2 = 1 := dvd_gcd1 b3 ⟨x, hx⟩ ⟨y, key2⟩ (by omega)
  refine ⟨hD1, ?_, sl, sr⟩
  rw [hD1] at key2
  omega
theorem Nb.self {t u n : Int} {l r : Int × Int} (h : Nb t u n l r) (hg : Int.gcd t u = 1) (h0 : 0 < u) (hu : u ≤ n) : l = (t, u) ∧ r = (t, u) := by
  have e1 := h.lt t u (by omega) hu (Int.le_refl _)
  have e2 := h.rt t u (by omega) hu (Int.le_refl _)
  have := h.le
  have := h.ge
  have a1 := h.l1
  have b1 := h.r1
  have f1 := frac_one (a := l.1) (b := l.2) (c := t) (d := u) (by omega) h0 h.lg hg (by omega)
  have f2 := frac_one (a := r.1) (b := r.2) (c := t) (d := u) (by omega) h0 h.rg hg (by omega)
  exact ⟨Prod.ext f1.1 f1.2, Prod.ext f2.1 f2.2⟩
theorem Nb.mono {t u n m : Int} {l r l' r' : Int × Int} (h : Nb t u n l r) (h' : Nb t u m l' r') (hm : n ≤ m) : ¬ l'.1 * l.2 < l.1 * l'.2 ∧ ¬ r.1 * r'.2 < r'.1 * r.2 := by
  have a := h'.lt l.1 l.2 h.l1 (by have := h.l2; omega) h.le
  have b := h'.rt r.1 r.2 h.r1 (by have := h.r2; omega) h.ge
  exact ⟨by omega, by omega⟩
theorem ediv_abs {a u : Int} (hu : 1 ≤ u) : (a / u).natAbs ≤ a.natAbs := by
  rcases Int.le_total 0 a with h | h
  · have h1 : 0 ≤ a / u := Int.ediv_nonneg h (by omega)
    have h2 : a / u ≤ a := Int.ediv_le_self u h
    omega
  · have h1 : a / u ≤ 0 := by
      have := Int.ediv_le_ediv (a := a) (b := 0) (c := u) (by omega) h
      rw [Int.zero_ediv] at this
      exact this
    have h2 : a ≤ a / u := (Int.le_ediv_iff_mul_le (by omega)).mpr (by
      have : a * u ≤ a * 1 := Int.mul_le_mul_of_nonpos_left h hu
      omega)
    omega
theorem LowIs.abs {t u n : Int} {l : Int × Int} (h : LowIs t u n l) (hu : 1 ≤ u) : l.1.natAbs ≤ t.natAbs * n.natAbs ∧ l.2.natAbs ≤ n.natAbs := by
  have a := h.lo
  have b := h.hi
  have c : (t * l.2).natAbs ≤ t.natAbs * n.natAbs := by rw [Int.natAbs_mul]; exact Nat.mul_le_mul_left _ (by omega)
  refine ⟨?_, by omega⟩
  rw [h.at_]
  exact Nat.le_trans (ediv_abs hu) c
theorem UpIs.abs {t u n : Int} {l : Int × Int} (h : UpIs t u n l) (hu : 1 ≤ u) : l.1.natAbs ≤ t.natAbs * n.natAbs ∧ l.2.natAbs ≤ n.natAbs := by
  have a := h.lo
  have b := h.hi
  have c : (t * l.2).natAbs ≤ t.natAbs * n.natAbs := by rw [Int.natAbs_mul]; exact Nat.mul_le_mul_left _ (by omega)
  refine ⟨?_, by omega⟩
  rw [h.at_]
  have := ediv_abs (a := 0 - t * l.2) hu
  omega
theorem low2_abs {i j : Int} (hj : 0 < j) : (low2 i j).1.natAbs ≤ i.natAbs := by
  have hg : 0 < Int.gcd i j := Int.gcd_pos_of_ne_zero_right _ (by omega)
  exact ediv_abs (by omega)
end Dk
namespace Dk
open PySem PySem.Spec L2
def top (i : Nat) : Stmt := PySem.Challenge.pw_darkpace_k41_whole_neighbours_are_next.main.body.getD i (.Pass ⟨0, 0, 0, 0⟩)
abbrev s_NoLength___init__ : Stmt := inClass (top 2) 0
abbrev s_NoWord___init__ : Stmt := inClass (top 3) 0
abbrev s_Clash___init__ : Stmt := inClass (top 4) 0
abbrev s_NoLook___init__ : Stmt := inClass (top 5) 0
abbrev s_NoRound___init__ : Stmt := inClass (top 6) 0
abbrev s_NoUses___init__ : Stmt := inClass (top 7) 0
abbrev s_NoSide___init__ : Stmt := inClass (top 8) 0
abbrev s_NoRing___init__ : Stmt := inClass (top 9) 0
abbrev s_NoSteps___init__ : Stmt := inClass (top 10) 0
abbrev s_NoBottom___init__ : Stmt := inClass (top 11) 0
abbrev s_NoText___init__ : Stmt := inClass (top 12) 0
abbrev s_greatest_divisor : Stmt := top 14
abbrev s_lowest : Stmt := top 15
abbrev s_is_below : Stmt := top 17
abbrev s_neighbours : Stmt := top 18
abbrev s__law_bag : Stmt := top 20
abbrev s__law_draw : Stmt := top 21
abbrev s__law_divisor : Stmt := top 22
abbrev s__law_lowest : Stmt := top 23
abbrev s__law_below : Stmt := top 24
abbrev s__law_sides : Stmt := top 25
abbrev s__law_right : Stmt := top 26
abbrev s__law_refused : Stmt := top 27
abbrev s_law : Stmt := top 28
structure Txt (K : PySem.W.Frag) (mg : Str → Option Value) : Prop where
  d_greatest_divisor : ∃ fd, FunD K "greatest_divisor" "greatest_divisor" (defArgs s_greatest_divisor) (defBody s_greatest_divisor) (defScope s_greatest_divisor) [] [] (He.fAd K ("greatest_divisor", none)) fd
  g_greatest_divisor : mg "greatest_divisor" = some (.ref (He.ga K "greatest_divisor"))
  d_lowest : ∃ fd, FunD K "lowest" "lowest" (defArgs s_lowest) (defBody s_lowest) (defScope s_lowest) [] [] (He.fAd K ("lowest", none)) fd
  g_lowest : mg "lowest" = some (.ref (He.ga K "lowest"))
  d_is_below : ∃ fd, FunD K "is_below" "is_below" (defArgs s_is_below) (defBody s_is_below) (defScope s_is_below) [] [] (He.fAd K ("is_below", none)) fd
  g_is_below : mg "is_below" = some (.ref (He.ga K "is_below"))
  d_neighbours : ∃ fd, FunD K "neighbours" "neighbours" (defArgs s_neighbours) (defBody s_neighbours) (defScope s_neighbours) [] [] (He.fAd K ("neighbours", none)) fd
  g_neighbours : mg "neighbours" = some (.ref (He.ga K "neighbours"))
  d__law_bag : ∃ fd, FunD K "_law_bag" "_law_bag" (defArgs s__law_bag) (defBody s__law_bag) (defScope s__law_bag) [] [] (He.fAd K ("_law_bag", none)) fd
  g__law_bag : mg "_law_bag" = some (.ref (He.ga K "_law_bag"))
  d__law_draw : ∃ fd, FunD K "_law_draw" "_law_draw" (defArgs s__law_draw) (defBody s__law_draw) (defScope s__law_draw) [] [] (He.fAd K ("_law_draw", none)) fd
  g__law_draw : mg "_law_draw" = some (.ref (He.ga K "_law_draw"))
  d__law_divisor : ∃ fd, FunD K "_law_divisor" "_law_divisor" (defArgs s__law_divisor) (defBody s__law_divisor) (defScope s__law_divisor) [] [] (He.fAd K ("_law_divisor", none)) fd
  g__law_divisor : mg "_law_divisor" = some (.ref (He.ga K "_law_divisor"))
  d__law_lowest : ∃ fd, FunD K "_law_lowest" "_law_lowest" (defArgs s__law_lowest) (defBody s__law_lowest) (defScope s__law_lowest) [] [] (He.fAd K ("_law_lowest", none)) fd
  g__law_lowest : mg "_law_lowest" = some (.ref (He.ga K "_law_lowest"))
  d__law_below : ∃ fd, FunD K "_law_below" "_law_below" (defArgs s__law_below) (defBody s__law_below) (defScope s__law_below) [] [] (He.fAd K ("_law_below", none)) fd
  g__law_below : mg "_law_below" = some (.ref (He.ga K "_law_below"))
  d__law_sides : ∃ fd, FunD K "_law_sides" "_law_sides" (defArgs s__law_sides) (defBody s__law_sides) (defScope s__law_sides) [] [] (He.fAd K ("_law_sides", none)) fd
  g__law_sides : mg "_law_sides" = some (.ref (He.ga K "_law_sides"))
  d__law_right : ∃ fd, FunD K "_law_right" "_law_right" (defArgs s__law_right) (defBody s__law_right) (defScope s__law_right) [] [] (He.fAd K ("_law_right", none)) fd
  g__law_right : mg "_law_right" = some (.ref (He.ga K "_law_right"))
  d__law_refused : ∃ fd, FunD K "_law_refused" "_law_refused" (defArgs s__law_refused) (defBody s__law_refused) (defScope s__law_refused) [] [] (He.fAd K ("_law_refused", none)) fd
  g__law_refused : mg "_law_refused" = some (.ref (He.ga K "_law_refused"))
  d_law : ∃ fd, FunD K "law" "law" (defArgs s_law) (defBody s_law) (defScope s_law) [] [] (He.fAd K ("law", none)) fd
  g_law : mg "law" = some (.ref (He.ga K "law"))
  f_len : mg "len" = none
  f_abs : mg "abs" = none
  f_range : mg "range" = none
  f_min : mg "min" = none
  f_max : mg "max" = none
  f_isinstance : mg "isinstance" = none
  f_ValueError : mg "ValueError" = none
  k_DialError : mg "DialError" = some (.ref (He.ga K "DialError"))
  k_NoLength : mg "NoLength" = some (.ref (He.ga K "NoLength"))
  k_NoWord : mg "NoWord" = some (.ref (He.ga K "NoWord"))
  k_Clash : mg "Clash" = some (.ref (He.ga K "Clash"))
  k_NoLook : mg "NoLook" = some (.ref (He.ga K "NoLook"))
  k_NoRound : mg "NoRound" = some (.ref (He.ga K "NoRound"))
  k_NoUses : mg "NoUses" = some (.ref (He.ga K "NoUses"))
  k_NoSide : mg "NoSide" = some (.ref (He.ga K "NoSide"))
  k_NoRing : mg "NoRing" = some (.ref (He.ga K "NoRing"))
  k_NoSteps : mg "NoSteps" = some (.ref (He.ga K "NoSteps"))
  k_NoBottom : mg "NoBottom" = some (.ref (He.ga K "NoBottom"))
  k_NoText : mg "NoText" = some (.ref (He.ga K "NoText"))
  x_NoBottom : ExcT K mg "NoBottom"
  m_exm : PySem.W.exmOne K (.ref (He.ga K "NoBottom")) (.ref (He.ga K "DialError")) = some true
  m_isn : PySem.W.kitAny K (.ref (He.ga K "NoBottom")) [.ref (He.ga K "Clash"), .ref (He.ga K "NoLength"), .ref (He.ga K "NoLook"), .ref (He.ga K "NoRing"), .ref (He.ga K "NoRound"), .ref (He.ga K "NoSide"), .ref (He.ga K "NoSteps"), .ref (He.ga K "NoText"), .ref (He.ga K "NoUses"), .ref (He.ga K "NoWord")] = some false
  m_isv : PySem.W.kitOne K (.ref (He.ga K "NoBottom")) (.type "ValueError") = some true
  m_iss : PySem.W.kitOne K (.ref (He.ga K "NoBottom")) (.ref (He.ga K "NoBottom")) = some true
end Dk
namespace Dk
open PySem PySem.Spec L2
local macro_rules | `(tactic| walk_at "sq") => `(tactic| first | assumption | exact SqT.of (by assumption) | exact SqL.of (by assumption) | exact SqT.of upd_same | exact SqL.of upd_same | exact seqT (by assumption) (by assumption) | exact Same.seq (by assumption) (by assumption))
local macro_rules | `(tactic| walk_at "rd") => `(tactic| repeat (first | refine ⟨_, rfl, ?_⟩ | refine ⟨_, _, rfl, rfl, ?_⟩ | refine ⟨_, _, rfl, ?_⟩ | refine ⟨rfl, ?_⟩ | refine ⟨_, _, _, _, rfl, rfl, by walk_at "sq", by rfl, ?_⟩ | refine ⟨_, _, rfl, by walk_at "sq", rfl, ?_⟩ | refine ⟨_, _, rfl, Or.inl ⟨_, by walk_at "sq", rfl⟩, ?_⟩ | refine ⟨_, _, rfl, Or.inr ⟨_, by walk_at "sq", rfl⟩, ?_⟩ | refine ⟨Nat.le_of_ble_eq_true rfl, ?_⟩))

def Sm (i : Int) : Prop := i.natAbs < 2 ^ 4000
theorem Sm.mul {i j : Int} (a : Sm i) (b : Sm j) : CMulW i j := wide_mul a b (by decide) (by decide) (by decide)
theorem Sm.div {i j : Int} (h : 0 < j) (b : Sm j) : CDivW i j := wide_div h b (by decide) (by decide)
theorem Sm.of {i : Int} (h : i.natAbs < 2 ^ 3000) : Sm i := Nat.lt_trans h (Nat.pow_lt_pow_right (by decide) (by decide))
theorem Sm.le {i j : Int} (h : i.natAbs ≤ j.natAbs) (b : Sm j) : Sm i := Nat.lt_of_le_of_lt h b
theorem abs_if (i : Int) : (if i < 0 then -i else i) = (i.natAbs : Int) := by
  split <;> omega

section
variable {P : Program} {w : World} {K : PySem.W.Frag} {mg : Str → Option Value} {base : Heap}
def spGcd : Sp := Sp2 fun a b H Q _ => ∃ i j : Int, a = .int i ∧ b = .int j ∧ Q (.int (Int.gcd i j)) H
theorem sc_greatest_divisor : FnScope ["one", "other"] ["one", "other"] (defScope s_greatest_divisor) := ⟨rfl, rfl, rfl, by decide +kernel, rfl, by decide +kernel, by decide +kernel⟩
theorem D_greatest_divisor (T : Txt K mg) : Ok P w K mg base CX0 1 "greatest_divisor" ["one", "other"] spGcd := by
  obtain ⟨fd, F⟩ := T.d_greatest_divisor
  refine ⟨fd, F.ok sc_greatest_divisor (fun _ _ _ _ h => by obtain ⟨_, _, rfl, _⟩ := sp2o h; rfl) (fun cdv A outer s H vs Q E hr h => ?_), T.g_greatest_divisor, F.kp, F.bindsN fun _ _ _ _ _ _ us hl => match us, hl with | [_, _], _ => rfl⟩
  replace h := sp2o h
  obtain ⟨v0, v1, rfl, h⟩ := h
  refine ⟨_, PSs.nox (pss_cons (ps_par (i := 0) (j := 1) (by rfl) sc_greatest_divisor.nd rfl rfl (by decide) rfl rfl (pa_cons (pe_callB call_abs (by rfl) T.f_abs (by decide +kernel) (pa_cons (pv 0) pa_nil)) (pa_cons (pe_callB call_abs (by rfl) T.f_abs (by decide +kernel) (pa_cons (pv 1) pa_nil)) pa_nil)) (by rfl))
  (pss_cons (ps_while (by first | exact PassesOwn.never | exact passes_own) (pt_cmpR op_gt (pv 0) pe_int (nomark _))
  (pss_one (ps_par (i := 0) (j := 1) (by rfl) sc_greatest_divisor.nd rfl rfl (by decide) rfl rfl (pa_cons (pe_op op_mod (pv 1) (pv 0)) (pa_cons (pv 0) pa_nil)) (by rfl))))
  (pss_one (ps_ret (pv 1))))), ?_⟩
  obtain ⟨i, j, rfl, rfl, k⟩ := h
  walk_at "rd"
  rw [abs_if, abs_if]
  refine ⟨fun m σ H' => H' = H ∧ ∃ a b : Nat, m = a ∧ σ = [some (.int a), some (.int b)] ∧ Nat.gcd a b = Int.gcd i j, ⟨_, rfl, i.natAbs, j.natAbs, rfl, rfl, rfl⟩, ?_⟩
  rintro m σ H' ⟨rfl, a, b, rfl, rfl, hg⟩
  walk_at "rd"
  refine ifd (fun hb => ?_) (fun hb => ?_)
  · refine ⟨fun σ' H2 => H2 = H' ∧ ∃ a' b' : Nat, a' < m ∧ σ' = [some (.int a'), some (.int b')] ∧ Nat.gcd a' b' = Int.gcd i j, fun σ' H2 ⟨e, a', b', hl, e2, e3⟩ => ⟨a', hl, e, a', b', rfl, e2, e3⟩, ?_⟩
    walk_at "rd"
    refine ⟨hb, ?_⟩
    walk_at "rd"
    refine ⟨b % m, m, Nat.mod_lt _ (by omega), rfl, ?_⟩
    rw [← hg, Nat.gcd_comm m b, Nat.gcd_comm b m, Nat.gcd_rec m b]
  · walk_at "rd"
    have : m = 0 := by omega
    subst this
    rw [Nat.gcd_zero_left] at hg
    rw [hg]
    exact k
theorem gcd_pos {i j : Int} (h : 0 < j) : 0 < (Int.gcd i j : Int) := by
  have := Int.gcd_pos_of_ne_zero_right i (b := j) (by omega)
  omega
theorem gcd_le {i j : Int} (h : 0 < j) : (Int.gcd i j : Int) ≤ j := Int.le_of_dvd h (Int.gcd_dvd_right ..)
theorem gcd_sm {i j : Int} (h : 0 < j) (b : Sm j) : Sm (Int.gcd i j) := Sm.le (by have := gcd_le (i := i) h; omega) b

def spLowest : Sp := Sp2 fun a b H Q _ => ∃ i j : Int, a = .int i ∧ b = .int j ∧ 0 < j ∧ Sm j ∧ ∀ p, H p = none → Q (.ref p) (upd H p (.tup [.int (low2 i j).1, .int (low2 i j).2]))
theorem sc_lowest : FnScope ["top", "under", "divisor"] ["top", "under"] (defScope s_lowest) := ⟨rfl, rfl, rfl, by decide +kernel, rfl, by decide +kernel, by decide +kernel⟩
theorem D_lowest (T : Txt K mg) : Ok P w K mg base CX0 2 "lowest" ["top", "under"] spLowest := by
  obtain ⟨fd, F⟩ := T.d_lowest
  refine ⟨fd, F.ok sc_lowest (fun _ _ _ _ h => by obtain ⟨_, _, rfl, _⟩ := sp2o h; rfl) (fun cdv A outer s H vs Q E hr h => ?_), T.g_lowest, F.kp, F.bindsN fun _ _ _ _ _ _ us hl => match us, hl with | [_, _], _ => rfl⟩
  replace h := sp2o h
  obtain ⟨v0, v1, rfl, h⟩ := h
  refine ⟨_, PSs.nox (pss_cons (ps_set (i := 2) sc_lowest.nd rfl (by first | exact Or.inl rfl | exact Or.inr rfl) (pe_callO (D_greatest_divisor T) (hr.mono (by decide)) rfl pass0 (pa_cons (pv 0) (pa_cons (pv 1) pa_nil))))
  (pss_one (ps_ret (pe_tup (pa_cons (pe_op op_fdivW (pv 0) (pv 2)) (pa_cons (pe_op op_fdivW (pv 1) (pv 2)) pa_nil)))))), ?_⟩
  obtain ⟨i, j, rfl, rfl, hj, hs, k⟩ := h
  walk_at "rd"
  refine sp2 ?_
  walk_at "rd"
  refine ⟨Sm.div (gcd_pos hj) (gcd_sm hj hs), ?_⟩
  walk_at "rd"
  refine ⟨Sm.div (gcd_pos hj) (gcd_sm hj hs), ?_⟩
  exact ⟨sz2, fun p hp => k p hp⟩

def spBelow (K : PySem.W.Frag) : Sp := Sp2 fun a b H Q _ => ∃ (x y : Addr) (p q : Int × Int), a = .ref x ∧ b = .ref y ∧ SqT K H x [.int p.1, .int p.2] ∧ SqT K H y [.int q.1, .int q.2] ∧
  (Sm p.1 ∧ Sm p.2 ∧ Sm q.1 ∧ Sm q.2) ∧ Q (.bl (decide (p.1 * q.2 < q.1 * p.2))) H
theorem sc_is_below : FnScope ["one", "other"] ["one", "other"] (defScope s_is_below) := ⟨rfl, rfl, rfl, by decide +kernel, rfl, by decide +kernel, by decide +kernel⟩
theorem D_is_below (T : Txt K mg) : Ok P w K mg base CX0 1 "is_below" ["one", "other"] (spBelow K) := by
  obtain ⟨fd, F⟩ := T.d_is_below
  refine ⟨fd, F.ok sc_is_below (fun _ _ _ _ h => by obtain ⟨_, _, rfl, _⟩ := sp2o h; rfl) (fun cdv A outer s H vs Q E hr h => ?_), T.g_is_below, F.kp, F.bindsN fun _ _ _ _ _ _ us hl => match us, hl with | [_, _], _ => rfl⟩
  replace h := sp2o h
  obtain ⟨v0, v1, rfl, h⟩ := h
  refine ⟨_, PSs.nox (pss_one (ps_ret (pe_cmpR op_lt (pe_op op_mulW (pe_ix ix_tup (pv 0) pe_int (fun _ _ => rfl)) (pe_ix ix_tup (pv 1) pe_int (fun _ _ => rfl))) (pe_op op_mulW (pe_ix ix_tup (pv 1) pe_int (fun _ _ => rfl)) (pe_ix ix_tup (pv 0) pe_int (fun _ _ => rfl))) (nomark _)))), ?_⟩
  obtain ⟨x, y, p, q, rfl, rfl, hx, hy, ⟨s1, s2, s3, s4⟩, k⟩ := h
  walk_at "rd"
  refine ⟨Sm.mul s1 s4, ?_⟩
  walk_at "rd"
  refine ⟨Sm.mul s3 s2, ?_⟩
  walk_at "rd"
  exact k

/-- for a fraction t / u and a bottom n: NoBottom, or its two neighbours, new -/
def spNb (K : PySem.W.Frag) : Sp := Sp2 fun a b H Q E => ∃ (G : Hp) (t u n : Int), Same G H ∧ Dp K G a (dI2 (t, u)) ∧ b = .int n ∧
  (n < 1 → ∀ d, H d = none → E (.ref (He.ga K "NoBottom")) (some d) (upd H d (.xd [("what", .int n)]))) ∧
  (1 ≤ n → 0 < u ∧ t.natAbs < 2 ^ 1000 ∧ u.natAbs < 2 ^ 1000 ∧ n < 2 ^ 60 ∧ ∀ (G' H' : Hp) (r : V) (lo hi : Int × Int), Go [] G H G' H' → Dp K G' r (.tuple [dI2 lo, dI2 hi]) → Nb t u n lo hi →
    lo.1.natAbs ≤ t.natAbs * n.natAbs → hi.1.natAbs ≤ t.natAbs * n.natAbs → Q r H')
theorem sc_neighbours : FnScope ["fraction", "bottom", "top", "under", "lower", "upper", "many", "down", "beyond"] ["fraction", "bottom"] (defScope s_neighbours) := ⟨rfl, rfl, rfl, by decide +kernel, rfl, by decide +kernel, by decide +kernel⟩
theorem D_neighbours (T : Txt K mg) : Ok P w K mg base (L2.CX P w) 3 "neighbours" ["fraction", "bottom"] (spNb K) := by
  obtain ⟨fd, F⟩ := T.d_neighbours
  refine ⟨fd, F.ok sc_neighbours (fun _ _ _ _ h => by obtain ⟨_, _, rfl, _⟩ := sp2o h; rfl) (fun cdv A outer s H vs Q E hr h => ?_), T.g_neighbours, F.kp, F.bindsN fun _ _ _ _ _ _ us hl => match us, hl with | [_, _], _ => rfl⟩
  replace h := sp2o h
  obtain ⟨v0, v1, rfl, h⟩ := h
  refine ⟨_,  (pss_cons (ps_if (pt_cmpR op_lt (pv 1) pe_int (nomark _))
  (pss_one (ps_raise rfl (takes_of rfl rfl rfl rfl) (pmk_what T.x_NoBottom (hr.mono (by decide)) rfl (pv 1))))
  pss_nil)
  (PSs.nox (pss_cons (ps_asg (pv 0) (pg_tup rfl (pgs_cons (pg_name (i := 2) sc_neighbours.nd rfl (by first | exact Or.inl rfl | exact Or.inr rfl)) (pgs_cons (pg_name (i := 3) sc_neighbours.nd rfl (by first | exact Or.inl rfl | exact Or.inr rfl)) pgs_nil))))
  (pss_cons (ps_asg (pe_tup (pa_cons pe_non (pa_cons pe_non pa_nil))) (pg_tup rfl (pgs_cons (pg_name (i := 4) sc_neighbours.nd rfl (by first | exact Or.inl rfl | exact Or.inr rfl)) (pgs_cons (pg_name (i := 5) sc_neighbours.nd rfl (by first | exact Or.inl rfl | exact Or.inr rfl)) pgs_nil))))
  (pss_cons (ps_for (by first | exact PassesOwn.never | exact passes_own) rfl (pi_range2 rfl T.f_range (pa_cons pe_int (pa_cons (pe_op op_add (pe_callB (call_min2 rfl) (by rfl) T.f_min (by decide +kernel) (pa_cons (pv 1) (pa_cons (pv 3) pa_nil))) pe_int) pa_nil))) (pg_name (i := 6) sc_neighbours.nd rfl (by first | exact Or.inl rfl | exact Or.inr rfl))
  (pss_cons (ps_set (i := 7) sc_neighbours.nd rfl (by first | exact Or.inl rfl | exact Or.inr rfl) (pe_tup (pa_cons (pe_op op_fdivW (pe_op op_mulW (pv 2) (pv 6)) (pv 3)) (pa_cons (pv 6) pa_nil))))
  (pss_cons (ps_set (i := 8) sc_neighbours.nd rfl (by first | exact Or.inl rfl | exact Or.inr rfl) (pe_tup (pa_cons (pe_op op_sub pe_int (pe_op op_fdivW (pe_op op_sub pe_int (pe_op op_mulW (pv 2) (pv 6))) (pv 3))) (pa_cons (pv 6) pa_nil))))
  (pss_cons (ps_if (PW.pt (pw_or (pt_cmpR op_isN (pv 4) pe_non (nomark _)) (pw_or1 (pt_val (pe_callO (D_is_below T) (hr.mono (by decide)) rfl pass0 (pa_cons (pv 4) (pa_cons (pv 7) pa_nil)))))))
  (pss_one (ps_set (i := 4) sc_neighbours.nd rfl (by first | exact Or.inl rfl | exact Or.inr rfl) (pv 7)))
  pss_nil)
  (pss_one (ps_if (PW.pt (pw_or (pt_cmpR op_isN (pv 5) pe_non (nomark _)) (pw_or1 (pt_val (pe_callO (D_is_below T) (hr.mono (by decide)) rfl pass0 (pa_cons (pv 8) (pa_cons (pv 5) pa_nil)))))))
  (pss_one (ps_set (i := 5) sc_neighbours.nd rfl (by first | exact Or.inl rfl | exact Or.inr rfl) (pv 8)))
  pss_nil))))))
  (pss_one (ps_ret (pe_tup (pa_cons (pe_callO (D_lowest T) (hr.mono (by decide)) rfl pass0 (pa_cons (pe_ix ix_tup (pv 4) pe_int (fun _ _ => rfl)) (pa_cons (pe_ix ix_tup (pv 4) pe_int (fun _ _ => rfl)) pa_nil))) (pa_cons (pe_callO (D_lowest T) (hr.mono (by decide)) rfl pass0 (pa_cons (pe_ix ix_tup (pv 5) pe_int (fun _ _ => rfl)) (pa_cons (pe_ix ix_tup (pv 5) pe_int (fun _ _ => rfl)) pa_nil))) pa_nil)))))))))), ?_⟩
  obtain ⟨G, t, u, n, gh, ha, rfl, hlow, hok⟩ := h
  obtain ⟨x, rfl, hx⟩ := dp_i2 ha
  walk_at "rd"
  refine ifd (fun hb => ?_) (fun hb => ?_)
  · walk_at "rd"
    exact fun d hd => hlow hb d hd
  obtain ⟨hu, ht, hu2, hn, k⟩ := hok (by omega)
  walk_at "rd"
  intro p0 hp0
  have go0 : Go [] G H G (upd H p0 (.tup [.non, .non])) := (Go.refl gh).tmp hp0
  walk_at "rd"
  have hmin : (if u < n then u else n) = min n u := by rw [Int.min_def]; split <;> split <;> omega
  refine ⟨⟨by decide, by decide, ?_, ?_⟩, ?_⟩
  · rw [hmin]; omega
  · rw [hmin]; omega
  rw [hmin]
  refine for_range (lo := 1) (n := (min n u + 1 - 1).toNat) (fun i σ H1 => ∃ (G1 : Hp) (vl vu v6 v7 v8 : Option V), Go [] G H G1 H1 ∧
    σ = [some (.ref x), some (.int n), some (.int t), some (.int u), vl, vu, v6, v7, v8] ∧ (i = 0 → vl = some .non ∧ vu = some .non) ∧
    (0 < i → ∃ (a b : Addr) (l r : Int × Int), vl = some (.ref a) ∧ vu = some (.ref b) ∧ SqT K G1 a [.int l.1, .int l.2] ∧ SqT K G1 b [.int r.1, .int r.2] ∧ LowIs t u i l ∧ UpIs t u i r))
    ⟨G, some .non, some .non, none, none, none, go0, rfl, fun _ => ⟨rfl, rfl⟩, fun h => absurd h (by omega)⟩ ?_ ?_
  · rintro i σ H1 hi ⟨G1, vl, vu, v6, v7, v8, go1, rfl, z0, z1⟩
    have gh1 := go1.gh
    rw [Int.add_comm 1 (i : Int)]
    have hi2 : (i : Int) + 1 ≤ n ∧ (i : Int) + 1 ≤ u := by omega
    have hm : Sm ((i : Int) + 1) := Sm.of (Nat.lt_of_le_of_lt (m := n.natAbs) (by omega) (Nat.lt_of_lt_of_le (m := 2 ^ 60) (by omega) (Nat.pow_le_pow_right (by decide) (by decide))))
    have st : Sm t := Sm.of (Nat.lt_trans ht (Nat.pow_lt_pow_right (by decide) (by decide)))
    have su : Sm u := Sm.of (Nat.lt_trans hu2 (Nat.pow_lt_pow_right (by decide) (by decide)))
    walk_at "rd"
    refine ⟨st.mul hm, ?_⟩
    walk_at "rd"
    refine ⟨Sm.div hu su, ?_⟩
    walk_at "rd"
    intro p1 hp1
    obtain ⟨G2, go2, gh2, s12, hd⟩ := go_new (o := .tup [.int (t * ((i : Int) + 1) / u), .int ((i : Int) + 1)]) go1 hp1
    walk_at "rd"
    refine ⟨st.mul hm, ?_⟩
    walk_at "rd"
    refine ⟨Sm.div hu su, ?_⟩
    walk_at "rd"
    intro p2 hp2
    obtain ⟨G3, go3, gh3, s23, he⟩ := go_new (o := .tup [.int (0 - (0 - t * ((i : Int) + 1)) / u), .int ((i : Int) + 1)]) go2 hp2
    have hd3 : SqT K G3 p1 [.int (t * ((i : Int) + 1) / u), .int ((i : Int) + 1)] := seqT s23 (SqT.of hd)
    have he3 : SqT K G3 p2 [.int (0 - (0 - t * ((i : Int) + 1)) / u), .int ((i : Int) + 1)] := SqT.of he
    rcases Nat.eq_zero_or_pos i with hi0 | hi0
    · obtain ⟨rfl, rfl⟩ := z0 hi0
      subst hi0
      walk_at "rd"
      refine ⟨G3, _, _, _, _, _, go3, rfl, fun h => absurd h (by omega), fun _ => ⟨p1, p2, (t * 1 / u, 1), (0 - (0 - t * 1) / u, 1), rfl, rfl, hd3, he3, LowIs.one t u, UpIs.one t u⟩⟩
    · obtain ⟨a, b, l, r, rfl, rfl, ha1, hb1, lw, up⟩ := z1 hi0
      have ha3 := seqT (s12.trans s23) ha1
      have hb3 := seqT (s12.trans s23) hb1
      have al := lw.abs hu
      have au := up.abs hu
      have bnd : ∀ z : Int, z.natAbs ≤ t.natAbs * (i : Int).natAbs → Sm z := fun z hz => Sm.of (by
        have h1 : t.natAbs * (i : Int).natAbs ≤ 2 ^ 1000 * 2 ^ 60 := Nat.mul_le_mul (Nat.le_of_lt ht) (by omega)
        rw [← Nat.pow_add] at h1
        exact Nat.lt_of_le_of_lt (Nat.le_trans hz h1) (Nat.pow_lt_pow_right (by decide) (by decide)))
      have bn2 : ∀ z : Int, z.natAbs ≤ (i : Int).natAbs → Sm z := fun z hz => Sm.le (by omega) hm
      have sdn : Sm (t * ((i : Int) + 1) / u) := Sm.of (by
        have h1 : t.natAbs * ((i : Int) + 1).natAbs ≤ 2 ^ 1000 * 2 ^ 60 := Nat.mul_le_mul (Nat.le_of_lt ht) (by omega)
        rw [← Nat.pow_add] at h1
        have h2 := ediv_abs (a := t * ((i : Int) + 1)) hu
        rw [Int.natAbs_mul] at h2
        exact Nat.lt_of_le_of_lt (Nat.le_trans h2 h1) (Nat.pow_lt_pow_right (by decide) (by decide)))
      have sup : Sm (0 - (0 - t * ((i : Int) + 1)) / u) := Sm.of (by
        have h1 : t.natAbs * ((i : Int) + 1).natAbs ≤ 2 ^ 1000 * 2 ^ 60 := Nat.mul_le_mul (Nat.le_of_lt ht) (by omega)
        rw [← Nat.pow_add] at h1
        have h2 := ediv_abs (a := 0 - t * ((i : Int) + 1)) hu
        have h3 : (0 - t * ((i : Int) + 1)).natAbs = t.natAbs * ((i : Int) + 1).natAbs := by rw [← Int.natAbs_mul]; omega
        exact Nat.lt_of_le_of_lt (Nat.le_trans (by omega) h1) (Nat.pow_lt_pow_right (by decide) (by decide)))
      walk_at "rd"
      refine sp2 ⟨_, _, l, (t * ((i : Int) + 1) / u, (i : Int) + 1), rfl, rfl, seqT gh3 ha3, seqT gh3 hd3, ⟨bnd _ al.1, bn2 _ al.2, sdn, hm⟩, ?_⟩
      walk_at "rd"
      refine ifd (fun hc => ?_) (fun hc => ?_)
      · walk_at "rd"
        refine sp2 ⟨_, _, (0 - (0 - t * ((i : Int) + 1)) / u, (i : Int) + 1), r, rfl, rfl, seqT gh3 he3, seqT gh3 hb3, ⟨sup, hm, bnd _ au.1, bn2 _ au.2⟩, ?_⟩
        walk_at "rd"
        refine ifd (fun hc2 => ?_) (fun hc2 => ?_)
        · walk_at "rd"
          exact ⟨G3, _, _, _, _, _, go3, rfl, fun h => absurd h (by omega), fun _ => ⟨p1, p2, _, _, rfl, rfl, hd3, he3, lw.more hc, up.more hc2⟩⟩
        · exact ⟨G3, _, _, _, _, _, go3, rfl, fun h => absurd h (by omega), fun _ => ⟨p1, b, _, _, rfl, rfl, hd3, hb3, lw.more hc, up.keep hc2⟩⟩
      · walk_at "rd"
        refine sp2 ⟨_, _, (0 - (0 - t * ((i : Int) + 1)) / u, (i : Int) + 1), r, rfl, rfl, seqT gh3 he3, seqT gh3 hb3, ⟨sup, hm, bnd _ au.1, bn2 _ au.2⟩, ?_⟩
        walk_at "rd"
        refine ifd (fun hc2 => ?_) (fun hc2 => ?_)
        · walk_at "rd"
          exact ⟨G3, _, _, _, _, _, go3, rfl, fun h => absurd h (by omega), fun _ => ⟨a, p2, _, _, rfl, rfl, ha3, he3, lw.keep hc, up.more hc2⟩⟩
        · exact ⟨G3, _, _, _, _, _, go3, rfl, fun h => absurd h (by omega), fun _ => ⟨a, b, _, _, rfl, rfl, ha3, hb3, lw.keep hc, up.keep hc2⟩⟩
  · rintro σ H1 ⟨G1, vl, vu, v6, v7, v8, go1, rfl, z0, z1⟩
    have gh1 := go1.gh
    obtain ⟨a, b, l, r, rfl, rfl, ha1, hb1, lw, up⟩ := z1 (by omega)
    have hcast : (((min n u + 1 - 1).toNat : Nat) : Int) = min n u := by omega
    rw [hcast] at lw up
    have al := lw.abs hu
    have au := up.abs hu
    have l0 := lw.lo
    have r0 := up.lo
    have hmn : (min n u).natAbs ≤ n.natAbs := by omega
    have sm2 : ∀ z : Int, z.natAbs ≤ n.natAbs → Sm z := fun z hz => Sm.of (Nat.lt_of_le_of_lt hz (Nat.lt_of_lt_of_le (m := 2 ^ 60) (by omega) (Nat.pow_le_pow_right (by decide) (by decide))))
    walk_at "rd"
    refine sp2 ⟨_, _, rfl, rfl, by omega, sm2 _ (by omega), fun p1 hp1 => ?_⟩
    obtain ⟨G2, go2, gh2, s12, hd⟩ := go_new (o := .tup [.int (low2 l.1 l.2).1, .int (low2 l.1 l.2).2]) go1 hp1
    have hb2 := seqT s12 hb1
    walk_at "rd"
    refine sp2 ⟨_, _, rfl, rfl, by omega, sm2 _ (by omega), fun p2 hp2 => ?_⟩
    obtain ⟨G3, go3, gh3, s23, he⟩ := go_new (o := .tup [.int (low2 r.1 r.2).1, .int (low2 r.1 r.2).2]) go2 hp2
    walk_at "rd"
    intro p3 hp3
    obtain ⟨G4, go4, gh4, s34, hf⟩ := go_new (o := .tup [.ref p1, .ref p2]) go3 hp3
    have hd4 : SqT K G4 p1 [.int (low2 l.1 l.2).1, .int (low2 l.1 l.2).2] := seqT (s23.trans s34) (SqT.of hd)
    have he4 : SqT K G4 p2 [.int (low2 r.1 r.2).1, .int (low2 r.1 r.2).2] := seqT s34 (SqT.of he)
    refine k G4 _ _ (low2 l.1 l.2) (low2 r.1 r.2) go4 (.tup (SqT.of hf) (.cons (i2_dp hd4) (.cons (i2_dp he4) .nil))) (nb_of hu (by omega) lw up) ?_ ?_
    · exact Nat.le_trans (low2_abs (by omega)) (Nat.le_trans al.1 (Nat.mul_le_mul_left _ hmn))
    · exact Nat.le_trans (low2_abs (by omega)) (Nat.le_trans au.1 (Nat.mul_le_mul_left _ hmn))

end
end Dk
namespace Dk
open PySem PySem.Spec L2
local macro_rules | `(tactic| walk_at "sq") => `(tactic| first | assumption | exact SqT.of (by assumption) | exact SqL.of (by assumption) | exact SqT.of upd_same | exact SqL.of upd_same | exact seqT (by assumption) (by assumption) | exact Same.seq (by assumption) (by assumption))
local macro_rules | `(tactic| walk_at "rd") => `(tactic| repeat (first | refine ⟨_, rfl, ?_⟩ | refine ⟨_, _, rfl, rfl, ?_⟩ | refine ⟨_, _, rfl, ?_⟩ | refine ⟨rfl, ?_⟩ | refine ⟨_, _, _, _, rfl, rfl, by walk_at "sq", by rfl, ?_⟩ | refine ⟨_, _, rfl, by walk_at "sq", rfl, ?_⟩ | refine ⟨_, _, rfl, Or.inl ⟨_, by walk_at "sq", rfl⟩, ?_⟩ | refine ⟨_, _, rfl, Or.inr ⟨_, by walk_at "sq", rfl⟩, ?_⟩ | refine ⟨Nat.le_of_ble_eq_true rfl, ?_⟩))

section
variable {P : Program} {w : World} {K : PySem.W.Frag} {mg : Str → Option Value} {base : Heap}
def spBag (K : PySem.W.Frag) : Sp := Sp1 fun a H Q _ => ∃ (x : Addr) (ns : List Int), a = .ref x ∧ SqL K H x (ns.map V.int) ∧ ns.length ≤ 63 ∧
  ∀ (H' : Hp) (b g : Addr), Go [] H H H H' → H b = none → H g = none → BagAt H' b g 0 → Q (.ref b) H'
theorem sc__law_bag : FnScope ["script", "fold", "great", "cell"] ["script"] (defScope s__law_bag) := ⟨rfl, rfl, rfl, by decide +kernel, rfl, by decide +kernel, by decide +kernel⟩
theorem D__law_bag (T : Txt K mg) : Ok P w K mg base CX0 1 "_law_bag" ["script"] (spBag K) := by
  obtain ⟨fd, F⟩ := T.d__law_bag
  refine ⟨fd, F.ok sc__law_bag (fun _ _ _ _ h => by obtain ⟨_, rfl, _⟩ := sp1o h; rfl) (fun cdv A outer s H vs Q E hr h => ?_), T.g__law_bag, F.kp, F.bindsN fun _ _ _ _ _ _ us hl => match us, hl with | [_], _ => rfl⟩
  replace h := sp1o h
  obtain ⟨v0, rfl, h⟩ := h
  refine ⟨_, PSs.nox (pss_cons (ps_par (i := 1) (j := 2) (by rfl) sc__law_bag.nd rfl rfl (by decide) rfl rfl (pa_cons pe_int (pa_cons (pe_lst pa_nil) pa_nil)) (by rfl))
  (pss_cons (ps_for (by first | exact PassesOwn.never | exact passes_own) rfl (pi_list (pv 0)) (pg_name (i := 3) sc__law_bag.nd rfl (by first | exact Or.inl rfl | exact Or.inr rfl))
  (pss_cons (ps_set (i := 1) sc__law_bag.nd rfl (by first | exact Or.inl rfl | exact Or.inr rfl) (pe_op op_mod (pe_op op_add (pe_op op_mulW (pv 1) pe_int) (pv 3)) pe_int))
  (pss_one (ps_if (pt_cmpR op_ge (pe_callB call_abs (by rfl) T.f_abs (by decide +kernel) (pa_cons (pv 3) pa_nil)) (pe_op op_pow pe_int pe_int) (nomark _))
  (pss_one (ps_expr (pe_bm PySem.F.plainAttrs_list PySem.F.slot_list_append PySem.F.type_list_append mt_append (pv 2) (pa_cons (pe_callB call_abs (by rfl) T.f_abs (by decide +kernel) (pa_cons (pv 3) pa_nil)) pa_nil))))
  pss_nil))))
  (pss_one (ps_ret (pe_disp (pps_cons pe_str (pv 2) (pps_cons pe_str pe_int (pps_cons pe_str pe_int (pps_cons pe_str (pv 1) pps_nil)))) (by rfl) (by rfl) (fun z => by cases z) (by decide)))))), ?_⟩
  obtain ⟨x, ns, rfl, hx, hl, k⟩ := h
  walk_at "rd"
  intro g hg
  have go0 : Go [] H H H (upd H g (.lst [])) := (Go.refl (Same.refl H)).tmp hg
  walk_at "rd"
  refine ⟨⟨_, go0.gh.seq hx⟩, ?_⟩
  refine for_list (xs := ns.map V.int) (fun i σ H1 => ∃ (f : Int) (gr : List Int) (v3 : Option V), Go [] H H H H1 ∧ H1 g = some (.lst (gr.map V.int)) ∧ σ = [some (.ref x), some (.int f), some (.ref g), v3] ∧
    0 ≤ f ∧ f < 2305843009213693951 ∧ (∀ c ∈ gr, 0 ≤ c) ∧ gr.length ≤ i) ⟨11, [], none, go0, upd_same, rfl, by decide, by decide, by simp, Nat.le_refl _⟩ (fun i σ H1 _ ⟨f, gr, v3, go1, _⟩ => go1.gh.seq hx) ?_ ?_
  · rintro i y σ H1 hi ⟨f, gr, v3, go1, hg1, rfl, f0, f1, hc, hlen⟩
    have hi63 : i < 63 := by
      have q := (List.getElem?_eq_some_iff.mp hi).1
      rw [List.length_map] at q
      omega
    obtain ⟨u, rfl⟩ : ∃ u, y = V.int u := by
      rw [List.getElem?_map] at hi
      cases e : ns[i]? with
      | none => rw [e] at hi; cases hi
      | some u => rw [e] at hi; exact ⟨u, (Option.some.inj hi).symm⟩
    walk_at "rd"
    refine ⟨wide_mul (a := 70) (b := 70) (by omega) (by decide) (by decide) (by decide) (by decide), ?_⟩
    walk_at "rd"
    refine ⟨by show (0 : Int) < 2305843009213693951; decide, ?_⟩
    have m0 := Int.emod_nonneg (f * 1000003 + u) (b := 2305843009213693951) (by decide)
    have m1 := Int.emod_lt_of_pos (f * 1000003 + u) (b := 2305843009213693951) (by decide)
    walk_at "rd"
    refine ⟨by show CPow 10 18; exact ⟨by decide, by decide, by decide⟩, ?_⟩
    walk_at "rd"
    refine ifd (fun hb => ?_) (fun hb => ?_)
    · walk_at "rd"
      refine ⟨.inl ⟨rfl, _, SqL.of hg1⟩, ?_⟩
      walk_at "rd"
      refine ⟨_, _, _, rfl, rfl, hg1, slt (by rw [List.length_map]; omega), ?_⟩
      rw [abs_if]
      refine ⟨_, gr ++ [(u.natAbs : Int)], _, go1.set hg (.inr hg), by rw [upd_same, List.map_append]; rfl, rfl, m0, m1, ?_, by rw [List.length_append]; show _ + 1 ≤ _; omega⟩
      intro c h
      rcases List.mem_append.mp h with h | h
      · exact hc c h
      · have : c = (u.natAbs : Int) := by simpa using h
        omega
    · exact ⟨_, gr, _, go1, hg1, rfl, m0, m1, hc, by omega⟩
  · rintro σ H1 ⟨f, gr, v3, go1, hg1, rfl, f0, f1, hc, hlen⟩
    rw [List.length_map] at hlen
    walk_at "rd"
    intro b hb
    walk_at "rd"
    refine ⟨upd_same, [(kG, .ref g), (kL, .int 0), (kT, .int 0), (kF, .int f)], rfl, by show 4 ≤ 15; decide, ?_⟩
    rw [bag_new, upd_upd]
    have hbg : g ≠ b := ne_of_none hg1 hb
    exact k _ b g (go1.tmp hb) (go1.lv b hb) hg ⟨gr, 0, 0, f, upd_same, by rw [upd_ne hbg]; exact hg1, hc, by omega, by decide, by decide, by decide, f0, f1⟩
/-- a draw: any number from 0 below many -/
def spDraw : Sp := Sp2 fun a m H Q _ => ∃ (b g : Addr) (many : Int) (n : Nat), a = .ref b ∧ m = .int many ∧ BagAt H b g n ∧ n < 1000000 ∧ 0 < many ∧ Sm many ∧
  ∀ (H' : Hp) (r : Int), (∀ c o, c ≠ b → c ≠ g → H c = some o → H' c = some o) → (∀ c, H' c = none → H c = none) → BagAt H' b g (n + 1) → 0 ≤ r → r < many → Q (.int r) H'
theorem BagAt.ne {H : Hp} {b g : Addr} {n : Nat} (h : BagAt H b g n) : b ≠ g := by
  obtain ⟨gr, l, t, f, h1, h2, r⟩ := h.at_
  exact ne_of h1 h2 (by intro z; cases z)
theorem upd_lv {H : Hp} {b : Addr} {o u : HO} (h : H b = some u) : ∀ c, upd H b o c = none → H c = none := fun c e => by
  by_cases hc : c = b
  · rw [hc, upd_same] at e; cases e
  · rw [upd_ne hc] at e; exact e
theorem sc__law_draw : FnScope ["bag", "many", "drawn", "turn", "mixed"] ["bag", "many"] (defScope s__law_draw) := ⟨rfl, rfl, rfl, by decide +kernel, rfl, by decide +kernel, by decide +kernel⟩
theorem D__law_draw (T : Txt K mg) : Ok P w K mg base CX0 1 "_law_draw" ["bag", "many"] spDraw := by
  obtain ⟨fd, F⟩ := T.d__law_draw
  refine ⟨fd, F.ok sc__law_draw (fun _ _ _ _ h => by obtain ⟨_, _, rfl, _⟩ := sp2o h; rfl) (fun cdv A outer s H vs Q E hr h => ?_), T.g__law_draw, F.kp, F.bindsN fun _ _ _ _ _ _ us hl => match us, hl with | [_, _], _ => rfl⟩
  replace h := sp2o h
  obtain ⟨v0, v1, rfl, h⟩ := h
  refine ⟨_, PSs.nox (pss_mid (ps_if (PW.pt (pw_and (pt_cmpR op_lt (pe_dget (hu_of hr) (pv 0) pe_str (fun _ _ => rfl)) (pv 1) (nomark _)) (pw_and1 (pt_cmpR op_gt (pe_callB call_len (by rfl) T.f_len (by decide +kernel) (pa_cons (pe_dget (hu_of hr) (pv 0) pe_str (fun _ _ => rfl)) pa_nil)) pe_int (nomark _)))))
  (pss_one (ps_dput (hu_of hr) (pv 0) pe_str (pe_bm PySem.F.plainAttrs_list PySem.F.slot_list_pop PySem.F.type_list_pop mt_popAt (pe_dget (hu_of hr) (pv 0) pe_str (fun _ _ => rfl)) (pa_cons pe_int pa_nil)) rfl))
  pss_nil)
  (pss_cons (ps_if (pt_cmpR op_ge (pe_dget (hu_of hr) (pv 0) pe_str (fun _ _ => rfl)) (pv 1) (nomark _))
  (pss_cons (ps_set (i := 2) sc__law_draw.nd rfl (by first | exact Or.inl rfl | exact Or.inr rfl) (pe_op op_mod (pe_dget (hu_of hr) (pv 0) pe_str (fun _ _ => rfl)) (pv 1)))
  (pss_cons (ps_dput (hu_of hr) (pv 0) pe_str (pe_op op_fdivW (pe_dget (hu_of hr) (pv 0) pe_str (fun _ _ => rfl)) (pv 1)) rfl)
  (pss_one (ps_ret (pv 2)))))
  pss_nil)
  (pss_cons (ps_daug (hu_of hr) (pv 0) pe_str pe_int in_add (fun _ _ _ => rfl))
  (pss_cons (ps_set (i := 3) sc__law_draw.nd rfl (by first | exact Or.inl rfl | exact Or.inr rfl) (pe_dget (hu_of hr) (pv 0) pe_str (fun _ _ => rfl)))
  (pss_cons (ps_set (i := 4) sc__law_draw.nd rfl (by first | exact Or.inl rfl | exact Or.inr rfl) (pe_op op_add (pe_op op_mulW (pe_op op_add (pe_dget (hu_of hr) (pv 0) pe_str (fun _ _ => rfl)) (pe_op op_mulW pe_int (pv 3))) (pe_op op_pow (pe_op op_add (pv 3) pe_int) pe_int)) (pe_op op_mulW pe_int (pv 3))))
  (pss_one (ps_ret (pe_op op_mod (pe_op op_fdivW (pe_op op_mod (pe_op op_pow (pe_op op_mod (pv 4) pe_int) pe_int) (pe_op op_add (pe_op op_pow pe_int pe_int) pe_int)) pe_int) (pv 1))))))))), ?_⟩
  obtain ⟨b, g, many, n, rfl, rfl, hb, hn, h0, hs, k⟩ := h
  have hne := hb.ne
  obtain ⟨gr, l, t, f, h1, h2, hc, hl, l0, t0, tn, f0, f1⟩ := hb.at_
  refine ⟨fun σ' H' => ∃ (gr : List Int) (l t f : Int), σ' = [some (.ref b), some (.int many), none, none, none] ∧ (∀ c o, c ≠ b → c ≠ g → H c = some o → H' c = some o) ∧ (∀ c, H' c = none → H c = none) ∧
    H' b = some (.dK (bagD g l t f)) ∧ H' g = some (.lst (gr.map V.int)) ∧ (∀ c ∈ gr, 0 ≤ c) ∧ gr.length ≤ 63 ∧ 0 ≤ l ∧ 0 ≤ t ∧ t ≤ n ∧ 0 ≤ f ∧ f < 2305843009213693951, ?_, ?_⟩
  · walk_at "rd"
    refine ⟨_, _, rfl, dig (k := kL) h1 (bag_l _ _ _ _), ?_⟩
    walk_at "rd"
    refine ifd (fun hb => ?_) (fun hb => ?_)
    · walk_at "rd"
      refine ⟨_, _, rfl, dig (k := kG) h1 (bag_g _ _ _ _), ?_⟩
      walk_at "rd"
      refine ifd (fun hp => ?_) (fun hp => ?_)
      · obtain ⟨c, r, rfl⟩ : ∃ c r, gr = c :: r := by
          cases gr with
          | nil => exact absurd hp (by simp)
          | cons c r => exact ⟨c, r, rfl⟩
        walk_at "rd"
        refine ⟨_, _, rfl, dig (k := kG) h1 (bag_g _ _ _ _), ?_⟩
        refine ⟨.inl ⟨rfl, _, SqL.of h2⟩, ?_⟩
        refine ⟨g, _, 0, 0, .int c, rfl, rfl, h2, by decide, by decide, seqi (i := 0) (by simp), rfl, ?_⟩
        have h1' : upd H g (.lst (((c :: r).map V.int).eraseIdx 0)) b = some (.dK (bagD g l t f)) := by rw [upd_ne hne]; exact h1
        walk_at "rd"
        refine ⟨_, _, rfl, dip (k := kL) h1' (by show 4 ≤ 1000; decide) (bag_pl _ _ _ _ _), ?_⟩
        refine ⟨r, c, t, f, rfl, fun z o z1 z2 e => by rw [upd_ne z1, upd_ne z2]; exact e, fun z e => ?_, upd_same, by rw [upd_ne hne.symm, upd_same]; rfl, fun z h => hc z (List.mem_cons_of_mem _ h), ?_, hc c List.mem_cons_self, t0, tn, f0, f1⟩
        · exact upd_lv h2 z (upd_lv h1' z e)
        · have : (c :: r).length = r.length + 1 := rfl
          omega
      · exact ⟨gr, l, t, f, rfl, fun z o _ _ e => e, fun z e => e, h1, h2, hc, hl, l0, t0, tn, f0, f1⟩
    · exact ⟨gr, l, t, f, rfl, fun z o _ _ e => e, fun z e => e, h1, h2, hc, hl, l0, t0, tn, f0, f1⟩
  · clear h1 h2 hc hl l0 t0 tn f0 f1 hb gr l t f
    rintro σ' H' ⟨gr, l, t, f, rfl, kp, lv, h1, h2, hc, hl, l0, t0, tn, f0, f1⟩
    walk_at "rd"
    refine ⟨_, _, rfl, dig (k := kL) h1 (bag_l _ _ _ _), ?_⟩
    walk_at "rd"
    refine ifd (fun hb => ?_) (fun hb => ?_)
    · walk_at "rd"
      refine ⟨_, _, rfl, dig (k := kL) h1 (bag_l _ _ _ _), ?_⟩
      walk_at "rd"
      refine ⟨h0, ?_⟩
      walk_at "rd"
      refine ⟨_, _, rfl, dig (k := kL) h1 (bag_l _ _ _ _), ?_⟩
      walk_at "rd"
      refine ⟨Sm.div h0 hs, ?_⟩
      walk_at "rd"
      refine ⟨_, _, rfl, dip (k := kL) h1 (by show 4 ≤ 1000; decide) (bag_pl _ _ _ _ _), ?_⟩
      walk_at "rd"
      refine k _ _ (fun z o z1 z2 e => by rw [upd_ne z1]; exact kp z o z1 z2 e) (fun z e => lv z (upd_lv h1 z e)) ⟨gr, l / many, t, f, upd_same, by rw [upd_ne hne.symm]; exact h2, hc, hl, Int.ediv_nonneg l0 (by omega), t0, by omega, f0, f1⟩ (Int.emod_nonneg _ (by omega)) (Int.emod_lt_of_pos _ h0)
    · walk_at "rd"
      refine ⟨_, _, rfl, dig (k := kT) h1 (bag_t _ _ _ _), ?_⟩
      walk_at "rd"
      refine ⟨_, dip (k := kT) h1 (by show 4 ≤ 1000; decide) (bag_pt _ _ _ _ _), ?_⟩
      have h1' : upd H' b (.dK (bagD g l (t + 1) f)) b = some (.dK (bagD g l (t + 1) f)) := upd_same
      walk_at "rd"
      refine ⟨_, _, rfl, dig (k := kT) h1' (bag_t _ _ _ _), ?_⟩
      walk_at "rd"
      refine ⟨_, _, rfl, dig (k := kF) h1' (bag_f _ _ _ _), ?_⟩
      walk_at "rd"
      refine ⟨wide_mul (a := 64) (b := 64) (by decide) (by omega) (by decide) (by decide) (by decide), ?_⟩
      walk_at "rd"
      refine ⟨⟨by decide, by decide, by omega⟩, ?_⟩
      have hp2 : ((t + 1 + 29) ^ Int.toNat 2).natAbs < 2 ^ 64 := by
        have e : (t + 1 + 29) ^ Int.toNat 2 = (t + 1 + 29) * (t + 1 + 29) := by show (t + 1 + 29) ^ 2 = _; rw [Int.pow_succ, Int.pow_succ, Int.pow_zero, Int.one_mul]
        rw [e, Int.natAbs_mul]
        have : (t + 1 + 29).natAbs ≤ 2000000 := by omega
        exact Nat.lt_of_le_of_lt (Nat.mul_le_mul this this) (by decide)
      refine ⟨_, _, rfl, rfl, wide_mul (a := 64) (b := 64) (by omega) hp2 (by decide) (by decide) (by decide), ?_⟩
      walk_at "rd"
      refine ⟨wide_mul (a := 64) (b := 64) (by decide) (by omega) (by decide) (by decide) (by decide), ?_⟩
      walk_at "rd"
      refine ⟨by show (0 : Int) < 2305843009213693951; decide, ?_⟩
      generalize ((f + 17 * (t + 1)) * (t + 1 + 29) ^ Int.toNat 2 + 7919 * (t + 1)) = mixed
      have m0 := Int.emod_nonneg mixed (b := 2305843009213693951) (by decide)
      have m1 := Int.emod_lt_of_pos mixed (b := 2305843009213693951) (by decide)
      walk_at "rd"
      refine ⟨⟨by decide, by decide, by omega⟩, ?_⟩
      walk_at "rd"
      refine ⟨⟨by decide, by decide, by decide⟩, ?_⟩
      walk_at "rd"
      refine ⟨by show (0 : Int) < 10 ^ Int.toNat 18 + 9; decide, ?_⟩
      walk_at "rd"
      refine ⟨wide_div (b := 10) (by decide) (by decide) (by decide) (by decide), ?_⟩
      walk_at "rd"
      refine ⟨h0, ?_⟩
      refine k _ _ (fun z o z1 z2 e => by rw [upd_ne z1]; exact kp z o z1 z2 e) (fun z e => lv z (upd_lv h1 z e)) ⟨gr, l, t + 1, f, upd_same, by rw [upd_ne hne.symm]; exact h2, hc, hl, l0, by omega, by omega, f0, f1⟩ (Int.emod_nonneg _ (by omega)) (Int.emod_lt_of_pos _ h0)

/-- behind a draw -/
theorem Go.draw {G0 H0 G H H' : Hp} {b g : Addr} {ex : List Addr} (a : Go ex G0 H0 G H) (gb : G b = none) (gg : G g = none) (hb : b ∈ ex ∨ H0 b = none) (hg : g ∈ ex ∨ H0 g = none) (kp : ∀ c o, c ≠ b → c ≠ g → H c = some o → H' c = some o) (lv : ∀ c, H' c = none → H c = none) : Go ex G0 H0 G H' where
  gg := a.gg
  gh := fun c o e => kp c o (ne_of_none e gb) (ne_of_none e gg) (a.gh c o e)
  kp := fun c o hc e => by
    refine kp c o (fun z => ?_) (fun z => ?_) (a.kp c o hc e)
    · rcases hb with h | h
      · exact hc (z ▸ h)
      · rw [z, h] at e; cases e
    · rcases hg with h | h
      · exact hc (z ▸ h)
      · rw [z, h] at e; cases e
  lv := fun c e => a.lv c (lv c e)
  nw := a.nw
/-- what stands around a draw: G0 H0 at the entry -/
structure Dr (ex : List Addr) (G0 H0 G H : Hp) (b g : Addr) (n : Nat) : Prop where
  go : Go ex G0 H0 G H
  bag : BagAt H b g n
  gb : G b = none
  gg : G g = none
  eb : b ∈ ex ∨ H0 b = none
  eg : g ∈ ex ∨ H0 g = none
theorem Dr.gh {ex : List Addr} {G0 H0 G H : Hp} {b g : Addr} {n : Nat} (a : Dr ex G0 H0 G H b g n) : Same G H := a.go.gh
theorem Dr.draw {ex : List Addr} {G0 H0 G H : Hp} {b g : Addr} {n : Nat} {many : Int} {Q : VK} {E : XK} (a : Dr ex G0 H0 G H b g n) (hn : n < 1000000) (h0 : 0 < many) (hs : Sm many)
    (k : ∀ (H' : Hp) (r : Int), Dr ex G0 H0 G H' b g (n + 1) → (∀ c o, c ≠ b → c ≠ g → H c = some o → H' c = some o) → 0 ≤ r → r < many → Q (.int r) H') : spDraw [.ref b, .int many] H Q E :=
  sp2 ⟨b, g, many, n, rfl, rfl, a.bag, hn, h0, hs, fun H' r kp lv bag r0 r1 => k H' r ⟨a.go.draw a.gb a.gg a.eb a.eg kp lv, bag, a.gb, a.gg, a.eb, a.eg⟩ kp r0 r1⟩
/-- a new shared object -/
theorem Dr.new {ex : List Addr} {G0 H0 G H : Hp} {b g : Addr} {n : Nat} {p : Addr} {o : HO} (a : Dr ex G0 H0 G H b g n) (h : H p = none) :
    ∃ G2, Dr ex G0 H0 G2 (upd H p o) b g n ∧ Same G G2 ∧ G2 p = some o := by
  obtain ⟨G2, g2, _, s2, e2⟩ := go_new (o := o) a.go h
  obtain ⟨gr, l, t, f, h1, h2, _⟩ := a.bag.at_
  refine ⟨upd G p o, ⟨a.go.new h, a.bag.kept fun c u e => by rw [upd_ne (ne_of_none e h)]; exact e, ?_, ?_, a.eb, a.eg⟩, fun c u e => by rw [upd_ne (ne_of_none (a.go.gh c u e) h)]; exact e, upd_same⟩
  · rw [upd_ne (ne_of_none h1 h)]; exact a.gb
  · rw [upd_ne (ne_of_none h2 h)]; exact a.gg
/-- behind a def that leaves the bag alone -/
theorem Dr.go_ {ex : List Addr} {G0 H0 G H G' H' : Hp} {b g : Addr} {n : Nat} (a : Dr ex G0 H0 G H b g n) (h : Go [] G H G' H') : Dr ex G0 H0 G' H' b g n := by
  obtain ⟨gr, l, t, f, h1, h2, _⟩ := a.bag.at_
  exact ⟨a.go.trans h (fun _ z => nomatch z), a.bag.kept fun c o e => h.kp c o (fun z => nomatch z) e, h.nw b a.gb (by rw [h1]; simp), h.nw g a.gg (by rw [h2]; simp), a.eb, a.eg⟩
theorem Dr.more {ex : List Addr} {G0 H0 G H : Hp} {b g : Addr} {n m : Nat} (a : Dr ex G0 H0 G H b g n) (k : n ≤ m) : Dr ex G0 H0 G H b g m := ⟨a.go, a.bag.more k, a.gb, a.gg, a.eb, a.eg⟩
theorem at_in {l : List Int} {r : Int} (h0 : 0 ≤ r) (h1 : r < l.length) : ∃ v, atI (l.map V.int) r = some (.int v) ∧ v ∈ l := by
  obtain ⟨j, rfl⟩ : ∃ j : Nat, r = (j : Int) := ⟨r.toNat, by omega⟩
  have h2 : j < l.length := by omega
  refine ⟨l[j], atI_nat ?_, List.getElem_mem h2⟩
  rw [List.getElem?_map, List.getElem?_eq_getElem h2]
  rfl

def spDivi : Sp := Sp2 fun a b H Q _ => ∃ i j : Int, a = .int i ∧ b = .int j ∧ 0 < j ∧ Q (.int (Int.gcd i j)) H
theorem sc__law_divisor : FnScope ["one", "other"] ["one", "other"] (defScope s__law_divisor) := ⟨rfl, rfl, rfl, by decide +kernel, rfl, by decide +kernel, by decide +kernel⟩
theorem D__law_divisor (T : Txt K mg) : Ok P w K mg base CX0 1 "_law_divisor" ["one", "other"] spDivi := by
  obtain ⟨fd, F⟩ := T.d__law_divisor
  refine ⟨fd, F.ok sc__law_divisor (fun _ _ _ _ h => by obtain ⟨_, _, rfl, _⟩ := sp2o h; rfl) (fun cdv A outer s H vs Q E hr h => ?_), T.g__law_divisor, F.kp, F.bindsN fun _ _ _ _ _ _ us hl => match us, hl with | [_, _], _ => rfl⟩
  replace h := sp2o h
  obtain ⟨v0, v1, rfl, h⟩ := h
  refine ⟨_, PSs.nox (pss_cons (ps_while (by first | exact PassesOwn.never | exact passes_own) (pt_cmpR op_ne (pv 1) pe_int (nomark _))
  (pss_one (ps_par (i := 0) (j := 1) (by rfl) sc__law_divisor.nd rfl rfl (by decide) rfl rfl (pa_cons (pv 1) (pa_cons (pe_op op_mod (pv 0) (pv 1)) pa_nil)) (by rfl))))
  (pss_one (ps_ret (pe_callB call_abs (by rfl) T.f_abs (by decide +kernel) (pa_cons (pv 0) pa_nil))))), ?_⟩
  obtain ⟨i, j, rfl, rfl, hj, k⟩ := h
  have hj2 : ((j.toNat : Nat) : Int) = j := by omega
  refine ⟨fun m σ H' => H' = H ∧ ∃ (a : Int) (b : Nat), m = b ∧ σ = [some (.int a), some (.int b)] ∧ Int.gcd a b = Int.gcd i j, ⟨_, rfl, i, j.toNat, rfl, by rw [hj2]; rfl, by rw [hj2]⟩, ?_⟩
  rintro m σ H' ⟨rfl, a, b, rfl, rfl, hg⟩
  walk_at "rd"
  refine ifn (fun hb => ?_) (fun hb => ?_)
  · have hm : 0 < (m : Int) := by
      have : (m : Int) ≠ 0 := fun z => hb (by rw [z])
      omega
    refine ⟨fun σ' H2 => H2 = H' ∧ ∃ (a' : Int) (b' : Nat), b' < m ∧ σ' = [some (.int a'), some (.int b')] ∧ Int.gcd a' b' = Int.gcd i j, fun σ' H2 ⟨e, a', b', hl, e2, e3⟩ => ⟨b', hl, e, a', b', rfl, e2, e3⟩, ?_⟩
    walk_at "rd"
    refine ⟨hm, ?_⟩
    walk_at "rd"
    have e0 := Int.emod_nonneg a (b := (m : Int)) (by omega)
    have e1 := Int.emod_lt_of_pos a hm
    have e2 : (((a % (m : Int)).toNat : Nat) : Int) = a % (m : Int) := by omega
    refine ⟨(m : Int), (a % (m : Int)).toNat, by omega, by rw [e2]; rfl, ?_⟩
    have e3 := Int.gcd_add_mul_right_right (m : Int) (a % (m : Int)) (a / (m : Int))
    have e4 : a % (m : Int) + a / (m : Int) * (m : Int) = a := by
      have := Int.emod_add_mul_ediv a (m : Int)
      rw [Int.mul_comm (m : Int)] at this
      exact this
    rw [e4] at e3
    rw [e2, ← hg, Int.gcd_comm a, e3]
  · have hm : m = 0 := by
      have := V.int.inj hb
      omega
    subst hm
    walk_at "rd"
    rw [abs_if]
    have : (a.natAbs : Int) = Int.gcd i j := by
      rw [← hg]
      show (a.natAbs : Int) = ((Int.gcd a 0 : Nat) : Int)
      rw [Int.gcd_zero_right]
    rw [this]
    exact k
theorem sc__law_lowest : FnScope ["top", "under", "divisor"] ["top", "under"] (defScope s__law_lowest) := ⟨rfl, rfl, rfl, by decide +kernel, rfl, by decide +kernel, by decide +kernel⟩
theorem D__law_lowest (T : Txt K mg) : Ok P w K mg base CX0 2 "_law_lowest" ["top", "under"] spLowest := by
  obtain ⟨fd, F⟩ := T.d__law_lowest
  refine ⟨fd, F.ok sc__law_lowest (fun _ _ _ _ h => by obtain ⟨_, _, rfl, _⟩ := sp2o h; rfl) (fun cdv A outer s H vs Q E hr h => ?_), T.g__law_lowest, F.kp, F.bindsN fun _ _ _ _ _ _ us hl => match us, hl with | [_, _], _ => rfl⟩
  replace h := sp2o h
  obtain ⟨v0, v1, rfl, h⟩ := h
  refine ⟨_, PSs.nox (pss_cons (ps_set (i := 2) sc__law_lowest.nd rfl (by first | exact Or.inl rfl | exact Or.inr rfl) (pe_callO (D__law_divisor T) (hr.mono (by decide)) rfl pass0 (pa_cons (pv 0) (pa_cons (pv 1) pa_nil))))
  (pss_one (ps_ret (pe_tup (pa_cons (pe_op op_fdivW (pv 0) (pv 2)) (pa_cons (pe_op op_fdivW (pv 1) (pv 2)) pa_nil)))))), ?_⟩
  obtain ⟨i, j, rfl, rfl, hj, hs, k⟩ := h
  walk_at "rd"
  refine sp2 ⟨_, _, rfl, rfl, hj, ?_⟩
  walk_at "rd"
  refine ⟨Sm.div (gcd_pos hj) (gcd_sm hj hs), ?_⟩
  walk_at "rd"
  refine ⟨Sm.div (gcd_pos hj) (gcd_sm hj hs), ?_⟩
  exact ⟨sz2, fun p hp => k p hp⟩

theorem sc__law_below : FnScope ["one", "other"] ["one", "other"] (defScope s__law_below) := ⟨rfl, rfl, rfl, by decide +kernel, rfl, by decide +kernel, by decide +kernel⟩
theorem D__law_below (T : Txt K mg) : Ok P w K mg base CX0 1 "_law_below" ["one", "other"] (spBelow K) := by
  obtain ⟨fd, F⟩ := T.d__law_below
  refine ⟨fd, F.ok sc__law_below (fun _ _ _ _ h => by obtain ⟨_, _, rfl, _⟩ := sp2o h; rfl) (fun cdv A outer s H vs Q E hr h => ?_), T.g__law_below, F.kp, F.bindsN fun _ _ _ _ _ _ us hl => match us, hl with | [_, _], _ => rfl⟩
  replace h := sp2o h
  obtain ⟨v0, v1, rfl, h⟩ := h
  refine ⟨_, PSs.nox (pss_one (ps_ret (pe_cmpR op_lt (pe_op op_mulW (pe_ix ix_tup (pv 0) pe_int (fun _ _ => rfl)) (pe_ix ix_tup (pv 1) pe_int (fun _ _ => rfl))) (pe_op op_mulW (pe_ix ix_tup (pv 1) pe_int (fun _ _ => rfl)) (pe_ix ix_tup (pv 0) pe_int (fun _ _ => rfl))) (nomark _)))), ?_⟩
  obtain ⟨x, y, p, q, rfl, rfl, hx, hy, ⟨s1, s2, s3, s4⟩, k⟩ := h
  walk_at "rd"
  refine ⟨Sm.mul s1 s4, ?_⟩
  walk_at "rd"
  refine ⟨Sm.mul s3 s2, ?_⟩
  walk_at "rd"
  exact k

theorem pow_sm {i : Int} {n : Nat} (h : i.natAbs < 2 ^ n) (hn : n ≤ 3000) : Sm i := Sm.of (Nat.lt_of_lt_of_le h (Nat.pow_le_pow_right (by decide) hn))
theorem nb_sm {t n z : Int} (ht : t.natAbs < 2 ^ 1000) (hn : n.natAbs ≤ 2 ^ 60) (h : z.natAbs ≤ t.natAbs * n.natAbs) : Sm z := by
  have h1 : t.natAbs * n.natAbs ≤ 2 ^ 1000 * 2 ^ 60 := Nat.mul_le_mul (Nat.le_of_lt ht) hn
  rw [← Nat.pow_add] at h1
  exact Sm.of (Nat.lt_of_le_of_lt (Nat.le_trans h h1) (Nat.pow_lt_pow_right (by decide) (by decide)))
/-- a fraction in lowest terms and a bottom from 1 on -/
structure FrN (t u n : Int) : Prop where
  n1 : 1 ≤ n
  n2 : n < 2 ^ 60
  u0 : 0 < u
  ht : t.natAbs < 2 ^ 1000
  hu : u.natAbs < 2 ^ 1000
  gcd : Int.gcd t u = 1
def spRight (K : PySem.W.Frag) : Sp := Sp2 fun a b H Q _ => ∃ (G : Hp) (t u n : Int), Same G H ∧ Dp K G a (dI2 (t, u)) ∧ b = .int n ∧ FrN t u n ∧ ∀ G' H', Go [] G H G' H' → Q (.bl true) H'
theorem dp_two {K : PySem.W.Frag} {G : Hp} {r : V} {p q : Int × Int} (h : Dp K G r (.tuple [dI2 p, dI2 q])) : ∃ c a b, r = .ref c ∧ SqT K G c [.ref a, .ref b] ∧ SqT K G a [.int p.1, .int p.2] ∧ SqT K G b [.int q.1, .int q.2] := by
  obtain ⟨c, xs, rfl, h1, h2⟩ := dp_tup h
  obtain ⟨x, r, rfl, hx, h2⟩ := dpa_cons h2
  obtain ⟨y, r, rfl, hy, h2⟩ := dpa_cons h2
  obtain rfl := dpa_nil h2
  obtain ⟨a, rfl, ha⟩ := dp_i2 hx
  obtain ⟨b, rfl, hb⟩ := dp_i2 hy
  exact ⟨c, a, b, rfl, h1, ha, hb⟩
theorem eqv_i2 (p : Int × Int) : PyData.eqv (dI2 p) (dI2 p) = true := by
  rw [SeqAt.eqv_refl]
  rfl
theorem sh_i2 (p : Int × Int) : SeqAt.shaped (dI2 p) = true := rfl
theorem sc__law_right : FnScope ["pace", "most", "lower", "upper"] ["pace", "most"] (defScope s__law_right) := ⟨rfl, rfl, rfl, by decide +kernel, rfl, by decide +kernel, by decide +kernel⟩
theorem D__law_right (T : Txt K mg) : Ok P w K mg base CX0 4 "_law_right" ["pace", "most"] (spRight K) := by
  obtain ⟨fd, F⟩ := T.d__law_right
  refine ⟨fd, F.ok sc__law_right (fun _ _ _ _ h => by obtain ⟨_, _, rfl, _⟩ := sp2o h; rfl) (fun cdv A outer s H vs Q E hr h => ?_), T.g__law_right, F.kp, F.bindsN fun _ _ _ _ _ _ us hl => match us, hl with | [_, _], _ => rfl⟩
  replace h := sp2o h
  obtain ⟨v0, v1, rfl, h⟩ := h
  refine ⟨_, PSs.nox (pss_cons (ps_asg (pe_callO (D_neighbours T) (hr.mono (by decide)) rfl passL (pa_cons (pv 0) (pa_cons (pv 1) pa_nil))) (pg_tup rfl (pgs_cons (pg_name (i := 2) sc__law_right.nd rfl (by first | exact Or.inl rfl | exact Or.inr rfl)) (pgs_cons (pg_name (i := 3) sc__law_right.nd rfl (by first | exact Or.inl rfl | exact Or.inr rfl)) pgs_nil))))
  (pss_cons (ps_if (pt_cmpR op_le (pe_ix ix_tup (pv 0) pe_int (fun _ _ => rfl)) (pv 1) (nomark _))
  (pss_one (ps_ret (pe_and (pe_cmpR (op_eqD hr.units) (pv 2) (pv 0) (nomark _)) (pe_one (pe_cmpR (op_eqD hr.units) (pv 3) (pv 0) (nomark _))))))
  pss_nil)
  (pss_cons (ps_if (PW.pt (pw_or (pt_cmpR op_ne (pe_op op_sub (pe_op op_mulW (pe_ix ix_tup (pv 3) pe_int (fun _ _ => rfl)) (pe_ix ix_tup (pv 2) pe_int (fun _ _ => rfl))) (pe_op op_mulW (pe_ix ix_tup (pv 2) pe_int (fun _ _ => rfl)) (pe_ix ix_tup (pv 3) pe_int (fun _ _ => rfl)))) pe_int (nomark _)) (pw_or1 (pt_cmpR op_le (pe_op op_add (pe_ix ix_tup (pv 2) pe_int (fun _ _ => rfl)) (pe_ix ix_tup (pv 3) pe_int (fun _ _ => rfl))) (pv 1) (nomark _)))))
  (pss_one (ps_ret pe_bl))
  pss_nil)
  (pss_cons (ps_if (PW.pt (pw_or (pt_cmpR op_lt (pe_callB (call_min2 rfl) (by rfl) T.f_min (by decide +kernel) (pa_cons (pe_ix ix_tup (pv 2) pe_int (fun _ _ => rfl)) (pa_cons (pe_ix ix_tup (pv 3) pe_int (fun _ _ => rfl)) pa_nil))) pe_int (nomark _)) (pw_or1 (pt_cmpR op_gt (pe_callB (call_max2 rfl) (by rfl) T.f_max (by decide +kernel) (pa_cons (pe_ix ix_tup (pv 2) pe_int (fun _ _ => rfl)) (pa_cons (pe_ix ix_tup (pv 3) pe_int (fun _ _ => rfl)) pa_nil))) (pv 1) (nomark _)))))
  (pss_one (ps_ret pe_bl))
  pss_nil)
  (pss_one (ps_ret (pe_and (pe_callO (D__law_below T) (hr.mono (by decide)) rfl pass0 (pa_cons (pv 2) (pa_cons (pv 0) pa_nil))) (pe_one (pe_callO (D__law_below T) (hr.mono (by decide)) rfl pass0 (pa_cons (pv 0) (pa_cons (pv 3) pa_nil))))))))))), ?_⟩
  obtain ⟨G, t, u, n, gh, ha, rfl, ⟨n1, n2, u0, ht, hu, hg⟩, k⟩ := h
  obtain ⟨x, rfl, hx⟩ := dp_i2 ha
  walk_at "rd"
  refine sp2 ⟨G, t, u, n, gh, ha, rfl, fun z => absurd z (by omega), fun _ => ⟨u0, ht, hu, n2, fun G1 H1 r lo hi go1 hr nb bl bh => ?_⟩⟩
  have gh1 := go1.gh
  obtain ⟨c, al, ar, rfl, hc, hl, hh⟩ := dp_two hr
  have hx1 := seqT go1.gg hx
  walk_at "rd"
  refine ifd (fun hun => ?_) (fun hun => ?_)
  · obtain ⟨e1, e2⟩ := nb.self hg u0 hun
    subst e1
    have e3 : hi = (t, u) := e2
    subst e3
    walk_at "rd"
    refine ⟨dI2 (t, u), dI2 (t, u), i2_dp (seqT gh1 hl), i2_dp (seqT gh1 hx1), rfl, rfl, ?_⟩
    rw [eqv_i2]
    walk_at "rd"
    refine ⟨dI2 (t, u), dI2 (t, u), i2_dp (seqT gh1 hh), i2_dp (seqT gh1 hx1), rfl, rfl, ?_⟩
    rw [eqv_i2]
    exact k _ _ go1
  · obtain ⟨d1, d2, d3, d4⟩ := nb.next hg n1 (by omega)
    have s1 : Sm lo.1 := nb_sm ht (by omega) bl
    have s3 : Sm hi.1 := nb_sm ht (by omega) bh
    have s2 : Sm lo.2 := pow_sm (n := 61) (by have := nb.l1; have := nb.l2; omega) (by decide)
    have s4 : Sm hi.2 := pow_sm (n := 61) (by have := nb.r1; have := nb.r2; omega) (by decide)
    walk_at "rd"
    refine ⟨Sm.mul s3 s2, ?_⟩
    walk_at "rd"
    refine ⟨Sm.mul s1 s4, ?_⟩
    walk_at "rd"
    refine ifn (fun z => absurd (show V.int (hi.1 * lo.2 - lo.1 * hi.2) = V.int 1 by rw [d1]) z) (fun _ => ?_)
    walk_at "rd"
    refine ifd (fun z => absurd z (by omega)) (fun _ => ?_)
    have l1 := nb.l1
    have l2 := nb.l2
    have r1 := nb.r1
    have r2 := nb.r2
    walk_at "rd"
    refine ifd (fun z => absurd z (by split <;> omega)) (fun _ => ?_)
    walk_at "rd"
    refine ifd (fun z => absurd z (by split <;> omega)) (fun _ => ?_)
    walk_at "rd"
    refine sp2 ⟨_, _, lo, (t, u), rfl, rfl, seqT gh1 hl, seqT gh1 hx1, ⟨s1, s2, pow_sm ht (by decide), pow_sm hu (by decide)⟩, ?_⟩
    rw [decide_eq_true d3]
    walk_at "rd"
    refine sp2 ⟨_, _, (t, u), hi, rfl, rfl, seqT gh1 hx1, seqT gh1 hh, ⟨pow_sm ht (by decide), pow_sm hu (by decide), s3, s4⟩, ?_⟩
    rw [decide_eq_true d4]
    exact k _ _ go1

end
end Dk
namespace Dk
open PySem PySem.Spec L2
local macro_rules | `(tactic| walk_at "sq") => `(tactic| first | assumption | exact SqT.of (by assumption) | exact SqL.of (by assumption) | exact SqT.of upd_same | exact SqL.of upd_same | exact seqT (by assumption) (by assumption) | exact Same.seq (by assumption) (by assumption))
local macro_rules | `(tactic| walk_at "rd") => `(tactic| repeat (first | refine ⟨_, rfl, ?_⟩ | refine ⟨_, _, rfl, rfl, ?_⟩ | refine ⟨_, _, rfl, ?_⟩ | refine ⟨rfl, ?_⟩ | refine ⟨_, _, _, _, rfl, rfl, by walk_at "sq", by rfl, ?_⟩ | refine ⟨_, _, rfl, by walk_at "sq", rfl, ?_⟩ | refine ⟨_, _, rfl, Or.inl ⟨_, by walk_at "sq", rfl⟩, ?_⟩ | refine ⟨_, _, rfl, Or.inr ⟨_, by walk_at "sq", rfl⟩, ?_⟩ | refine ⟨Nat.le_of_ble_eq_true rfl, ?_⟩))

section
variable {P : Program} {w : World} {K : PySem.W.Frag} {mg : Str → Option Value} {base : Heap}
def spRefused (K : PySem.W.Frag) : Sp := Sp2 fun a b H Q _ => ∃ (G : Hp) (t u n : Int), Same G H ∧ Dp K G a (dI2 (t, u)) ∧ b = .int n ∧ n < 1 ∧ ∀ G' H', Go [] G H G' H' → Q (.bl true) H'
theorem sc__law_refused : FnScope ["pace", "most", "e"] ["pace", "most"] (defScope s__law_refused) := ⟨rfl, rfl, rfl, by decide +kernel, rfl, by decide +kernel, by decide +kernel⟩
theorem D__law_refused (T : Txt K mg) : Ok P w K mg base CX0 4 "_law_refused" ["pace", "most"] (spRefused K) := by
  obtain ⟨fd, F⟩ := T.d__law_refused
  refine ⟨fd, F.ok sc__law_refused (fun _ _ _ _ h => by obtain ⟨_, _, rfl, _⟩ := sp2o h; rfl) (fun cdv A outer s H vs Q E hr h => ?_), T.g__law_refused, F.kp, F.bindsN fun _ _ _ _ _ _ us hl => match us, hl with | [_, _], _ => rfl⟩
  replace h := sp2o h
  obtain ⟨v0, v1, rfl, h⟩ := h
  refine ⟨_, PSs.nox (pss_cons (ps_try_as (i := 2) rfl rfl sc__law_refused.nd rfl rfl ⟨rfl, by decide, .inl T.k_DialError⟩ takes0 (fun W pn xe tk _ => (pss_one (ps_expr (pe_callSO (D_neighbours T) (hr.mono (by decide)) rfl (fun σ => passAt tk σ) (pa_cons (pv 0) (pa_cons (pv 1) pa_nil))))))
  (fun a oe cls d pn hz hf => (pss_cons (ps_if (pt_val (pe_callB (call_isX hz hf) (by rfl) T.f_isinstance (by decide +kernel) (pa_cons (pv 2) (pa_cons (pe_tup (pa_cons (pe_glob (v := .ref (He.ga K "Clash")) rfl T.k_Clash rfl) (pa_cons (pe_glob (v := .ref (He.ga K "NoLength")) rfl T.k_NoLength rfl) (pa_cons (pe_glob (v := .ref (He.ga K "NoLook")) rfl T.k_NoLook rfl) (pa_cons (pe_glob (v := .ref (He.ga K "NoRing")) rfl T.k_NoRing rfl) (pa_cons (pe_glob (v := .ref (He.ga K "NoRound")) rfl T.k_NoRound rfl) (pa_cons (pe_glob (v := .ref (He.ga K "NoSide")) rfl T.k_NoSide rfl) (pa_cons (pe_glob (v := .ref (He.ga K "NoSteps")) rfl T.k_NoSteps rfl) (pa_cons (pe_glob (v := .ref (He.ga K "NoText")) rfl T.k_NoText rfl) (pa_cons (pe_glob (v := .ref (He.ga K "NoUses")) rfl T.k_NoUses rfl) (pa_cons (pe_glob (v := .ref (He.ga K "NoWord")) rfl T.k_NoWord rfl) pa_nil))))))))))) pa_nil))))
  (pss_one (ps_ret pe_bl))
  pss_nil)
  (pss_one (ps_ret (pe_and (pe_callB (call_isX hz hf) (by rfl) T.f_isinstance (by decide +kernel) (pa_cons (pv 2) (pa_cons (pe_glob (v := .ref (He.ga K "NoBottom")) rfl T.k_NoBottom rfl) pa_nil))) (pe_and (pe_callB (call_isX hz hf) (by rfl) T.f_isinstance (by decide +kernel) (pa_cons (pv 2) (pa_cons (pe_bltn (v := .ty "ValueError") (by rfl) T.f_ValueError (by decide +kernel) rfl) pa_nil))) (pe_one (pe_cmpR op_eq (pe_wh hz hf (pv 2)) (pv 1) (nomark _))))))))))
  (pss_one (ps_ret pe_bl))), ?_⟩
  obtain ⟨G, t, u, n, gh, ha, rfl, hn, k⟩ := h
  walk_at "rd"
  refine sp2 ⟨G, t, u, n, gh, ha, rfl, fun _ d hd => ?_, fun z => absurd z (by omega)⟩
  refine ⟨true, T.m_exm, fun _ a ha => ?_, fun z => nomatch z⟩
  walk_at "rd"
  intro p hp
  have go2 : Go [] G H G (upd (upd H d (.xd [("what", .int n)])) p (.tup (([He.ga K "Clash", He.ga K "NoLength", He.ga K "NoLook", He.ga K "NoRing", He.ga K "NoRound", He.ga K "NoSide", He.ga K "NoSteps", He.ga K "NoText", He.ga K "NoUses", He.ga K "NoWord"] : List Addr).map V.ref))) := ((Go.refl gh).tmp hd).tmp hp
  have hdp : d ≠ p := fun z => by
    rw [z, upd_same] at hp
    cases hp
  have hdd : (upd (upd H d (.xd [("what", .int n)])) p (.tup (([He.ga K "Clash", He.ga K "NoLength", He.ga K "NoLook", He.ga K "NoRing", He.ga K "NoRound", He.ga K "NoSide", He.ga K "NoSteps", He.ga K "NoText", He.ga K "NoUses", He.ga K "NoWord"] : List Addr).map V.ref))) d = some (.xd [("what", .int n)]) := by rw [upd_ne hdp, upd_same]
  refine ⟨He.ga K "NoBottom", _, _, d, _, rfl, rfl, T.x_NoBottom.ec, rfl, hdd, .inr ⟨p, [He.ga K "Clash", He.ga K "NoLength", He.ga K "NoLook", He.ga K "NoRing", He.ga K "NoRound", He.ga K "NoSide", He.ga K "NoSteps", He.ga K "NoText", He.ga K "NoUses", He.ga K "NoWord"], rfl, SqT.of upd_same, T.m_isn⟩, ?_⟩
  walk_at "rd"
  refine ⟨He.ga K "NoBottom", _, _, d, _, rfl, rfl, T.x_NoBottom.ec, rfl, hdd, .inl ⟨_, fun u h => h, T.m_iss⟩, ?_⟩
  walk_at "rd"
  refine ⟨He.ga K "NoBottom", _, _, d, _, rfl, rfl, T.x_NoBottom.ec, rfl, hdd, .inl ⟨_, fun u h => h, T.m_isv⟩, ?_⟩
  walk_at "rd"
  refine ⟨T.x_NoBottom.xf, T.x_NoBottom.noW, d, _, .int n, rfl, hdd, rfl, ?_⟩
  walk_at "rd"
  have e : decide (V.int n = V.int n) = true := decide_eq_true rfl
  rw [e]
  exact k _ _ go2

end
end Dk
namespace Dk
open PySem PySem.Spec L2
local macro_rules | `(tactic| walk_at "sq") => `(tactic| first | assumption | exact SqT.of (by assumption) | exact SqL.of (by assumption) | exact SqT.of upd_same | exact SqL.of upd_same | exact seqT (by assumption) (by assumption) | exact Same.seq (by assumption) (by assumption))
local macro_rules | `(tactic| walk_at "rd") => `(tactic| repeat (first | refine ⟨_, rfl, ?_⟩ | refine ⟨_, _, rfl, rfl, ?_⟩ | refine ⟨_, _, rfl, ?_⟩ | refine ⟨rfl, ?_⟩ | refine ⟨_, _, _, _, rfl, rfl, by walk_at "sq", by rfl, ?_⟩ | refine ⟨_, _, rfl, by walk_at "sq", rfl, ?_⟩ | refine ⟨_, _, rfl, Or.inl ⟨_, by walk_at "sq", rfl⟩, ?_⟩ | refine ⟨_, _, rfl, Or.inr ⟨_, by walk_at "sq", rfl⟩, ?_⟩ | refine ⟨Nat.le_of_ble_eq_true rfl, ?_⟩))

section
variable {P : Program} {w : World} {K : PySem.W.Frag} {mg : Str → Option Value} {base : Heap}
def spLaw (K : PySem.W.Frag) : Sp := Sp1 fun a H Q _ => ∃ (x : Addr) (ns : List Int), a = .ref x ∧ SqL K H x (ns.map V.int) ∧ ns.length ≤ 63 ∧ ∀ H', Q (.bl true) H'
theorem in2 {v a b : Int} (h : v ∈ ([a, b] : List Int)) : v = a ∨ v = b := by simpa using h
theorem in3 {v a b c : Int} (h : v ∈ ([a, b, c] : List Int)) : v = a ∨ v = b ∨ v = c := by simpa using h
theorem sm_c {i : Int} (h : -(10 ^ 100) ≤ i ∧ i ≤ 10 ^ 100) : Sm i := pow_sm (n := 400) (by omega) (by decide)
theorem p59 : (10 : Int) ^ Int.toNat 59 = 10 ^ 59 := rfl
theorem p29 : (10 : Int) ^ Int.toNat 29 = 10 ^ 29 := rfl
theorem sc_law : FnScope ["script", "bag", "turn", "top", "pace", "most", "few", "many"] ["script"] (defScope s_law) := ⟨rfl, rfl, rfl, by decide +kernel, rfl, by decide +kernel, by decide +kernel⟩
theorem D_law (T : Txt K mg) {fd : FuncData} (F : FunD K "law" "law" (defArgs s_law) (defBody s_law) (defScope s_law) [] [] (He.fAd K ("law", none)) fd) : FnOk P w K mg base CX0 5 (He.ga K "law") fd ["script"] (spLaw K) := by
  refine F.ok sc_law (fun _ _ _ _ h => by obtain ⟨_, rfl, _⟩ := sp1o h; rfl) (fun cdv A outer s H vs Q E hr h => ?_)
  replace h := sp1o h
  obtain ⟨v0, rfl, h⟩ := h
  refine ⟨_, PSs.nox (pss_cons (ps_set (i := 1) sc_law.nd rfl (by first | exact Or.inl rfl | exact Or.inr rfl) (pe_callO (D__law_bag T) (hr.mono (by decide)) rfl pass0 (pa_cons (pv 0) pa_nil)))
  (pss_cons (ps_for (by first | exact PassesOwn.never | exact passes_own) rfl (pi_range1 rfl T.f_range (pa_cons (pe_op op_add pe_int (pe_callB (call_min2 rfl) (by rfl) T.f_min (by decide +kernel) (pa_cons pe_int (pa_cons (pe_callB call_len (by rfl) T.f_len (by decide +kernel) (pa_cons (pv 0) pa_nil)) pa_nil)))) pa_nil)) (pg_name (i := 2) sc_law.nd rfl (by first | exact Or.inl rfl | exact Or.inr rfl))
  (pss_cons (ps_set (i := 3) sc_law.nd rfl (by first | exact Or.inl rfl | exact Or.inr rfl) (pe_op op_mulW (pe_callO (D__law_draw T) (hr.mono (by decide)) rfl pass0 (pa_cons (pv 1) (pa_cons (pe_ix ix_tup (pe_tup (pa_cons pe_int (pa_cons (pe_op op_pow pe_int pe_int) pa_nil))) (pe_callO (D__law_draw T) (hr.mono (by decide)) rfl pass0 (pa_cons (pv 1) (pa_cons pe_int pa_nil))) (fun _ _ => rfl)) pa_nil))) (pe_ix ix_tup (pe_tup (pa_cons pe_int (pa_cons (pe_un un_neg pe_int) pa_nil))) (pe_callO (D__law_draw T) (hr.mono (by decide)) rfl pass0 (pa_cons (pv 1) (pa_cons pe_int pa_nil))) (fun _ _ => rfl))))
  (pss_cons (ps_set (i := 4) sc_law.nd rfl (by first | exact Or.inl rfl | exact Or.inr rfl) (pe_callO (D__law_lowest T) (hr.mono (by decide)) rfl pass0 (pa_cons (pv 3) (pa_cons (pe_op op_add pe_int (pe_callO (D__law_draw T) (hr.mono (by decide)) rfl pass0 (pa_cons (pv 1) (pa_cons (pe_ix ix_tup (pe_tup (pa_cons pe_int (pa_cons pe_int (pa_cons (pe_op op_pow pe_int pe_int) pa_nil)))) (pe_callO (D__law_draw T) (hr.mono (by decide)) rfl pass0 (pa_cons (pv 1) (pa_cons pe_int pa_nil))) (fun _ _ => rfl)) pa_nil)))) pa_nil))))
  (pss_cons (ps_set (i := 5) sc_law.nd rfl (by first | exact Or.inl rfl | exact Or.inr rfl) (pe_op op_add pe_int (pe_callO (D__law_draw T) (hr.mono (by decide)) rfl pass0 (pa_cons (pv 1) (pa_cons (pe_ix ix_tup (pe_tup (pa_cons pe_int (pa_cons pe_int (pa_cons pe_int pa_nil)))) (pe_callO (D__law_draw T) (hr.mono (by decide)) rfl pass0 (pa_cons (pv 1) (pa_cons pe_int pa_nil))) (fun _ _ => rfl)) pa_nil)))))
  (pss_cons (ps_if (PW.pt (pw_or (pt_not (pt_val (pe_callO (D__law_right T) (hr.mono (by decide)) rfl pass0 (pa_cons (pv 4) (pa_cons (pv 5) pa_nil))))) (pw_or1 (pt_not (pt_val (pe_callO (D__law_right T) (hr.mono (by decide)) rfl pass0 (pa_cons (pv 4) (pa_cons (pe_op op_add pe_int (pe_callO (D__law_draw T) (hr.mono (by decide)) rfl pass0 (pa_cons (pv 1) (pa_cons (pv 5) pa_nil)))) pa_nil))))))))
  (pss_one (ps_ret pe_bl))
  pss_nil)
  (pss_cons (ps_par (i := 6) (j := 7) (by rfl) sc_law.nd rfl rfl (by decide) rfl rfl (pa_cons (pe_callO (D_neighbours T) (hr.mono (by decide)) rfl passL (pa_cons (pv 4) (pa_cons (pe_op op_add pe_int (pe_op op_fdivW (pv 5) pe_int)) pa_nil))) (pa_cons (pe_callO (D_neighbours T) (hr.mono (by decide)) rfl passL (pa_cons (pv 4) (pa_cons (pv 5) pa_nil))) pa_nil)) (by rfl))
  (pss_cons (ps_if (PW.pt (pw_or (pt_val (pe_callO (D__law_below T) (hr.mono (by decide)) rfl pass0 (pa_cons (pe_ix ix_tup (pv 7) pe_int (fun _ _ => rfl)) (pa_cons (pe_ix ix_tup (pv 6) pe_int (fun _ _ => rfl)) pa_nil)))) (pw_or1 (pt_val (pe_callO (D__law_below T) (hr.mono (by decide)) rfl pass0 (pa_cons (pe_ix ix_tup (pv 6) pe_int (fun _ _ => rfl)) (pa_cons (pe_ix ix_tup (pv 7) pe_int (fun _ _ => rfl)) pa_nil)))))))
  (pss_one (ps_ret pe_bl))
  pss_nil)
  (pss_one (ps_if (pt_not (pt_val (pe_callO (D__law_refused T) (hr.mono (by decide)) rfl pass0 (pa_cons (pv 4) (pa_cons (pe_op op_sub pe_int (pe_ix ix_tup (pe_tup (pa_cons pe_int (pa_cons pe_int (pa_cons (pe_op op_pow pe_int pe_int) pa_nil)))) (pe_callO (D__law_draw T) (hr.mono (by decide)) rfl pass0 (pa_cons (pv 1) (pa_cons pe_int pa_nil))) (fun _ _ => rfl))) pa_nil)))))
  (pss_one (ps_ret pe_bl))
  pss_nil)))))))))
  (pss_one (ps_ret pe_bl)))), ?_⟩
  obtain ⟨x, ns, rfl, hx, hl, k⟩ := h
  walk_at "rd"
  refine sp1 ⟨x, ns, rfl, hx, hl, fun H1 b g go1 hb hg bag => ?_⟩
  have D0 : Dr [] H H H H1 b g 0 := ⟨go1, bag, hb, hg, .inr hb, .inr hg⟩
  have hx1 := go1.gh.seq hx
  walk_at "rd"
  have hmin : (if ((ns.map V.int).length : Int) < 3 then ((ns.map V.int).length : Int) else 3) ≤ 3 ∧ 0 ≤ (if ((ns.map V.int).length : Int) < 3 then ((ns.map V.int).length : Int) else 3) := by split <;> omega
  generalize (if ((ns.map V.int).length : Int) < 3 then ((ns.map V.int).length : Int) else 3) = laps at hmin
  refine ⟨by omega, by omega, ?_⟩
  refine for_range (lo := 0) (n := (1 + laps).toNat) (fun i σ H' => ∃ (G' : Hp) (v2 v3 v4 v5 v6 v7 : Option V), Dr [] H H G' H' b g (i * 100) ∧ σ = [some (.ref x), some (.ref b), v2, v3, v4, v5, v6, v7])
    ⟨H, none, none, none, none, none, none, D0, rfl⟩ ?_ ?_
  · rintro i σ H2 hi ⟨G2, v2, v3, v4, v5, v6, v7, D, rfl⟩
    have hi4 : i * 100 < 500 := by omega
    generalize hn : i * 100 = n at D hi4
    walk_at "rd"
    refine ⟨⟨by decide, by decide, by decide⟩, ?_⟩
    walk_at "rd"
    intro p1 hp1
    obtain ⟨G3, D, s3, hT⟩ := D.new (o := .tup (([90, 10 ^ Int.toNat 59] : List Int).map V.int)) hp1
    walk_at "rd"
    refine D.draw (many := 2) (by omega) (by decide) (sm_c (by decide)) (fun H3 r D kp r0 r1 => ?_)
    obtain ⟨m1, hv, hm⟩ := at_in (l := [90, 10 ^ Int.toNat 59]) r0 r1
    have hm1 : 0 < m1 ∧ m1 ≤ 10 ^ 59 := by
      rw [p59] at hm
      rcases in2 hm with z | z <;> rw [z] <;> decide
    refine ⟨p1, _, r, _, rfl, rfl, SqT.of (D.gh _ _ hT), hv, ?_⟩
    walk_at "rd"
    refine D.draw (many := m1) (by omega) (by omega) (sm_c (by omega)) (fun H4 t0 D kp t1 t2 => ?_)
    walk_at "rd"
    intro p2 hp2
    obtain ⟨G4, D, s4, hT⟩ := D.new (o := .tup (([1, -1] : List Int).map V.int)) hp2
    walk_at "rd"
    refine D.draw (many := 2) (by omega) (by decide) (sm_c (by decide)) (fun H5 r2 D kp r20 r21 => ?_)
    obtain ⟨m2, hv2, hm2⟩ := at_in (l := [1, -1]) r20 r21
    refine ⟨p2, _, r2, _, rfl, rfl, SqT.of (D.gh _ _ hT), hv2, ?_⟩
    have hm2' := in2 hm2
    walk_at "rd"
    refine ⟨Sm.mul (sm_c (by omega)) (sm_c (by rcases hm2' with z | z <;> rw [z] <;> decide)), ?_⟩
    obtain ⟨t, ht, htb⟩ : ∃ t, t0 * m2 = t ∧ (-(10 ^ 59) ≤ t ∧ t ≤ 10 ^ 59) := ⟨t0 * m2, rfl, by rcases hm2' with z | z <;> rw [z] <;> omega⟩
    dsimp only
    rw [ht]
    walk_at "rd"
    refine ⟨⟨by decide, by decide, by decide⟩, ?_⟩
    walk_at "rd"
    intro p3 hp3
    obtain ⟨G5, D, s5, hT⟩ := D.new (o := .tup (([60, 2000, 10 ^ Int.toNat 29] : List Int).map V.int)) hp3
    walk_at "rd"
    refine D.draw (many := 3) (by omega) (by decide) (sm_c (by decide)) (fun H6 r D kp r0 r1 => ?_)
    obtain ⟨m3, hv3, hm3⟩ := at_in (l := [60, 2000, 10 ^ Int.toNat 29]) r0 r1
    have hm3' : 0 < m3 ∧ m3 ≤ 10 ^ 29 := by
      rw [p29] at hm3
      rcases in3 hm3 with z | z | z <;> rw [z] <;> decide
    refine ⟨p3, _, r, _, rfl, rfl, SqT.of (D.gh _ _ hT), hv3, ?_⟩
    walk_at "rd"
    refine D.draw (many := m3) (by omega) (by omega) (sm_c (by omega)) (fun H7 u0 D kp u1 u2 => ?_)
    walk_at "rd"
    have hu : 0 < 1 + u0 ∧ 1 + u0 ≤ 10 ^ 30 := by omega
    dsimp only
    generalize 1 + u0 = u at hu
    refine sp2 ⟨_, _, rfl, rfl, hu.1, sm_c (by omega), fun p4 hp4 => ?_⟩
    obtain ⟨G6, D, s6, hP⟩ := D.new (o := .tup [.int (low2 t u).1, .int (low2 t u).2]) hp4
    have hlp := low2_pos (i := t) hu.1
    have hla := low2_abs (i := t) hu.1
    have hlg := low2_gcd (i := t) hu.1
    have hpa : SqT K G6 p4 [.int (low2 t u).1, .int (low2 t u).2] := SqT.of hP
    generalize (low2 t u).1 = tp at hlp hla hlg hpa D ⊢
    generalize (low2 t u).2 = un at hlp hla hlg hpa D ⊢
    have hda : Dp K G6 (.ref p4) (dI2 (tp, un)) := i2_dp hpa
    have fr : ∀ n : Int, 1 ≤ n → n < 2 ^ 60 → FrN tp un n := fun n h1 h2 => ⟨h1, h2, by omega, Nat.lt_of_lt_of_le (m := 2 ^ 200) (by omega) (Nat.pow_le_pow_right (by decide) (by decide)), Nat.lt_of_lt_of_le (m := 2 ^ 200) (by omega) (Nat.pow_le_pow_right (by decide) (by decide)), hlg⟩
    walk_at "rd"
    intro p5 hp5
    obtain ⟨G7, D, s7, hT⟩ := D.new (o := .tup (([9, 60, 1000] : List Int).map V.int)) hp5
    walk_at "rd"
    refine D.draw (many := 3) (by omega) (by decide) (sm_c (by decide)) (fun H8 r D kp r0 r1 => ?_)
    obtain ⟨m4, hv4, hm4⟩ := at_in (l := [9, 60, 1000]) r0 r1
    have hm4' : 0 < m4 ∧ m4 ≤ 1000 := by
      rcases in3 hm4 with z | z | z <;> rw [z] <;> decide
    refine ⟨p5, _, r, _, rfl, rfl, SqT.of (D.gh _ _ hT), hv4, ?_⟩
    walk_at "rd"
    refine D.draw (many := m4) (by omega) (by omega) (sm_c (by omega)) (fun H9 q0 D kp q1 q2 => ?_)
    walk_at "rd"
    have hq : 1 ≤ 1 + q0 ∧ 1 + q0 ≤ 1000 := by omega
    dsimp only
    generalize 1 + q0 = most at hq
    have hda := dpm s7 hda
    refine sp2 ⟨G7, tp, un, most, D.gh, hda, rfl, fr _ hq.1 (by omega), fun G8 H10 go => ?_⟩
    have hda := dpm go.gg hda
    have D := D.go_ go
    walk_at "rd"
    walk_at "rd"
    refine D.draw (many := most) (by omega) (by omega) (sm_c (by omega)) (fun H11 q3 D kp q4 q5 => ?_)
    walk_at "rd"
    refine sp2 ⟨G8, tp, un, 1 + q3, D.gh, hda, rfl, fr _ (by omega) (by omega), fun G9 H12 go => ?_⟩
    have hda := dpm go.gg hda
    have D := D.go_ go
    walk_at "rd"
    refine ⟨wide_div (b := 10) (by decide) (by decide) (by decide) (by decide), ?_⟩
    walk_at "rd"
    have hq6 : 1 ≤ 1 + most / 2 ∧ 1 + most / 2 ≤ 1000 ∧ (1 + most / 2 ≤ most) := by omega
    dsimp only
    generalize 1 + most / 2 = half at hq6
    have f1 := fr half hq6.1 (by omega)
    have f2 := fr most hq.1 (by omega)
    refine sp2 ⟨G9, tp, un, half, D.gh, hda, rfl, fun z => absurd z (by omega), fun _ => ⟨f1.u0, f1.ht, f1.hu, by omega, fun G10 H13 r1 lo1 hi1 go hr1 nb1 bl1 bh1 => ?_⟩⟩
    have hda := dpm go.gg hda
    have D := D.go_ go
    walk_at "rd"
    refine sp2 ⟨G10, tp, un, most, D.gh, hda, rfl, fun z => absurd z (by omega), fun _ => ⟨f2.u0, f2.ht, f2.hu, by omega, fun G11 H14 r2 lo2 hi2 go hr2 nb2 bl2 bh2 => ?_⟩⟩
    have hda := dpm go.gg hda
    have hr1 := dpm go.gg hr1
    have D := D.go_ go
    have gh := D.gh
    obtain ⟨c1, a1, b1, rfl, hc1, hl1, hh1⟩ := dp_two hr1
    obtain ⟨c2, a2, b2, rfl, hc2, hl2, hh2⟩ := dp_two hr2
    have hmono := nb1.mono nb2 hq6.2.2
    have sa1 : Sm lo1.1 := nb_sm f1.ht (by omega) bl1
    have sa2 : Sm hi1.1 := nb_sm f1.ht (by omega) bh1
    have sa3 : Sm lo2.1 := nb_sm f1.ht (by omega) bl2
    have sa4 : Sm hi2.1 := nb_sm f1.ht (by omega) bh2
    have sb1 : Sm lo1.2 := sm_c (by have := nb1.l1; have := nb1.l2; omega)
    have sb2 : Sm hi1.2 := sm_c (by have := nb1.r1; have := nb1.r2; omega)
    have sb3 : Sm lo2.2 := sm_c (by have := nb2.l1; have := nb2.l2; omega)
    have sb4 : Sm hi2.2 := sm_c (by have := nb2.r1; have := nb2.r2; omega)
    walk_at "rd"
    refine sp2 ⟨_, _, lo2, lo1, rfl, rfl, seqT gh hl2, seqT gh hl1, ⟨sa3, sb3, sa1, sb1⟩, ?_⟩
    rw [decide_eq_false hmono.1]
    walk_at "rd"
    refine sp2 ⟨_, _, hi1, hi2, rfl, rfl, seqT gh hh1, seqT gh hh2, ⟨sa2, sb2, sa4, sb4⟩, ?_⟩
    rw [decide_eq_false hmono.2]
    walk_at "rd"
    refine ⟨⟨by decide, by decide, by decide⟩, ?_⟩
    walk_at "rd"
    intro p6 hp6
    obtain ⟨G12, D, s12, hT⟩ := D.new (o := .tup (([0, 1, 10 ^ Int.toNat 59] : List Int).map V.int)) hp6
    have hda := dpm s12 hda
    walk_at "rd"
    refine D.draw (many := 3) (by omega) (by decide) (sm_c (by decide)) (fun H15 r D kp r0 r1 => ?_)
    obtain ⟨m5, hv5, hm5⟩ := at_in (l := [0, 1, 10 ^ Int.toNat 59]) r0 r1
    have hm5' : 0 ≤ m5 := by
      rw [p59] at hm5
      rcases in3 hm5 with z | z | z <;> rw [z] <;> decide
    refine ⟨p6, _, r, _, rfl, rfl, SqT.of (D.gh _ _ hT), hv5, ?_⟩
    walk_at "rd"
    refine sp2 ⟨G12, tp, un, 0 - m5, D.gh, hda, rfl, by omega, fun G13 H16 go => ?_⟩
    have D := D.go_ go
    walk_at "rd"
    exact ⟨G13, _, _, _, _, _, _, D.more (by omega), rfl⟩
  · rintro σ H2 ⟨G2, v2, v3, v4, v5, v6, v7, D, rfl⟩
    exact k _

end
end Dk
namespace Dk
open PySem PySem.Spec L2
def e_greatest_divisor : He.DefD := ⟨("greatest_divisor", none), "greatest_divisor", "greatest_divisor", defArgs s_greatest_divisor, defBody s_greatest_divisor, defScope s_greatest_divisor, [], []⟩
def e_lowest : He.DefD := ⟨("lowest", none), "lowest", "lowest", defArgs s_lowest, defBody s_lowest, defScope s_lowest, [], []⟩
def e_is_below : He.DefD := ⟨("is_below", none), "is_below", "is_below", defArgs s_is_below, defBody s_is_below, defScope s_is_below, [], []⟩
def e_neighbours : He.DefD := ⟨("neighbours", none), "neighbours", "neighbours", defArgs s_neighbours, defBody s_neighbours, defScope s_neighbours, [], []⟩
def e__law_bag : He.DefD := ⟨("_law_bag", none), "_law_bag", "_law_bag", defArgs s__law_bag, defBody s__law_bag, defScope s__law_bag, [], []⟩
def e__law_draw : He.DefD := ⟨("_law_draw", none), "_law_draw", "_law_draw", defArgs s__law_draw, defBody s__law_draw, defScope s__law_draw, [], []⟩
def e__law_divisor : He.DefD := ⟨("_law_divisor", none), "_law_divisor", "_law_divisor", defArgs s__law_divisor, defBody s__law_divisor, defScope s__law_divisor, [], []⟩
def e__law_lowest : He.DefD := ⟨("_law_lowest", none), "_law_lowest", "_law_lowest", defArgs s__law_lowest, defBody s__law_lowest, defScope s__law_lowest, [], []⟩
def e__law_below : He.DefD := ⟨("_law_below", none), "_law_below", "_law_below", defArgs s__law_below, defBody s__law_below, defScope s__law_below, [], []⟩
def e__law_sides : He.DefD := ⟨("_law_sides", none), "_law_sides", "_law_sides", defArgs s__law_sides, defBody s__law_sides, defScope s__law_sides, [], []⟩
def e__law_right : He.DefD := ⟨("_law_right", none), "_law_right", "_law_right", defArgs s__law_right, defBody s__law_right, defScope s__law_right, [], []⟩
def e__law_refused : He.DefD := ⟨("_law_refused", none), "_law_refused", "_law_refused", defArgs s__law_refused, defBody s__law_refused, defScope s__law_refused, [], []⟩
def e_law : He.DefD := ⟨("law", none), "law", "law", defArgs s_law, defBody s_law, defScope s_law, [], []⟩
def e_NoBottom___init__ : He.DefD := ⟨("NoBottom", some "__init__"), "__init__", "NoBottom.__init__", defArgs s_NoBottom___init__, defBody s_NoBottom___init__, defScope s_NoBottom___init__, [], []⟩
def fn : List He.DefD := [e_greatest_divisor, e_lowest, e_is_below, e_neighbours, e__law_bag, e__law_draw, e__law_divisor, e__law_lowest, e__law_below, e__law_sides, e__law_right, e__law_refused, e_law, e_NoBottom___init__]
def fa1 : List He.Fa := [.glo "greatest_divisor", .glo "lowest", .glo "is_below", .glo "neighbours", .glo "_law_bag", .glo "_law_draw", .glo "_law_divisor", .glo "_law_lowest", .glo "_law_below", .glo "_law_sides", .glo "_law_right", .glo "_law_refused", .glo "law", .glo "DialError", .glo "NoLength", .glo "NoWord", .glo "Clash", .glo "NoLook", .glo "NoRound", .glo "NoUses", .glo "NoSide", .glo "NoRing", .glo "NoSteps", .glo "NoBottom", .glo "NoText", .free "len", .free "abs", .free "range", .free "min", .free "max", .free "isinstance", .free "ValueError"]
def fa2 : List He.Fa := []
def fa : List He.Fa := fa1 ++ fa2
def ex (K : PySem.W.Frag) : Bool := (excB K "NoBottom") && ((decide (PySem.W.exmOne K (.ref (He.ga K "NoBottom")) (.ref (He.ga K "DialError")) = some true)) && ((decide (PySem.W.kitAny K (.ref (He.ga K "NoBottom")) [.ref (He.ga K "Clash"), .ref (He.ga K "NoLength"), .ref (He.ga K "NoLook"), .ref (He.ga K "NoRing"), .ref (He.ga K "NoRound"), .ref (He.ga K "NoSide"), .ref (He.ga K "NoSteps"), .ref (He.ga K "NoText"), .ref (He.ga K "NoUses"), .ref (He.ga K "NoWord")] = some false)) && ((decide (PySem.W.kitOne K (.ref (He.ga K "NoBottom")) (.type "ValueError") = some true)) && (decide (PySem.W.kitOne K (.ref (He.ga K "NoBottom")) (.ref (He.ga K "NoBottom")) = some true)))))
abbrev R : PySem.W.OpenRow := PySem.W.OpenLaw.row PySem.Challenge.rw_darkpace_k41_whole_neighbours_are_next
abbrev hk : PySem.W.Hook := He.hookX 5 fa fn [] [] ex
def ob (s : PySem.W.SharedT) : He.AlX := He.obsX 5 fa fn [] [] ex (HandSHeadRun.getT s)
theorem ob_eq (s : PySem.W.SharedT) : ob s = hk.obs s.abs := He.obsX_eq (HandSHeadRun.getT_eq s)
def ns1 : List PySem.Str := ["DialError", "NoLength", "NoWord", "Clash", "NoLook", "NoRound", "NoUses", "NoSide", "NoRing", "NoSteps", "NoBottom", "NoText", "greatest_divisor", "lowest", "is_below", "neighbours", "_law_bag", "_law_draw", "_law_divisor", "_law_lowest", "_law_below", "_law_sides", "_law_right", "_law_refused"]
def ns2 : List PySem.Str := []
def loose : List PySem.Str := ns1 ++ ns2
theorem run (w : World) : HandSHeadRun.RunEq R (PySem.W.view R.prog [28]) hk ob 6000 loose w := by
  intro os
  kernel_rfl
theorem facts {w : World} {K : PySem.W.Frag} {h : Heap} {mg : Str → Option Value} (X : K.In h) (G : h.Ns mainGlobals mg) (c : He.SaysX fa fn [] [] ex w h K) : Txt K mg := by
  have m := c.more
  unfold ex at m
  simp only [Bool.and_eq_true, decide_eq_true_eq] at m
  obtain ⟨h0, h1, h2, h3, h4⟩ := m
  exact {
    d_greatest_divisor := c.t.d.def_ 0 (d := e_greatest_divisor) rfl
    d_lowest := c.t.d.def_ 1 (d := e_lowest) rfl
    d_is_below := c.t.d.def_ 2 (d := e_is_below) rfl
    d_neighbours := c.t.d.def_ 3 (d := e_neighbours) rfl
    d__law_bag := c.t.d.def_ 4 (d := e__law_bag) rfl
    d__law_draw := c.t.d.def_ 5 (d := e__law_draw) rfl
    d__law_divisor := c.t.d.def_ 6 (d := e__law_divisor) rfl
    d__law_lowest := c.t.d.def_ 7 (d := e__law_lowest) rfl
    d__law_below := c.t.d.def_ 8 (d := e__law_below) rfl
    d__law_sides := c.t.d.def_ 9 (d := e__law_sides) rfl
    d__law_right := c.t.d.def_ 10 (d := e__law_right) rfl
    d__law_refused := c.t.d.def_ 11 (d := e__law_refused) rfl
    d_law := c.t.d.def_ 12 (d := e_law) rfl
    g_greatest_divisor := He.glo_ok X G (c.t.d.fact 0 (f := .glo "greatest_divisor") rfl)
    g_lowest := He.glo_ok X G (c.t.d.fact 1 (f := .glo "lowest") rfl)
    g_is_below := He.glo_ok X G (c.t.d.fact 2 (f := .glo "is_below") rfl)
    g_neighbours := He.glo_ok X G (c.t.d.fact 3 (f := .glo "neighbours") rfl)
    g__law_bag := He.glo_ok X G (c.t.d.fact 4 (f := .glo "_law_bag") rfl)
    g__law_draw := He.glo_ok X G (c.t.d.fact 5 (f := .glo "_law_draw") rfl)
    g__law_divisor := He.glo_ok X G (c.t.d.fact 6 (f := .glo "_law_divisor") rfl)
    g__law_lowest := He.glo_ok X G (c.t.d.fact 7 (f := .glo "_law_lowest") rfl)
    g__law_below := He.glo_ok X G (c.t.d.fact 8 (f := .glo "_law_below") rfl)
    g__law_sides := He.glo_ok X G (c.t.d.fact 9 (f := .glo "_law_sides") rfl)
    g__law_right := He.glo_ok X G (c.t.d.fact 10 (f := .glo "_law_right") rfl)
    g__law_refused := He.glo_ok X G (c.t.d.fact 11 (f := .glo "_law_refused") rfl)
    g_law := He.glo_ok X G (c.t.d.fact 12 (f := .glo "law") rfl)
    k_DialError := He.glo_ok X G (c.t.d.fact 13 (f := .glo "DialError") rfl)
    k_NoLength := He.glo_ok X G (c.t.d.fact 14 (f := .glo "NoLength") rfl)
    k_NoWord := He.glo_ok X G (c.t.d.fact 15 (f := .glo "NoWord") rfl)
    k_Clash := He.glo_ok X G (c.t.d.fact 16 (f := .glo "Clash") rfl)
    k_NoLook := He.glo_ok X G (c.t.d.fact 17 (f := .glo "NoLook") rfl)
    k_NoRound := He.glo_ok X G (c.t.d.fact 18 (f := .glo "NoRound") rfl)
    k_NoUses := He.glo_ok X G (c.t.d.fact 19 (f := .glo "NoUses") rfl)
    k_NoSide := He.glo_ok X G (c.t.d.fact 20 (f := .glo "NoSide") rfl)
    k_NoRing := He.glo_ok X G (c.t.d.fact 21 (f := .glo "NoRing") rfl)
    k_NoSteps := He.glo_ok X G (c.t.d.fact 22 (f := .glo "NoSteps") rfl)
    k_NoBottom := He.glo_ok X G (c.t.d.fact 23 (f := .glo "NoBottom") rfl)
    k_NoText := He.glo_ok X G (c.t.d.fact 24 (f := .glo "NoText") rfl)
    f_len := He.free_ok X G (c.t.d.fact 25 (f := .free "len") rfl)
    f_abs := He.free_ok X G (c.t.d.fact 26 (f := .free "abs") rfl)
    f_range := He.free_ok X G (c.t.d.fact 27 (f := .free "range") rfl)
    f_min := He.free_ok X G (c.t.d.fact 28 (f := .free "min") rfl)
    f_max := He.free_ok X G (c.t.d.fact 29 (f := .free "max") rfl)
    f_isinstance := He.free_ok X G (c.t.d.fact 30 (f := .free "isinstance") rfl)
    f_ValueError := He.free_ok X G (c.t.d.fact 31 (f := .free "ValueError") rfl)
    x_NoBottom := excB_ok h0 (He.glo_ok X G (c.t.d.fact 23 (f := .glo "NoBottom") rfl)) (c.t.d.def_ 13 (d := e_NoBottom___init__) rfl) ⟨rfl, rfl, rfl, by decide +kernel, rfl, by decide +kernel, by decide +kernel⟩ ⟨rfl, rfl⟩ (fun _ _ _ _ _ _ us hl => match us, hl with | [_, _], _ => rfl)
    m_exm := h1
    m_isn := h2
    m_isv := h3
    m_iss := h4 }
end Dk
open PySem PySem.W PySem.Calls PyProof.Rows
theorem PySem.Challenge.cw_darkpace_k41_whole_neighbours_are_next_holds : PySem.Challenge.rw_darkpace_k41_whole_neighbours_are_next.Holds := by
  w_on; o_law
  refine HandSHeadRun.head_any (r := OpenLaw.row PySem.Challenge.rw_darkpace_k41_whole_neighbours_are_next) (q := view (OpenLaw.row PySem.Challenge.rw_darkpace_k41_whole_neighbours_are_next).prog [28]) (H := Dk.hk) (ob := Dk.ob) (M := 6000) (loose := Dk.loose) (d := HandSHeadRun.topDef (OpenLaw.row PySem.Challenge.rw_darkpace_k41_whole_neighbours_are_next).prog 28) (kwd := []) Dk.ob_eq
    (by kernel_rfl) (fun s => by kernel_rfl) Dk.run (by kernel_rfl) (by kernel_rfl) (by kernel_rfl) (by rfl) (by first | assumption | decide +kernel) (by decide +kernel) ⟨rfl, rfl, rfl, rfl, rfl, by decide +kernel⟩ ?hw ?hc
  case hw => w_witness2
  case hc =>
    refine L2.walk_ofE (l := PySem.Challenge.rw_darkpace_k41_whole_neighbours_are_next) (n := 63) (k := 5) (x := "script") (CX := L2.CX0) rfl (by decide) (by kernel_rfl) ⟨rfl, by decide, by decide⟩ ?F (fun _ _ _ _ z => z)
    intro w mg fa h Y G hmg0
    obtain ⟨K, KX, c⟩ := Y
    have hmg : mg ("law" : PySem.Str) = some (.ref fa) := by
      have e : (HandSHeadRun.topDef (OpenLaw.row PySem.Challenge.rw_darkpace_k41_whole_neighbours_are_next).prog 28).name = ("law" : PySem.Str) := by kernel_rfl
      rw [← e]
      exact hmg0
    have T := Dk.facts KX G c
    have e := hmg.symm.trans T.g_law
    cases e
    obtain ⟨fd, F⟩ := T.d_law
    have b := L2.FunD.bindsA (ps := ["script"]) F fun _ _ _ _ _ _ us hl => match us, hl with | [_], _ => rfl
    exact ⟨K, fd, Dk.spLaw K, KX, fun s v => b s [v] rfl, fun H a ns hl _ hS => Dk.sp1 ⟨a, ns, rfl, hS, hl, fun _ => rfl⟩, fun base _ _ => Dk.D_law T F⟩
