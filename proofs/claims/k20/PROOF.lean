import PyProof.Rows.All
import Wide.All
import OpenK.AllK
import Wide.FinOn
import HandS.ForMost
import HandS.ForExc
import HandS.Lambda
import HandS.Style
import HandS.Wide
import HandS.IsInst
import HandS.Flow
import HandS.StrMore
import HandS.Deep
import HandS.TupLe
import HandS.More
import HandS.WrittenGet
import HandS.ExcIs
import HandS.HotCalls
import HandS.Replace
import HandS.FltList
import HandS.EndTab
import KE.GoesRaise
import HandS.CallRecv
import PySem.Challenge.RW_turnshifts_k20_whole_desks
set_option Elab.async false
set_option linter.all false
set_option maxRecDepth 100000
set_option maxHeartbeats 4000000
/-! The data level: environments of plain data, predicate transformers over them, and what it means that
a reading of the hand layer is simulated by such a transformer. -/
namespace Tz
open PySem PySem.Spec PyProof.Rows L2

/-! ### plain data environments -/
abbrev Rho := List (Option PyData)
def look : Rho → Nat → Option PyData
  | [], _ => none
  | x :: _, 0 => x
  | _ :: r, n + 1 => look r n
def put : Rho → Nat → PyData → Rho
  | [], _, _ => []
  | _ :: r, 0, d => some d :: r
  | x :: r, n + 1, d => x :: put r n d
def drp : Rho → Nat → Rho
  | [], _ => []
  | _ :: r, 0 => none :: r
  | x :: r, n + 1 => x :: drp r n
def drps (r : Rho) : List Nat → Rho
  | [] => r
  | i :: is => drps (drp r i) is
theorem put_len : ∀ (r : Rho) (i : Nat) (d : PyData), (put r i d).length = r.length
  | [], _, _ => rfl
  | _ :: _, 0, _ => rfl
  | _ :: r, n + 1, d => by
    show (put r n d).length + 1 = r.length + 1
    rw [put_len r n d]
theorem drp_len : ∀ (r : Rho) (i : Nat), (drp r i).length = r.length
  | [], _ => rfl
  | _ :: _, 0 => rfl
  | _ :: r, n + 1 => by
    show (drp r n).length + 1 = r.length + 1
    rw [drp_len r n]
theorem drps_len : ∀ (is : List Nat) (r : Rho), (drps r is).length = r.length
  | [], _ => rfl
  | i :: is, r => (drps_len is (drp r i)).trans (drp_len r i)
theorem look_put : ∀ {r : Rho} {i j : Nat} {d e : PyData}, look (put r i d) j = some e → (j = i ∧ e = d ∧ i < r.length) ∨ (j ≠ i ∧ look r j = some e)
  | [], _, _, _, _, h => by cases h
  | x :: r, 0, 0, d, e, h => .inl ⟨rfl, (Option.some.inj h).symm, Nat.zero_lt_succ _⟩
  | x :: r, 0, j + 1, d, e, h => .inr ⟨Nat.succ_ne_zero j, h⟩
  | x :: r, i + 1, 0, d, e, h => .inr ⟨fun z => Nat.succ_ne_zero i z.symm, h⟩
  | x :: r, i + 1, j + 1, d, e, h => by
    have h : look (put r i d) j = some e := h
    rcases look_put h with ⟨a, b, c⟩ | ⟨a, b⟩
    · exact .inl ⟨by rw [a], b, Nat.succ_lt_succ c⟩
    · exact .inr ⟨fun z => a (Nat.succ.inj z), b⟩
theorem look_drp : ∀ {r : Rho} {i j : Nat} {e : PyData}, look (drp r i) j = some e → j ≠ i ∧ look r j = some e
  | [], _, _, _, h => by cases h
  | x :: r, 0, 0, e, h => by cases h
  | x :: r, 0, j + 1, e, h => ⟨Nat.succ_ne_zero j, h⟩
  | x :: r, i + 1, 0, e, h => ⟨fun z => Nat.succ_ne_zero i z.symm, h⟩
  | x :: r, i + 1, j + 1, e, h => by
    have h : look (drp r i) j = some e := h
    obtain ⟨a, b⟩ := look_drp h
    exact ⟨fun z => a (Nat.succ.inj z), b⟩
theorem look_drps : ∀ {is : List Nat} {r : Rho} {j : Nat} {e : PyData}, look (drps r is) j = some e → j ∉ is ∧ look r j = some e
  | [], _, _, _, h => ⟨List.not_mem_nil, h⟩
  | i :: is, r, j, e, h => by
    obtain ⟨a, b⟩ := look_drps (is := is) (r := drp r i) h
    obtain ⟨c, d⟩ := look_drp b
    exact ⟨fun z => (List.mem_cons.mp z).elim c a, d⟩
def startR (n : Nat) (ds : List PyData) : Rho := ds.map some ++ List.replicate (n - ds.length) none
theorem look_rep : ∀ (m i : Nat), look (List.replicate m none) i = none
  | 0, _ => rfl
  | _ + 1, 0 => rfl
  | m + 1, i + 1 => look_rep m i
theorem look_startR : ∀ {ds : List PyData} {n i : Nat} {d : PyData}, look (startR n ds) i = some d → ds[i]? = some d
  | [], n, i, d, h => by
    have h : look (List.replicate (n - 0) none) i = some d := h
    rw [look_rep] at h
    cases h
  | x :: ds, n, 0, d, h => h
  | x :: ds, n, i + 1, d, h => by
    have e : startR n (x :: ds) = some x :: startR (n - 1) ds := by
      unfold startR
      rw [List.length_cons, List.map_cons, List.cons_append]
      have : n - (ds.length + 1) = n - 1 - ds.length := by omega
      rw [this]
    rw [e] at h
    have h : look (startR (n - 1) ds) i = some d := h
    have := look_startR h
    simpa using this

/-! ### what is hidden: objects that may change, told by an invariant -/
/-- the dice: a stand-in datum that no object represents -/
abbrev dice : PyData := .dict []
/-- not a table of code objects -/
def NT (o : HO) : Prop := ∀ ps, o ≠ .tbl ps
structure Hid where
  D : Addr → Prop
  J : Hp → Prop
  live : ∀ {H : Hp} {a : Addr}, J H → D a → H a ≠ none
  keep : ∀ {H H' : Hp}, J H → (∀ a, D a → H' a = H a) → (∀ a o, ¬ D a → NT o → H a = some o → H' a = some o) → J H'
  isO : PyData → V → Prop
  T : List (Addr × Str)
  tab : ∀ {H : Hp}, J H → LamX.Tabs T H
  tabs : ∀ {H H' : Hp}, J H → LamX.ExtN H H' → LamX.Tabs T H' → J H'
abbrev Hid.isDice (G : Hid) (v : V) : Prop := G.isO dice v
/-- plain data: no dice among them -/
def plain : PyData → Bool
  | .dict _ => false
  | _ => true
def plains (ds : List PyData) : Bool := ds.all plain
/-- the heap without p -/
def era (p : Addr) (H : Hp) : Hp := fun a => if a = p then none else H a
theorem era_ne {p a : Addr} {H : Hp} (h : a ≠ p) : era p H a = H a := if_neg h
theorem era_self {p : Addr} {H : Hp} : era p H p = none := if_pos rfl
theorem era_some {p a : Addr} {H : Hp} {o : HO} (h : era p H a = some o) : a ≠ p ∧ H a = some o := by
  unfold era at h
  split at h
  · cases h
  · rename_i n
    exact ⟨n, h⟩
theorem era_upd {p : Addr} {H : Hp} {o : HO} : era p (upd H p o) = era p H := by
  funext a
  by_cases h : a = p
  · rw [h, era_self, era_self]
  · rw [era_ne h, era_ne h, upd_ne h]
theorem era_none {p : Addr} {H : Hp} (h : H p = none) : era p H = H := by
  funext a
  by_cases e : a = p
  · rw [e, era_self, h]
  · rw [era_ne e]
/-- a list that is being made is hidden too -/
def Hid.add (G : Hid) (p : Addr) (hp : ¬ G.D p) (xs : List V) : Hid where
  D := fun a => G.D a ∨ a = p
  J := fun H => H p = some (.lst xs) ∧ G.J (era p H)
  live := by
    rintro H a ⟨e, j⟩ (d | d)
    · have ne : a ≠ p := fun z => hp (by rw [← z]; exact d)
      have := G.live j d
      rw [era_ne ne] at this
      exact this
    · rw [d, e]
      exact fun z => nomatch z
  keep := by
    rintro H H' ⟨e, j⟩ hd hx
    refine ⟨by rw [hd p (.inr rfl)]; exact e, G.keep j (fun a d => ?_) fun a o nd nt ha => ?_⟩
    · have ne : a ≠ p := fun z => hp (by rw [← z]; exact d)
      rw [era_ne ne, era_ne ne]
      exact hd a (.inl d)
    · obtain ⟨ne, ha⟩ := era_some ha
      rw [era_ne ne]
      exact hx a o (fun z => z.elim nd ne) nt ha
  isO := G.isO
  T := G.T
  tab := by
    rintro H ⟨_, j⟩
    exact (G.tab j).ext fun b o e => (era_some e).2
  tabs := by
    rintro H H' ⟨e, j⟩ hx ht
    have e' : H' p = some (.lst xs) := hx p _ e fun ps z => nomatch z
    refine ⟨e', G.tabs j (fun b o hb no => ?_) fun q hq => ?_⟩
    · obtain ⟨ne, hb⟩ := era_some hb
      rw [era_ne ne]
      exact hx b o hb no
    · obtain ⟨ps, h1, h2, h3⟩ := ht q hq
      have ne : q.1 ≠ p := ne_of h1 e' fun z => nomatch z
      refine ⟨ps, by rw [era_ne ne]; exact h1, h2, fun pos cv hc => ?_⟩
      obtain ⟨c, e1, e2⟩ := h3 pos cv hc
      have ne2 : c ≠ p := ne_of e2 e' fun z => by
        unfold LamX.CodeO at z
        cases z
      exact ⟨c, e1, by rw [era_ne ne2]; exact e2⟩
/-- what passes for the dice is a list of two ints that may change -/
def Rolls (G : Hid) : Prop := ∀ v : V, G.isDice v → ∃ p, v = .ref p ∧ G.D p ∧ (∀ H, G.J H → ∃ x n, H p = some (.lst [.int x, .int n])) ∧ ∀ H x n, G.J H → G.J (upd H p (.lst [.int x, .int n]))
theorem rolls_add (G : Hid) (p : Addr) (hp : ¬ G.D p) (xs : List V) (R : Rolls G) : Rolls (G.add p hp xs) := by
  intro v hv
  obtain ⟨q, rfl, d, h1, h2⟩ := R v hv
  have ne : q ≠ p := fun z => hp (by rw [← z]; exact d)
  refine ⟨q, rfl, .inl d, fun H j => ?_, fun H x n j => ?_⟩
  · obtain ⟨x, n, e⟩ := h1 _ j.2
    rw [era_ne ne] at e
    exact ⟨x, n, e⟩
  · obtain ⟨e, j⟩ := j
    refine ⟨by rw [upd_ne (Ne.symm ne)]; exact e, ?_⟩
    have eq : era p (upd H q (.lst [.int x, .int n])) = upd (era p H) q (.lst [.int x, .int n]) := by
      funext a
      by_cases h : a = p
      · rw [h, era_self, upd_ne (Ne.symm ne), era_self]
      · rw [era_ne h]
        by_cases h' : a = q
        · rw [h', upd_same, upd_same]
        · rw [upd_ne h', upd_ne h', era_ne h]
    rw [eq]
    exact h2 _ x n j
theorem Hid.add_J {G : Hid} {p : Addr} {hp : ¬ G.D p} {xs : List V} {H : Hp} (h : (G.add p hp xs).J H) : G.J H := by
  refine G.keep h.2 (fun a d => ?_) fun a o nd nt ha => (era_some ha).2
  have ne : a ≠ p := fun z => hp (by rw [← z]; exact d)
  rw [era_ne ne]
theorem Hid.add_new {G : Hid} {p : Addr} {hp : ¬ G.D p} {H : Hp} {xs : List V} (j : G.J H) (n : H p = none) : (G.add p hp xs).J (upd H p (.lst xs)) := ⟨upd_same, by rw [era_upd, era_none n]; exact j⟩
theorem Hid.add_upd {G : Hid} {p : Addr} {hp : ¬ G.D p} {H : Hp} {xs ys : List V} (j : (G.add p hp xs).J H) : (G.add p hp ys).J (upd H p (.lst ys)) := ⟨upd_same, by rw [era_upd]; exact j.2⟩
def Ex (G : Hid) (H H' : Hp) : Prop := ∀ a o, ¬ G.D a → NT o → H a = some o → H' a = some o
theorem Ex.refl (G : Hid) (H : Hp) : Ex G H H := fun _ _ _ _ h => h
theorem Ex.trans {G : Hid} {H H1 H2 : Hp} (a : Ex G H H1) (b : Ex G H1 H2) : Ex G H H2 := fun x o n t h => b x o n t (a x o n t h)
theorem Ex.new {G : Hid} {H : Hp} {p : Addr} {o : HO} (j : G.J H) (h : H p = none) : Ex G H (upd H p o) ∧ G.J (upd H p o) ∧ ¬ G.D p := by
  have nd : ¬ G.D p := fun z => G.live j z h
  have e : Ex G H (upd H p o) := fun a u _ _ q => by
    rw [upd_ne (ne_of_none q h)]
    exact q
  refine ⟨e, G.keep j (fun a d => ?_) e, nd⟩
  have ne : a ≠ p := fun z => nd (by rw [← z]; exact d)
  rw [upd_ne ne]
theorem Ex.extN {G : Hid} {H H' : Hp} (e : LamX.ExtN H H') : Ex G H H' := fun a o _ t h => e a o h t
open Classical in
noncomputable def vis (G : Hid) (H : Hp) : Hp := fun a => if G.D a ∨ ∃ ps, H a = some (.tbl ps) then none else H a
theorem vis_of {G : Hid} {H : Hp} {a : Addr} {o : HO} (n : ¬ G.D a) (t : NT o) (h : H a = some o) : vis G H a = some o := by
  unfold vis
  rw [if_neg, h]
  rintro (d | ⟨ps, e⟩)
  · exact n d
  · rw [h] at e
    exact t ps (Option.some.inj e)
theorem vis_some {G : Hid} {H : Hp} {a : Addr} {o : HO} (h : vis G H a = some o) : ¬ G.D a ∧ NT o ∧ H a = some o := by
  unfold vis at h
  split at h
  · cases h
  · rename_i n
    exact ⟨fun d => n (.inl d), fun ps e => n (.inr ⟨ps, by rw [h, e]⟩), h⟩
theorem vis_same {G : Hid} {H : Hp} : Same (vis G H) H := fun _ _ h => (vis_some h).2.2
theorem Ex.same {G : Hid} {H H' : Hp} (e : Ex G H H') : Same (vis G H) (vis G H') := fun a o h => by
  obtain ⟨n, t, q⟩ := vis_some h
  exact vis_of n t (e a o n t q)
theorem nt_lst {xs : List V} : NT (.lst xs) := fun _ z => nomatch z
theorem nt_tup {xs : List V} : NT (.tup xs) := fun _ z => nomatch z
theorem Same.seqT {K : PySem.W.Frag} {H H' : Hp} {a : Addr} {xs : List V} (e : Same H H') (h : SqT K H a xs) : SqT K H' a xs := by
  rcases h with (h | ⟨o, h⟩) | h
  · exact .inl (.inl (e _ _ h))
  · exact .inl (.inr ⟨o, e _ _ h⟩)
  · exact .inr h
/-! ### which value stands for which datum: lists are tracked ones -/
mutual
inductive Dq (K : PySem.W.Frag) (H : Hp) : V → PyData → Prop
  | non : Dq K H .non .none
  | bl (b : Bool) : Dq K H (.bl b) (.bool b)
  | int (i : Int) : Dq K H (.int i) (.int i)
  | str (x : Str) : Dq K H (.str x) (.str x)
  | lst {a : Addr} {xs : List V} {ds : List PyData} : H a = some (.lst xs) → DqAll K H xs ds → Dq K H (.ref a) (.list ds)
  | tup {a : Addr} {xs : List V} {ds : List PyData} : SqT K H a xs → DqAll K H xs ds → Dq K H (.ref a) (.tuple ds)
inductive DqAll (K : PySem.W.Frag) (H : Hp) : List V → List PyData → Prop
  | nil : DqAll K H [] []
  | cons {v : V} {vs : List V} {d : PyData} {ds : List PyData} : Dq K H v d → DqAll K H vs ds → DqAll K H (v :: vs) (d :: ds)
end
section
variable {K : PySem.W.Frag} {H H' : Hp}
mutual
theorem dq_same (e : Same H H') : ∀ (d : PyData) (v : V), Dq K H v d → Dq K H' v d
  | .none, _, h => by cases h; exact .non
  | .bool b, _, h => by cases h; exact .bl b
  | .int i, _, h => by cases h; exact .int i
  | .str x, _, h => by cases h; exact .str x
  | .list ds, _, h => by
    cases h with
    | lst a b => exact .lst (e _ _ a) (dq_sameAll e ds _ b)
  | .tuple ds, _, h => by
    cases h with
    | tup a b => exact .tup (Same.seqT e a) (dq_sameAll e ds _ b)
  | .dict _, _, h => by cases h
theorem dq_sameAll (e : Same H H') : ∀ (ds : List PyData) (vs : List V), DqAll K H vs ds → DqAll K H' vs ds
  | [], _, h => by cases h; exact .nil
  | d :: ds, _, h => by
    cases h with
    | cons a b => exact .cons (dq_same e d _ a) (dq_sameAll e ds _ b)
end
mutual
theorem dq_dp : ∀ (d : PyData) (v : V), Dq K H v d → Dp K H v d
  | .none, _, h => by cases h; exact .non
  | .bool b, _, h => by cases h; exact .bl b
  | .int i, _, h => by cases h; exact .int i
  | .str x, _, h => by cases h; exact .str x
  | .list ds, _, h => by
    cases h with
    | lst a b => exact .lst (SqL.of a) (dq_dpAll ds _ b)
  | .tuple ds, _, h => by
    cases h with
    | tup a b => exact .tup a (dq_dpAll ds _ b)
  | .dict _, _, h => by cases h
theorem dq_dpAll : ∀ (ds : List PyData) (vs : List V), DqAll K H vs ds → DpAll K H vs ds
  | [], _, h => by cases h; exact .nil
  | d :: ds, _, h => by
    cases h with
    | cons a b => exact .cons (dq_dp d _ a) (dq_dpAll ds _ b)
end
end
theorem dqAll_len {K : PySem.W.Frag} {H : Hp} : ∀ {vs : List V} {ds : List PyData}, DqAll K H vs ds → vs.length = ds.length
  | _, _, .nil => rfl
  | _, _, .cons _ b => congrArg (· + 1) (dqAll_len b)
theorem dqAll_get {K : PySem.W.Frag} {H : Hp} : ∀ {vs : List V} {ds : List PyData} {i : Nat} {d : PyData}, DqAll K H vs ds → ds[i]? = some d → ∃ v, vs[i]? = some v ∧ Dq K H v d
  | _, _, _, _, .nil, h => by simp at h
  | _, _, 0, _, .cons a _, h => by
    simp at h
    subst h
    exact ⟨_, rfl, a⟩
  | _, _, i + 1, d, .cons _ b, h => by
    obtain ⟨v, e, q⟩ := dqAll_get (i := i) (d := d) b (by simpa using h)
    exact ⟨v, by simpa using e, q⟩
theorem dqAll_app {K : PySem.W.Frag} {H : Hp} : ∀ {vs ws : List V} {ds es : List PyData}, DqAll K H vs ds → DqAll K H ws es → DqAll K H (vs ++ ws) (ds ++ es)
  | _, _, _, _, .nil, b => b
  | _, _, _, _, .cons a r, b => .cons a (dqAll_app r b)
theorem dqAll_drop {K : PySem.W.Frag} {H : Hp} : ∀ (n : Nat) {vs : List V} {ds : List PyData}, DqAll K H vs ds → DqAll K H (vs.drop n) (ds.drop n)
  | 0, _, _, h => h
  | _ + 1, _, _, .nil => .nil
  | n + 1, _, _, .cons _ b => dqAll_drop n b
theorem dqAll_take {K : PySem.W.Frag} {H : Hp} : ∀ (n : Nat) {vs : List V} {ds : List PyData}, DqAll K H vs ds → DqAll K H (vs.take n) (ds.take n)
  | 0, _, _, _ => .nil
  | _ + 1, _, _, .nil => .nil
  | n + 1, _, _, .cons a b => .cons a (dqAll_take n b)
/-- the value v stands for the datum d -/
def Rep (K : PySem.W.Frag) (G : Hid) (H : Hp) (v : V) (d : PyData) : Prop := Dq K (vis G H) v d ∨ (plain d = false ∧ G.isO d v)
theorem Rep.mono {K : PySem.W.Frag} {G : Hid} {H H' : Hp} {v : V} {d : PyData} (e : Ex G H H') (h : Rep K G H v d) : Rep K G H' v d := by
  rcases h with h | h
  · exact .inl (dq_same e.same d v h)
  · exact .inr h
def Reps (K : PySem.W.Frag) (G : Hid) (H : Hp) : List V → List PyData → Prop
  | [], [] => True
  | v :: vs, d :: ds => Rep K G H v d ∧ Reps K G H vs ds
  | _, _ => False
theorem Reps.mono {K : PySem.W.Frag} {G : Hid} {H H' : Hp} (e : Ex G H H') : ∀ {vs : List V} {ds : List PyData}, Reps K G H vs ds → Reps K G H' vs ds
  | [], [], _ => trivial
  | _ :: _, _ :: _, h => ⟨h.1.mono e, Reps.mono e h.2⟩
  | [], _ :: _, h => h.elim
  | _ :: _, [], h => h.elim
theorem Reps.len {K : PySem.W.Frag} {G : Hid} {H : Hp} : ∀ {vs : List V} {ds : List PyData}, Reps K G H vs ds → vs.length = ds.length
  | [], [], _ => rfl
  | _ :: _, _ :: _, h => congrArg (· + 1) (Reps.len h.2)
  | [], _ :: _, h => h.elim
  | _ :: _, [], h => h.elim
theorem Reps.get {K : PySem.W.Frag} {G : Hid} {H : Hp} : ∀ {vs : List V} {ds : List PyData} {i : Nat} {d : PyData}, Reps K G H vs ds → ds[i]? = some d → ∃ v, vs[i]? = some v ∧ Rep K G H v d
  | [], [], _, _, _, h => by simp at h
  | v :: vs, e :: ds, 0, d, h, q => by
    simp at q
    subst q
    exact ⟨v, rfl, h.1⟩
  | v :: vs, e :: ds, i + 1, d, h, q => by
    obtain ⟨x, e, r⟩ := Reps.get (i := i) h.2 (by simpa using q)
    exact ⟨x, by simpa using e, r⟩
  | [], _ :: _, _, _, h, _ => h.elim
  | _ :: _, [], _, _, h, _ => h.elim
theorem Rep.dp {K : PySem.W.Frag} {G : Hid} {H : Hp} {v : V} {d : PyData} (h : Rep K G H v d) (p : plain d = true) : Dq K (vis G H) v d := by
  rcases h with h | ⟨h, _⟩
  · exact h
  · rw [h] at p
    cases p
theorem Rep.dpH {K : PySem.W.Frag} {G : Hid} {H : Hp} {v : V} {d : PyData} (h : Rep K G H v d) (p : plain d = true) : Dq K H v d := dq_same vis_same d v (h.dp p)
theorem Reps.dp {K : PySem.W.Frag} {G : Hid} {H : Hp} : ∀ {vs : List V} {ds : List PyData}, Reps K G H vs ds → plains ds = true → DqAll K (vis G H) vs ds
  | [], [], _, _ => .nil
  | v :: vs, d :: ds, h, p => by
    have p : (plain d && plains ds) = true := p
    rw [Bool.and_eq_true] at p
    exact .cons (h.1.dp p.1) (Reps.dp h.2 p.2)
  | [], _ :: _, h, _ => h.elim
  | _ :: _, [], h, _ => h.elim
/-- the slots hold what the environment says -/
def RepS (K : PySem.W.Frag) (G : Hid) (H : Hp) (σ : L2.St) (r : Rho) : Prop := r.length ≤ σ.length ∧ ∀ i d, look r i = some d → ∃ v, σ[i]? = some (some v) ∧ Rep K G H v d
theorem RepS.mono {K : PySem.W.Frag} {G : Hid} {H H' : Hp} {σ : L2.St} {r : Rho} (e : Ex G H H') (h : RepS K G H σ r) : RepS K G H' σ r := ⟨h.1, fun i d q => by
  obtain ⟨v, a, b⟩ := h.2 i d q
  exact ⟨v, a, b.mono e⟩⟩
theorem RepS.put {K : PySem.W.Frag} {G : Hid} {H : Hp} {σ : L2.St} {r : Rho} {i : Nat} {v : V} {d : PyData} (h : RepS K G H σ r) (q : Rep K G H v d) : RepS K G H (σ.set i (some v)) (put r i d) := by
  refine ⟨by rw [put_len, List.length_set]; exact h.1, fun j e z => ?_⟩
  rcases look_put z with ⟨a, b, c⟩ | ⟨a, b⟩
  · subst a b
    exact ⟨v, List.getElem?_set_self (Nat.lt_of_lt_of_le c h.1), q⟩
  · obtain ⟨u, x, y⟩ := h.2 j e b
    exact ⟨u, by rw [List.getElem?_set_ne (Ne.symm a)]; exact x, y⟩
theorem RepS.wipe {K : PySem.W.Frag} {G : Hid} {H : Hp} {σ : L2.St} {r : Rho} (h : RepS K G H σ r) (vs : List Nat) : RepS K G H (wipe σ vs) (drps r vs) := by
  refine ⟨by rw [drps_len, wipe_length]; exact h.1, fun j e z => ?_⟩
  obtain ⟨a, b⟩ := look_drps z
  obtain ⟨v, x, y⟩ := h.2 j e b
  exact ⟨v, by rw [wipe_out a]; exact x, y⟩
theorem RepS.start {K : PySem.W.Frag} {G : Hid} {H : Hp} {N : List Str} {vs : List V} {ds : List PyData} (h : Reps K G H vs ds) (hl : vs.length ≤ N.length) : RepS K G H (L2.start N vs) (startR N.length ds) := by
  have e := h.len
  refine ⟨?_, fun i d q => ?_⟩
  · unfold startR L2.start
    simp [e]
  · have q := look_startR q
    obtain ⟨v, x, y⟩ := h.get q
    refine ⟨v, ?_, y⟩
    have hi : i < vs.length := (List.getElem?_eq_some_iff.mp x).1
    unfold L2.start
    rw [List.getElem?_append_left (by simpa using hi), List.getElem?_map, x]
    rfl
end Tz

/-! Simulation of the hand layer's readings by transformers over plain data. -/
namespace Tz
open PySem PySem.Spec PyProof.Rows L2

abbrev DE := Rho → (PyData → Prop) → (Nat → Prop) → Prop
abbrev DT := Rho → (Bool → Prop) → (Nat → Prop) → Prop
abbrev DA := Rho → (List PyData → Prop) → (Nat → Prop) → Prop
abbrev DS := Rho → (Rho → Prop) → (PyData → Prop) → (Nat → Prop) → Prop
abbrev DG := PyData → Rho → (Rho → Prop) → Prop
abbrev DGs := List PyData → Rho → (Rho → Prop) → Prop
abbrev DI := Rho → (List PyData → Prop) → (Nat → Prop) → Prop
abbrev DF := List PyData → (PyData → Prop) → (Nat → Prop) → Prop
abbrev DO := Rho → (Option Int → Prop) → (Nat → Prop) → Prop

/-- where a body stands: the written part, the error classes' places, what is hidden, what is wished of an error -/
structure Cn where
  K : PySem.W.Frag
  ec : Nat → Addr
  GP : Hid → Prop
  E0 : XK
  add : ∀ (G : Hid) (p : Addr) (h : ¬ G.D p) (xs : List V), GP G → GP (G.add p h xs)
/-- no error leaves (a comprehension's block) -/
abbrev Cn.no (C : Cn) : Cn := { C with E0 := fun _ _ _ => False }

section
variable (C : Cn) (G : Hid) (H : Hp)
/-- what comes behind an expression, an error -/
def KV1 (Q : PyData → Prop) (Q' : VK) : Prop := ∀ v H' x, Ex G H H' → G.J H' → Rep C.K G H' v x → Q x → Q' v H'
def KT1 (Q : Bool → Prop) (Q' : Bool → Hp → Prop) : Prop := ∀ b H', Ex G H H' → G.J H' → Q b → Q' b H'
def KA1 (Q : List PyData → Prop) (Q' : List V → Hp → Prop) : Prop := ∀ vs H' xs, Ex G H H' → G.J H' → Reps C.K G H' vs xs → Q xs → Q' vs H'
def KX1 (E : Nat → Prop) : Prop := ∀ c H', Ex G H H' → G.J H' → E c → C.E0 (.ref (C.ec c)) none H'
end
def SimE (C : Cn) (t : TE) (d : DE) : Prop := ∀ (G : Hid) (r : Rho) (Q : PyData → Prop) (E : Nat → Prop), C.GP G → d r Q E → ∀ (σ : L2.St) (H : Hp) (Q' : VK), G.J H → RepS C.K G H σ r → KV1 C G H Q Q' → KX1 C G H E → t σ H Q'
def SimT (C : Cn) (t : TT) (d : DT) : Prop := ∀ (G : Hid) (r : Rho) (Q : Bool → Prop) (E : Nat → Prop), C.GP G → d r Q E → ∀ (σ : L2.St) (H : Hp) (Q' : Bool → Hp → Prop), G.J H → RepS C.K G H σ r → KT1 G H Q Q' → KX1 C G H E → t σ H Q'
def SimA (C : Cn) (t : TA) (d : DA) : Prop := ∀ (G : Hid) (r : Rho) (Q : List PyData → Prop) (E : Nat → Prop), C.GP G → d r Q E → ∀ (σ : L2.St) (H : Hp) (Q' : List V → Hp → Prop), G.J H → RepS C.K G H σ r → KA1 C G H Q Q' → KX1 C G H E → t σ H Q'
def SimO (C : Cn) (t : TO) (d : DO) : Prop := ∀ (G : Hid) (r : Rho) (Q : Option Int → Prop) (E : Nat → Prop), C.GP G → d r Q E → ∀ (σ : L2.St) (H : Hp) (Q' : Option Int → Hp → Prop), G.J H → RepS C.K G H σ r → (∀ o H', Ex G H H' → G.J H' → Q o → Q' o H') → KX1 C G H E → t σ H Q'
/-- what is wanted behind a statement -/
structure KS1 (C : Cn) (G : Hid) (H : Hp) (n : Nat) (nx : Rho → Prop) (rt : PyData → Prop) (D : Ends) : Prop where
  nx : ∀ σ' H' r', Ex G H H' → G.J H' → RepS C.K G H' σ' r' → σ'.length = n → nx r' → D.nx σ' H'
  rt : KV1 C G H rt D.rt
def SimS (C : Cn) (t : TS) (d : DS) : Prop := ∀ (G : Hid) (r : Rho) (nx : Rho → Prop) (rt : PyData → Prop) (E : Nat → Prop), C.GP G → d r nx rt E → ∀ (σ : L2.St) (H : Hp) (D : Ends), G.J H → RepS C.K G H σ r → KS1 C G H σ.length nx rt D → KX1 C G H E → t D σ H
def SimG (C : Cn) (g : TG) (d : DG) : Prop := ∀ (G : Hid) (r : Rho) (k : Rho → Prop) (x : PyData), C.GP G → d x r k → ∀ (v : V) (σ : L2.St) (H : Hp) (Q : L2.St → Hp → Prop), G.J H → RepS C.K G H σ r → Rep C.K G H v x → (∀ σ' r', RepS C.K G H σ' r' → σ'.length = σ.length → k r' → Q σ' H) → g v σ H Q
def SimGs (C : Cn) (g : TGs) (d : DGs) : Prop := ∀ (G : Hid) (r : Rho) (k : Rho → Prop) (xs : List PyData), C.GP G → d xs r k → ∀ (vs : List V) (σ : L2.St) (H : Hp) (Q : L2.St → Hp → Prop), G.J H → RepS C.K G H σ r → Reps C.K G H vs xs → (∀ σ' r', RepS C.K G H σ' r' → σ'.length = σ.length → k r' → Q σ' H) → g vs σ H Q
/-- the iterator J walks the items, whatever is made meanwhile -/
def Wlk (K : PySem.W.Frag) (G : Hid) (J : It) (H0 : Hp) (items : List PyData) : Prop := ∀ (i : Nat) (H : Hp), Ex G H0 H → G.J H →
  (∀ d, items[i]? = some d → J.go i H ∧ ∀ x H', J.yld i H x H' → H' = H ∧ Rep K G H0 x d) ∧ (items.length ≤ i → J.stop i H)
def SimI (C : Cn) (t : TI) (d : DI) : Prop := ∀ (G : Hid) (r : Rho) (Q : List PyData → Prop) (E : Nat → Prop), C.GP G → d r Q E → ∀ (σ : L2.St) (H : Hp) (R : It → Hp → Prop), G.J H → RepS C.K G H σ r → (∀ J H' xs, Ex G H H' → G.J H' → Wlk C.K G J H' xs → Q xs → R J H') → KX1 C G H E → t σ H R

theorem KX1.mono {C : Cn} {G : Hid} {H H1 : Hp} {E : Nat → Prop} (k : KX1 C G H E) (e : Ex G H H1) : KX1 C G H1 E := fun c H' e' j h => k c H' (e.trans e') j h
theorem KV1.mono {C : Cn} {G : Hid} {H H1 : Hp} {Q : PyData → Prop} {Q' : VK} (k : KV1 C G H Q Q') (e : Ex G H H1) : KV1 C G H1 Q Q' := fun v H' x e' j r h => k v H' x (e.trans e') j r h
theorem KT1.mono {G : Hid} {H H1 : Hp} {Q : Bool → Prop} {Q' : Bool → Hp → Prop} (k : KT1 G H Q Q') (e : Ex G H H1) : KT1 G H1 Q Q' := fun b H' e' j h => k b H' (e.trans e') j h
theorem KS1.mono {C : Cn} {G : Hid} {H H1 : Hp} {n : Nat} {nx : Rho → Prop} {rt : PyData → Prop} {D : Ends} (k : KS1 C G H n nx rt D) (e : Ex G H H1) : KS1 C G H1 n nx rt D :=
  ⟨fun σ' H' r' e' j r hl h => k.nx σ' H' r' (e.trans e') j r hl h, k.rt.mono e⟩

/-! ### the transformers -/
def onS {α : Type} (o : Option α) (Q : α → Prop) : Prop := match o with
  | some x => Q x
  | none => False
theorem onS_some {α : Type} {o : Option α} {Q : α → Prop} (h : onS o Q) : ∃ x, o = some x ∧ Q x := by
  cases o with
  | none => exact h.elim
  | some x => exact ⟨x, rfl, h⟩
def dVar (i : Nat) : DE := fun r Q _ => onS (look r i) Q
def dC (d : PyData) : DE := fun _ Q _ => Q d
/-- a two-place operation by data, a one-place one -/
abbrev O2 := PyData → PyData → (PyData → Prop) → Prop
abbrev O1 := PyData → (PyData → Prop) → Prop
def dOp (o : O2) (a b : DE) : DE := fun r Q E => a r (fun x => b r (fun y => o x y Q) E) E
def dUn (o : O1) (a : DE) : DE := fun r Q E => a r (fun x => o x Q) E
def dNil : DA := fun _ Q _ => Q []
def dCons (a : DE) (s : DA) : DA := fun r Q E => a r (fun x => s r (fun xs => Q (x :: xs)) E) E
def dTup (s : DA) : DE := fun r Q E => s r (fun xs => plains xs = true ∧ xs.length ≤ 100000 ∧ Q (.tuple xs)) E
def dLst (s : DA) : DE := fun r Q E => s r (fun xs => plains xs = true ∧ xs.length ≤ 100000 ∧ Q (.list xs)) E
/-- a test: a bool -/
def dTest (a : DE) : DT := fun r Q E => a r (fun x => match x with
  | .bool b => Q b
  | _ => False) E
/-- a test by truth -/
def truth : PyData → Bool
  | .none => false
  | .bool b => b
  | .int i => i != 0
  | .str x => x.length != 0
  | .list xs => !xs.isEmpty
  | .tuple xs => !xs.isEmpty
  | .dict _ => true
def dAnd (a b : DT) : DT := fun r Q E => a r (fun c => if c = true then b r Q E else Q false) E
def dOr (a b : DT) : DT := fun r Q E => a r (fun c => if c = true then Q true else b r Q E) E
def dNot (a : DT) : DT := fun r Q E => a r (fun c => Q (!c)) E
def dAndV (a b : DE) : DE := fun r Q E => a r (fun x => match x with
  | .bool c => if c = true then b r Q E else Q (.bool false)
  | _ => False) E
def dOrV (a b : DE) : DE := fun r Q E => a r (fun x => match x with
  | .bool c => if c = true then Q (.bool true) else b r Q E
  | _ => False) E
def dNotV (a : DE) : DE := fun r Q E => a r (fun x => match x with
  | .bool c => Q (.bool (!c))
  | _ => False) E
def dIf (t : DT) (a b : DE) : DE := fun r Q E => t r (fun c => if c = true then a r Q E else b r Q E) E
/-- a chain of two comparisons -/
def dChain (o o' : O2) (a b c : DE) : DE := fun r Q E => a r (fun x => b r (fun y => o x y (fun z => match z with
  | .bool k => if k = true then c r (fun w => o' y w Q) E else Q (.bool false)
  | _ => False)) E) E
/-- a call of a def of n parameters -/
def dCall (n : Nat) (f : DF) (s : DA) : DE := fun r Q E => s r (fun ds => ds.length = n ∧ f ds Q E) E
/-- a call of a built-in by data -/
def dCB (o : List PyData → (PyData → Prop) → Prop) (s : DA) : DE := fun r Q E => s r (fun ds => o ds Q) E
def dNext : DS := fun r nx _ _ => nx r
def dSeq (a b : DS) : DS := fun r nx rt E => a r (fun r' => b r' nx rt E) rt E
def dRet (a : DE) : DS := fun r _ rt E => a r rt E
def dDrop (a : DE) : DS := fun r nx _ E => a r (fun _ => nx r) E
def dAsg (a : DE) (g : DG) : DS := fun r nx _ E => a r (fun x => g x r nx) E
def dIfS (t : DT) (a b : DS) : DS := fun r nx rt E => t r (fun c => if c = true then a r nx rt E else b r nx rt E) E
def dRaise (c : Nat) : DS := fun _ _ _ E => E c
def dgName (i : Nat) : DG := fun x r k => k (put r i x)
def dgNil : DGs := fun xs r k => xs = [] ∧ k r
def dgCons (g : DG) (gs : DGs) : DGs := fun xs r k => match xs with
  | x :: xs => g x r (fun r' => gs xs r' k)
  | [] => False
def dgTup (n : Nat) (gs : DGs) : DG := fun x r k => match x with
  | .tuple xs => xs.length = n ∧ gs xs r k
  | _ => False
def dPar (i j : Nat) (s : DA) : DS := fun r nx _ E => s r (fun xs => match xs with
  | [x, y] => nx (put (put r i x) j y)
  | _ => False) E
def dPar3 (i j l : Nat) (s : DA) : DS := fun r nx _ E => s r (fun xs => match xs with
  | [x, y, z] => nx (put (put (put r i x) j y) l z)
  | _ => False) E
def forL (g : DG) (b : DS) (nx : Rho → Prop) (rt : PyData → Prop) (E : Nat → Prop) : List PyData → Rho → Prop
  | [], r => nx r
  | x :: xs, r => g x r (fun r' => b r' (fun r'' => forL g b nx rt E xs r'') rt E)
def dFor (i : DI) (g : DG) (b : DS) : DS := fun r nx rt E => i r (fun xs => forL g b nx rt E xs r) E
def whileN (t : DT) (b : DS) (nx : Rho → Prop) (rt : PyData → Prop) (E : Nat → Prop) : Nat → Rho → Prop
  | 0, _ => False
  | n + 1, r => t r (fun c => if c = true then b r (fun r' => whileN t b nx rt E n r') rt E else nx r) E
def dWhile (t : DT) (b : DS) : DS := fun r nx rt E => ∃ n, whileN t b nx rt E n r
/-- a comprehension over items -/
def lcL (g : DG) (t : DT) (e : DE) (r : Rho) (Q : List PyData → Prop) : List PyData → List PyData → Prop
  | [], acc => Q acc
  | x :: xs, acc => g x r (fun r' => t r' (fun b => if b = true then e r' (fun y => plain y = true ∧ lcL g t e r Q xs (acc ++ [y])) (fun _ => False) else lcL g t e r Q xs acc) (fun _ => False))
def dLc (i : DI) (g : DG) (t : DT) (e : DE) (vs : List Nat) : DE := fun r Q E => i r (fun xs => xs.length ≤ 100000 ∧ lcL g t e (drps r vs) (fun ys => Q (.list ys)) xs []) E
def dYes : DT := fun _ Q _ => Q true
def dOver (a : DE) : DI := fun r Q E => a r (fun x => match x with
  | .list xs => Q xs
  | .tuple xs => Q xs
  | .str x => Q (x.cps.toList.map fun c => .str ⟨#[c]⟩)
  | _ => False) E
def rangeD (lo : Int) (n : Nat) : List PyData := (List.range n).map fun (i : Nat) => .int (lo + (i : Int))
def dRng1 (a : DE) : DI := fun r Q E => a r (fun x => match x with
  | .int j => -(2 ^ 62) ≤ j ∧ j < 2 ^ 62 ∧ Q (rangeD 0 j.toNat)
  | _ => False) E
def dRng2 (a b : DE) : DI := fun r Q E => a r (fun x => b r (fun y => match x, y with
  | .int i, .int j => (-(2 ^ 62) ≤ i ∧ i < 2 ^ 62 ∧ -(2 ^ 62) ≤ j ∧ j < 2 ^ 62) ∧ Q (rangeD i (j - i).toNat)
  | _, _ => False) E) E
def dPart (a : DE) : DO := fun r Q E => a r (fun x => match x with
  | .int i => Q (some i)
  | _ => False) E
def dNoPart : DO := fun _ Q _ => Q none
end Tz

/-! The rules of simulation: expressions, tests, statements, loops, calls. -/
namespace Tz
open PySem PySem.Spec PyProof.Rows L2
section
variable {C : Cn}

/-! ### expressions -/
theorem s_var (i : Nat) : SimE C (tVar i) (dVar i) := by
  intro G r Q E gp h σ H Q' j rs k kx
  obtain ⟨d, e, q⟩ := onS_some h
  obtain ⟨v, a, b⟩ := rs.2 i d e
  exact ⟨v, a, k v H d (Ex.refl G H) j b q⟩
/-- a scalar constant -/
theorem s_c {v : V} {d : PyData} (h : ∀ H, Dq C.K H v d) : SimE C (tC v) (dC d) := by
  intro G r Q E gp q σ H Q' j rs k kx
  exact k v H d (Ex.refl G H) j (.inl (h _)) q
theorem s_int {i : Int} : SimE C (tC (.int i)) (dC (.int i)) := s_c fun _ => .int i
theorem s_str {x : Str} : SimE C (tC (.str x)) (dC (.str x)) := s_c fun _ => .str x
theorem s_bl {b : Bool} : SimE C (tC (.bl b)) (dC (.bool b)) := s_c fun _ => .bl b
theorem s_non : SimE C (tC .non) (dC .none) := s_c fun _ => .non
/-- a two-place operation, a one-place one, a call of a built-in, by values and by data -/
def Sim2 (C : Cn) (r : R2) (o : O2) : Prop := ∀ (G : Hid) (x y : V) (dx dy : PyData) (Q : PyData → Prop) (H : Hp) (Q' : VK), C.GP G → G.J H → Rep C.K G H x dx → Rep C.K G H y dy → o dx dy Q → KV1 C G H Q Q' → r x y H Q'
def Sim1 (C : Cn) (r : V → Hp → VK → Prop) (o : O1) : Prop := ∀ (G : Hid) (x : V) (dx : PyData) (Q : PyData → Prop) (H : Hp) (Q' : VK), C.GP G → G.J H → Rep C.K G H x dx → o dx Q → KV1 C G H Q Q' → r x H Q'
def SimC (C : Cn) (r : List V → Hp → VK → Prop) (o : List PyData → (PyData → Prop) → Prop) : Prop := ∀ (G : Hid) (xs : List V) (ds : List PyData) (Q : PyData → Prop) (H : Hp) (Q' : VK), C.GP G → G.J H → Reps C.K G H xs ds → o ds Q → KV1 C G H Q Q' → r xs H Q'
theorem s_op {r : R2} {o : O2} {ta tb : TE} {a b : DE} (hr : Sim2 C r o) (ha : SimE C ta a) (hb : SimE C tb b) : SimE C (tOp r ta tb) (dOp o a b) := by
  intro G ρ Q E gp h σ H Q' j rs k kx
  refine ha G ρ _ E gp h σ H _ j rs (fun v H1 x e1 j1 r1 h1 => ?_) kx
  refine hb G ρ _ E gp h1 σ H1 _ j1 (rs.mono e1) (fun u H2 y e2 j2 r2 h2 => ?_) (kx.mono e1)
  exact hr G v u x y Q H2 Q' gp j2 (r1.mono e2) r2 h2 (k.mono (e1.trans e2))
theorem s_un {r : V → Hp → VK → Prop} {o : O1} {ta : TE} {a : DE} (hr : Sim1 C r o) (ha : SimE C ta a) : SimE C (tUn r ta) (dUn o a) := by
  intro G ρ Q E gp h σ H Q' j rs k kx
  refine ha G ρ _ E gp h σ H _ j rs (fun v H1 x e1 j1 r1 h1 => ?_) kx
  exact hr G v x Q H1 Q' gp j1 r1 h1 (k.mono e1)
theorem s_nil : SimA C tNil dNil := by
  intro G ρ Q E gp h σ H Q' j rs k kx
  exact k [] H [] (Ex.refl G H) j trivial h
theorem s_cons {ta : TE} {ts : TA} {a : DE} {s : DA} (ha : SimE C ta a) (hs : SimA C ts s) : SimA C (tCons ta ts) (dCons a s) := by
  intro G ρ Q E gp h σ H Q' j rs k kx
  refine ha G ρ _ E gp h σ H _ j rs (fun v H1 x e1 j1 r1 h1 => ?_) kx
  refine hs G ρ _ E gp h1 σ H1 _ j1 (rs.mono e1) (fun vs H2 xs e2 j2 r2 h2 => ?_) (kx.mono e1)
  exact k (v :: vs) H2 (x :: xs) (e1.trans e2) j2 ⟨r1.mono e2, r2⟩ h2
theorem small5 {n : Nat} (h : n ≤ 100000) : n ≤ sizeLine := Nat.le_trans h (by decide)
/-- a new object of plain data -/
theorem new_tup {G : Hid} {H : Hp} {p : Addr} {vs : List V} {xs : List PyData} (j : G.J H) (n : H p = none) (h : Reps C.K G H vs xs) (pl : plains xs = true) :
    Ex G H (upd H p (.tup vs)) ∧ G.J (upd H p (.tup vs)) ∧ Rep C.K G (upd H p (.tup vs)) (.ref p) (.tuple xs) := by
  obtain ⟨e, j', nd⟩ := Ex.new (o := .tup vs) j n
  exact ⟨e, j', .inl (.tup (.inl (.inl (vis_of nd nt_tup upd_same))) ((h.mono e).dp pl))⟩
theorem new_lst {G : Hid} {H : Hp} {p : Addr} {vs : List V} {xs : List PyData} (j : G.J H) (n : H p = none) (h : Reps C.K G H vs xs) (pl : plains xs = true) :
    Ex G H (upd H p (.lst vs)) ∧ G.J (upd H p (.lst vs)) ∧ Rep C.K G (upd H p (.lst vs)) (.ref p) (.list xs) := by
  obtain ⟨e, j', nd⟩ := Ex.new (o := .lst vs) j n
  exact ⟨e, j', .inl (.lst (vis_of nd nt_lst upd_same) ((h.mono e).dp pl))⟩
theorem s_tup {ts : TA} {s : DA} (hs : SimA C ts s) : SimE C (tTup ts) (dTup s) := by
  intro G ρ Q E gp h σ H Q' j rs k kx
  refine hs G ρ _ E gp h σ H _ j rs (fun vs H1 xs e1 j1 r1 h1 => ?_) kx
  obtain ⟨pl, hz, q⟩ := h1
  refine ⟨by rw [r1.len]; exact small5 hz, fun p np => ?_⟩
  obtain ⟨e2, j2, r2⟩ := new_tup j1 np r1 pl
  exact k _ _ _ (e1.trans e2) j2 r2 q
theorem s_lst {ts : TA} {s : DA} (hs : SimA C ts s) : SimE C (tLst ts) (dLst s) := by
  intro G ρ Q E gp h σ H Q' j rs k kx
  refine hs G ρ _ E gp h σ H _ j rs (fun vs H1 xs e1 j1 r1 h1 => ?_) kx
  obtain ⟨pl, hz, q⟩ := h1
  refine ⟨by rw [r1.len]; exact small5 hz, fun p np => ?_⟩
  obtain ⟨e2, j2, r2⟩ := new_lst j1 np r1 pl
  exact k _ _ _ (e1.trans e2) j2 r2 q
theorem rep_bl {K : PySem.W.Frag} {G : Hid} {H : Hp} {v : V} {b : Bool} (h : Rep K G H v (.bool b)) : v = .bl b := by
  cases h.dp rfl
  rfl
theorem rep_int {K : PySem.W.Frag} {G : Hid} {H : Hp} {v : V} {i : Int} (h : Rep K G H v (.int i)) : v = .int i := by
  cases h.dp rfl
  rfl
theorem rep_str {K : PySem.W.Frag} {G : Hid} {H : Hp} {v : V} {x : Str} (h : Rep K G H v (.str x)) : v = .str x := by
  cases h.dp rfl
  rfl
theorem rep_non {K : PySem.W.Frag} {G : Hid} {H : Hp} {v : V} (h : Rep K G H v .none) : v = .non := by
  cases h.dp rfl
  rfl
theorem rep_lst {K : PySem.W.Frag} {G : Hid} {H : Hp} {v : V} {ds : List PyData} (h : Rep K G H v (.list ds)) : ∃ a xs, v = .ref a ∧ H a = some (.lst xs) ∧ ¬ G.D a ∧ DqAll K (vis G H) xs ds := by
  cases h.dp rfl with
  | lst a b =>
    obtain ⟨n, _, e⟩ := vis_some a
    exact ⟨_, _, rfl, e, n, b⟩
theorem rep_tup {K : PySem.W.Frag} {G : Hid} {H : Hp} {v : V} {ds : List PyData} (h : Rep K G H v (.tuple ds)) : ∃ a xs, v = .ref a ∧ SqT K H a xs ∧ SqT K (vis G H) a xs ∧ DqAll K (vis G H) xs ds := by
  cases h.dp rfl with
  | tup a b => exact ⟨_, _, rfl, Same.seqT vis_same a, a, b⟩
theorem reps_of {K : PySem.W.Frag} {G : Hid} {H : Hp} : ∀ {vs : List V} {ds : List PyData}, DqAll K (vis G H) vs ds → Reps K G H vs ds
  | _, _, .nil => trivial
  | _, _, .cons a b => ⟨.inl a, reps_of b⟩
theorem plains_of {K : PySem.W.Frag} {H : Hp} : ∀ {vs : List V} {ds : List PyData}, DqAll K H vs ds → plains ds = true
  | _, _, .nil => rfl
  | _, _, .cons a b => by
    have h := plains_of b
    cases a <;> exact h

/-! ### tests -/
theorem s_test {ta : TE} {a : DE} (ha : SimE C ta a) : SimT C (tTest ta) (dTest a) := by
  intro G ρ Q E gp h σ H Q' j rs k kx
  refine ha G ρ _ E gp h σ H _ j rs (fun v H1 x e1 j1 r1 h1 => ?_) kx
  cases x with
  | bool b => exact ⟨b, rep_bl r1, k b H1 e1 j1 h1⟩
  | _ => exact h1.elim
theorem s_B {ta : TE} {a : DE} (ha : SimE C ta a) : SimT C (tB ta) (dTest a) := by
  intro G ρ Q E gp h σ H Q' j rs k kx
  refine ha G ρ _ E gp h σ H _ j rs (fun v H1 x e1 j1 r1 h1 => ?_) kx
  cases x with
  | bool b => exact ⟨b, rep_bl r1, k b H1 e1 j1 h1⟩
  | _ => exact h1.elim
def tTru (K : PySem.W.Frag) (ta : TE) : TT := fun σ H Q => ta σ H fun x H' => ∃ k, TruV K x H' k ∧ Q k H'
def dTru (a : DE) : DT := fun r Q E => a r (fun x => match x with
  | .dict _ => False
  | .str z => z.length ≤ 100000 ∧ Q (truth x)
  | _ => Q (truth x)) E
theorem s_tru {ta : TE} {a : DE} (ha : SimE C ta a) : SimT C (tTru C.K ta) (dTru a) := by
  intro G ρ Q E gp h σ H Q' j rs k kx
  refine ha G ρ _ E gp h σ H _ j rs (fun v H1 x e1 j1 r1 h1 => ?_) kx
  cases x with
  | dict _ => exact h1.elim
  | none =>
    rw [rep_non r1]
    exact ⟨_, rfl, k _ H1 e1 j1 h1⟩
  | bool b =>
    rw [rep_bl r1]
    exact ⟨_, rfl, k _ H1 e1 j1 h1⟩
  | int i =>
    rw [rep_int r1]
    exact ⟨_, rfl, k _ H1 e1 j1 h1⟩
  | str z =>
    rw [rep_str r1]
    refine ⟨_, ⟨small5 h1.1, rfl⟩, k _ H1 e1 j1 ?_⟩
    have e : ((z.length : Int) != 0) = (z.length != 0) := by
      rw [Bool.eq_iff_iff]
      simp
    rw [e]
    exact h1.2
  | list ds =>
    obtain ⟨p, xs, rfl, hp, _, hd⟩ := rep_lst r1
    refine ⟨_, .inl ⟨xs, SqL.of hp, rfl⟩, k _ H1 e1 j1 ?_⟩
    have e : (!xs.isEmpty) = !ds.isEmpty := by cases hd <;> rfl
    rw [e]
    exact h1
  | tuple ds =>
    obtain ⟨p, xs, rfl, hp, _, hd⟩ := rep_tup r1
    refine ⟨_, .inr (.inl ⟨xs, hp, rfl⟩), k _ H1 e1 j1 ?_⟩
    have e : (!xs.isEmpty) = !ds.isEmpty := by cases hd <;> rfl
    rw [e]
    exact h1
theorem s_and {t u : TT} {a b : DT} (ha : SimT C t a) (hb : SimT C u b) : SimT C (tAnd t u) (dAnd a b) := by
  intro G ρ Q E gp h σ H Q' j rs k kx
  refine ha G ρ _ E gp h σ H _ j rs (fun c H1 e1 j1 h1 => ?_) kx
  cases c with
  | true => exact hb G ρ Q E gp h1 σ H1 Q' j1 (rs.mono e1) (k.mono e1) (kx.mono e1)
  | false => exact k false H1 e1 j1 h1
theorem s_or {t u : TT} {a b : DT} (ha : SimT C t a) (hb : SimT C u b) : SimT C (tOr t u) (dOr a b) := by
  intro G ρ Q E gp h σ H Q' j rs k kx
  refine ha G ρ _ E gp h σ H _ j rs (fun c H1 e1 j1 h1 => ?_) kx
  cases c with
  | false => exact hb G ρ Q E gp h1 σ H1 Q' j1 (rs.mono e1) (k.mono e1) (kx.mono e1)
  | true => exact k true H1 e1 j1 h1
theorem s_not {t : TT} {a : DT} (ha : SimT C t a) : SimT C (tNot t) (dNot a) := by
  intro G ρ Q E gp h σ H Q' j rs k kx
  exact ha G ρ _ E gp h σ H _ j rs (fun c H1 e1 j1 h1 => k (!c) H1 e1 j1 h1) kx
theorem s_andV {ta tb : TE} {a b : DE} (ha : SimE C ta a) (hb : SimE C tb b) : SimE C (tAndV ta tb) (dAndV a b) := by
  intro G ρ Q E gp h σ H Q' j rs k kx
  refine ha G ρ _ E gp h σ H _ j rs (fun v H1 x e1 j1 r1 h1 => ?_) kx
  cases x with
  | bool c =>
    refine ⟨c, rep_bl r1, ?_⟩
    cases c with
    | true => exact hb G ρ Q E gp h1 σ H1 Q' j1 (rs.mono e1) (k.mono e1) (kx.mono e1)
    | false => exact k (.bl false) H1 (.bool false) e1 j1 (.inl (.bl false)) h1
  | _ => exact h1.elim
theorem s_orV {ta tb : TE} {a b : DE} (ha : SimE C ta a) (hb : SimE C tb b) : SimE C (tOrV ta tb) (dOrV a b) := by
  intro G ρ Q E gp h σ H Q' j rs k kx
  refine ha G ρ _ E gp h σ H _ j rs (fun v H1 x e1 j1 r1 h1 => ?_) kx
  cases x with
  | bool c =>
    refine ⟨c, rep_bl r1, ?_⟩
    cases c with
    | false => exact hb G ρ Q E gp h1 σ H1 Q' j1 (rs.mono e1) (k.mono e1) (kx.mono e1)
    | true => exact k (.bl true) H1 (.bool true) e1 j1 (.inl (.bl true)) h1
  | _ => exact h1.elim
theorem s_notV {ta : TE} {a : DE} (ha : SimE C ta a) : SimE C (tNotV ta) (dNotV a) := by
  intro G ρ Q E gp h σ H Q' j rs k kx
  refine ha G ρ _ E gp h σ H _ j rs (fun v H1 x e1 j1 r1 h1 => ?_) kx
  cases x with
  | bool c => exact ⟨c, rep_bl r1, k (.bl (!c)) H1 (.bool (!c)) e1 j1 (.inl (.bl _)) h1⟩
  | _ => exact h1.elim
theorem s_if {t : TT} {ta tb : TE} {c : DT} {a b : DE} (hc : SimT C t c) (ha : SimE C ta a) (hb : SimE C tb b) : SimE C (tIf t ta tb) (dIf c a b) := by
  intro G ρ Q E gp h σ H Q' j rs k kx
  refine hc G ρ _ E gp h σ H _ j rs (fun c H1 e1 j1 h1 => ?_) kx
  cases c with
  | true => exact ha G ρ Q E gp h1 σ H1 Q' j1 (rs.mono e1) (k.mono e1) (kx.mono e1)
  | false => exact hb G ρ Q E gp h1 σ H1 Q' j1 (rs.mono e1) (k.mono e1) (kx.mono e1)
theorem s_chain {r r' : R2} {o o' : O2} {ta tb tc : TE} {a b c : DE} (hr : Sim2 C r o) (hr' : Sim2 C r' o') (ha : SimE C ta a) (hb : SimE C tb b) (hc : SimE C tc c) : SimE C (tChain r r' ta tb tc) (dChain o o' a b c) := by
  intro G ρ Q E gp h σ H Q' j rs k kx
  refine ha G ρ _ E gp h σ H _ j rs (fun v H1 x e1 j1 r1 h1 => ?_) kx
  refine hb G ρ _ E gp h1 σ H1 _ j1 (rs.mono e1) (fun u H2 y e2 j2 r2 h2 => ?_) (kx.mono e1)
  refine hr G v u x y _ H2 _ gp j2 (r1.mono e2) r2 h2 (fun z H3 w e3 j3 r3 h3 => ?_)
  have e13 := (e1.trans e2).trans e3
  cases w with
  | bool c' =>
    refine ⟨c', rep_bl r3, ?_⟩
    cases c' with
    | true =>
      refine hc G ρ _ E gp h3 σ H3 _ j3 (rs.mono e13) (fun w H4 z e4 j4 r4 h4 => ?_) (kx.mono e13)
      exact hr' G u w y z Q H4 Q' gp j4 ((r2.mono e3).mono e4) r4 h4 (k.mono (e13.trans e4))
    | false => exact k (.bl false) H3 (.bool false) e13 j3 (.inl (.bl false)) h3
  | _ => exact h3.elim

/-! ### calls -/
/-- a def's promise by data -/
def lift (K : PySem.W.Frag) (ec : Nat → Addr) (GP : Hid → Prop) (n : Nat) (f : DF) : Sp := fun vs H Q' E' => ∃ (G : Hid) (ds : List PyData) (Q : PyData → Prop) (E : Nat → Prop), GP G ∧ G.J H ∧ Reps K G H vs ds ∧ ds.length = n ∧ f ds Q E ∧
  (∀ v H' x, Ex G H H' → G.J H' → Rep K G H' v x → Q x → Q' v H') ∧ ∀ c H', Ex G H H' → G.J H' → E c → E' (.ref (ec c)) none H'
theorem s_call {n : Nat} {f : DF} {GP : Hid → Prop} {ts : TA} {s : DA} (hg : ∀ G, C.GP G → GP G) (hs : SimA C ts s) : SimE C (tCallS (lift C.K C.ec GP n f) (fun _ => C.E0) ts) (dCall n f s) := by
  intro G ρ Q E gp h σ H Q' j rs k kx
  refine hs G ρ _ E gp h σ H _ j rs (fun vs H1 xs e1 j1 r1 h1 => ?_) kx
  exact ⟨G, xs, Q, E, hg G gp, j1, r1, h1.1, h1.2, k.mono e1, kx.mono e1⟩
/-- a call within a block that lets no error out -/
theorem s_cb {r : List V → Hp → VK → Prop} {o : List PyData → (PyData → Prop) → Prop} {ts : TA} {s : DA} (hr : SimC C r o) (hs : SimA C ts s) : SimE C (tCB r ts) (dCB o s) := by
  intro G ρ Q E gp h σ H Q' j rs k kx
  refine hs G ρ _ E gp h σ H _ j rs (fun vs H1 xs e1 j1 r1 h1 => ?_) kx
  exact hr G vs xs Q H1 Q' gp j1 r1 h1 (k.mono e1)

/-! ### statements -/
theorem s_next : SimS C tNext dNext := by
  intro G ρ nx rt E gp h σ H D j rs k kx
  exact k.nx σ H ρ (Ex.refl G H) j rs rfl h
theorem s_seq {t u : TS} {a b : DS} (ha : SimS C t a) (hb : SimS C u b) : SimS C (tSeq t u) (dSeq a b) := by
  intro G ρ nx rt E gp h σ H D j rs k kx
  refine ha G ρ _ rt E gp h σ H _ j rs ⟨fun σ' H' r' e1 j1 rs1 hl h1 => ?_, k.rt⟩ kx
  refine hb G r' nx rt E gp h1 σ' H' D j1 rs1 ?_ (kx.mono e1)
  rw [hl]
  exact k.mono e1
theorem s_ret {ta : TE} {a : DE} (ha : SimE C ta a) : SimS C (tRet ta) (dRet a) := by
  intro G ρ nx rt E gp h σ H D j rs k kx
  exact ha G ρ rt E gp h σ H _ j rs k.rt kx
theorem s_drop {ta : TE} {a : DE} (ha : SimE C ta a) : SimS C (tDrop ta) (dDrop a) := by
  intro G ρ nx rt E gp h σ H D j rs k kx
  exact ha G ρ _ E gp h σ H _ j rs (fun v H1 x e1 j1 r1 h1 => k.nx σ H1 ρ e1 j1 (rs.mono e1) rfl h1) kx
theorem s_asg {ta : TE} {a : DE} {g : TG} {d : DG} (ha : SimE C ta a) (hg : SimG C g d) : SimS C (tAsg ta g) (dAsg a d) := by
  intro G ρ nx rt E gp h σ H D j rs k kx
  refine ha G ρ _ E gp h σ H _ j rs (fun v H1 x e1 j1 r1 h1 => ?_) kx
  exact hg G ρ nx x gp h1 v σ H1 _ j1 (rs.mono e1) r1 fun σ' r' rs' hl q => k.nx σ' H1 r' e1 j1 rs' hl q
theorem s_ifS {t : TT} {u w : TS} {c : DT} {a b : DS} (hc : SimT C t c) (ha : SimS C u a) (hb : SimS C w b) : SimS C (tIfS t u w) (dIfS c a b) := by
  intro G ρ nx rt E gp h σ H D j rs k kx
  refine hc G ρ _ E gp h σ H _ j rs (fun c H1 e1 j1 h1 => ?_) kx
  cases c with
  | true => exact ha G ρ nx rt E gp h1 σ H1 D j1 (rs.mono e1) (k.mono e1) (kx.mono e1)
  | false => exact hb G ρ nx rt E gp h1 σ H1 D j1 (rs.mono e1) (k.mono e1) (kx.mono e1)
/-- raise of the class c -/
def tRaise (C : Cn) (c : Nat) : TS := fun _ _ H => C.E0 (.ref (C.ec c)) none H
theorem s_raise (c : Nat) : SimS C (tRaise C c) (dRaise c) := by
  intro G ρ nx rt E gp h σ H D j rs k kx
  exact kx c H (Ex.refl G H) j h
theorem g_name (i : Nat) : SimG C (gName i) (dgName i) := by
  intro G ρ k x gp h v σ H Q j rs r1 q
  exact q _ _ (rs.put r1) (List.length_set ..) h
theorem g_nil : SimGs C gNil dgNil := by
  intro G ρ k xs gp h vs σ H Q j rs r1 q
  obtain ⟨rfl, h⟩ := h
  cases vs with
  | nil => exact ⟨rfl, q σ ρ rs rfl h⟩
  | cons _ _ => exact r1.elim
theorem g_cons {g : TG} {gs : TGs} {d : DG} {ds : DGs} (hg : SimG C g d) (hgs : SimGs C gs ds) : SimGs C (gCons g gs) (dgCons d ds) := by
  intro G ρ k xs gp h vs σ H Q j rs r1 q
  cases xs with
  | nil => exact h.elim
  | cons x xs =>
    cases vs with
    | nil => exact r1.elim
    | cons v vs =>
      refine ⟨v, vs, rfl, ?_⟩
      refine hg G ρ _ x gp h v σ H _ j rs r1.1 fun σ' r' rs' hl h' => ?_
      exact hgs G r' k xs gp h' vs σ' H Q j rs' r1.2 fun σ2 r2 rs2 hl2 h2 => q σ2 r2 rs2 (hl2.trans hl) h2
theorem g_tup {n : Nat} {gs : TGs} {ds : DGs} (hgs : SimGs C gs ds) : SimG C (gTup C.K n gs) (dgTup n ds) := by
  intro G ρ k x gp h v σ H Q j rs r1 q
  cases x with
  | tuple xs =>
    obtain ⟨a, vs, rfl, hs, _, hd⟩ := rep_tup r1
    refine ⟨a, vs, rfl, hs, ?_, ?_⟩
    · rw [dqAll_len hd]
      exact h.1
    · exact hgs G ρ k xs gp h.2 vs σ H Q j rs (reps_of hd) q
  | _ => exact h.elim
theorem s_par {i j : Nat} {ts : TA} {s : DA} (hs : SimA C ts s) : SimS C (tPar i j ts) (dPar i j s) := by
  intro G ρ nx rt E gp h σ H D jj rs k kx
  refine hs G ρ _ E gp h σ H _ jj rs (fun vs H1 xs e1 j1 r1 h1 => ?_) kx
  match xs, vs, r1, h1 with
  | [x, y], [v, w], r1, h1 => exact ⟨v, w, rfl, k.nx _ H1 _ e1 j1 (((rs.mono e1).put r1.1).put r1.2.1) (by rw [List.length_set, List.length_set]) h1⟩
  | [], _, _, h1 => exact h1.elim
  | [_], _, _, h1 => exact h1.elim
  | _ :: _ :: _ :: _, _, _, h1 => exact h1.elim
  | [_, _], [], r1, _ => exact r1.elim
  | [_, _], [_], r1, _ => exact r1.2.elim
  | [_, _], _ :: _ :: _ :: _, r1, _ => exact r1.2.2.elim
theorem s_par3 {i j l : Nat} {ts : TA} {s : DA} (hs : SimA C ts s) : SimS C (tPar3 i j l ts) (dPar3 i j l s) := by
  intro G ρ nx rt E gp h σ H D jj rs k kx
  refine hs G ρ _ E gp h σ H _ jj rs (fun vs H1 xs e1 j1 r1 h1 => ?_) kx
  match xs, vs, r1, h1 with
  | [x, y, z], [v, w, u], r1, h1 => exact ⟨v, w, u, rfl, k.nx _ H1 _ e1 j1 ((((rs.mono e1).put r1.1).put r1.2.1).put r1.2.2.1) (by rw [List.length_set, List.length_set, List.length_set]) h1⟩
  | [], _, _, h1 => exact h1.elim
  | [_], _, _, h1 => exact h1.elim
  | [_, _], _, _, h1 => exact h1.elim
  | _ :: _ :: _ :: _ :: _, _, _, h1 => exact h1.elim
  | [_, _, _], [], r1, _ => exact r1.elim
  | [_, _, _], [_], r1, _ => exact r1.2.elim
  | [_, _, _], [_, _], r1, _ => exact r1.2.2.elim
  | [_, _, _], _ :: _ :: _ :: _ :: _, r1, _ => exact r1.2.2.2.elim

/-! ### loops -/
theorem s_for {wi : TI} {g : TG} {t : TS} {di : DI} {d : DG} {b : DS} (hi : SimI C wi di) (hg : SimG C g d) (hb : SimS C t b) : SimS C (tFor wi g t) (dFor di d b) := by
  intro G ρ nx rt E gp h σ H D jj rs k kx
  refine hi G ρ _ E gp h σ H _ jj rs (fun J H1 xs e1 j1 wk h1 => ?_) kx
  refine ⟨fun i m σ' H' => ∃ ρ', m = xs.length - i ∧ i ≤ xs.length ∧ Ex G H1 H' ∧ G.J H' ∧ RepS C.K G H' σ' ρ' ∧ σ'.length = σ.length ∧ forL d b nx rt E (xs.drop i) ρ',
    ⟨xs.length, ρ, by simp, Nat.zero_le _, Ex.refl G H1, j1, rs.mono e1, rfl, h1⟩, ?_⟩
  rintro i m σ' H' ⟨ρ', rfl, hile, e2, j2, rs2, hl2, h2⟩
  by_cases hlt : i < xs.length
  · have hd : xs.drop i = xs[i] :: xs.drop (i + 1) := List.drop_eq_getElem_cons hlt
    rw [hd] at h2
    obtain ⟨hgo, hy⟩ := (wk i H' e2 j2).1 xs[i] (List.getElem?_eq_getElem hlt)
    refine .inr ⟨hgo, fun σ3 H3 => ∃ ρ3, Ex G H1 H3 ∧ G.J H3 ∧ RepS C.K G H3 σ3 ρ3 ∧ σ3.length = σ.length ∧ forL d b nx rt E (xs.drop (i + 1)) ρ3, ?_, fun x H3 y => ?_⟩
    · rintro σ3 H3 ⟨ρ3, e3, j3, rs3, hl3, h3⟩
      exact ⟨xs.length - (i + 1), by omega, ρ3, rfl, hlt, e3, j3, rs3, hl3, h3⟩
    · obtain ⟨rfl, r3⟩ := hy x H3 y
      refine hg G ρ' _ xs[i] gp h2 x σ' H3 _ j2 rs2 (r3.mono e2) fun σ4 ρ4 rs4 hl4 h4 => ?_
      refine hb G ρ4 _ rt E gp h4 σ4 H3 _ j2 rs4 ⟨fun σ5 H5 r5 e5 j5 rs5 hl5 h5 => ?_, k.rt.mono (e1.trans e2)⟩ (kx.mono (e1.trans e2))
      exact ⟨r5, e2.trans e5, j5, rs5, (hl5.trans hl4).trans hl2, h5⟩
  · have hd : xs.drop i = [] := List.drop_eq_nil_of_le (by omega)
    rw [hd] at h2
    exact .inl ⟨(wk i H' e2 j2).2 (by omega), k.nx σ' H' ρ' (e1.trans e2) j2 rs2 hl2 h2⟩
theorem s_while {t : TT} {u : TS} {c : DT} {b : DS} (hc : SimT C t c) (hb : SimS C u b) : SimS C (tWhile t u) (dWhile c b) := by
  intro G ρ nx rt E gp h σ H D jj rs k kx
  obtain ⟨n, h⟩ := h
  refine ⟨fun m σ' H' => ∃ ρ', Ex G H H' ∧ G.J H' ∧ RepS C.K G H' σ' ρ' ∧ σ'.length = σ.length ∧ whileN c b nx rt E m ρ', ⟨n, ρ, Ex.refl G H, jj, rs, rfl, h⟩, ?_⟩
  rintro m σ' H' ⟨ρ', e1, j1, rs1, hl1, h1⟩
  cases m with
  | zero => exact h1.elim
  | succ m =>
    refine hc G ρ' _ E gp h1 σ' H' _ j1 rs1 (fun b' H2 e2 j2 h2 => ?_) (kx.mono e1)
    cases b' with
    | true =>
      rw [if_pos rfl] at h2
      rw [if_pos rfl]
      refine ⟨fun σ3 H3 => ∃ ρ3, Ex G H H3 ∧ G.J H3 ∧ RepS C.K G H3 σ3 ρ3 ∧ σ3.length = σ.length ∧ whileN c b nx rt E m ρ3, ?_, ?_⟩
      · rintro σ3 H3 ⟨ρ3, z⟩
        exact ⟨m, Nat.lt_succ_self m, ρ3, z⟩
      · refine hb G ρ' _ rt E gp h2 σ' H2 _ j2 (rs1.mono e2) ⟨fun σ5 H5 r5 e5 j5 rs5 hl5 h5 => ?_, k.rt.mono (e1.trans e2)⟩ (kx.mono (e1.trans e2))
        exact ⟨r5, (e1.trans e2).trans e5, j5, rs5, hl5.trans hl1, h5⟩
    | false =>
      rw [if_neg Bool.false_ne_true] at h2
      rw [if_neg Bool.false_ne_true]
      exact k.nx σ' H2 ρ' (e1.trans e2) j2 (rs1.mono e2) hl1 h2

/-! ### what is walked -/
/-- a list, a tuple, a text -/
def iAny (K : PySem.W.Frag) (tl : TE) : TI := fun σ H R => tl σ H fun x H1 => (∃ a, x = .ref a ∧ (∃ xs, SqL K H1 a xs) ∧ R (Itl K a) H1) ∨ (∃ a, x = .ref a ∧ (∃ xs, SqT K H1 a xs) ∧ R (Itt K a) H1) ∨ ∃ z, x = .str z ∧ R (Its z) H1
theorem pi_any {X : Cx} {tg l : Expr} {tl : TE} (hl : PE X l tl) : PI X tg l (iAny X.K tl) := by
  constructor
  intro pins s σ H R I h
  refine thn (hl.run pins s σ H _ I h) ?_
  rintro v s1 ⟨x, H1, I1, r1, q1⟩
  rcases q1 with ⟨a, rfl, ⟨xs, hq⟩, q⟩ | ⟨a, rfl, ⟨xs, hq⟩, q⟩ | ⟨z, rfl, q⟩
  · cases r1
    obtain ⟨its, rv, p, hz⟩ := I1.list hq
    exact wpAny_pyIter_list p.isList (pi_one (tk := s1.toks) I1 _ (turn_list a _) ⟨_, Heap.get?_push_size _ rfl, rfl, rfl⟩ q)
  · cases r1
    obtain ⟨its, rv, p, hz⟩ := I1.tuple hq
    exact wpAny_pyIter_tuple (show s1.heap.IsTuple a its.toArray from p) (pi_one (tk := s1.toks) I1 _ (turn_tuple a _) ⟨_, Heap.get?_push_size _ rfl, rfl, rfl⟩ q)
  · obtain ⟨t, rfl⟩ := r1
    cases ha : z.cps.all (· < 128) with
    | false => exact wpAny_pyIter_wide ha (pi_one (tk := s1.toks) I1 _ (turn_str _ z t "str_iterator" (.inr rfl)) ⟨_, Heap.get?_push_size _ rfl, rfl, rfl⟩ q)
    | true => exact wpAny_pyIter_ascii ha (pi_one (tk := s1.toks) I1 _ (turn_str _ z t "str_ascii_iterator" (.inl rfl)) ⟨_, Heap.get?_push_size _ rfl, rfl, rfl⟩ q)
theorem wlk_list {K : PySem.W.Frag} {G : Hid} {H : Hp} {a : Addr} {xs : List V} {ds : List PyData} (hq : SqL K (vis G H) a xs) (hd : DqAll K (vis G H) xs ds) : Wlk K G (Itl K a) H ds := by
  intro i H1 e j
  have hq1 : SqL K H1 a xs := Same.seq (vis_same) (e.same.seq hq)
  have hl := dqAll_len hd
  refine ⟨fun d h => ?_, fun h => ⟨xs, hq1, by omega⟩⟩
  obtain ⟨v, hv, rv⟩ := dqAll_get hd h
  refine ⟨⟨xs, v, hq1, hv⟩, fun x H2 y => ?_⟩
  obtain ⟨rfl, y⟩ := y
  have := (y xs hq1).symm.trans hv
  cases this
  exact ⟨rfl, .inl rv⟩
theorem wlk_tup {K : PySem.W.Frag} {G : Hid} {H : Hp} {a : Addr} {xs : List V} {ds : List PyData} (hq : SqT K (vis G H) a xs) (hd : DqAll K (vis G H) xs ds) : Wlk K G (Itt K a) H ds := by
  intro i H1 e j
  have hq1 : SqT K H1 a xs := Same.seqT (vis_same) (Same.seqT e.same hq)
  have hl := dqAll_len hd
  refine ⟨fun d h => ?_, fun h => ⟨xs, hq1, by omega⟩⟩
  obtain ⟨v, hv, rv⟩ := dqAll_get hd h
  refine ⟨⟨xs, v, hq1, hv⟩, fun x H2 y => ?_⟩
  obtain ⟨rfl, y⟩ := y
  have := (y xs hq1).symm.trans hv
  cases this
  exact ⟨rfl, .inl rv⟩
theorem wlk_str {K : PySem.W.Frag} {G : Hid} {H : Hp} (z : Str) : Wlk K G (Its z) H (z.cps.toList.map fun c => .str ⟨#[c]⟩) := by
  intro i H1 e j
  refine ⟨fun d h => ?_, fun h => by simpa [Its] using h⟩
  rw [List.getElem?_map] at h
  obtain ⟨c, hc, rfl⟩ := Option.map_eq_some_iff.mp h
  have hc' : z.cps[i]? = some c := by simpa using hc
  refine ⟨(Array.getElem?_eq_some_iff.mp hc').1, fun x H2 y => ?_⟩
  obtain ⟨rfl, c2, h2, rfl⟩ := y
  rw [hc'] at h2
  cases h2
  exact ⟨rfl, .inl (.str _)⟩
theorem wlk_range {K : PySem.W.Frag} {G : Hid} {H : Hp} (lo : Int) (n : Nat) : Wlk K G (Itr lo n) H (rangeD lo n) := by
  intro i H1 e j
  refine ⟨fun d h => ?_, fun h => by simpa [Itr, rangeD] using h⟩
  unfold rangeD at h
  rw [List.getElem?_map] at h
  obtain ⟨c, hc, rfl⟩ := Option.map_eq_some_iff.mp h
  obtain ⟨hlt, hci⟩ := List.getElem?_eq_some_iff.mp hc
  have hi : c = i := by
    rw [← hci]
    simp
  subst hi
  refine ⟨by simpa [Itr] using hlt, fun x H2 y => ?_⟩
  obtain ⟨rfl, rfl⟩ := y
  exact ⟨rfl, .inl (.int _)⟩
theorem i_over {ta : TE} {a : DE} (ha : SimE C ta a) : SimI C (iAny C.K ta) (dOver a) := by
  intro G ρ Q E gp h σ H R j rs k kx
  refine ha G ρ _ E gp h σ H _ j rs (fun v H1 x e1 j1 r1 h1 => ?_) kx
  cases x with
  | list ds =>
    obtain ⟨p, xs, rfl, hp, nd, hd⟩ := rep_lst r1
    have hv : SqL C.K (vis G H1) p xs := SqL.of (vis_of nd nt_lst hp)
    exact .inl ⟨p, rfl, ⟨xs, SqL.of hp⟩, k _ H1 ds e1 j1 (wlk_list hv hd) h1⟩
  | tuple ds =>
    obtain ⟨p, xs, rfl, hp, hv, hd⟩ := rep_tup r1
    exact .inr (.inl ⟨p, rfl, ⟨xs, hp⟩, k _ H1 ds e1 j1 (wlk_tup hv hd) h1⟩)
  | str z => exact .inr (.inr ⟨z, rep_str r1, k _ H1 _ e1 j1 (wlk_str z) h1⟩)
  | _ => exact h1.elim
theorem i_rng1 {ta : TE} {a : DE} (ha : SimE C ta a) : SimI C (iRng1 (tCons ta tNil)) (dRng1 a) := by
  intro G ρ Q E gp h σ H R j rs k kx
  refine ha G ρ _ E gp h σ H _ j rs (fun v H1 x e1 j1 r1 h1 => ?_) kx
  cases x with
  | int i =>
    obtain ⟨h2, h3, h4⟩ := h1
    refine ⟨i, by rw [rep_int r1], h2, h3, k _ H1 _ e1 j1 (wlk_range 0 i.toNat) h4⟩
  | _ => exact h1.elim
theorem i_rng2 {ta tb : TE} {a b : DE} (ha : SimE C ta a) (hb : SimE C tb b) : SimI C (iRng2 (tCons ta (tCons tb tNil))) (dRng2 a b) := by
  intro G ρ Q E gp h σ H R j rs k kx
  refine ha G ρ _ E gp h σ H _ j rs (fun v H1 x e1 j1 r1 h1 => ?_) kx
  refine hb G ρ _ E gp h1 σ H1 _ j1 (rs.mono e1) (fun u H2 y e2 j2 r2 h2 => ?_) (kx.mono e1)
  cases x with
  | int i =>
    cases y with
    | int j' => exact ⟨i, j', by rw [rep_int r1, rep_int r2], h2.1, k _ H2 _ (e1.trans e2) j2 (wlk_range i (j' - i).toNat) h2.2⟩
    | _ => exact h2.elim
  | _ => exact h2.elim
end
end Tz

/-! Operations by values and by data. -/
namespace Tz
open PySem PySem.Spec PyProof.Rows L2

/-! ### + - * // % ** -/
def repStr (x : Str) (n : Int) : Str := if n < 1 then Str.empty else ⟨(List.replicate n.toNat x.cps).foldl (· ++ ·) #[]⟩
def rMulS : R2 := fun x y H Q => ∃ z n, x = .str z ∧ y = .int n ∧ -(2 ^ 63) ≤ n ∧ n < 2 ^ 63 ∧ z.length * n.toNat ≤ 1000000 ∧ Q (.str (repStr z n)) H
theorem foldl_nil_rep (n : Nat) : (List.replicate n (#[] : Array Nat)).foldl (· ++ ·) #[] = #[] := by
  induction n with
  | zero => rfl
  | succ n ih => rw [List.replicate_succ, List.foldl_cons]; exact ih
theorem foldl_rep_size (z : Array Nat) : ∀ (m : Nat) (acc : Array Nat), ((List.replicate m z).foldl (· ++ ·) acc).size = acc.size + z.size * m := by
  intro m
  induction m with
  | zero => intro acc; rfl
  | succ m ih =>
    intro acc
    rw [List.replicate_succ, List.foldl_cons, ih, Array.size_append, Nat.mul_succ]
    omega
theorem mul_bound {z : Nat} {n : Int} (hn : ¬ n < 1) (h3 : z * n.toNat ≤ 1000000) : ¬ ((z : Int) > (2 ^ 63 - 1) / n) := by
  intro hgt
  have hnn : ((n.toNat : Nat) : Int) = n := by omega
  have hmul : (z : Int) * n ≤ 1000000 := by
    rw [← hnn, ← Int.natCast_mul]
    omega
  have h5 : (z : Int) ≤ (2 ^ 63 - 1) / n := (Int.le_ediv_iff_mul_le (by omega)).mpr (Int.le_trans hmul (by decide))
  omega
theorem op_mulS {X : Cx} : OpR X (binaryOp .Mult) rMulS := by
  intro pins s σ H x y v u Q I rx ry h
  obtain ⟨z, n, rfl, rfl, h1, h2, h3, q⟩ := h
  obtain ⟨t, rfl⟩ := rx
  obtain ⟨t', rfl⟩ := ry
  have hs : sizeLine = 16777216 := sizeLine_eq
  by_cases hn : n < 1
  · refine PySem.P.mul_str_none hn (by omega) ⟨.str Str.empty, H, I.tok _, ⟨_, rfl⟩, ?_⟩
    have e : repStr z n = Str.empty := if_pos hn
    rw [← e]
    exact q
  · have e : repStr z n = ⟨(List.replicate n.toNat z.cps).foldl (· ++ ·) #[]⟩ := if_neg hn
    rw [e] at q
    refine PySem.P.mul_str ?_ (fun _ hh => mul_bound hn h3) (fun _ hh => decide_eq_false (by omega)) ?_
    · rw [decide_eq_false (by omega), decide_eq_false (by omega)]
      rfl
    · rw [if_neg hn]
      by_cases h1 : (n == 1 || z.length == 0) = true
      · rw [if_pos h1]
        rw [Bool.or_eq_true] at h1
        refine ⟨.str z, H, I, ⟨_, rfl⟩, ?_⟩
        have e2 : (⟨(List.replicate n.toNat z.cps).foldl (· ++ ·) #[]⟩ : Str) = z := by
          rcases h1 with h1 | h1
          · have : n = 1 := eq_of_beq h1
            subst this
            show (⟨#[] ++ z.cps⟩ : Str) = z
            rw [Array.empty_append]
          · have h0 : z.cps.size = 0 := eq_of_beq h1
            have h00 : z.cps = #[] := Array.size_eq_zero_iff.mp h0
            obtain ⟨zc⟩ := z
            simp only at h00
            subst h00
            rw [foldl_nil_rep]
        rw [e2] at q
        exact q
      · rw [if_neg h1]
        refine ⟨?_, .str _, H, I.tok _, ⟨_, rfl⟩, q⟩
        show ((List.replicate n.toNat z.cps).foldl (· ++ ·) (#[] : Array Nat)).size ≤ sizeLine
        rw [foldl_rep_size]
        have h3' : z.cps.size * n.toNat ≤ 1000000 := h3
        have : (#[] : Array Nat).size = 0 := rfl
        omega
section
variable {C : Cn}
def rAddU : R2 := fun x y H Q => rI0 (fun i j => .int (i + j)) x y H Q ∨ (∃ i j, x = .str i ∧ y = .str j ∧ i.length + j.length ≤ sizeLine ∧ Q (.str (i ++ j)) H) ∨ rCat x y H Q
theorem op_addU {X : Cx} : OpR X (binaryOp .Add) rAddU := op_add.or (op_add_str.or op_cat)
def oAdd : O2 := fun x y Q => match x, y with
  | .int i, .int j => Q (.int (i + j))
  | .str s, .str t => s.length + t.length ≤ 1000000 ∧ Q (.str (s ++ t))
  | .list a, .list b => a.length + b.length ≤ 1000000 ∧ Q (.list (a ++ b))
  | _, _ => False
theorem small6 {n : Nat} (h : n ≤ 1000000) : n ≤ sizeLine := Nat.le_trans h (by decide)
theorem s_add : Sim2 C rAddU oAdd := by
  intro G x y dx dy Q H Q' gp j rx ry h k
  match dx, dy, rx, ry, h with
  | .int a, .int b, rx, ry, h =>
    rw [rep_int rx, rep_int ry]
    exact .inl ⟨a, b, rfl, rfl, k _ H _ (Ex.refl G H) j (.inl (.int _)) h⟩
  | .str a, .str b, rx, ry, h =>
    rw [rep_str rx, rep_str ry]
    exact .inr (.inl ⟨a, b, rfl, rfl, small6 h.1, k _ H _ (Ex.refl G H) j (.inl (.str _)) h.2⟩)
  | .list a, .list b, rx, ry, h =>
    obtain ⟨p, xs, rfl, hp, np, hx⟩ := rep_lst rx
    obtain ⟨q, ys, rfl, hq, nq, hy⟩ := rep_lst ry
    refine .inr (.inr ⟨p, q, xs, ys, rfl, rfl, hp, hq, ?_, fun l hl => ?_⟩)
    · rw [dqAll_len hx, dqAll_len hy]
      exact small6 h.1
    · have hz := dqAll_app hx hy
      obtain ⟨e, j', r'⟩ := new_lst (C := C) j hl (reps_of hz) (plains_of hz)
      exact k _ _ _ e j' r' h.2
/-- two ints -/
def oI (cnd : Int → Int → Prop) (g : Int → Int → PyData) : O2 := fun x y Q => match x, y with
  | .int i, .int j => cnd i j ∧ Q (g i j)
  | _, _ => False
def oI0 (g : Int → Int → PyData) : O2 := fun x y Q => match x, y with
  | .int i, .int j => Q (g i j)
  | _, _ => False
theorem s_I {cnd cnd' : Int → Int → Prop} {g : Int → Int → V} {g' : Int → Int → PyData} (hc : ∀ i j, cnd' i j → cnd i j) (hg : ∀ i j H, Dq C.K H (g i j) (g' i j)) : Sim2 C (rI cnd g) (oI cnd' g') := by
  intro G x y dx dy Q H Q' gp j rx ry h k
  match dx, dy, rx, ry, h with
  | .int a, .int b, rx, ry, h =>
    rw [rep_int rx, rep_int ry]
    exact ⟨a, b, rfl, rfl, hc _ _ h.1, k _ H _ (Ex.refl G H) j (.inl (hg _ _ _)) h.2⟩
theorem s_I0 {g : Int → Int → V} {g' : Int → Int → PyData} (hg : ∀ i j H, Dq C.K H (g i j) (g' i j)) : Sim2 C (rI0 g) (oI0 g') := by
  intro G x y dx dy Q H Q' gp j rx ry h k
  match dx, dy, rx, ry, h with
  | .int a, .int b, rx, ry, h =>
    rw [rep_int rx, rep_int ry]
    exact ⟨a, b, rfl, rfl, k _ H _ (Ex.refl G H) j (.inl (hg _ _ _)) h⟩
abbrev rSubU : R2 := rI0 fun i j => .int (i - j)
abbrev oSub : O2 := oI0 fun i j => .int (i - j)
theorem s_sub : Sim2 C rSubU oSub := s_I0 fun _ _ _ => .int _
/-- a product that fits -/
def mulOk (i j : Int) : Prop := IntMulOk i j
def rMulU : R2 := fun x y H Q => rI mulOk (fun i j => .int (i * j)) x y H Q ∨ rMulS x y H Q
theorem op_mulI {X : Cx} : OpR X (binaryOp .Mult) (rI mulOk fun i j => .int (i * j)) := opI fun _ _ _ _ _ _ _ hc q => mul_int q hc
theorem op_mulU {X : Cx} : OpR X (binaryOp .Mult) rMulU := op_mulI.or op_mulS
def oMul : O2 := fun x y Q => match x, y with
  | .int i, .int j => mulOk i j ∧ Q (.int (i * j))
  | .str z, .int n => -(2 ^ 63) ≤ n ∧ n < 2 ^ 63 ∧ z.length * n.toNat ≤ 1000000 ∧ Q (.str (repStr z n))
  | _, _ => False
theorem s_mul : Sim2 C rMulU oMul := by
  intro G x y dx dy Q H Q' gp j rx ry h k
  match dx, dy, rx, ry, h with
  | .int a, .int b, rx, ry, h =>
    rw [rep_int rx, rep_int ry]
    exact .inl ⟨a, b, rfl, rfl, h.1, k _ H _ (Ex.refl G H) j (.inl (.int _)) h.2⟩
  | .str a, .int b, rx, ry, h =>
    rw [rep_str rx, rep_int ry]
    exact .inr ⟨a, b, rfl, rfl, h.1, h.2.1, h.2.2.1, k _ H _ (Ex.refl G H) j (.inl (.str _)) h.2.2.2⟩
def divOk (_ j : Int) : Prop := j ≠ 0 ∧ j.natAbs.log2 < 9000
abbrev rDivU : R2 := rI divOk fun i j => .int (i.fdiv j)
abbrev oDiv : O2 := oI divOk fun i j => .int (i.fdiv j)
theorem op_divU {X : Cx} : OpR X (binaryOp .FloorDiv) rDivU := opI fun i j _ _ _ _ _ hc q => floordiv_int hc.1 q (.inl (PyProof.noPylong_of_log2 hc.2))
theorem s_div : Sim2 C rDivU oDiv := s_I (fun _ _ h => h) fun _ _ _ => .int _
abbrev rModU : R2 := rI (fun _ j => j ≠ 0) fun i j => .int (i.fmod j)
abbrev oMod : O2 := oI (fun _ j => j ≠ 0) fun i j => .int (i.fmod j)
theorem op_modU {X : Cx} : OpR X (binaryOp .Mod) rModU := op_modN
theorem s_mod : Sim2 C rModU oMod := s_I (fun _ _ h => h) fun _ _ _ => .int _
abbrev rPowU : R2 := rI CPow fun i j => .int (i ^ j.toNat)
abbrev oPow : O2 := oI CPow fun i j => .int (i ^ j.toNat)
theorem op_powU {X : Cx} : OpR X (binaryOp .Pow) rPowU := op_pow
theorem s_pow : Sim2 C rPowU oPow := s_I (fun _ _ h => h) fun _ _ _ => .int _
abbrev rNegU : V → Hp → VK → Prop := rU fun i => .int (-i)
def oNeg : O1 := fun x Q => match x with
  | .int i => Q (.int (-i))
  | _ => False
theorem s_neg : Sim1 C rNegU oNeg := by
  intro G x dx Q H Q' gp j rx h k
  match dx, rx, h with
  | .int a, rx, h =>
    rw [rep_int rx]
    exact ⟨a, rfl, k _ H _ (Ex.refl G H) j (.inl (.int _)) h⟩

/-! ### comparisons -/
def scalD : PyData → PyData → Bool
  | .none, .none => true | .none, .int _ => true | .int _, .none => true | .none, .bool _ => true | .bool _, .none => true | .none, .str _ => true | .str _, .none => true
  | .int _, .int _ => true | .bool _, .bool _ => true | .str _, .str _ => true
  | .int _, .str _ => true | .str _, .int _ => true | .bool _, .str _ => true | .str _, .bool _ => true
  | _, _ => false
def rEqU (K : PySem.W.Frag) : R2 := fun x y H Q => rEq x y H Q ∨ rEqD K x y H Q
def rNeU (K : PySem.W.Frag) : R2 := fun x y H Q => rNe x y H Q ∨ rNeD K x y H Q
theorem op_eqU {X : Cx} (hu : X.A.units + 64 < cLine) : OpR X (compareOp .Eq) (rEqU X.K) := op_eq.or (op_eqD hu)
theorem op_neU {X : Cx} (hu : X.A.units + 64 < cLine) : OpR X (compareOp .NotEq) (rNeU X.K) := op_ne.or (op_neD hu)
def oEq : O2 := fun x y Q => if scalD x y = true then Q (.bool (PyData.eqv x y)) else SeqAt.shaped x = true ∧ SeqAt.shaped y = true ∧ Q (.bool (PyData.eqv x y))
def oNe : O2 := fun x y Q => if scalD x y = true then Q (.bool (!PyData.eqv x y)) else SeqAt.shaped x = true ∧ SeqAt.shaped y = true ∧ Q (.bool (!PyData.eqv x y))
theorem scal_eq {K : PySem.W.Frag} {G : Hid} {H : Hp} {x y : V} {dx dy : PyData} (s : scalD dx dy = true) (rx : Rep K G H x dx) (ry : Rep K G H y dy) : scal x y = true ∧ decide (x = y) = PyData.eqv dx dy := by
  cases dx <;> cases dy <;> first
    | (exact absurd s Bool.false_ne_true)
    | (first | rw [rep_non rx] | rw [rep_bl rx] | rw [rep_int rx] | rw [rep_str rx]
       first | rw [rep_non ry] | rw [rep_bl ry] | rw [rep_int ry] | rw [rep_str ry]
       refine ⟨rfl, ?_⟩
       first
         | (unfold PyData.eqv; exact dec_int)
         | (unfold PyData.eqv; exact dec_bl)
         | (unfold PyData.eqv; exact dec_str)
         | (unfold PyData.eqv; rfl))
theorem plain_of_shaped {d : PyData} (h : SeqAt.shaped d = true) : plain d = true := by
  cases d with
  | dict kvs =>
    have z := SeqAt.canLay_of_shaped h
    unfold PyData.canLay0 at z
    exact absurd z Bool.false_ne_true
  | _ => rfl
theorem s_eq : Sim2 C (rEqU C.K) oEq := by
  intro G x y dx dy Q H Q' gp j rx ry h k
  unfold oEq at h
  split at h
  · rename_i hs
    obtain ⟨a, b⟩ := scal_eq hs rx ry
    exact .inl ⟨a, k _ H _ (Ex.refl G H) j (.inl (by rw [b]; exact .bl _)) h⟩
  · exact .inr ⟨dx, dy, dq_dp _ _ (rx.dpH (plain_of_shaped h.1)), dq_dp _ _ (ry.dpH (plain_of_shaped h.2.1)), h.1, h.2.1, k _ H _ (Ex.refl G H) j (.inl (.bl _)) h.2.2⟩
theorem s_ne : Sim2 C (rNeU C.K) oNe := by
  intro G x y dx dy Q H Q' gp j rx ry h k
  unfold oNe at h
  split at h
  · rename_i hs
    obtain ⟨a, b⟩ := scal_eq hs rx ry
    exact .inl ⟨a, k _ H _ (Ex.refl G H) j (.inl (by rw [b]; exact .bl _)) h⟩
  · exact .inr ⟨dx, dy, dq_dp _ _ (rx.dpH (plain_of_shaped h.1)), dq_dp _ _ (ry.dpH (plain_of_shaped h.2.1)), h.1, h.2.1, k _ H _ (Ex.refl G H) j (.inl (.bl _)) h.2.2⟩
def rStr2 (g : Str → Str → V) : R2 := fun x y H Q => ∃ i j, x = .str i ∧ y = .str j ∧ Q (g i j) H
def rLtU : R2 := fun x y H Q => rI0 (fun i j => .bl (decide (i < j))) x y H Q ∨ rStr2 (fun i j => .bl (decide (i.cps.toList < j.cps.toList))) x y H Q
theorem op_ltU {X : Cx} : OpR X (compareOp .Lt) rLtU := op_lt.or op_lt_str
def oLt : O2 := fun x y Q => match x, y with
  | .int i, .int j => Q (.bool (decide (i < j)))
  | .str i, .str j => Q (.bool (decide (i.cps.toList < j.cps.toList)))
  | _, _ => False
theorem s_lt : Sim2 C rLtU oLt := by
  intro G x y dx dy Q H Q' gp j rx ry h k
  match dx, dy, rx, ry, h with
  | .int a, .int b, rx, ry, h =>
    rw [rep_int rx, rep_int ry]
    exact .inl ⟨a, b, rfl, rfl, k _ H _ (Ex.refl G H) j (.inl (.bl _)) h⟩
  | .str a, .str b, rx, ry, h =>
    rw [rep_str rx, rep_str ry]
    exact .inr ⟨a, b, rfl, rfl, k _ H _ (Ex.refl G H) j (.inl (.bl _)) h⟩
abbrev rLeU : R2 := rI0 fun i j => .bl (decide (i ≤ j))
abbrev oLe : O2 := oI0 fun i j => .bool (decide (i ≤ j))
theorem s_le : Sim2 C rLeU oLe := s_I0 fun _ _ _ => .bl _
abbrev rGtU : R2 := rI0 fun i j => .bl (decide (j < i))
abbrev oGt : O2 := oI0 fun i j => .bool (decide (j < i))
theorem s_gt : Sim2 C rGtU oGt := s_I0 fun _ _ _ => .bl _
abbrev rGeU : R2 := rI0 fun i j => .bl (decide (j ≤ i))
abbrev oGe : O2 := oI0 fun i j => .bool (decide (j ≤ i))
theorem s_ge : Sim2 C rGeU oGe := s_I0 fun _ _ _ => .bl _
/-- is None, is not None -/
def rIsU : R2 := fun x y H Q => y = .non ∧ Q (.bl (decide (x = .non))) H
def rIsNU : R2 := fun x y H Q => y = .non ∧ Q (.bl (!decide (x = .non))) H
def isNone : PyData → Bool
  | .none => true
  | _ => false
def oIs : O2 := fun x y Q => match y with
  | .none => plain x = true ∧ Q (.bool (isNone x))
  | _ => False
def oIsN : O2 := fun x y Q => match y with
  | .none => plain x = true ∧ Q (.bool (!isNone x))
  | _ => False
theorem dec_non {K : PySem.W.Frag} {G : Hid} {H : Hp} {x : V} {dx : PyData} (p : plain dx = true) (rx : Rep K G H x dx) : decide (x = .non) = isNone dx := by
  cases rx.dp p <;> rfl
theorem s_is : Sim2 C rIsU oIs := by
  intro G x y dx dy Q H Q' gp j rx ry h k
  match dy, ry, h with
  | .none, ry, h => exact ⟨rep_non ry, k _ H _ (Ex.refl G H) j (.inl (by rw [dec_non h.1 rx]; exact .bl _)) h.2⟩
theorem s_isN : Sim2 C rIsNU oIsN := by
  intro G x y dx dy Q H Q' gp j rx ry h k
  match dy, ry, h with
  | .none, ry, h => exact ⟨rep_non ry, k _ H _ (Ex.refl G H) j (.inl (by rw [dec_non h.1 rx]; exact .bl _)) h.2⟩
/-- in, not in: a text in a text, a datum in a list or a tuple -/
def inStr (x y : Str) : Bool := !(Builtin.Str.occurrences y x 0 y.length 1).isEmpty
def rInT (K : PySem.W.Frag) (neg : Bool) : R2 := fun x y H Q => ∃ d ds, Dp K H x d ∧ Dp K H y (.tuple ds) ∧ SeqAt.shaped d = true ∧ SeqAt.shaped (.tuple ds) = true ∧ Q (.bl (if neg then !ds.any fun z => PyData.eqv z d else ds.any fun z => PyData.eqv z d)) H
theorem room_in {A : Around} {ds : List PyData} {d : PyData} (h : SeqAt.shaped d = true) (hu : A.units + 65 < cLine) : A.units + 1 + min (PyData.depthAll ds) d.depth < cLine := by
  have h1 := SeqAt.depth_of_shaped h
  have h2 : min (PyData.depthAll ds) d.depth ≤ d.depth := Nat.min_le_right _ _
  omega
theorem op_inT {X : Cx} (hu : X.A.units + 65 < cLine) : OpR X (compareOp .In) (rInT X.K false) := by
  intro pins s σ H x y v u Q I rx ry h
  obtain ⟨d, ds, hd, he, sd, se, q⟩ := h
  obtain ⟨as, r1⟩ := Dp.reads I d x v hd rx
  obtain ⟨bs, r2⟩ := Dp.reads I (.tuple ds) y u he ry
  exact SeqAt.in_tuple_reads r2 r1 (SeqAt.canLay_of_shaped se) (SeqAt.canLay_of_shaped sd) (room_in sd hu) ⟨.bl _, H, I, rfl, q⟩
theorem op_notInT {X : Cx} (hu : X.A.units + 65 < cLine) : OpR X (compareOp .NotIn) (rInT X.K true) := by
  intro pins s σ H x y v u Q I rx ry h
  obtain ⟨d, ds, hd, he, sd, se, q⟩ := h
  obtain ⟨as, r1⟩ := Dp.reads I d x v hd rx
  obtain ⟨bs, r2⟩ := Dp.reads I (.tuple ds) y u he ry
  exact SeqAt.notIn_tuple_reads r2 r1 (SeqAt.canLay_of_shaped se) (SeqAt.canLay_of_shaped sd) (room_in sd hu) ⟨.bl _, H, I, rfl, q⟩
def rInU (K : PySem.W.Frag) : R2 := fun x y H Q => rStr2 (fun i j => .bl (!(Builtin.Str.occurrences j i 0 j.length 1).isEmpty)) x y H Q ∨ rInT K false x y H Q ∨ rInD K x y H Q
def rNotInU (K : PySem.W.Frag) : R2 := fun x y H Q => rStr2 (fun i j => .bl (!(!(Builtin.Str.occurrences j i 0 j.length 1).isEmpty))) x y H Q ∨ rInT K true x y H Q ∨ rNotInD K x y H Q
theorem op_inU {X : Cx} (hu : X.A.units + 65 < cLine) : OpR X (compareOp .In) (rInU X.K) := op_in_str.or ((op_inT hu).or (op_inD hu))
theorem op_notInU {X : Cx} (hu : X.A.units + 65 < cLine) : OpR X (compareOp .NotIn) (rNotInU X.K) := op_notin_str.or ((op_notInT hu).or (op_notInD hu))
def oIn : O2 := fun x y Q => match y with
  | .str j => match x with
    | .str i => Q (.bool (inStr i j))
    | _ => False
  | .tuple ds => SeqAt.shaped x = true ∧ SeqAt.shaped (.tuple ds) = true ∧ Q (.bool (ds.any fun z => PyData.eqv z x))
  | .list ds => SeqAt.shaped x = true ∧ SeqAt.shaped (.list ds) = true ∧ Q (.bool (ds.any fun z => PyData.eqv z x))
  | _ => False
def oNotIn : O2 := fun x y Q => oIn x y fun z => match z with
  | .bool b => Q (.bool (!b))
  | _ => False
theorem s_in : Sim2 C (rInU C.K) oIn := by
  intro G x y dx dy Q H Q' gp j rx ry h k
  match dy, ry, h with
  | .str b, ry, h =>
    match dx, rx, h with
    | .str a, rx, h => exact .inl ⟨a, b, rep_str rx, rep_str ry, k _ H _ (Ex.refl G H) j (.inl (.bl _)) h⟩
  | .tuple ds, ry, h => exact .inr (.inl ⟨dx, ds, dq_dp _ _ (rx.dpH (plain_of_shaped h.1)), dq_dp _ _ (ry.dpH rfl), h.1, h.2.1, k _ H _ (Ex.refl G H) j (.inl (.bl _)) h.2.2⟩)
  | .list ds, ry, h => exact .inr (.inr ⟨dx, ds, dq_dp _ _ (rx.dpH (plain_of_shaped h.1)), dq_dp _ _ (ry.dpH rfl), h.1, h.2.1, k _ H _ (Ex.refl G H) j (.inl (.bl _)) h.2.2⟩)
theorem s_notIn : Sim2 C (rNotInU C.K) oNotIn := by
  intro G x y dx dy Q H Q' gp j rx ry h k
  match dy, ry, h with
  | .str b, ry, h =>
    match dx, rx, h with
    | .str a, rx, h => exact .inl ⟨a, b, rep_str rx, rep_str ry, k _ H _ (Ex.refl G H) j (.inl (.bl _)) h⟩
  | .tuple ds, ry, h => exact .inr (.inl ⟨dx, ds, dq_dp _ _ (rx.dpH (plain_of_shaped h.1)), dq_dp _ _ (ry.dpH rfl), h.1, h.2.1, k _ H _ (Ex.refl G H) j (.inl (.bl _)) h.2.2⟩)
  | .list ds, ry, h => exact .inr (.inr ⟨dx, ds, dq_dp _ _ (rx.dpH (plain_of_shaped h.1)), dq_dp _ _ (ry.dpH rfl), h.1, h.2.1, k _ H _ (Ex.refl G H) j (.inl (.bl _)) h.2.2⟩)

/-! ### subscripts, slices -/
def oIx : O2 := fun x y Q => match x, y with
  | .list ds, .int i => onS (atI ds i) Q
  | .tuple ds, .int i => onS (atI ds i) Q
  | .str z, .int i => z.length ≤ 1000000 ∧ onS (atI z.cps.toList i) fun c => Q (.str ⟨#[c]⟩)
  | _, _ => False
theorem at_dq {K : PySem.W.Frag} {H : Hp} {xs : List V} {ds : List PyData} {i : Int} {d : PyData} (h : DqAll K H xs ds) (e : atI ds i = some d) : ∃ v, atI xs i = some v ∧ Dq K H v d := by
  unfold atI at e ⊢
  rw [dqAll_len h]
  cases q : ixN ds.length i with
  | none =>
    rw [q] at e
    cases e
  | some n =>
    rw [q] at e
    exact dqAll_get (i := n) h e
theorem s_ix : Sim2 C (rIx C.K) oIx := by
  intro G x y dx dy Q H Q' gp j rx ry h k
  match dx, dy, rx, ry, h with
  | .list ds, .int i, rx, ry, h =>
    obtain ⟨p, xs, rfl, hp, np, hx⟩ := rep_lst rx
    obtain ⟨d, e, q⟩ := onS_some h
    obtain ⟨v, ev, rv⟩ := at_dq hx e
    exact .inl ⟨p, xs, i, v, rfl, rep_int ry, SqL.of hp, ev, k _ H _ (Ex.refl G H) j (.inl rv) q⟩
  | .tuple ds, .int i, rx, ry, h =>
    obtain ⟨p, xs, rfl, hp, np, hx⟩ := rep_tup rx
    obtain ⟨d, e, q⟩ := onS_some h
    obtain ⟨v, ev, rv⟩ := at_dq hx e
    exact .inr (.inl ⟨p, xs, i, v, rfl, rep_int ry, hp, ev, k _ H _ (Ex.refl G H) j (.inl rv) q⟩)
  | .str z, .int i, rx, ry, h =>
    obtain ⟨c, e, q⟩ := onS_some h.2
    exact .inr (.inr ⟨z, i, c, rep_str rx, rep_int ry, small6 h.1, e, k _ H _ (Ex.refl G H) j (.inl (.str _)) q⟩)
end
end Tz

/-! Slices, built-in calls, methods, comprehensions, by values and by data. -/
namespace Tz
open PySem PySem.Spec PyProof.Rows L2
section
variable {C : Cn}
/-! ### slices -/
def rSlU (K : PySem.W.Frag) : V → Option Int → Option Int → Hp → VK → Prop := fun x lo hi H Q => rSlL K x lo hi H Q ∨ rSlT K x lo hi H Q ∨ rSlS x lo hi H Q
theorem sl_U {X : Cx} : SlR X (rSlU X.K) := sl_list.or (sl_tup.or sl_str)
def cutD (xs : List PyData) (lo hi : Option Int) : List PyData := (xs.drop (HT.sIx xs.length 0 lo)).take (HT.sIx xs.length xs.length hi - HT.sIx xs.length 0 lo)
theorem cut_dq {K : PySem.W.Frag} {H : Hp} {xs : List V} {ds : List PyData} (h : DqAll K H xs ds) (lo hi : Option Int) : DqAll K H (cutV xs lo hi) (cutD ds lo hi) := by
  unfold cutV cutD
  rw [dqAll_len h]
  exact dqAll_take _ (dqAll_drop _ h)
def dSl (a : DE) (l h : DO) : DE := fun r Q E => a r (fun x => l r (fun lo => h r (fun hi => match x with
  | .list ds => Q (.list (cutD ds lo hi))
  | .tuple ds => ¬ (HT.sIx ds.length 0 lo = 0 ∧ HT.sIx ds.length ds.length hi = ds.length) ∧ Q (.tuple (cutD ds lo hi))
  | .str z => z.length ≤ 1000000 ∧ Q (.str (cutS z lo hi))
  | _ => False) E) E) E
theorem s_part {ta : TE} {a : DE} (ha : SimE C ta a) : SimO C (tPart ta) (dPart a) := by
  intro G ρ Q E gp h σ H Q' j rs k kx
  refine ha G ρ _ E gp h σ H _ j rs (fun v H1 x e1 j1 r1 h1 => ?_) kx
  cases x with
  | int i => exact ⟨i, rep_int r1, k _ H1 e1 j1 h1⟩
  | _ => exact h1.elim
theorem s_noPart : SimO C tNoPart dNoPart := by
  intro G ρ Q E gp h σ H Q' j rs k kx
  exact k none H (Ex.refl G H) j h
theorem s_sl {ta : TE} {tl th : TO} {a : DE} {l h : DO} (ha : SimE C ta a) (hl : SimO C tl l) (hh : SimO C th h) : SimE C (tSl (rSlU C.K) ta tl th) (dSl a l h) := by
  intro G ρ Q E gp h σ H Q' j rs k kx
  refine ha G ρ _ E gp h σ H _ j rs (fun v H1 x e1 j1 r1 h1 => ?_) kx
  refine hl G ρ _ E gp h1 σ H1 _ j1 (rs.mono e1) (fun lo H2 e2 j2 h2 => ?_) (kx.mono e1)
  refine hh G ρ _ E gp h2 σ H2 _ j2 ((rs.mono e1).mono e2) (fun hi H3 e3 j3 h3 => ?_) ((kx.mono e1).mono e2)
  have r3 := (r1.mono e2).mono e3
  have e13 := (e1.trans e2).trans e3
  match x, r3, h3 with
  | .list ds, r3, h3 =>
    obtain ⟨p, xs, rfl, hp, np, hx⟩ := rep_lst r3
    refine .inl ⟨p, xs, rfl, SqL.of hp, fun l hl => ?_⟩
    have hz := cut_dq hx lo hi
    obtain ⟨e, j', r'⟩ := new_lst (C := C) j3 hl (reps_of hz) (plains_of hz)
    exact k _ _ _ (e13.trans e) j' r' h3
  | .tuple ds, r3, h3 =>
    obtain ⟨p, xs, rfl, hp, _, hx⟩ := rep_tup r3
    refine .inr (.inl ⟨p, xs, rfl, hp, ?_, fun l hl => ?_⟩)
    · rw [dqAll_len hx]
      exact h3.1
    · have hz := cut_dq hx lo hi
      obtain ⟨e, j', r'⟩ := new_tup (C := C) j3 hl (reps_of hz) (plains_of hz)
      exact k _ _ _ (e13.trans e) j' r' h3.2
  | .str z, r3, h3 => exact .inr (.inr ⟨z, rep_str r3, small6 h3.1, k _ H3 _ e13 j3 (.inl (.str _)) h3.2⟩)

/-! ### built-in calls -/
def rLenU (K : PySem.W.Frag) : List V → Hp → VK → Prop := fun xs H Q => ∃ x n, xs = [x] ∧ LenV K x H n ∧ Q (.int n) H
theorem call_lenU {X : Cx} : CallR X (.builtin "len") (rLenU X.K) := call_len
def oLen : List PyData → (PyData → Prop) → Prop := fun ds Q => match ds with
  | [.list xs] => Q (.int xs.length)
  | [.tuple xs] => Q (.int xs.length)
  | [.str z] => z.length ≤ 1000000 ∧ Q (.int z.length)
  | _ => False
theorem reps1 {K : PySem.W.Frag} {G : Hid} {H : Hp} {xs : List V} {d : PyData} (h : Reps K G H xs [d]) : ∃ v, xs = [v] ∧ Rep K G H v d := by
  match xs, h with
  | [v], h => exact ⟨v, rfl, h.1⟩
theorem reps2 {K : PySem.W.Frag} {G : Hid} {H : Hp} {xs : List V} {d e : PyData} (h : Reps K G H xs [d, e]) : ∃ v w, xs = [v, w] ∧ Rep K G H v d ∧ Rep K G H w e := by
  match xs, h with
  | [v, w], h => exact ⟨v, w, rfl, h.1, h.2.1⟩
theorem s_len : SimC C (rLenU C.K) oLen := by
  intro G xs ds Q H Q' gp j r h k
  match ds, r, h with
  | [.list ys], r, h =>
    obtain ⟨v, rfl, rv⟩ := reps1 r
    obtain ⟨p, zs, rfl, hp, _, hd⟩ := rep_lst rv
    refine ⟨_, ys.length, rfl, .inl ⟨zs, SqL.of hp, (dqAll_len hd).symm⟩, k _ H _ (Ex.refl G H) j (.inl (.int _)) h⟩
  | [.tuple ys], r, h =>
    obtain ⟨v, rfl, rv⟩ := reps1 r
    obtain ⟨p, zs, rfl, hp, _, hd⟩ := rep_tup rv
    refine ⟨_, ys.length, rfl, .inr ⟨zs, hp, (dqAll_len hd).symm⟩, k _ H _ (Ex.refl G H) j (.inl (.int _)) h⟩
  | [.str z], r, h =>
    obtain ⟨v, rfl, rv⟩ := reps1 r
    rw [rep_str rv]
    exact ⟨_, z.length, rfl, ⟨small6 h.1, rfl⟩, k _ H _ (Ex.refl G H) j (.inl (.int _)) h.2⟩
def rAbsU : List V → Hp → VK → Prop := fun xs H Q => ∃ i, xs = [.int i] ∧ Q (.int (if i < 0 then -i else i)) H
def oAbs : List PyData → (PyData → Prop) → Prop := fun ds Q => match ds with
  | [.int i] => Q (.int (if i < 0 then -i else i))
  | _ => False
theorem s_abs : SimC C rAbsU oAbs := by
  intro G xs ds Q H Q' gp j r h k
  match ds, r, h with
  | [.int i], r, h =>
    obtain ⟨v, rfl, rv⟩ := reps1 r
    rw [rep_int rv]
    exact ⟨i, rfl, k _ H _ (Ex.refl G H) j (.inl (.int _)) h⟩
/-- lists of one kind -/
def asInts : List PyData → Option (List Int)
  | [] => some []
  | .int i :: r => (asInts r).map (i :: ·)
  | _ :: _ => none
def asBools : List PyData → Option (List Bool)
  | [] => some []
  | .bool i :: r => (asBools r).map (i :: ·)
  | _ :: _ => none
def asStrs : List PyData → Option (List Str)
  | [] => some []
  | .str i :: r => (asStrs r).map (i :: ·)
  | _ :: _ => none
theorem asInts_map : ∀ ns : List Int, asInts (ns.map .int) = some ns
  | [] => rfl
  | n :: ns => by
    show (asInts (ns.map .int)).map (n :: ·) = _
    rw [asInts_map ns]
    rfl
theorem asBools_map : ∀ ns : List Bool, asBools (ns.map .bool) = some ns
  | [] => rfl
  | n :: ns => by
    show (asBools (ns.map .bool)).map (n :: ·) = _
    rw [asBools_map ns]
    rfl
theorem asStrs_map : ∀ ns : List Str, asStrs (ns.map .str) = some ns
  | [] => rfl
  | n :: ns => by
    show (asStrs (ns.map .str)).map (n :: ·) = _
    rw [asStrs_map ns]
    rfl
theorem ints_dq {K : PySem.W.Frag} {H : Hp} : ∀ {xs : List V} {ds : List PyData} {ns : List Int}, DqAll K H xs ds → asInts ds = some ns → xs = ns.map V.int
  | _, _, _, .nil, e => by cases e; rfl
  | _, _, ns, .cons a b, e => by
    cases a with
    | int i =>
      obtain ⟨ms, e1, rfl⟩ := Option.map_eq_some_iff.mp e
      rw [ints_dq b e1]
      rfl
    | _ => cases e
theorem bools_dq {K : PySem.W.Frag} {H : Hp} : ∀ {xs : List V} {ds : List PyData} {ns : List Bool}, DqAll K H xs ds → asBools ds = some ns → xs = ns.map V.bl
  | _, _, _, .nil, e => by cases e; rfl
  | _, _, ns, .cons a b, e => by
    cases a with
    | bl i =>
      obtain ⟨ms, e1, rfl⟩ := Option.map_eq_some_iff.mp e
      rw [bools_dq b e1]
      rfl
    | _ => cases e
theorem strs_dq {K : PySem.W.Frag} {H : Hp} : ∀ {xs : List V} {ds : List PyData} {ns : List Str}, DqAll K H xs ds → asStrs ds = some ns → xs = ns.map V.str
  | _, _, _, .nil, e => by cases e; rfl
  | _, _, ns, .cons a b, e => by
    cases a with
    | str i =>
      obtain ⟨ms, e1, rfl⟩ := Option.map_eq_some_iff.mp e
      rw [strs_dq b e1]
      rfl
    | _ => cases e
/-- max(list of ints), min; all, sum -/
def oMax : List PyData → (PyData → Prop) → Prop := fun ds Q => match ds with
  | [.list xs] => onS (asInts xs) fun ns => ns ≠ [] ∧ ∀ m, m ∈ ns → (∀ y, y ∈ ns → y ≤ m) → Q (.int m)
  | _ => False
theorem s_max : SimC C (rMax C.K) oMax := by
  intro G xs ds Q H Q' gp j r h k
  match ds, r, h with
  | [.list ys], r, h =>
    obtain ⟨v, rfl, rv⟩ := reps1 r
    obtain ⟨p, zs, rfl, hp, _, hd⟩ := rep_lst rv
    obtain ⟨ns, e, hn, q⟩ := onS_some h
    refine ⟨p, ns, rfl, ?_, List.length_pos_iff.mpr hn, fun m h1 h2 => k _ H _ (Ex.refl G H) j (.inl (.int _)) (q m h1 h2)⟩
    rw [← ints_dq hd e]
    exact SqL.of hp
def oMin : List PyData → (PyData → Prop) → Prop := fun ds Q => match ds with
  | [.list xs] => onS (asInts xs) fun ns => ns ≠ [] ∧ ∀ m, m ∈ ns → (∀ y, y ∈ ns → m ≤ y) → Q (.int m)
  | _ => False
theorem s_min : SimC C (rMin C.K) oMin := by
  intro G xs ds Q H Q' gp j r h k
  match ds, r, h with
  | [.list ys], r, h =>
    obtain ⟨v, rfl, rv⟩ := reps1 r
    obtain ⟨p, zs, rfl, hp, _, hd⟩ := rep_lst rv
    obtain ⟨ns, e, hn, q⟩ := onS_some h
    refine ⟨p, ns, rfl, ?_, List.length_pos_iff.mpr hn, fun m h1 h2 => k _ H _ (Ex.refl G H) j (.inl (.int _)) (q m h1 h2)⟩
    rw [← ints_dq hd e]
    exact SqL.of hp
def oAll : List PyData → (PyData → Prop) → Prop := fun ds Q => match ds with
  | [.list xs] => onS (asBools xs) fun bs => Q (.bool (bs.all id))
  | _ => False
theorem s_all : SimC C (rAll C.K) oAll := by
  intro G xs ds Q H Q' gp j r h k
  match ds, r, h with
  | [.list ys], r, h =>
    obtain ⟨v, rfl, rv⟩ := reps1 r
    obtain ⟨p, zs, rfl, hp, _, hd⟩ := rep_lst rv
    obtain ⟨ns, e, q⟩ := onS_some h
    refine ⟨p, ns, rfl, ?_, k _ H _ (Ex.refl G H) j (.inl (.bl _)) q⟩
    rw [← bools_dq hd e]
    exact SqL.of hp
def oSum : List PyData → (PyData → Prop) → Prop := fun ds Q => match ds with
  | [.list xs] => onS (asInts xs) fun ns => Q (.int ns.sum)
  | _ => False
theorem s_sum : SimC C (rSum C.K) oSum := by
  intro G xs ds Q H Q' gp j r h k
  match ds, r, h with
  | [.list ys], r, h =>
    obtain ⟨v, rfl, rv⟩ := reps1 r
    obtain ⟨p, zs, rfl, hp, _, hd⟩ := rep_lst rv
    obtain ⟨ns, e, q⟩ := onS_some h
    refine ⟨p, ns, rfl, ?_, k _ H _ (Ex.refl G H) j (.inl (.int _)) q⟩
    rw [← ints_dq hd e]
    exact SqL.of hp
/-- max(a, b), min(a, b) of ints -/
def rMax2U : List V → Hp → VK → Prop := fun xs H Q => ∃ i j, xs = [.int i, .int j] ∧ Q (.int (if j > i then j else i)) H
def rMin2U : List V → Hp → VK → Prop := fun xs H Q => ∃ i j, xs = [.int i, .int j] ∧ Q (.int (if j < i then j else i)) H
def oMax2 : List PyData → (PyData → Prop) → Prop := fun ds Q => match ds with
  | [.int i, .int j] => Q (.int (if j > i then j else i))
  | _ => False
def oMin2 : List PyData → (PyData → Prop) → Prop := fun ds Q => match ds with
  | [.int i, .int j] => Q (.int (if j < i then j else i))
  | _ => False
theorem s_max2 : SimC C rMax2U oMax2 := by
  intro G xs ds Q H Q' gp j r h k
  match ds, r, h with
  | [.int a, .int b], r, h =>
    obtain ⟨v, w, rfl, rv, rw'⟩ := reps2 r
    rw [rep_int rv, rep_int rw']
    exact ⟨a, b, rfl, k _ H _ (Ex.refl G H) j (.inl (.int _)) h⟩
theorem s_min2 : SimC C rMin2U oMin2 := by
  intro G xs ds Q H Q' gp j r h k
  match ds, r, h with
  | [.int a, .int b], r, h =>
    obtain ⟨v, w, rfl, rv, rw'⟩ := reps2 r
    rw [rep_int rv, rep_int rw']
    exact ⟨a, b, rfl, k _ H _ (Ex.refl G H) j (.inl (.int _)) h⟩
/-- tuple(list), list(list or tuple) -/
def rTupleU (K : PySem.W.Frag) : List V → Hp → VK → Prop := fun xs H Q => ∃ p ys, xs = [.ref p] ∧ ((SqL K H p ys ∧ ∀ l, H l = none → Q (.ref l) (upd H l (.tup ys))) ∨ (SqT K H p ys ∧ Q (.ref p) H))
theorem call_tupleU {X : Cx} : CallR X (.type "tuple") (rTupleU X.K) := call_tuple_of
def oTuple : List PyData → (PyData → Prop) → Prop := fun ds Q => match ds with
  | [.list xs] => Q (.tuple xs)
  | [.tuple xs] => Q (.tuple xs)
  | _ => False
theorem s_tuple : SimC C (rTupleU C.K) oTuple := by
  intro G xs ds Q H Q' gp j r h k
  match ds, r, h with
  | [.list ys], r, h =>
    obtain ⟨v, rfl, rv⟩ := reps1 r
    obtain ⟨p, zs, rfl, hp, _, hd⟩ := rep_lst rv
    refine ⟨p, zs, rfl, .inl ⟨SqL.of hp, fun l hl => ?_⟩⟩
    obtain ⟨e, j', r'⟩ := new_tup (C := C) j hl (reps_of hd) (plains_of hd)
    exact k _ _ _ e j' r' h
  | [.tuple ys], r, h =>
    obtain ⟨v, rfl, rv⟩ := reps1 r
    obtain ⟨p, zs, e, hp, _, hd⟩ := rep_tup rv
    exact ⟨p, zs, by rw [e], .inr ⟨hp, k _ H _ (Ex.refl G H) j (by rw [← e]; exact rv) h⟩⟩
def rListU (K : PySem.W.Frag) : List V → Hp → VK → Prop := fun xs H Q => ∃ p ys, xs = [.ref p] ∧ (SqL K H p ys ∨ SqT K H p ys) ∧ ∀ l, H l = none → Q (.ref l) (upd H l (.lst ys))
theorem call_listU {X : Cx} : CallR X (.type "list") (rListU X.K) := call_list_of
def oList : List PyData → (PyData → Prop) → Prop := fun ds Q => match ds with
  | [.list xs] => Q (.list xs)
  | [.tuple xs] => Q (.list xs)
  | _ => False
theorem s_list : SimC C (rListU C.K) oList := by
  intro G xs ds Q H Q' gp j r h k
  match ds, r, h with
  | [.list ys], r, h =>
    obtain ⟨v, rfl, rv⟩ := reps1 r
    obtain ⟨p, zs, rfl, hp, _, hd⟩ := rep_lst rv
    refine ⟨p, zs, rfl, .inl (SqL.of hp), fun l hl => ?_⟩
    obtain ⟨e, j', r'⟩ := new_lst (C := C) j hl (reps_of hd) (plains_of hd)
    exact k _ _ _ e j' r' h
  | [.tuple ys], r, h =>
    obtain ⟨v, rfl, rv⟩ := reps1 r
    obtain ⟨p, zs, rfl, hp, _, hd⟩ := rep_tup rv
    refine ⟨p, zs, rfl, .inr hp, fun l hl => ?_⟩
    obtain ⟨e, j', r'⟩ := new_lst (C := C) j hl (reps_of hd) (plains_of hd)
    exact k _ _ _ e j' r' h
/-- str(int); int(bool), int(int) -/
def rStrU : List V → Hp → VK → Prop := fun xs H Q => ∃ i : Int, xs = [.int i] ∧ i.natAbs.log2 < 1920 ∧ Q (.str (toString i)) H
def oStr : List PyData → (PyData → Prop) → Prop := fun ds Q => match ds with
  | [.int i] => i.natAbs.log2 < 1920 ∧ Q (.str (toString i : String))
  | _ => False
theorem s_strI : SimC C rStrU oStr := by
  intro G xs ds Q H Q' gp j r h k
  match ds, r, h with
  | [.int i], r, h =>
    obtain ⟨v, rfl, rv⟩ := reps1 r
    rw [rep_int rv]
    exact ⟨i, rfl, h.1, k _ H _ (Ex.refl G H) j (.inl (.str _)) h.2⟩
def rIntU : List V → Hp → VK → Prop := fun xs H Q => (∃ i, xs = [.int i] ∧ Q (.int i) H) ∨ ∃ k, xs = [.bl k] ∧ Q (.int (if k then 1 else 0)) H
def oInt : List PyData → (PyData → Prop) → Prop := fun ds Q => match ds with
  | [.int i] => Q (.int i)
  | [.bool b] => Q (.int (if b then 1 else 0))
  | _ => False
theorem s_intB : SimC C rIntU oInt := by
  intro G xs ds Q H Q' gp j r h k
  match ds, r, h with
  | [.int i], r, h =>
    obtain ⟨v, rfl, rv⟩ := reps1 r
    rw [rep_int rv]
    exact .inl ⟨i, rfl, k _ H _ (Ex.refl G H) j (.inl (.int _)) h⟩
  | [.bool b], r, h =>
    obtain ⟨v, rfl, rv⟩ := reps1 r
    rw [rep_bl rv]
    exact .inr ⟨b, rfl, k _ H _ (Ex.refl G H) j (.inl (.int _)) h⟩
/-- isinstance(x, T), T a built-in class -/
def tyName : PyData → String
  | .none => "NoneType"
  | .bool _ => "bool"
  | .int _ => "int"
  | .str _ => "str"
  | .list _ => "list"
  | .tuple _ => "tuple"
  | .dict _ => "dict"
theorem ty_of {K : PySem.W.Frag} {H : Hp} {v : V} {d : PyData} (h : Dq K H v d) : TyX K H v (.type (tyName d)) := by
  cases h with
  | non => exact .base .non
  | bl b => exact .base (.bl b)
  | int i => exact .base (.int i)
  | str x => exact .base (.str x)
  | lst a b => exact .base (.lst a)
  | tup a b =>
    rcases a with (a | ⟨o, a⟩) | ⟨o, its, n, a, c, _⟩
    · exact .base (.tup a)
    · exact .fTuple a
    · exact .kTuple a c
def tIsi (K : PySem.W.Frag) (T : String) (ta : TE) : TE := tCB (rIsi K) (tCons ta (tCons (tC (.ty T)) tNil))
def isiB (d : PyData) (T : String) : Option Bool := kitB (tyName d) T
def dIsi (T : String) (a : DE) : DE := fun r Q E => a r (fun x => plain x = true ∧ onS (isiB x T) fun b => Q (.bool b)) E
theorem s_isi {T : String} {ta : TE} {a : DE} (ha : SimE C ta a) : SimE C (tIsi C.K T ta) (dIsi T a) := by
  intro G ρ Q E gp h σ H Q' j rs k kx
  refine ha G ρ _ E gp h σ H _ j rs (fun v H1 x e1 j1 r1 h1 => ?_) kx
  obtain ⟨b, e, q⟩ := onS_some h1.2
  exact ⟨v, .ty T, .type (tyName x), .type T, b, rfl, .ty T, ty_of (r1.dpH h1.1), kit_ty e, k _ H1 _ e1 j1 (.inl (.bl _)) q⟩

/-! ### methods of texts -/
def rJoinU (K : PySem.W.Frag) : V → List V → Hp → VK → Prop := fun x xs H Q => ∃ a p, ∃ ys : List Str, x = .str a ∧ xs = [.ref p] ∧ (SqL K H p (ys.map V.str) ∨ SqT K H p (ys.map V.str)) ∧
  (ys.map (·.length)).sum + ys.length * a.length ≤ 16777216 ∧ Q (.str (Txt.join a ys)) H
def dM1 (o : O2) (a b : DE) : DE := fun r Q E => a r (fun x => b r (fun y => o x y Q) E) E
def SimM (C : Cn) (r : V → List V → Hp → VK → Prop) (o : O2) : Prop := ∀ (G : Hid) (x y : V) (dx dy : PyData) (Q : PyData → Prop) (H : Hp) (Q' : VK), C.GP G → G.J H → Rep C.K G H x dx → Rep C.K G H y dy → o dx dy Q → KV1 C G H Q Q' → r x [y] H Q'
def oJoin : O2 := fun x y Q => match x, y with
  | .str a, .list ds => onS (asStrs ds) fun ys => (ys.map (·.length)).sum + ys.length * a.length ≤ 1000000 ∧ Q (.str (Txt.join a ys))
  | _, _ => False
theorem s_join : SimM C (rJoinU C.K) oJoin := by
  intro G x y dx dy Q H Q' gp j rx ry h k
  match dx, dy, rx, ry, h with
  | .str a, .list ds, rx, ry, h =>
    obtain ⟨p, xs, rfl, hp, np, hx⟩ := rep_lst ry
    obtain ⟨ys, e, h1, q⟩ := onS_some h
    refine ⟨a, p, ys, rep_str rx, rfl, .inl ?_, Nat.le_trans h1 (by decide), k _ H _ (Ex.refl G H) j (.inl (.str _)) q⟩
    rw [← strs_dq hx e]
    exact SqL.of hp
/-- the receiver is a text -/
def tM1S (r : V → List V → Hp → VK → Prop) (to te : TE) : TE := tM1 r to te
theorem s_m1 {r : V → List V → Hp → VK → Prop} {o : O2} {ta tb : TE} {a b : DE} (hr : SimM C r o) (ho : ∀ x y Q, o x y Q → ∃ z, x = .str z) (ha : SimE C ta (a)) (hb : SimE C tb b) : SimE C (tM1 r ta tb) (fun ρ Q E => a ρ (fun x => (∃ z, x = .str z) ∧ b ρ (fun y => o x y Q) E) E) := by
  intro G ρ Q E gp h σ H Q' j rs k kx
  refine ha G ρ _ E gp h σ H _ j rs (fun v H1 x e1 j1 r1 h1 => ?_) kx
  obtain ⟨⟨z, rfl⟩, h1⟩ := h1
  refine ⟨⟨z, rep_str r1⟩, ?_⟩
  refine hb G ρ _ E gp h1 σ H1 _ j1 (rs.mono e1) (fun u H2 y e2 j2 r2 h2 => ?_) (kx.mono e1)
  exact hr G v u _ y Q H2 Q' gp j2 (r1.mono e2) r2 h2 (k.mono (e1.trans e2))
/-- str.m(e) by data: the receiver first -/
def dMs (o : O2) (a b : DE) : DE := fun ρ Q E => a ρ (fun x => match x with
  | .str z => b ρ (fun y => o (.str z) y Q) E
  | _ => False) E
theorem s_ms {r : V → List V → Hp → VK → Prop} {o : O2} {ta tb : TE} {a b : DE} (hr : SimM C r o) (ha : SimE C ta a) (hb : SimE C tb b) : SimE C (tM1 r ta tb) (dMs o a b) := by
  intro G ρ Q E gp h σ H Q' j rs k kx
  refine ha G ρ _ E gp h σ H _ j rs (fun v H1 x e1 j1 r1 h1 => ?_) kx
  match x, r1, h1 with
  | .str z, r1, h1 =>
    refine ⟨⟨z, rep_str r1⟩, ?_⟩
    refine hb G ρ _ E gp h1 σ H1 _ j1 (rs.mono e1) (fun u H2 y e2 j2 r2 h2 => ?_) (kx.mono e1)
    exact hr G v u _ y Q H2 Q' gp j2 (r1.mono e2) r2 h2 (k.mono (e1.trans e2))
def rSindexU : V → List V → Hp → VK → Prop := fun x xs H Q => ∃ a b i rest, x = .str a ∧ xs = [.str b] ∧ Builtin.Str.occurrences a b 0 a.length 1 = i :: rest ∧ Q (.int (i : Nat)) H
def oSindex : O2 := fun x y Q => match x, y with
  | .str a, .str b => onS ((Builtin.Str.occurrences a b 0 a.length 1).head?) fun (i : Nat) => Q (.int (i : Int))
  | _, _ => False
theorem s_sindex : SimM C rSindexU oSindex := by
  intro G x y dx dy Q H Q' gp j rx ry h k
  match dx, dy, rx, ry, h with
  | .str a, .str b, rx, ry, h =>
    obtain ⟨i, e, q⟩ := onS_some h
    cases he : Builtin.Str.occurrences a b 0 a.length 1 with
    | nil =>
      rw [he] at e
      cases e
    | cons i' rest =>
      rw [he] at e
      cases e
      exact ⟨a, b, i, rest, rep_str rx, by rw [rep_str ry], he, k _ H _ (Ex.refl G H) j (.inl (.int _)) q⟩
def rSplitU : V → List V → Hp → VK → Prop := fun x xs H Q => ∃ a b, x = .str a ∧ xs = [.str b] ∧ (b.length == 0) = false ∧ a.length + 2 ≤ sizeLine ∧ rNewStrs (Txt.split a b) H Q
def oSplit : O2 := fun x y Q => match x, y with
  | .str a, .str b => (b.length == 0) = false ∧ a.length + 2 ≤ 1000000 ∧ Q (.list ((Txt.split a b).map .str))
  | _, _ => False
theorem strs_reps {K : PySem.W.Frag} {G : Hid} {H : Hp} : ∀ ys : List Str, Reps K G H (ys.map V.str) (ys.map PyData.str) ∧ plains (ys.map PyData.str) = true
  | [] => ⟨trivial, rfl⟩
  | y :: ys => ⟨⟨.inl (.str y), (strs_reps ys).1⟩, (strs_reps (K := K) (G := G) (H := H) ys).2⟩
theorem s_split : SimM C rSplitU oSplit := by
  intro G x y dx dy Q H Q' gp j rx ry h k
  match dx, dy, rx, ry, h with
  | .str a, .str b, rx, ry, h =>
    refine ⟨a, b, rep_str rx, by rw [rep_str ry], h.1, small6 h.2.1, fun p np => ?_⟩
    obtain ⟨r1, r2⟩ := strs_reps (K := C.K) (G := G) (H := H) (Txt.split a b)
    obtain ⟨e, j', r'⟩ := new_lst (C := C) j np r1 r2
    exact k _ _ _ e j' r' h.2.2

/-! ### comprehensions -/
theorem wipe_set1 {σ : L2.St} {i : Nat} {v : Option V} : wipe ((wipe σ [i]).set i v) [i] = wipe σ [i] := by
  show ((σ.set i none).set i v).set i none = σ.set i none
  rw [List.set_set, List.set_set]
/-- a target that stores only into vs -/
def GIn (g : TG) (vs : List Nat) : Prop := ∀ (v : V) (σ : L2.St) (H : Hp) (Q : L2.St → Hp → Prop), g v (wipe σ vs) H Q → g v (wipe σ vs) H fun σ2 H2 => wipe σ2 vs = wipe σ vs ∧ Q σ2 H2
theorem gin_name (i : Nat) : GIn (gName i) [i] := fun v σ H Q h => ⟨wipe_set1, h⟩
theorem rep_in {K : PySem.W.Frag} {G : Hid} {p : Addr} {hp : ¬ G.D p} {zs : List V} {H H' : Hp} {v : V} {d : PyData} (n : H p = none) (e : Ex G H H') (h : Rep K G H v d) : Rep K (G.add p hp zs) H' v d := by
  rcases h with h | h
  · refine .inl (dq_same (fun a o q => ?_) d v h)
    obtain ⟨nd, t, q⟩ := vis_some q
    have ne : a ≠ p := ne_of_none q n
    exact vis_of (G := G.add p hp zs) (fun z => z.elim nd ne) t (e a o nd t q)
  · exact .inr h
theorem rep_out {K : PySem.W.Frag} {G : Hid} {p : Addr} {hp : ¬ G.D p} {zs : List V} {H : Hp} {v : V} {d : PyData} (h : Rep K (G.add p hp zs) H v d) : Rep K G H v d := by
  rcases h with h | h
  · refine .inl (dq_same (fun a o q => ?_) d v h)
    obtain ⟨nd, t, q⟩ := vis_some q
    exact vis_of (fun z => nd (.inl z)) t q
  · exact .inr h
/-- what stands at p doesn't matter -/
theorem rep_upd {K : PySem.W.Frag} {G : Hid} {p : Addr} {hp : ¬ G.D p} {zs ys : List V} {H : Hp} {o : HO} {v : V} {d : PyData} (h : Rep K (G.add p hp zs) H v d) : Rep K (G.add p hp ys) (upd H p o) v d := by
  rcases h with h | h
  · refine .inl (dq_same (fun a o q => ?_) d v h)
    obtain ⟨nd, t, q⟩ := vis_some q
    have ne : a ≠ p := fun z => nd (.inr z)
    exact vis_of (G := G.add p hp ys) nd t (by rw [upd_ne ne]; exact q)
  · exact .inr h
theorem reps_out {K : PySem.W.Frag} {G : Hid} {p : Addr} {hp : ¬ G.D p} {zs : List V} {H : Hp} : ∀ {vs : List V} {ds : List PyData}, Reps K (G.add p hp zs) H vs ds → Reps K G H vs ds
  | [], [], _ => trivial
  | _ :: _, _ :: _, h => ⟨rep_out h.1, reps_out h.2⟩
  | [], _ :: _, h => h.elim
  | _ :: _, [], h => h.elim
theorem reps_upd {K : PySem.W.Frag} {G : Hid} {p : Addr} {hp : ¬ G.D p} {zs ys : List V} {H : Hp} {o : HO} : ∀ {vs : List V} {ds : List PyData}, Reps K (G.add p hp zs) H vs ds → Reps K (G.add p hp ys) (upd H p o) vs ds
  | [], [], _ => trivial
  | _ :: _, _ :: _, h => ⟨rep_upd h.1, reps_upd h.2⟩
  | [], _ :: _, h => h.elim
  | _ :: _, [], h => h.elim
theorem reps_snoc {K : PySem.W.Frag} {G : Hid} {H : Hp} : ∀ {vs : List V} {ds : List PyData} {v : V} {d : PyData}, Reps K G H vs ds → Rep K G H v d → Reps K G H (vs ++ [v]) (ds ++ [d])
  | [], [], _, _, _, h => ⟨h, trivial⟩
  | _ :: _, _ :: _, _, _, h, q => ⟨h.1, reps_snoc h.2 q⟩
  | [], _ :: _, _, _, h, _ => h.elim
  | _ :: _, [], _, _, h, _ => h.elim
theorem plains_snoc {ds : List PyData} {d : PyData} (h : plains ds = true) (q : plain d = true) : plains (ds ++ [d]) = true := by
  unfold plains at *
  rw [List.all_append, h]
  show (true && (plain d && true)) = true
  rw [q]
  rfl
theorem s_lc {wi : TI} {g : TG} {tt : TT} {te : TE} {vs : List Nat} {di : DI} {d : DG} {t : DT} {e : DE} (hi : SimI C wi di) (hgi : GIn g vs) (hg : SimG C.no g d) (ht : SimT C.no tt t) (he : SimE C.no te e) : SimE C (tLc wi g tt te vs) (dLc di d t e vs) := by
  intro G ρ Q E gp h σ H Q' jj rs k kx
  refine hi G ρ _ E gp h σ H _ jj rs (fun J H1 xs e1 j1 wk h1 => ?_) kx
  intro p np
  obtain ⟨hlen, h1⟩ := h1
  have nd : ¬ G.D p := fun z => G.live j1 z np
  have e0 : Ex G H1 (upd H1 p (.lst [])) := (Ex.new (o := .lst []) j1 np).1
  refine ⟨fun i m H' => ∃ (acc : List V) (ds : List PyData), m = xs.length - i ∧ i ≤ xs.length ∧ Ex G H1 H' ∧ (G.add p nd acc).J H' ∧ acc.length ≤ i ∧ Reps C.K (G.add p nd acc) H' acc ds ∧ plains ds = true ∧ lcL d t e (drps ρ vs) (fun ys => Q (.list ys)) (xs.drop i) ds,
    ⟨xs.length, [], [], by simp, Nat.zero_le _, e0, Hid.add_new j1 np, Nat.le_refl _, trivial, rfl, h1⟩, ?_⟩
  rintro i m H' ⟨acc, ds, rfl, hile, e2, j2, hal, ra, pl, h2⟩
  have gp' : C.no.GP (G.add p nd acc) := C.add G p nd acc gp
  have rs2 : RepS C.K (G.add p nd acc) H' (wipe σ vs) (drps ρ vs) := by
    refine ⟨by rw [drps_len, wipe_length]; exact rs.1, fun i d z => ?_⟩
    obtain ⟨v, x, y⟩ := ((rs.mono e1).wipe vs).2 i d z
    exact ⟨v, x, rep_in np e2 y⟩
  by_cases hlt : i < xs.length
  · have hd : xs.drop i = xs[i] :: xs.drop (i + 1) := List.drop_eq_getElem_cons hlt
    rw [hd] at h2
    obtain ⟨hgo, hy⟩ := (wk i H' e2 (Hid.add_J j2)).1 xs[i] (List.getElem?_eq_getElem hlt)
    refine .inr ⟨hgo, fun H3 => ∃ (acc : List V) (ds : List PyData), Ex G H1 H3 ∧ (G.add p nd acc).J H3 ∧ acc.length ≤ i + 1 ∧ Reps C.K (G.add p nd acc) H3 acc ds ∧ plains ds = true ∧ lcL d t e (drps ρ vs) (fun ys => Q (.list ys)) (xs.drop (i + 1)) ds, ?_, fun x H3 y => ?_⟩
    · rintro H3 ⟨acc, ds, e3, j3, hal3, ra3, pl3, h3⟩
      exact ⟨xs.length - (i + 1), by omega, acc, ds, rfl, hlt, e3, j3, hal3, ra3, pl3, h3⟩
    · obtain ⟨rfl, r3⟩ := hy x H3 y
      have r3' : Rep C.K (G.add p nd acc) H3 x xs[i] := rep_in np e2 r3
      refine hgi x σ H3 _ ?_
      refine hg (G.add p nd acc) (drps ρ vs) _ xs[i] gp' h2 x (wipe σ vs) H3 _ j2 rs2 r3' fun σ4 ρ4 rs4 hl4 h4 => ?_
      have grow : ∀ {H5 : Hp}, Ex (G.add p nd acc) H3 H5 → Ex G H1 H5 := fun {H5} e5 a o na ta ha => by
        have ne : a ≠ p := ne_of_none ha np
        exact e5 a o (fun z => z.elim na ne) ta (e2 a o na ta ha)
      refine ht (G.add p nd acc) ρ4 _ _ gp' h4 σ4 H3 _ j2 rs4 (fun b H5 e5 j5 h5 => ?_) (fun c H5 _ _ z => z.elim)
      cases b with
      | false => exact ⟨acc, ds, grow e5, j5, by omega, ra.mono e5, pl, h5⟩
      | true =>
        refine he (G.add p nd acc) ρ4 _ _ gp' h5 σ4 H5 _ j5 (rs4.mono e5) (fun v H6 z e6 j6 r6 h6 => ?_) (fun c H6 _ _ z => z.elim)
        have ra6 := (ra.mono e5).mono e6
        refine ⟨acc, j6.1, Nat.lt_of_le_of_lt (Nat.le_trans hal hile) (Nat.lt_of_le_of_lt hlen (by decide)), acc ++ [v], ds ++ [z], fun a o na ta ha => ?_, Hid.add_upd j6, ?_, reps_upd (reps_snoc ra6 r6), plains_snoc pl h6.1, h6.2⟩
        · have ne : a ≠ p := ne_of_none ha np
          rw [upd_ne ne]
          exact grow (e5.trans e6) a o na ta ha
        · rw [List.length_append]
          show acc.length + 1 ≤ i + 1
          omega
  · have hd : xs.drop i = [] := List.drop_eq_nil_of_le (by omega)
    rw [hd] at h2
    refine .inl ⟨(wk i H' e2 (Hid.add_J j2)).2 (by omega), ?_⟩
    exact k _ H' _ (e1.trans e2) (Hid.add_J j2) (.inl (.lst (vis_of nd nt_lst j2.1) ((reps_out ra).dp pl))) h2
end
end Tz

/-! Defs: from a body's derivation and its simulation to a promise by data; calls. -/
namespace Tz
open PySem PySem.Spec PyProof.Rows L2
/-- a def as it stands behind the top -/
def Def0 (K : PySem.W.Frag) (mg : Str → Option Value) (x : Str) (st : Stmt) : Prop := ∃ f fd, Fun K x x st f fd ∧ mg x = some (.ref f)
/-- a def that keeps its promise, ready to be called -/
def Dfn (P : Program) (w : World) (K : PySem.W.Frag) (mg : Str → Option Value) (base : Heap) (k : Nat) (x : Str) (ps : List Str) (sp : Sp) : Prop :=
  ∃ f fd, FnOk P w K mg base (L2N.CX P w) k f fd ps sp ∧ mg x = some (.ref f) ∧ PySem.W.keepIn K (.ref f) = true ∧ Binds K fd ps []
theorem pe_cl {X : Cx} {E : XK} {k : Nat} {x : Str} {ps : List Str} {sp : Sp} {e : Expr} {es : List Expr} {t : TA} {p pos : Pos} (D : Dfn X.prog X.w X.K X.mg X.base k x ps sp) (tk : L2N.Takes X (fun cls d _ H => E cls d H)) (hr : Room k X.A) (hg : Gl X x) (ha : PA X (e :: es) t)
    (hdb : (x == ("__debug__" : Str)) = false := by decide) (he : starEach (e :: es) X.env = (false, eval e X.env) :: starEach es X.env := by rfl) (hpl : (backTo pos (starEach es X.env)).any (·.1) = false := by rfl) :
    PE X (.Call (.Name x p) (e :: es) [] pos) (tCallS sp (fun _ => E) t) := by
  obtain ⟨f, fd, F, hm, hk, hb⟩ := D
  exact pe_callS F hr hg hm hk hb (fun σ => L2N.passAt tk σ) ha hdb he hpl
/-- the context of a body, its wish about errors -/
abbrev bcx (P : Program) (w : World) (K : PySem.W.Frag) (mg : Str → Option Value) (base : Heap) (N : List Str) (qual : Str) (scope : Scope) (f : Addr) (cd : Value) (A : Around) (outer : List Env) (s : Shared) (H : Hp) (E : XK) : Cx := cxOf (L2N.CX P w) P w K mg base N qual scope f cd A outer s H E
theorem bcx_takes {P : Program} {w : World} {K : PySem.W.Frag} {mg : Str → Option Value} {base : Heap} {N : List Str} {qual : Str} {scope : Scope} {f : Addr} {cd : Value} {A : Around} {outer : List Env} {s : Shared} {H : Hp} {E : XK} :
    L2N.Takes (bcx P w K mg base N qual scope f cd A outer s H E) (fun cls d _ H => E cls d H) := L2N.takes_of rfl rfl rfl rfl
theorem bcx_own {P : Program} {w : World} {K : PySem.W.Frag} {mg : Str → Option Value} {base : Heap} {N : List Str} {qual : Str} {scope : Scope} {f : Addr} {cd : Value} {A : Around} {outer : List Env} {s : Shared} {H : Hp} {E : XK} :
    PassesOwn (model (bcx P w K mg base N qual scope f cd A outer s H E).prog (bcx P w K mg base N qual scope f cd A outer s H E).w) (bcx P w K mg base N qual scope f cd A outer s H E).A (bcx P w K mg base N qual scope f cd A outer s H E).env (bcx P w K mg base N qual scope f cd A outer s H E).xe := passes_of rfl
/-- in a block nothing is let out -/
theorem blk_takes {X : Cx} : L2N.Takes X (fun cls d _ H => (fun _ _ _ => False : XK) cls d H) := fun _ _ x => by
  obtain ⟨_, _, _, _, _, _, _, _, _, _, _, _, _, _, _, _, z⟩ := x
  exact z.elim
/-- what a def's body does, as a transformer of its arguments -/
def dFn (n : Nat) (b : DS) : DF := fun ds Q E => b (startR n ds) (fun _ => Q .none) Q E
section
variable {P : Program} {w : World} {K : PySem.W.Frag} {mg : Str → Option Value} {base : Heap}
theorem fn_ok {x : Str} {st : Stmt} {f : Addr} {fd : FuncData} {N ps : List Str} {k n m : Nat} {ec : Nat → Addr} {GP : Hid → Prop} {hadd : ∀ (G : Hid) (p : Addr) (h : ¬ G.D p) (xs : List V), GP G → GP (G.add p h xs)} {t : XK → TS} {b : DS}
    (F : Fun K x x st f fd) (S : FnScope N ps (defScope st)) (hn : N.length = n) (hm : ps.length = m) (hle : m ≤ n)
    (der : ∀ (cdv : Value) (A : Around) (outer : List Env) (s : Shared) (H : Hp) (E : XK), Room k (A.deeper (envOfC x (defScope st) s.heap.objs.size f cdv)) → PSs (bcx P w K mg base N x (defScope st) f cdv A outer s H E) (defBody st) (t E))
    (sim : ∀ E : XK, SimS ⟨K, ec, GP, E, hadd⟩ (t E) b) : FnOk P w K mg base (L2N.CX P w) (k + 1) f fd ps (lift K ec GP m (dFn n b)) := by
  obtain ⟨oc, od, kV, doc, pm, an, cdv, ct, osl, rfl, lk, hcd⟩ := F.ex
  refine fn_of lk hcd S (fun vs H Q E h => ?_) (fun A outer s H vs Q E hr h => ?_)
  · obtain ⟨G, ds, Q0, E0, gp, j, r, hl, _⟩ := h
    rw [r.len, hl, hm]
  · obtain ⟨G, ds, Q0, E0, gp, j, r, hl, hf, kq, ke⟩ := h
    have hlen := r.len
    refine ⟨t E, der cdv A outer s H E hr, ?_⟩
    have rs : RepS K G H (L2.start N vs) (startR n ds) := by
      rw [← hn]
      exact RepS.start r (by omega)
    refine sim E G (startR n ds) (fun _ => Q0 .none) Q0 E0 gp hf (L2.start N vs) H _ j rs ⟨fun σ' H' r' e j' rs' hl' q => ?_, fun v H' x e j' rv q => kq v H' x e j' rv q⟩ fun c H' e j' h => ke c H' e j' h
    exact kq .non H' .none e j' (.inl .non) q
theorem dfn_of {x : Str} {st : Stmt} {N ps : List Str} {k n m : Nat} {ec : Nat → Addr} {GP : Hid → Prop} {hadd : ∀ (G : Hid) (p : Addr) (h : ¬ G.D p) (xs : List V), GP G → GP (G.add p h xs)} {t : XK → TS} {b : DS}
    (D : Def0 K mg x st) (S : FnScope N ps (defScope st)) (hn : N.length = n) (hm : ps.length = m) (hle : m ≤ n)
    (hb : ∀ (kV doc pm : Value) (an : Option Addr) (cdv ct : Value) (us : List Value), us.length = ps.length → bindArgs (PySem.W.fnOf x x (defArgs st) (defBody st) (defScope st) .none kV doc pm an cdv ct) ⟨us, []⟩ = pure (ps.zip us))
    (der : ∀ (f : Addr) (cdv : Value) (A : Around) (outer : List Env) (s : Shared) (H : Hp) (E : XK), Room k (A.deeper (envOfC x (defScope st) s.heap.objs.size f cdv)) → PSs (bcx P w K mg base N x (defScope st) f cdv A outer s H E) (defBody st) (t E))
    (sim : ∀ E : XK, SimS ⟨K, ec, GP, E, hadd⟩ (t E) b) : Dfn P w K mg base (k + 1) x ps (lift K ec GP m (dFn n b)) := by
  obtain ⟨f, fd, F, hg⟩ := D
  exact ⟨f, fd, fn_ok F S hn hm hle (der f) sim, hg, F.kp, F.binds hb⟩
end
/-- nothing is asked of what is hidden -/
abbrev GPany : Hid → Prop := fun _ => True
theorem addAny : ∀ (G : Hid) (p : Addr) (h : ¬ G.D p) (xs : List V), GPany G → GPany (G.add p h xs) := fun _ _ _ _ _ => trivial
abbrev GPr : Hid → Prop := Rolls
theorem addR : ∀ (G : Hid) (p : Addr) (h : ¬ G.D p) (xs : List V), GPr G → GPr (G.add p h xs) := fun G p h xs R => rolls_add G p h xs R
/-- a def whose promise is read by hand -/
theorem dfn_raw {P : Program} {w : World} {K : PySem.W.Frag} {mg : Str → Option Value} {base : Heap} {x : Str} {st : Stmt} {N ps : List Str} {k : Nat} {sp : Sp} {t : XK → TS}
    (D : Def0 K mg x st) (S : FnScope N ps (defScope st))
    (hb : ∀ (kV doc pm : Value) (an : Option Addr) (cdv ct : Value) (us : List Value), us.length = ps.length → bindArgs (PySem.W.fnOf x x (defArgs st) (defBody st) (defScope st) .none kV doc pm an cdv ct) ⟨us, []⟩ = pure (ps.zip us))
    (len : ∀ vs H Q E, sp vs H Q E → vs.length = ps.length)
    (der : ∀ (f : Addr) (cdv : Value) (A : Around) (outer : List Env) (s : Shared) (H : Hp) (E : XK), Room k (A.deeper (envOfC x (defScope st) s.heap.objs.size f cdv)) → PSs (bcx P w K mg base N x (defScope st) f cdv A outer s H E) (defBody st) (t E))
    (rd : ∀ vs H Q E, sp vs H Q E → t E { nx := fun _ H' => Q .non H', rt := Q } (L2.start N vs) H) : Dfn P w K mg base (k + 1) x ps sp := by
  obtain ⟨f, fd, F, hg⟩ := D
  have hbn := F.binds hb
  obtain ⟨oc, od, kV, doc, pm, an, cdv, ct, osl, rfl, lk, hcd⟩ := F.ex
  exact ⟨f, _, fn_of lk hcd S len fun A outer s H vs Q E hr h => ⟨t E, der f cdv A outer s H E hr, rd vs H Q E h⟩, hg, F.kp, hbn⟩
end Tz

/-! max, min of a tuple of ints; min of a list of texts. -/
namespace Tz
open PySem PySem.Spec PyProof.Rows L2
section
variable {prog : Program} {w : World} {A : Around} {E : Value → Shared → Prop} {s : Shared} {l : Addr}
theorem iter_anyTup {its : Array Value} {Q : Value → Shared → Prop} (hl : s.heap.IsTuple l its)
    (h : ∀ s₂ : Shared, s₂ = { s with heap := s.heap.push { cls := .type "tuple_iterator", data := .fields #[.ref l, .int 0 0] } } →
      (s₂.heap.IsTupleIter s.heap.objs.size l 0 ∧ s₂.heap.IsTuple l its) → (∀ b ∈ [s.heap.objs.size, l], b < s₂.heap.objs.size) → l ≠ s.heap.objs.size → Q (.ref s.heap.objs.size) s₂) :
    wpAny (model prog w) A (pyIter (.ref l)) Q E s := by
  have hlt : l < s.heap.objs.size := by obtain ⟨_, e, _⟩ := hl; exact Heap.lt_size e
  refine wpAny_pyIter_tuple hl (h _ rfl ⟨⟨_, Heap.get?_push_size _ rfl, rfl, rfl⟩, hl.push _⟩ (fun b hb => ?_) (Nat.ne_of_lt hlt))
  show b < (s.heap.push _).objs.size
  rw [Heap.size_push]
  rcases List.mem_cons.mp hb with rfl | hb
  · exact Nat.lt_succ_self _
  · rcases List.mem_cons.mp hb with rfl | hb
    · exact Nat.lt_succ_of_lt hlt
    · cases hb
theorem kept_push {o : Obj} {h' : Heap} (hk : ∀ b o', b ∉ [s.heap.objs.size] → (s.heap.push o).get? b = some o' → h'.get? b = some o') :
    ∀ b o', s.heap.get? b = some o' → h'.get? b = some o' := fun b o' e => by
  refine hk b o' (fun hm => ?_) (Heap.get?_push_of_some _ e)
  rcases List.mem_cons.mp hm with e1 | hm
  · exact absurd (e1 ▸ Heap.lt_size e) (Nat.lt_irrefl _)
  · cases hm
theorem max_rawT {its : List Value} {ns : List Int} {Q : Value → Shared → Prop} (hh : A.handled = none) (hl : s.heap.IsTuple l its.toArray) (hi : IntsAre its ns) (hne : 0 < ns.length)
    (h : ∀ h' tk M t', (∀ b o, s.heap.get? b = some o → h'.get? b = some o) → M ∈ ns → (∀ a, a ∈ ns → a ≤ M) → Q (.int M t') { s with heap := h', toks := tk }) : wpAny (model prog w) A (call (.builtin "max") [.ref l]) Q E s := by
  obtain ⟨xs, e⟩ := hi.allInts.items
  have hn : numsOf (intItems xs).toList = ns := by rw [← e]; exact hi.numsOf
  rw [nums_intItems] at hn
  subst hn
  rw [e] at hl
  have hsz : 0 < xs.size := by simpa using hne
  refine call_max_walk (iter_anyTup hl fun s₂ e st hfp hlI => ?_)
  subst e
  refine ⟨_, _, _, _, _, _, _, rfl, Walks.tuple (A := A.in1) hh _ l hlI (intItems xs), st, hfp, by simpa [intItems] using hsz, CmpOf.ints_gt (numAt xs) (fun _ _ => intItems_at), fun v h' tk hP hk => ?_⟩
  have hP : (intItems xs)[argBest (fun i j => decide (numAt xs i > numAt xs j)) (xs.size - 1)]? = some v := by simpa [intItems] using hP
  obtain ⟨t, rfl⟩ := intItems_at hP
  obtain ⟨h1, h2⟩ := argBest_gt (numAt xs) (xs.size - 1)
  refine h h' tk _ t (kept_push hk) ?_ fun a ha => ?_
  · rw [numAt_eq]; exact PySem.getD_mem (by rw [List.length_map, Array.length_toList]; omega)
  · obtain ⟨j, hj, rfl⟩ := mem_getD ha
    rw [List.length_map, Array.length_toList] at hj
    rw [← numAt_eq]; exact h2 j (by omega)
theorem min_rawT {its : List Value} {ns : List Int} {Q : Value → Shared → Prop} (hh : A.handled = none) (hl : s.heap.IsTuple l its.toArray) (hi : IntsAre its ns) (hne : 0 < ns.length)
    (h : ∀ h' tk M t', (∀ b o, s.heap.get? b = some o → h'.get? b = some o) → M ∈ ns → (∀ a, a ∈ ns → M ≤ a) → Q (.int M t') { s with heap := h', toks := tk }) : wpAny (model prog w) A (call (.builtin "min") [.ref l]) Q E s := by
  obtain ⟨xs, e⟩ := hi.allInts.items
  have hn : numsOf (intItems xs).toList = ns := by rw [← e]; exact hi.numsOf
  rw [nums_intItems] at hn
  subst hn
  rw [e] at hl
  have hsz : 0 < xs.size := by simpa using hne
  refine call_min_walk (iter_anyTup hl fun s₂ e st hfp hlI => ?_)
  subst e
  refine ⟨_, _, _, _, _, _, _, rfl, Walks.tuple (A := A.in1) hh _ l hlI (intItems xs), st, hfp, by simpa [intItems] using hsz, CmpOf.ints_lt (numAt xs) (fun _ _ => intItems_at), fun v h' tk hP hk => ?_⟩
  have hP : (intItems xs)[argBest (fun i j => decide (numAt xs i < numAt xs j)) (xs.size - 1)]? = some v := by simpa [intItems] using hP
  obtain ⟨t, rfl⟩ := intItems_at hP
  obtain ⟨h1, h2⟩ := argBest_lt (numAt xs) (xs.size - 1)
  refine h h' tk _ t (kept_push hk) ?_ fun a ha => ?_
  · rw [numAt_eq]; exact PySem.getD_mem (by rw [List.length_map, Array.length_toList]; omega)
  · obtain ⟨j, hj, rfl⟩ := mem_getD ha
    rw [List.length_map, Array.length_toList] at hj
    rw [← numAt_eq]; exact h2 j (by omega)
/-- the first of the least, by a strict order -/
theorem argBest_of {α : Type} (lt : α → α → Bool) (nl : ∀ a b c, lt a b = false → lt b c = false → lt a c = false) (asy : ∀ a b, lt a b = true → lt b a = false) (irr : ∀ a, lt a a = false) (val : Nat → α) : ∀ k, argBest (fun i j => lt (val i) (val j)) k ≤ k ∧ ∀ j, j ≤ k → lt (val j) (val (argBest (fun i j => lt (val i) (val j)) k)) = false
  | 0 => ⟨Nat.le_refl _, fun j hj => by
    have : j = 0 := by omega
    subst this
    exact irr _⟩
  | k + 1 => by
    obtain ⟨h1, h2⟩ := argBest_of lt nl asy irr val k
    simp only [argBest]
    by_cases hc : lt (val (k + 1)) (val (argBest (fun i j => lt (val i) (val j)) k)) = true
    · rw [if_pos hc]
      refine ⟨Nat.le_refl _, fun j hj => ?_⟩
      by_cases hj' : j = k + 1
      · subst hj'
        exact irr _
      · exact nl _ _ _ (h2 j (by omega)) (asy _ _ hc)
    · rw [if_neg hc]
      refine ⟨by omega, fun j hj => ?_⟩
      by_cases hj' : j = k + 1
      · subst hj'
        exact Bool.eq_false_iff.mpr hc
      · exact h2 j (by omega)
theorem cmp_strs {its : List Value} {ss : List Str} (hi : Vals (ss.map V.str) its) : CmpOf prog w A .Lt (fun i v => its.toArray[i]? = some v) (fun i j => decide ((ss.getD i default).cps.toList < (ss.getD j default).cps.toList)) := by
  intro i j vi vj s Q E h1 h2 q
  have get : ∀ (i : Nat) (v : Value), its.toArray[i]? = some v → ∃ t, v = .str (ss.getD i default) t := fun i v hv => by
    have hv : its[i]? = some v := by simpa using hv
    have hlen := hi.length
    rw [List.length_map] at hlen
    have hlt : i < its.length := (List.getElem?_eq_some_iff.mp hv).1
    have hy : ss[i]? = some (ss[i]'(by omega)) := List.getElem?_eq_getElem (by omega)
    obtain ⟨u, hu, ru⟩ := Vals.get (i := i) (x := V.str (ss[i]'(by omega))) hi (by rw [List.getElem?_map, hy]; rfl)
    rw [hv] at hu
    cases hu
    obtain ⟨t, rfl⟩ := ru
    refine ⟨t, ?_⟩
    rw [List.getD_eq_getElem?_getD, hy]
    rfl
  obtain ⟨t, rfl⟩ := get i vi h1
  obtain ⟨u, rfl⟩ := get j vj h2
  exact PyProof.Rows.lt_str q
theorem lt_nl (a b c : List Nat) (h1 : decide (a < b) = false) (h2 : decide (b < c) = false) : decide (a < c) = false := by
  have h1 : b ≤ a := of_decide_eq_false h1
  have h2 : c ≤ b := of_decide_eq_false h2
  exact decide_eq_false (show ¬ a < c from List.not_lt.mpr (List.le_trans h2 h1))
theorem min_rawS {its : List Value} {ss : List Str} {Q : Value → Shared → Prop} (hh : A.handled = none) (hl : s.heap.IsList l its.toArray) (hi : Vals (ss.map V.str) its) (hne : ss ≠ [])
    (h : ∀ h' tk m t', (∀ b o, s.heap.get? b = some o → h'.get? b = some o) → m ∈ ss → (∀ y ∈ ss, ¬ y.cps.toList < m.cps.toList) → Q (.str m t') { s with heap := h', toks := tk }) : wpAny (model prog w) A (call (.builtin "min") [.ref l]) Q E s := by
  have hlen := hi.length
  rw [List.length_map] at hlen
  have hpos := List.length_pos_iff.mpr hne
  refine call_min_walk (iter_anyList hl fun s₂ e st hfp hlI => ?_)
  subst e
  refine ⟨_, _, _, _, _, _, _, rfl, Walks.list (A := A.in1) hh _ l hlI its.toArray, st, hfp, by simp; omega, cmp_strs hi, fun v h' tk hP hk => ?_⟩
  obtain ⟨h1, h2⟩ := argBest_of (fun a b : List Nat => decide (a < b)) lt_nl (fun a b z => decide_eq_false (show ¬ b < a from List.not_lt.mpr (List.le_of_lt (of_decide_eq_true z)))) (fun a => decide_eq_false (List.lt_irrefl a)) (fun i => (ss.getD i default).cps.toList) (its.toArray.size - 1)
  have hsz : its.toArray.size = ss.length := by simp; omega
  rw [hsz] at h1 h2
  have hP : its.toArray[argBest (fun i j => decide ((ss.getD i default).cps.toList < (ss.getD j default).cps.toList)) (its.toArray.size - 1)]? = some v := hP
  rw [hsz] at hP
  generalize argBest (fun i j => decide ((ss.getD i default).cps.toList < (ss.getD j default).cps.toList)) (ss.length - 1) = b at h1 h2 hP
  have hb : b < ss.length := by omega
  have hv : its[b]? = some v := by simpa using hP
  have hy : ss[b]? = some (ss[b]'hb) := List.getElem?_eq_getElem hb
  obtain ⟨u, hu, ru⟩ := Vals.get (i := b) (x := V.str (ss[b]'hb)) hi (by rw [List.getElem?_map, hy]; rfl)
  rw [hv] at hu
  cases hu
  obtain ⟨t, rfl⟩ := ru
  refine h h' tk _ t (PySem.old_kept hk) (List.getElem_mem hb) fun y hy' => ?_
  obtain ⟨j, hj, rfl⟩ := List.getElem_of_mem hy'
  have := h2 j (by omega)
  rw [List.getD_eq_getElem?_getD, List.getD_eq_getElem?_getD, hy, List.getElem?_eq_getElem hj] at this
  exact of_decide_eq_false this
end
section
variable {X : Cx}
def rMaxT (K : PySem.W.Frag) : List V → Hp → VK → Prop := fun vs H Q => ∃ (a : Addr) (ns : List Int), vs = [V.ref a] ∧ SqT K H a (ns.map V.int) ∧ 0 < ns.length ∧ ∀ m, m ∈ ns → (∀ y, y ∈ ns → y ≤ m) → Q (.int m) H
def rMinT (K : PySem.W.Frag) : List V → Hp → VK → Prop := fun vs H Q => ∃ (a : Addr) (ns : List Int), vs = [V.ref a] ∧ SqT K H a (ns.map V.int) ∧ 0 < ns.length ∧ ∀ m, m ∈ ns → (∀ y, y ∈ ns → m ≤ y) → Q (.int m) H
def rMinS (K : PySem.W.Frag) : List V → Hp → VK → Prop := fun vs H Q => ∃ (a : Addr) (ss : List Str), vs = [V.ref a] ∧ SqL K H a (ss.map V.str) ∧ ss ≠ [] ∧ ∀ m, m ∈ ss → (∀ y ∈ ss, ¬ y.cps.toList < m.cps.toList) → Q (.str m) H
theorem cr_maxT (hc : X.calm = true) : CallR X (.builtin "max") (rMaxT X.K) := by
  intro pins s σ H vs us Q I r h
  obtain ⟨a, ns, rfl, hs, hne, q⟩ := h
  obtain ⟨its, rv, hl, _⟩ := I.tuple hs
  rw [Vals.ref1 r]
  exact max_rawT (I.ok.hd hc) (show s.heap.IsTuple a its.toArray from hl) rv.ints hne fun h' tk m t' hk h1 h2 => ⟨.int _, H, I.kept hk, ⟨_, rfl⟩, q m h1 h2⟩
theorem cr_minT (hc : X.calm = true) : CallR X (.builtin "min") (rMinT X.K) := by
  intro pins s σ H vs us Q I r h
  obtain ⟨a, ns, rfl, hs, hne, q⟩ := h
  obtain ⟨its, rv, hl, _⟩ := I.tuple hs
  rw [Vals.ref1 r]
  exact min_rawT (I.ok.hd hc) (show s.heap.IsTuple a its.toArray from hl) rv.ints hne fun h' tk m t' hk h1 h2 => ⟨.int _, H, I.kept hk, ⟨_, rfl⟩, q m h1 h2⟩
theorem cr_minS (hc : X.calm = true) : CallR X (.builtin "min") (rMinS X.K) := by
  intro pins s σ H vs us Q I r h
  obtain ⟨a, ss, rfl, hs, hne, q⟩ := h
  obtain ⟨its, rv, hl, _⟩ := I.list hs
  rw [Vals.ref1 r]
  exact min_rawS (I.ok.hd hc) hl.isList rv hne fun h' tk m t' hk h1 h2 => ⟨.str _, H, I.kept hk, ⟨_, rfl⟩, q m h1 h2⟩
theorem cr_or {f : Value} {r r' : List V → Hp → VK → Prop} (h1 : CallR X f r) (h2 : CallR X f r') : CallR X f (fun vs H Q => r vs H Q ∨ r' vs H Q) := by
  intro pins s σ H vs us Q I rr h
  rcases h with h | h
  · exact h1 pins s σ H vs us Q I rr h
  · exact h2 pins s σ H vs us Q I rr h
end
section
variable {C : Cn}
def rMaxU (K : PySem.W.Frag) : List V → Hp → VK → Prop := fun vs H Q => rMax K vs H Q ∨ rMaxT K vs H Q
def rMinU (K : PySem.W.Frag) : List V → Hp → VK → Prop := fun vs H Q => rMinS K vs H Q ∨ rMinT K vs H Q
def oMaxU : List PyData → (PyData → Prop) → Prop := fun ds Q => match ds with
  | [.list xs] => onS (asInts xs) fun ns => ns ≠ [] ∧ ∀ m, m ∈ ns → (∀ y, y ∈ ns → y ≤ m) → Q (.int m)
  | [.tuple xs] => onS (asInts xs) fun ns => ns ≠ [] ∧ ∀ m, m ∈ ns → (∀ y, y ∈ ns → y ≤ m) → Q (.int m)
  | _ => False
def oMinU : List PyData → (PyData → Prop) → Prop := fun ds Q => match ds with
  | [.list xs] => onS (asStrs xs) fun ss => ss ≠ [] ∧ ∀ m, m ∈ ss → (∀ y ∈ ss, ¬ y.cps.toList < m.cps.toList) → Q (.str m)
  | [.tuple xs] => onS (asInts xs) fun ns => ns ≠ [] ∧ ∀ m, m ∈ ns → (∀ y, y ∈ ns → m ≤ y) → Q (.int m)
  | _ => False
theorem cr_maxU {X : Cx} (hc : X.calm = true) : CallR X (.builtin "max") (rMaxU X.K) := cr_or (cr_max hc) (cr_maxT hc)
theorem cr_minU {X : Cx} (hc : X.calm = true) : CallR X (.builtin "min") (rMinU X.K) := cr_or (cr_minS hc) (cr_minT hc)
theorem s_maxU : SimC C (rMaxU C.K) oMaxU := by
  intro G xs ds Q H Q' gp j r h k
  match ds, r, h with
  | [.list ys], r, h => exact .inl (s_max G xs [.list ys] Q H Q' gp j r h k)
  | [.tuple ys], r, h =>
    obtain ⟨v, rfl, rv⟩ := reps1 r
    obtain ⟨p, zs, rfl, hp, _, hd⟩ := rep_tup rv
    obtain ⟨ns, e, hn, q⟩ := onS_some h
    refine .inr ⟨p, ns, rfl, ?_, List.length_pos_iff.mpr hn, fun m h1 h2 => k _ H _ (Ex.refl G H) j (.inl (.int _)) (q m h1 h2)⟩
    rw [← ints_dq hd e]
    exact hp
theorem s_minU : SimC C (rMinU C.K) oMinU := by
  intro G xs ds Q H Q' gp j r h k
  match ds, r, h with
  | [.list ys], r, h =>
    obtain ⟨v, rfl, rv⟩ := reps1 r
    obtain ⟨p, zs, rfl, hp, _, hd⟩ := rep_lst rv
    obtain ⟨ns, e, hn, q⟩ := onS_some h
    refine .inl ⟨p, ns, rfl, ?_, hn, fun m h1 h2 => k _ H _ (Ex.refl G H) j (.inl (.str _)) (q m h1 h2)⟩
    rw [← strs_dq hd e]
    exact SqL.of hp
  | [.tuple ys], r, h =>
    obtain ⟨v, rfl, rv⟩ := reps1 r
    obtain ⟨p, zs, rfl, hp, _, hd⟩ := rep_tup rv
    obtain ⟨ns, e, hn, q⟩ := onS_some h
    refine .inr ⟨p, ns, rfl, ?_, List.length_pos_iff.mpr hn, fun m h1 h2 => k _ H _ (Ex.refl G H) j (.inl (.int _)) (q m h1 h2)⟩
    rw [← ints_dq hd e]
    exact hp
end
end Tz

/-! What the generated derivations use besides. -/
namespace Tz
open PySem PySem.Spec PyProof.Rows L2
theorem room65 {k : Nat} {A : Around} (r : Room k A) : A.units + 65 < cLine := by have := r.un; omega
theorem s_yes {C : Cn} : SimT C tYes dYes := by
  intro G ρ Q E gp h σ H Q' j rs k kx
  exact k true H (Ex.refl G H) j h
/-- the module's constants: where they stand -/
structure Ga where
  un : Addr
  le : Addr
  w : World
abbrev dUNIT : PyData := .tuple [.int 1, .int 0, .int 0, .int 1]
structure GaOk (K : PySem.W.Frag) (A : Ga) : Prop where
  un : ∀ H : Hp, Dq K H (.ref A.un) dUNIT
/-- the built-ins' names are free -/
structure Blt (mg : Str → Option Value) : Prop where
  len : mg "len" = none
  abs : mg "abs" = none
  max : mg "max" = none
  min : mg "min" = none
  all : mg "all" = none
  sum : mg "sum" = none
  tuple : mg "tuple" = none
  list : mg "list" = none
  str : mg "str" = none
  int : mg "int" = none
  bool : mg "bool" = none
  isinstance : mg "isinstance" = none
  range : mg "range" = none
  sorted : mg "sorted" = none
  set : mg "set" = none
/-- an error class of the program -/
structure ExF (K : PySem.W.Frag) (mg : Str → Option Value) (x : Str) (C : Addr) : Prop where
  gP : mg x = some (.ref C)
  xP : PySem.W.excIn K C [.type "ValueError", .type "Exception", .type "BaseException", .type "object"] "ValueError.__new__" = true
  kP : PySem.W.keepIn K (.ref C) = true
  bP : PySem.W.subIn K (.ref C) (.type "BaseException") = some true
  tP : PySem.W.typeIn K (.ref C) = some (.type "type")
abbrev rIntUU := rIntU
abbrev oIntU := oInt
theorem call_intU {X : Cx} : CallR X (.type "int") rIntUU := call_int1
theorem s_intU {C : Cn} : SimC C rIntUU oIntU := s_intB
end Tz

/-! While an exception is handled: a list walked to its end, sum, a comprehension of int(x), isinstance of the error. -/
namespace Tz
open PySem PySem.Spec PyProof.Rows L2 HotX
section
variable {prog : Program} {w : World} {A : Around} {E : Value → Shared → Prop} {s : Shared}
theorem next_end_hot {it l x1 : Addr} {i : Nat} {items : Array Value} {Q : Option Value → Shared → Prop} (hot : HotAt A x1 s.heap) (ne : x1 ≠ it) (hit : s.heap.IsListIter it l i) (hl : s.heap.IsList l items) (hx : items[i]? = none)
    (hQ : ∀ h', Heap.ExtBut it s.heap h' → Q none { s with heap := h' }) : wpAny (model prog w) A (pyNext (.ref it)) Q E s := by
  obtain ⟨o, ho, hc, hd⟩ := id hit
  obtain ⟨ol, hol, _, nl, hdl⟩ := hl
  obtain ⟨hh, o1, vs1, h1, d1, c1⟩ := hot
  unfold pyNext
  refine wpAny_bind (wpAny_attempt (wpAny_callSpecial?_slot (name := Str.ofString "__next__") hit.typeIs slot_listiter_next (wpAny_call_entry slot_listiter_next hit.typeIs entry_listiter_next ?_ (args_listiter_next _))))
  show wpAny _ _ (field (.ref it) 0 >>= _) _ _ s
  refine wpAny_bind (wpAny_field ho hd (x := .ref l) rfl ?_)
  show wpAny _ _ (if (Value.ref l == Value.none) = true then _ else _) _ _ s
  rw [if_neg (show ¬ ((Value.ref l == Value.none) = true) from Bool.false_ne_true)]
  show wpAny _ _ (field (.ref it) 1 >>= _) _ _ s
  refine wpAny_bind (wpAny_field ho hd (x := .int i 0) rfl ?_)
  show wpAny _ _ (seqItems? (.ref l) >>= _) _ _ s
  refine wpAny_bind (wpAny_seqItems hol hdl ?_)
  simp only [Int.toNat_natCast, hx]
  refine wpAny_bind (wpAny_rule (wpAny_bind (wpAny_setField ho hd (by simp) ?_)))
  show wpAny _ _ (newExc (.type "StopIteration") [] >>= _) _ _ _
  refine wpAny_bind ?_
  simp only [newExc, newTuple]
  refine wpAny_bind (wpAny_newObj_type ?_ (by size_fits))
  refine wpAny_bind (m := firstArgMember _ _) (wpAny_of_eq (a := Value.none) (by first | rfl | (simp only [firstArgMember]; rfl)) ?_)
  refine wpAny_newObj_type ?_ (by size_fits)
  have k1 : ∀ b ob, b ≠ it → s.heap.get? b = some ob → (s.heap.update it (Obj.mapFields (·.setIfInBounds 0 .none))).get? b = some ob := fun b ob nb e => (Heap.get?_update_other _ _ (Ne.symm nb)).trans e
  have g1 := Heap.get?_push_of_some { cls := .type "tuple", data := .seq ([] : List Value).toArray } (k1 x1 o1 ne h1)
  refine raiseNew_hot ⟨hh, o1, vs1, Heap.get?_push_of_some _ g1, d1, c1⟩ (Nat.ne_of_lt (Heap.lt_size g1)) (Heap.get?_push_size _ rfl) rfl (by first | (simp; done) | (simp; omega)) ?_
  refine wpAny_bind (wpAny_isInstance (T := "StopIteration") (b := true) ⟨_, Heap.get?_update_self _ (Heap.get?_push_size _ rfl) rfl, rfl⟩ isSubtype_stop ?_)
  refine wpAny_pure (hQ _ fun b ob nb e => ?_)
  have g2 := Heap.get?_push_of_some { cls := .type "tuple", data := .seq ([] : List Value).toArray } (k1 b ob nb e)
  rw [Heap.get?_update_other _ _ (Nat.ne_of_gt (Heap.lt_size g2))]
  exact Heap.get?_push_of_some _ g2
/-- the heap bears the handled exception -/
def HotH (A : Around) (x1 : Addr) (h : Heap) : Prop := HotAt A x1 h
theorem hotKeeps {x1 : Addr} {h h' : Heap} (x : HotAt A x1 h) (k : ∀ o, h.get? x1 = some o → h'.get? x1 = some o) : HotAt A x1 h' := by
  obtain ⟨a, o, vs, b, c, d⟩ := x
  exact ⟨a, o, vs, k o b, c, d⟩
theorem walk_hot {I l x1 : Addr} (hA : A.handled = some (.ref x1)) (hne : l ≠ I) (hx : x1 ≠ I) (items : Array Value) :
    Walks prog w A I [I, l, x1] [I] items.size (fun i v => items[i]? = some v) (fun i h => h.IsListIter I l i ∧ h.IsList l items ∧ HotAt A x1 h) where
  sub := fun b hb => by
    rw [List.mem_singleton] at hb
    rw [hb]
    exact List.mem_cons_self
  frame := fun i h h' st hk => ⟨st.1.at fun o e => hk I (by simp) o e, st.2.1.at fun o e => hk l (by simp) o e, hotKeeps st.2.2 fun o e => hk x1 (by simp) o e⟩
  item := fun i s Q E hi st hQ => by
    refine wpAny_pyNext_list_item st.1 st.2.1 (x := items[i]) (by simp [hi]) ?_
    intro h' hit' hs'
    refine hQ _ h' s.toks (by simp [hi]) ⟨hit', st.2.1.extBut hs'.extBut hne, hotKeeps st.2.2 fun o e => hs'.extBut x1 o hx e⟩ ?_
    intro b o hb e
    exact hs'.extBut b o (fun h => hb (by simp [h])) e
  done := fun s Q E st hQ => next_end_hot st.2.2 hx st.1 st.2.1 (by simp) fun h' he' => hQ h' s.toks fun b o hb e => he' b o (fun h => hb (by simp [h])) e
  self := fun _ _ _ _ st hQ => wpAny_pyIter_listiter st.1 hQ
end
/-- sum of a list of ints while an exception is handled -/
theorem cr_sumH {X : Cx} (hc : L2H.HotC X) : CallR X (.builtin "sum") (rSum X.K) := by
  intro pins s σ H vs us Q I r h
  obtain ⟨a, ns, rfl, hs, q⟩ := h
  obtain ⟨its, rv, hl, _⟩ := I.list hs
  obtain ⟨p, ⟨hh, ve, e1, c1⟩, hp⟩ := hc
  have hget := (I.pin p (List.mem_append_left _ hp)).1
  have hi : IntsAre its ns := rv.ints
  rw [Vals.ref1 r]
  refine call_sum_walkAnyS (iter_any hl.isList fun s₂ e2 st hne => ?_)
  subst e2
  have hpl : p.1 < s.heap.objs.size := Heap.lt_size hget
  have hlt : a < s.heap.objs.size := by
    obtain ⟨ol, hol, _⟩ := hl.isList
    exact Heap.lt_size hol
  have W := Walks.toS (walk_hot (prog := X.prog) (w := X.w) (A := X.A.in1) (I := s.heap.objs.size) (l := a) (x1 := p.1) hh hne (Nat.ne_of_lt hpl) its.toArray)
  refine ⟨_, _, _, _, _, _, _, fun i => ns.getD i 0, rfl, W, ⟨st.1, st.2, hh, p.2, ve, Heap.get?_push_of_some _ hget, e1, c1⟩, fun b hb => ?_, fun i v hv => ?_, fun s' t' mv => ?_⟩
  · show b < (s.heap.push _).objs.size
    rw [Heap.size_push]
    rcases List.mem_cons.mp hb with rfl | hb
    · exact Nat.lt_succ_self _
    · rcases List.mem_cons.mp hb with rfl | hb
      · exact Nat.lt_succ_of_lt hlt
      · rw [List.mem_singleton] at hb
        subst hb
        exact Nat.lt_succ_of_lt hpl
  · have hv' : its[i]? = some v := by simpa using hv
    obtain ⟨n, t, rfl, hn⟩ := hi.at i v hv'
    exact ⟨t, by show Value.int n t = Value.int (ns.getD i 0) t; rw [List.getD_eq_getElem?_getD, hn]; rfl⟩
  · have hsum : ∀ j, preSum (fun i => ns.getD i 0) j = (ns.take j).sum := by
      intro j
      induction j with
      | zero => rfl
      | succ j ih =>
        show preSum (fun i => ns.getD i 0) j + ns.getD j 0 = _
        rw [ih]
        cases hj : ns[j]? with
        | some z => rw [sum_take hj, List.getD_eq_getElem?_getD, hj]; rfl
        | none =>
          have hle := List.getElem?_eq_none_iff.mp hj
          rw [List.getD_eq_getElem?_getD, hj, List.take_of_length_le hle, List.take_of_length_le (Nat.le_succ_of_le hle)]
          exact Int.add_zero _
    have hlen : its.toArray.size = ns.length := by rw [List.size_toArray]; exact hi.length
    rw [hsum, hlen, List.take_length]
    obtain ⟨h', g', d', tk', os'⟩ := s'
    obtain ⟨k1, k2, k3, k4, _⟩ := mv
    dsimp only at k1 k2 k3 k4
    subst k2 k3 k4
    refine ⟨.int ns.sum, H, I.kept (h' := h') (t' := tk') fun b o e => ?_, ⟨_, rfl⟩, q⟩
    refine k1 b o (fun z => ?_) (Heap.get?_push_of_some _ e)
    rw [List.mem_singleton] at z
    exact absurd (Heap.lt_size e) (by rw [z]; exact Nat.lt_irrefl _)
/-- a new object at an address that bears none -/
theorem inv_laid' {X : Cx} {pins : List (Addr × Obj)} {σ : L2.St} {H : Hp} {s : Shared} {h' : Heap} {a : Addr} {o : HO} {t' : Nat} (I : Inv X pins σ H s) (k : ∀ b u, s.heap.get? b = some u → h'.get? b = some u) (hp : s.heap.get? a = none) (new : ObjOk X.prog X.w (upd H a o) h' a o) :
    Inv X pins σ (upd H a o) { s with heap := h', toks := t' } := by
  have hn : H a = none := I.hok.gone hp
  have nb : ∀ b u, s.heap.get? b = some u → b ≠ a := fun b u e z => by
    rw [z, hp] at e
    cases e
  refine I.un ⟨fun b u e _ _ _ => k b u e, fun b u e _ _ _ => ⟨u.slots, k b u e⟩, fun b u e n _ => by rw [upd_ne (nb b u e)]; exact n, fun b u e _ => ⟨u, k b u e⟩, fun b xs e => by rw [upd_ne (ne_of_none e hn)]; exact e,
    fun b ob u e => by rw [upd_ne (ne_of_none e hn)]; exact e, fun b ps e => ⟨#[], by rw [upd_ne (ne_of_none e hn), e]; simp⟩⟩ fun b u e => ?_
  by_cases hb : b = a
  · subst hb
    rw [upd_same] at e
    cases e
    exact new
  · rw [upd_ne hb] at e
    exact (I.hok b u e).stay (fun c v _ q => k c v q) (fun c q => by rw [upd_ne (ne_of_none q hn)]; exact q) fun c xs q => by rw [upd_ne (ne_of_none q hn)]; exact q
/-- [int(x) for x in ys], ys a list of bools in slot i, while an exception is handled -/
def tLcInt (i : Nat) : TE := fun σ H Q => ∃ (a : Addr) (bs : List Bool), σ[i]? = some (some (.ref a)) ∧ H a = some (.lst (bs.map V.bl)) ∧ ∀ D, H D = none → Q (.ref D) (upd H D (.lst (bs.map fun b => V.int (if b then 1 else 0))))
theorem pe_lcInt {X : Cx} {i : Nat} {y x : Str} {scope : Scope} {px py p1 p2 p3 pos : Pos} (hc : L2H.HotC X) (hN : X.N[i]? = some y) (hv : Vis X.env.scope y) (hm : X.mg "int" = none)
    (hk : scope.kind = .function) (hfree : ∀ z ∈ scope.names, z.2 ≠ .free) (hcell : ∀ z ∈ scope.names, z.2 ≠ .cell) (hnames : ∀ z ∈ scope.names, z.2 = .local → scope.names.lookup z.1 = some .local) (hx : scope.names.lookup x = some .local) (hint : scope.names.lookup ("int" : Str) = some .globalImplicit)
    (hdx : (x == ("__debug__" : Str)) = false := by decide) (hdy : (y == ("__debug__" : Str)) = false := by decide) (hcy : (y == ("__classdict__" : Str)) = false := by decide) :
    PE X (.ListComp (.Call (.Name "int" p1) [.Name x p2] [] p3) [⟨.Name x px, .Name y py, [], 0⟩] scope pos) (tLcInt i) := by
  constructor
  intro pins s σ H Q I h
  obtain ⟨a, bs, ha, hH, q⟩ := h
  refine wpAny_ListComp_walk (fun _ => true) (fun v z => ∃ (b : Bool) (t : Tok), v = .bool b ∧ z = .int (if b then 1 else 0) t) hfree hcell hk hnames hx ?_
  refine thn ((pe_var (pos := py) (i := i) hN hv hdy hcy).run pins s σ H (fun v H1 => v = .ref a ∧ H1 = H) I ⟨.ref a, ha, rfl, rfl⟩) ?_
  rintro u s1 ⟨v, H1, I1, r1, rfl, rfl⟩
  obtain rfl : u = Value.ref a := r1
  obtain ⟨its, rv, hl, hz⟩ := I1.list (SqL.of hH)
  obtain ⟨p, ⟨hh, ve, e1, c1⟩, hp⟩ := hc
  have hget := (I1.pin p (List.mem_append_left _ hp)).1
  have hpl : p.1 < s1.heap.objs.size := Heap.lt_size hget
  have hlt : a < s1.heap.objs.size := by
    obtain ⟨ol, hol, _⟩ := hl.isList
    exact Heap.lt_size hol
  have hits : its = bs.map Value.bool := rv.bls
  refine iter_any hl.isList fun s2 e2 st hne => ?_
  subst e2
  refine ⟨_, _, _, _, _, _, rfl, walk_hot (prog := X.prog) (w := X.w) (A := X.A) (I := s1.heap.objs.size) (l := a) (x1 := p.1) hh hne (Nat.ne_of_lt hpl) its.toArray, ?_, ⟨st.1, st.2, hh, p.2, ve, Heap.get?_push_of_some _ hget, e1, c1⟩, fun b hb => ?_, ?_, ?_⟩
  · rw [List.size_toArray, ← rv.length]
    exact hz
  · show b < (s1.heap.push _).objs.size
    rw [Heap.size_push]
    rcases List.mem_cons.mp hb with rfl | hb
    · exact Nat.lt_succ_self _
    · rcases List.mem_cons.mp hb with rfl | hb
      · exact Nat.lt_succ_of_lt hlt
      · rw [List.mem_singleton] at hb
        subst hb
        exact Nat.lt_succ_of_lt hpl
  · refine ⟨fun C j v s3 m3 E' hv hn hm' hkp htk => ?_, fun C j v s3 m3 E' hv _ hn hm' hkp htk => ?_⟩
    · exact wpAny_pure ⟨rfl, s3.heap, s3.toks, rfl, fun _ _ e => e⟩
    · have hv' : (bs.map Value.bool)[j]? = some v := by
        rw [← hits]
        simpa using hv
      rw [List.getElem?_map] at hv'
      obtain ⟨b, hb, rfl⟩ := Option.map_eq_some_iff.mp hv'
      have up : ∀ c o, X.base.get? c = some o → s3.heap.get? c = some o := fun c o e => by
        refine hkp c o (fun z => ?_) (Heap.get?_push_of_some _ (I1.bk c o e))
        rw [List.mem_singleton] at z
        exact absurd (Heap.lt_size (I1.bk c o e)) (by rw [z]; exact Nat.lt_irrefl _)
      obtain ⟨mb, g1, g2⟩ := I1.mod.blt
      refine wpAny_Call_Name_kw (Calls.Name_function_global hk hint (Calls.loadGlobal_builtin (by show s3.heap.Ns X.env.globals _; rw [I1.ok.glob]; exact I1.mod.glob.keeps up) hm (by show s3.heap.Ns X.env.builtins _; rw [I1.ok.blt]; exact g1.keeps up) ((g2 "int" (by decide)).trans (by decide +kernel : bootBuiltins "int" = some (.type "int"))) ?_) (by decide))
      refine PyProof.Rows.callWith_type1 ?_ rfl rfl
      show wpAny _ _ (spliced ((false, eval (.Name x p2) (compEnv scope C X.env)) :: backTo p3 (starEach [] (compEnv scope C X.env)))) _ _ _
      refine Calls.spliced_cons (wpAny_Name (wpAny_loadName_local hk hx hn hm' (Calls.spliced_nil ?_)) hdx)
      exact call_int_bool ⟨⟨b, _, rfl, rfl⟩, s3.heap, _, rfl, fun _ _ e => e⟩
  · intro D h' tk ys vs hD hlD hplD hlen hP hF hkp
    have hD1 : s1.heap.get? D = none := by
      cases e : s1.heap.get? D with
      | none => rfl
      | some o =>
        have z := Heap.get?_push_of_some { cls := .type "list_iterator", data := .fields #[.ref a, .int 0 0] } e
        exact absurd (z.symm.trans hD) (by simp)
    have hfresh : H1 D = none := I1.hok.gone hD1
    have up : ∀ c o, s1.heap.get? c = some o → h'.get? c = some o := fun c o e => by
      refine hkp c o (fun z => ?_) (Heap.get?_push_of_some _ e)
      rw [List.mem_singleton] at z
      exact absurd (Heap.lt_size e) (by rw [z]; exact Nat.lt_irrefl _)
    obtain ⟨n0, hpl0⟩ := hplD
    have hvs : vs = bs.map Value.bool := by
      refine List.ext_getElem? fun j => ?_
      cases e : vs[j]? with
      | none =>
        have h1 := List.getElem?_eq_none_iff.mp e
        symm
        refine List.getElem?_eq_none_iff.mpr ?_
        rw [← hits]
        have h2 := hlen
        rw [List.size_toArray] at h2
        omega
      | some v =>
        have h1 := hP j v e
        rw [← hits]
        have h2 : its[j]? = some v := by simpa using h1
        exact h2.symm
    have hvals : Vals (bs.map fun b => V.int (if b then 1 else 0)) ys.toList := by
      have hF' : Paired (fun v z => ∃ (b : Bool) (t : Tok), v = .bool b ∧ z = .int (if b then 1 else 0) t) (bs.map Value.bool) ys.toList := by
        rw [← hvs]
        have ef : vs.filter (fun _ => true) = vs := List.filter_eq_self.mpr fun _ _ => rfl
        rw [ef] at hF
        exact hF
      generalize ys.toList = zs at hF'
      clear hvs hP hlen hits rv hH q
      induction bs generalizing zs with
      | nil =>
        cases hF'
        exact .nil
      | cons b bs ih =>
        cases hF' with
        | cons x y =>
          obtain ⟨b', t, e1, e2⟩ := x
          cases e1
          exact .cons ⟨t, e2⟩ (ih (by rw [List.length_map] at *; exact Nat.le_of_succ_le hz) (zs := _) y)
    have hlb : (bs.map fun b => V.int (if b then 1 else 0)).length ≤ sizeLine := by
      rw [List.length_map]
      rw [List.length_map] at hz
      exact hz
    have new : ObjOk X.prog X.w (upd H1 D (.lst (bs.map fun b => V.int (if b then 1 else 0)))) h' D (.lst (bs.map fun b => V.int (if b then 1 else 0))) := by
      refine ⟨hlb, ys.toList, n0, hvals, ?_⟩
      rw [Array.toArray_toList]
      exact hpl0
    have J := inv_laid' (t' := tk) I1 up hD1 new
    exact ⟨.ref D, _, J, rfl, q D hfresh⟩
end Tz

/-! A lambda handed to a def that calls it and tells its error. -/
namespace Tz
open PySem PySem.Spec PyProof.Rows L2 HotX
/-! ### isinstance of the error that is handled -/
def rIsX (K : PySem.W.Frag) (a D : Addr) : List V → Hp → VK → Prop := fun xs H Q => ∃ (c : V) (cv : Value) (b : Bool), xs = [.ref a, c] ∧ ClsV c cv ∧ PySem.W.kitOne K (.ref D) cv = some b ∧ Q (.bl b) H
theorem call_isX {X : Cx} {a D : Addr} {oe : Obj} (hp : (a, oe) ∈ X.pn) (C : ExcC X.K D) (hz : Zc (.ref D) none oe) (hf : ∃ vs, oe.data = .fields vs) : CallR X (.builtin "isinstance") (rIsX X.K a D) := by
  intro pins s σ H xs us Q I r h
  obtain ⟨c, cv, b, rfl, hcv, e, q⟩ := h
  obtain ⟨u1, u2, rfl, r1, r2⟩ := vals2 r
  have ec := hcv.eq r2
  subst ec
  obtain rfl : u1 = Value.ref a := r1
  have hget := (I.pin (a, oe) (List.mem_append_left _ hp)).1
  obtain ⟨vs, hv⟩ := hf
  have J : PySem.W.InstAt s.heap a oe D none := by
    obtain ⟨oc, od, oda, osl⟩ := oe
    obtain ⟨z1, z2⟩ := hz
    dsimp only at z1 z2 hv
    subst z1 z2 hv
    exact ⟨hget, rfl, rfl, trivial⟩
  refine PySem.W.kia_one (PySem.W.handS_kitx_exc C.hg C.hk C.hs C.hd C.ha C.hn C.ht C.hm) I.kIn J e (fun z => nomatch z) ?_
  intro tk
  exact ⟨.bl b, H, I.kept (t' := tk) fun _ _ z => z, rfl, q⟩
def tIsX (K : PySem.W.Frag) (a D : Addr) (c : V) : TE := tCB (rIsX K a D) (tCons (tVar 0) (tCons (tC c) tNil))
def dIsX (b : Bool) : DE := fun r Q _ => look r 0 = some dice ∧ Q (.bool b)
theorem s_isX {C : Cn} {a D : Addr} {c : V} {cv : Value} {b : Bool} (hD : ∀ G, C.GP G → ∀ v, G.isDice v → v = .ref a) (hc : ClsV c cv) (hk : PySem.W.kitOne C.K (.ref D) cv = some b) : SimE C (tIsX C.K a D c) (dIsX b) := by
  intro G ρ Q E gp h σ H Q' j rs k kx
  obtain ⟨v, e, r⟩ := rs.2 0 _ h.1
  have hv : v = .ref a := by
    rcases r with r | r
    · cases r
    · exact hD G gp v r.2
  subst hv
  exact ⟨_, e, c, cv, b, rfl, hc, hk, k _ H _ (Ex.refl G H) j (.inl (.bl _)) h.2⟩
def dLcInt (i : Nat) : DE := fun r Q _ => onS (look r i) fun x => match x with
  | .list ds => onS (asBools ds) fun bs => Q (.list (bs.map fun b => .int (if b then 1 else 0)))
  | _ => False
theorem ints_reps {K : PySem.W.Frag} {G : Hid} {H : Hp} (f : Bool → Int) : ∀ bs : List Bool, Reps K G H (bs.map fun b => V.int (f b)) (bs.map fun b => PyData.int (f b)) ∧ plains (bs.map fun b => PyData.int (f b)) = true
  | [] => ⟨trivial, rfl⟩
  | y :: ys => ⟨⟨.inl (.int _), (ints_reps f ys).1⟩, (ints_reps (K := K) (G := G) (H := H) f ys).2⟩
theorem s_lcInt {C : Cn} {i : Nat} : SimE C (tLcInt i) (dLcInt i) := by
  intro G ρ Q E gp h σ H Q' j rs k kx
  obtain ⟨d, e, h⟩ := onS_some h
  obtain ⟨v, ev, r⟩ := rs.2 i d e
  match d, r, h with
  | .list ds, r, h =>
    obtain ⟨p, xs, rfl, hp, _, hd⟩ := rep_lst r
    obtain ⟨bs, eb, q⟩ := onS_some h
    refine ⟨p, bs, ev, by rw [← bools_dq hd eb]; exact hp, fun D nD => ?_⟩
    obtain ⟨r1, r2⟩ := ints_reps (K := C.K) (G := G) (H := H) (fun b => if b then 1 else 0) bs
    obtain ⟨e1, j1, r3⟩ := new_lst (C := C) j nD r1 r2
    exact k _ _ _ e1 j1 r3 q
/-- xs.index(True) of a list of bools -/
def dIdxT (a : DE) : DE := fun r Q E => a r (fun x => match x with
  | .list ds => onS (asBools ds) fun bs => onS (bs.findIdx? id) fun (j : Nat) => Q (.int (j : Int))
  | _ => False) E
theorem s_idxT {C : Cn} {ta : TE} {a : DE} (ha : SimE C ta a) : SimE C (tBM C.K "list" (rIndex C.K) ta (tCons (tC (.bl true)) tNil)) (dIdxT a) := by
  intro G ρ Q E gp h σ H Q' j rs k kx
  refine ha G ρ _ E gp h σ H _ j rs (fun v H1 x e1 j1 r1 h1 => ?_) kx
  match x, r1, h1 with
  | .list ds, r1, h1 =>
    obtain ⟨p, xs, rfl, hp, _, hd⟩ := rep_lst r1
    obtain ⟨bs, eb, h2⟩ := onS_some h1
    obtain ⟨n, en, q⟩ := onS_some h2
    have hxs := bools_dq hd eb
    subst hxs
    obtain ⟨hlt, hpn, hbe⟩ := List.findIdx?_eq_some_iff_getElem.mp en
    refine ⟨.inl ⟨rfl, _, SqL.of hp⟩, p, bs.map V.bl, .bl true, n, .bl true, rfl, rfl, SqL.of hp, rfl, ?_, ?_, rfl, fun m z hm hz => ?_, k _ H1 _ e1 j1 (.inl (.int _)) q⟩
    · rw [List.all_map]
      exact List.all_eq_true.mpr fun _ _ => rfl
    · rw [List.getElem?_map, List.getElem?_eq_getElem hlt]
      have : bs[n] = true := hpn
      rw [this]
      rfl
    · rw [List.getElem?_map] at hz
      obtain ⟨b, hb, rfl⟩ := Option.map_eq_some_iff.mp hz
      obtain ⟨hm1, hm2⟩ := List.getElem?_eq_some_iff.mp hb
      have h3 := hbe m hm
      have hbf : b = false := by
        rw [← hm2]
        simpa using h3
      subst hbf
      rfl
/-! ### a def called while the exception p is handled -/
theorem run_hot {CX : CXT} {P : Program} {w : World} {K : PySem.W.Frag} {mg : Str → Option Value} {base : Heap} {k : Nat} {f : Addr} {name qual : Str} {params : Arguments} {body : List Stmt} {scope : Scope} {dV kV doc pm cdv ct oc : Value} {an od : Option Addr}
    {osl : Array (Option Value)} {N ps : List Str} (lk : K.lookup f = some ⟨oc, od, .func (PySem.W.fnOf name qual params body scope dV kV doc pm an cdv ct), osl⟩) (hcd : PySem.W.codeIn K cdv qual = true) (S : FnScope N ps scope)
    {A : Around} {outer : List Env} {s : Shared} {H : Hp} {args : Args} {us : List Value} {vs : List V} {Q : VK} {E : XK} {p : Addr × Obj} (hr : L2H.RoomH (k + 1) A) (hpin : L2H.PinOk outer H s p) (e0 : Env0 P w K mg base A outer s H)
    (hb : BindsTo s (PySem.W.fnOf name qual params body scope dV kV doc pm an cdv ct) args (ps.zip us)) (r : Vals vs us) (hl : vs.length = ps.length)
    (hbody : L2H.RoomH k (A.deeper (envOfC qual scope s.heap.objs.size f cdv)) → ∃ t, PSs (L2H.cxH CX P w K mg base N qual scope f cdv A outer s H E p) body t ∧ t { nx := fun _ H' => Q .non H', rt := Q } (L2.start N vs) H) :
    codeAny (model P w) A (.call (.ref f) args) (CR CX outer P w H s Q E) s := by
  have kx : K.In s.heap := e0.mod.kin.keeps fun b o e => (e0.bs b o e).1
  have par : ∀ y ∈ ps.zip us, scope.names.lookup y.1 = some .local ∨ (scope.names.lookup y.1 = some .cell ∧ ((cellsFrom (s.heap.objs.size + 1) scope.names []).lookup y.1).isSome = true) := by
    rintro ⟨n, v⟩ hy
    rcases S.par n (List.of_mem_zip hy).1 with z | z
    · exact .inl z
    · exact .inr ⟨z, PySem.W.cellsFrom_some _ _ _ (.inl z)⟩
  refine codeAny_call_function hr.depth (kx _ _ lk) rfl S.co S.gen rfl (PySem.W.codeRec_of kx hcd) (hb _ _ _ _ (wpAny_newFunctionEnv_cells S.kind par ?_))
  rintro env he s1 x
  subst he
  refine ⟨(e0.mod.nolimit.keeps fun b o e => (e0.bs b o e).1).keeps x.toInCall.keep, codeAny_func ?_⟩
  obtain ⟨t, ht, hq⟩ := hbody (hr.deeper _)
  refine wpAny_mono (ht.run [] s1 (L2.start N vs) H _ (L2H.inv_startH S hpin e0 hl r x) hq) ?_ fun _ _ z => z
  intro fl s' hs
  cases fl with
  | ret u =>
    obtain ⟨v, σ', H', J, rv, z⟩ := hs
    exact ⟨v, H', J.os, J.bare, J.base, J.hok, rv, z⟩
  | next =>
    obtain ⟨σ', H', J, z⟩ := hs
    exact ⟨.non, H', J.os, J.bare, J.base, J.hok, rfl, z⟩
  | brk =>
    obtain ⟨_, _, _, z⟩ := hs
    exact z.elim
  | cont =>
    obtain ⟨_, _, _, z⟩ := hs
    exact z.elim
/-- f(e) in an except suite, e the error: what f does is told of this error -/
theorem pe_hot1 {X : Cx} {a : Addr} {oe : Obj} {pn : List (Addr × Obj)} {x n y : Str} {st : Stmt} {N : List Str} {i k : Nat} {t : TS} {p q pos : Pos} (D : Def0 X.K X.mg x st) (S : FnScope N [y] (defScope st))
    (hb : ∀ (kV doc pm : Value) (an : Option Addr) (cdv ct : Value) (us : List Value), us.length = 1 → bindArgs (PySem.W.fnOf x x (defArgs st) (defBody st) (defScope st) .none kV doc pm an cdv ct) ⟨us, []⟩ = pure ([y].zip us))
    (hr : Room (k + 1) X.A) (hg : Gl (X.suite a ((a, oe) :: pn)) x) (hN : X.N[i]? = some n) (hv : Vis X.env.scope n)
    (der : ∀ (f : Addr) (cdv : Value) (A : Around) (outer : List Env) (s : Shared) (H : Hp), L2H.RoomH k (A.deeper (envOfC x (defScope st) s.heap.objs.size f cdv)) → A.handled = some (.ref a) →
      PSs (L2H.cxH CX0 X.prog X.w X.K X.mg X.base N x (defScope st) f cdv A outer s H E0 (a, oe)) (defBody st) t)
    (hdb : (x == ("__debug__" : Str)) = false := by decide) (hdn : (n == ("__debug__" : Str)) = false := by decide) (hcn : (n == ("__classdict__" : Str)) = false := by decide) :
    PE (X.suite a ((a, oe) :: pn)) (.Call (.Name x p) [.Name n q] [] pos) (fun σ H Q => σ[i]? = some (some (.ref a)) ∧ t { nx := fun _ H' => Q .non H', rt := Q } (L2.start N [.ref a]) H) := by
  constructor
  intro pins s σ H Q I h
  obtain ⟨hs, ht⟩ := h
  obtain ⟨f, fd, F, hm⟩ := D
  obtain ⟨oc, od, kV, doc, pm, an, cdv, ct, osl, rfl, lk, hcd⟩ := F.ex
  refine wpAny_Call_Name_kw (ld_glob I hg hm ?_ hdb)
  have ha : PA (X.suite a ((a, oe) :: pn)) [.Name n q] (tCons (tVar i) tNil) := pa_cons (pe_var hN hv hdn hcn) pa_nil
  refine PySem.W.callWith_K (h₀ := X.base) I.ok.mod.kin F.kp (thn (ha.run pos pins s σ H (fun vs H1 => vs = [V.ref a] ∧ H1 = H) I ⟨_, hs, rfl, rfl⟩) ?_) rfl rfl
  rintro us s1 ⟨vs, H1, I1, r1, rfl, rfl⟩
  refine ⟨I1.kIn, ?_⟩
  have P1 := I1.pin (a, oe) (List.mem_append_left _ List.mem_cons_self)
  have hpin : L2H.PinOk X.stack H1 s1 (a, oe) := ⟨P1.1, P1.2.1, fun hm => (List.mem_cons.mp (I1.stkSub _ hm)).elim P1.2.2.1 P1.2.2.2.1, P1.2.2.2.2⟩
  have hlen : us.length = 1 := r1.length.symm
  have hbt : BindsTo s1 (PySem.W.fnOf x x (defArgs st) (defBody st) (defScope st) .none kV doc pm an cdv ct) ⟨us, []⟩ ([y].zip us) := .of_eq (hb kV doc pm an cdv ct us hlen)
  have hroom : L2H.RoomH (k + 1) (X.A.mark (some (.ref a))) := ⟨hr.dp, hr.un⟩
  refine wpAny_call (codeAny_mono (run_hot (CX := CX0) (E := E0) (Q := Q) (p := (a, oe)) lk hcd S hroom hpin I1.env0 hbt r1 rfl fun hr' => ⟨t, der f cdv _ X.stack s1 H1 hr' rfl, ht⟩) ?_)
  intro r s' hq
  cases r with
  | error e => exact (show False from hq).elim
  | ok fl =>
    cases fl with
    | ret u => exact I1.after hq
    | next => exact False.elim hq
    | brk => exact False.elim hq
    | cont => exact False.elim hq
/-! ### the lambda that a def got is called there -/
/-- the lambda's body, what is wished of an error told by L2N -/
def lamN (X : Cx) (A : Around) (outer : List Env) (s : Shared) (H : Hp) (E : XK) (scope : Scope) (f c : Addr) : Cx :=
  (LamX.lamCx X A outer s H E scope f c).wish fun e s' => wpAny (model X.prog X.w) (A.deeper (LamX.lamEnv X scope s.heap.objs.size f c)) (leaving (LamX.lamEnv X scope s.heap.objs.size f c) e)
    (fun _ s2 => L2N.CX X.prog X.w outer H s E e s2) (fun e2 s2 => L2N.CX X.prog X.w outer H s E e2 s2) s'
theorem lamN_takes {X : Cx} {A : Around} {outer : List Env} {s : Shared} {H : Hp} {E : XK} {scope : Scope} {f c : Addr} : L2N.Takes (lamN X A outer s H E scope f c) (fun cls d _ H => E cls d H) := L2N.takes_of rfl rfl rfl rfl
/-- the lambda object at f, made at the state s -/
structure LamAt (X : Cx) (s : Shared) (H : Hp) (params : Arguments) (body : Expr) (scope : Scope) (f c : Addr) : Prop where
  at_ : ∃ pm ctv : Value, s.heap.get? f = some (PySem.W.kla_obj "<lambda>" (X.env.qual ++ "<lambda>") params body scope (cloFrom X.env.cells scope.names []) pm c ctv)
  fn : H f = none
  fr : f ∉ frs X.stack
abbrev toldCx (X : Cx) (N : List Str) (q : Str) (sg : Scope) (g : Addr) (cd : Value) (s : Shared) (H : Hp) : Cx := cxOf CX0 X.prog X.w X.K X.mg X.base N q sg g cd X.A X.stack s H E0
theorem pe_deed {X : Cx} {pins : List (Addr × Obj)} {σ : L2.St} {H : Hp} {s : Shared} {N : List Str} {q a : Str} {sg : Scope} {g f c : Addr} {cd : Value} {params : Arguments} {body : Expr} {scope : Scope} {k i : Nat} {pn : List (Addr × Obj)} {xe : Value → Shared → Prop} {W : WX} {E : XK} {tb : TE} {p1 p2 : Pos}
    (I : Inv X pins σ H s) (L : LamX.LamS X.env.scope scope) (O : LamAt X s H params body scope f c) (hbind : ∀ (q : Str) (cl : List (Str × Addr)) (pm cv ctv : Value), bindArgs (PySem.W.kla_fn "<lambda>" q params body scope cl pm cv ctv) ⟨[], []⟩ = pure [])
    (tk : L2N.Takes ((toldCx X N q sg g cd s H).tr pn xe) W) (hW : ∀ cls d σ' H', E cls d H' → W cls d σ' H') (hr : Room (k + 1) (X.A.deeper (envOfC q sg s.heap.objs.size g cd)))
    (hbody : ∀ (A : Around) (outer : List Env) (s : Shared) (H : Hp), Room k (A.deeper (LamX.lamEnv X scope s.heap.objs.size f c)) → PE (lamN X A outer s H E scope f c) body tb)
    (hN : N[i]? = some a) (hv : Vis sg a) (hd : (a == ("__debug__" : Str)) = false := by decide) (hcd : (a == ("__classdict__" : Str)) = false := by decide) :
    PE ((toldCx X N q sg g cd s H).tr pn xe) (.Call (.Name a p1) [] [] p2) (fun σZ HZ Q => σZ[i]? = some (some (.ref f)) ∧ HZ c = some (LamX.CodeO c (X.env.qual ++ "<lambda>")) ∧ tb σ HZ Q) := by
  constructor
  intro pz sz σz Hz Q Iz h
  obtain ⟨hs, hc, ht⟩ := h
  obtain ⟨⟨pm, ctv, hat⟩, hfn, hfr⟩ := O
  refine wpAny_Call_Name_kw (thn ((pe_var (pos := p1) (i := i) hN hv hd hcd).run pz sz σz Hz (fun v H1 => v = .ref f ∧ H1 = Hz) Iz ⟨.ref f, hs, rfl, rfl⟩) ?_)
  rintro u s1 ⟨v, H1, I1, r1, rfl, rfl⟩
  obtain rfl : u = Value.ref f := r1
  have of1 := I1.base.keep f _ hat hfn hfr (fun z => nomatch (show f ∈ ([] : List Addr) from z))
  refine PySem.W.callWith_F0 ⟨_, _, _, _, of1⟩ ?_
  have un : Un (frs X.stack) [] H H1 s.heap s1.heap := I1.base
  obtain ⟨⟨oc, vs, t, hoc, hdc, hvc⟩, _, _⟩ := I1.hok c _ hc
  have rc : codeAny (model X.prog X.w) (X.A.deeper (envOfC q sg s.heap.objs.size g cd)) (.call (.ref f) ⟨[], []⟩) (CR (L2N.CX X.prog X.w) (envOfC q sg s.heap.objs.size g cd :: X.stack) X.prog X.w H1 s1 Q E) s1 := by
    refine PySem.W.kla_callFunE hr.depth of1 rfl L.co L.gen rfl ⟨c, oc, vs, t, rfl, hoc, hdc, hvc⟩ ?_
    rw [hbind]
    refine wpAny_pure (wpAny_newFunctionEnv (fun y hy => (L.own y hy).2) (fun y hy => absurd hy (by simp)) ?_ L.kind)
    intro h1 hns hsb
    refine ⟨I1.nolimit.fresh _ hsb, ?_⟩
    show codeAny _ _ (.expr body (LamX.lamEnv X scope s1.heap.objs.size f c)) _ _
    have kp : ∀ b o, s1.heap.get? b = some o → h1.get? b = some o := fun b o e => hsb.extBut b o (Nat.ne_of_lt (Heap.lt_size e)) (Heap.get?_push_of_some _ e)
    have J := (LamX.lam_start2 (A := X.A.deeper (envOfC q sg s.heap.objs.size g cd)) (E := E) (f := f) (c' := c) (tk := s1.toks + ([] : List (Str × Value)).length) I L I1.env0 hr.hd un hns kp)
    refine PySem.W.kla_codeExpr (wpAny_mono ((hbody _ _ s1 H1 (hr.deeper _)).run [] _ σ H1 Q (J.wish _) ht) ?_ fun _ _ z => z)
    rintro v s' ⟨w', H', J', rv, z⟩
    exact ⟨w', H', J'.os, J'.bare, J'.base, J'.hok, rv, z⟩
  refine wpAny_call (codeAny_mono rc ?_)
  intro r s' hq
  cases r with
  | error e => exact L2N.passes_call tk hW pz σz H1 s1 e s' I1 hq
  | ok fl =>
    cases fl with
    | ret u => exact I1.after hq
    | next => exact False.elim hq
    | brk => exact False.elim hq
    | cont => exact False.elim hq
/-! ### told(lambda: body) -/
/-- what told does behind the lambda's making: tt is what the suite does with an error of the class cls -/
def wTold (ec : Nat → Addr) (tt : Nat → Addr → VK → Hp → Prop) (Q : VK) : XK := fun cls d H' => d = none ∧ ∃ c, c < 16 ∧ cls = .ref (ec c) ∧ ∀ a, H' a = none → tt c a Q H'
def tTold (ec : Nat → Addr) (T : List (Addr × Str)) (tt : Nat → Addr → VK → Hp → Prop) (te : XK → TE) : TE := fun σ H Q => LamX.Tabs T H ∧ ∀ H1, LamX.ExtN H H1 → LamX.Tabs T H1 →
  te (wTold ec tt Q) σ H1 Q
/-- the def told: try: return a() except x as n: return y(n) -/
structure ToldOk (P : Program) (w : World) (K : PySem.W.Frag) (mg : Str → Option Value) (base : Heap) (ec : Nat → Addr) (tt : Nat → Addr → VK → Hp → Prop) (k : Nat) (g : Addr) (st : Stmt) (N : List Str) (a : Str) : Prop where
  scope : FnScope N [a] (defScope st)
  n0 : N[0]? = some a
  vis : Vis (defScope st) a
  /-- the body, for any lambda: act is the rule for a() -/
  body : ∀ (X : Cx) (s : Shared) (H : Hp) (cd : Value) (f c : Addr) (Q : VK) (te : XK → Hp → VK → Prop) (q : Str), X.prog = P → X.w = w → X.K = K → X.mg = mg → X.base = base → Room k (X.A.deeper (envOfC "_law_told" (defScope st) s.heap.objs.size g cd)) →
    (∀ (W : WX) (pn : List (Addr × Obj)) (xe : Value → Shared → Prop) (E : XK) (p1 p2 : Pos), L2N.Takes ((toldCx X N "_law_told" (defScope st) g cd s H).tr pn xe) W → (∀ cls d σ' H', E cls d H' → W cls d σ' H') →
      PE ((toldCx X N "_law_told" (defScope st) g cd s H).tr pn xe) (.Call (.Name a p1) [] [] p2) (fun σZ HZ Q => σZ[0]? = some (some (.ref f)) ∧ HZ c = some (LamX.CodeO c q) ∧ te E HZ Q)) →
    H c = some (LamX.CodeO c q) → te (wTold ec tt Q) H Q →
    ∃ t, PSs (toldCx X N "_law_told" (defScope st) g cd s H).nox (defBody st) t ∧ t { nx := fun _ H' => Q .non H', rt := Q } (L2.start N [.ref f]) H
theorem pe_told {X : Cx} {T : List (Addr × Str)} {ec : Nat → Addr} {tt : Nat → Addr → VK → Hp → Prop} {k : Nat} {g c P : Addr} {fd : FuncData} {st : Stmt} {N : List Str} {a : Str} {params : Arguments} {body : Expr} {scope : Scope} {te : XK → TE} {p lpos pos : Pos}
    (F : Fun X.K "_law_told" "_law_told" st g fd) (hm : X.mg "_law_told" = some (.ref g)) (TO : ToldOk X.prog X.w X.K X.mg X.base ec tt (k + 1) g st N a)
    (hb : ∀ (kV doc pm : Value) (an : Option Addr) (cdv ct : Value) (us : List Value), us.length = 1 → bindArgs (PySem.W.fnOf "_law_told" "_law_told" (defArgs st) (defBody st) (defScope st) .none kV doc pm an cdv ct) ⟨us, []⟩ = pure ([a].zip us))
    (hg : Gl X "_law_told") (TB : LamX.TabB X.base X.mg c P) (hcode : X.env.code = .ref c) (hmT : (P, X.env.qual ++ "<lambda>") ∈ T) (hu : ∀ p ∈ T, p.1 = P → p.2 = X.env.qual ++ "<lambda>") (hr : Room (k + 2) X.A) (L : LamX.LamS X.env.scope scope) (hdef : defaultsOf params X.env = ([], []))
    (hbind : ∀ (q : Str) (cl : List (Str × Addr)) (pm cv ctv : Value), bindArgs (PySem.W.kla_fn "<lambda>" q params body scope cl pm cv ctv) ⟨[], []⟩ = pure [])
    (hbody : ∀ (A : Around) (outer : List Env) (s : Shared) (H : Hp) (E : XK) (f c' : Addr), Room k (A.deeper (LamX.lamEnv X scope s.heap.objs.size f c')) → PE (lamN X A outer s H E scope f c') body (te E))
    (hda : (a == ("__debug__" : Str)) = false := by decide) (hca : (a == ("__classdict__" : Str)) = false := by decide) :
    PE X (.Call (.Name "_law_told" p) [.Lambda params body scope lpos] [] pos) (tTold ec T tt te) := by
  constructor
  intro pins s σ H Q I h
  obtain ⟨hT, h⟩ := h
  obtain ⟨oc, od, kV, doc, pm, an, cdv, ct, osl, rfl, lk, hcd⟩ := F.ex
  refine wpAny_Call_Name_kw (ld_glob I hg hm ?_ (by decide))
  refine PySem.W.callWith_K (h₀ := X.base) I.ok.mod.kin F.kp ?_ (by rfl) (by rfl)
  show wpAny _ _ (spliced ((false, eval (.Lambda params body scope lpos) X.env) :: backTo pos (starEach [] X.env))) _ _ s
  refine Calls.spliced_cons (LamX.lam_make2 I TB hcode hmT hu hT hdef (L.has I.ok) ?_)
  intro f c' pm' ctv H1 s' I1 eN T1 hf hfn hfr hco
  refine Calls.spliced_nil ⟨I1.kIn, ?_⟩
  have hbt : BindsTo s' (PySem.W.fnOf "_law_told" "_law_told" (defArgs st) (defBody st) (defScope st) .none kV doc pm an cdv ct) ⟨[.ref f], []⟩ ([a].zip [.ref f]) := .of_eq (hb kV doc pm an cdv ct [.ref f] rfl)
  have rc : codeAny (model X.prog X.w) X.A (.call (.ref g) ⟨[.ref f], []⟩) (CR CX0 X.stack X.prog X.w H1 s' Q E0) s' := by
    refine LamX.run_ofS (N := N) (ps := [a]) (us := [.ref f]) (vs := [.ref f]) lk hcd TO.scope hr I1.env0 hbt (.cons rfl .nil) rfl ?_
    intro hr'
    obtain ⟨t', ht', hq'⟩ := TO.body X s' H1 cdv f c' Q (fun E H' Q' => te E σ H' Q') (X.env.qual ++ "<lambda>") rfl rfl rfl rfl rfl hr'
      (fun W pn xe E p1 p2 tk hW => pe_deed (k := k) (i := 0) I1 L ⟨⟨pm', ctv, hf⟩, hfn, hfr⟩ hbind tk hW hr' (fun A outer s H hr2 => hbody A outer s H E f c' hr2) TO.n0 TO.vis hda hca) hco (h H1 eN T1)
    exact ⟨t', ht'.nox, hq'⟩
  refine wpAny_call (codeAny_mono rc ?_)
  intro r s2 hq
  cases r with
  | error e => exact (show False from hq).elim
  | ok fl =>
    cases fl with
    | ret u => exact I1.after hq
    | next => exact False.elim hq
    | brk => exact False.elim hq
    | cont => exact False.elim hq
theorem takesN0 {X : Cx} : L2N.Takes X (fun _ _ _ _ => False) := fun _ _ x => by
  obtain ⟨_, _, _, _, _, _, _, _, _, _, _, _, _, _, _, _, z⟩ := x
  exact z.elim
/-- what is told of the error classes -/
structure ErrsOk (K : PySem.W.Frag) (ec : Nat → Addr) (TE' : Addr) : Prop where
  ex : ∀ c, c < 16 → ExcC K (ec c)
  kit : ∀ c k, c < 16 → k < 16 → PySem.W.kitOne K (.ref (ec c)) (.ref (ec k)) = some (decide (c = k))
  val : ∀ c, c < 16 → PySem.W.kitOne K (.ref (ec c)) (.type "ValueError") = some true
  exm : ∀ c, c < 16 → PySem.W.exmOne K (.ref (ec c)) (.ref TE') = some true
/-- the def told by its text; tm: what the term def does with an error of the class c at a -/
theorem told_ok {P : Program} {w : World} {K : PySem.W.Frag} {mg : Str → Option Value} {base : Heap} {ec : Nat → Addr} {TE' : Addr} {k : Nat} {g : Addr} {st sm : Stmt} {NT : List Str} {tm : Nat → Addr → TS} {p1 p2 p3 p4 p5 p6 p7 p8 p9 p10 : Pos}
    (EO : ErrsOk K ec TE') (gT : mg "TableError" = some (.ref TE')) (S : FnScope ["deed", "e"] ["deed"] (defScope st)) (hv : (defScope st).names.lookup ("deed" : Str) = some .local) (he : (defScope st).names.lookup ("e" : Str) = some .local)
    (gTE : (defScope st).names.lookup ("TableError" : Str) = some .globalImplicit) (gtm : (defScope st).names.lookup ("_law_term" : Str) = some .globalImplicit)
    (hbd : defBody st = [.Try [.Return (some (.Call (.Name "deed" p1) [] [] p2)) p3] [.ExceptHandler (some (.Name "TableError" p4)) (some "e") [.Return (some (.Call (.Name "_law_term" p5) [.Name "e" p6] [] p7)) p8] p9] [] [] p10])
    (DT : Def0 K mg "_law_term" sm) (SM : FnScope NT ["e"] (defScope sm))
    (hb : ∀ (kV doc pm : Value) (an : Option Addr) (cdv ct : Value) (us : List Value), us.length = 1 → bindArgs (PySem.W.fnOf "_law_term" "_law_term" (defArgs sm) (defBody sm) (defScope sm) .none kV doc pm an cdv ct) ⟨us, []⟩ = pure ([("e" : Str)].zip us))
    (der : ∀ (c : Nat) (a : Addr) (oe : Obj) (f : Addr) (cdv : Value) (A : Around) (outer : List Env) (s : Shared) (H : Hp), c < 16 → L2N.Zn (.ref (ec c)) none oe → (∃ vs, oe.data = .fields vs) → L2H.RoomH k (A.deeper (envOfC "_law_term" (defScope sm) s.heap.objs.size f cdv)) → A.handled = some (.ref a) →
      PSs (L2H.cxH CX0 P w K mg base NT "_law_term" (defScope sm) f cdv A outer s H E0 (a, oe)) (defBody sm) (tm c a)) :
    ToldOk P w K mg base ec (fun c a Q H => tm c a { nx := fun _ H' => Q .non H', rt := Q } (L2.start NT [.ref a]) H) (k + 1) g st ["deed", "e"] "deed" := by
  refine ⟨S, rfl, .inl hv, ?_⟩
  intro X s H cd f c Q te q hP hw hK hmg hbase hr act hc ht
  subst hP hw hK hmg hbase
  rw [hbd]
  have hgl : Gl (toldCx X ["deed", "e"] "_law_told" (defScope st) g cd s H).nox "TableError" := gTE
  refine ⟨_, pss_one (L2N.ps_try_as (X := (toldCx X ["deed", "e"] "_law_told" (defScope st) g cd s H).nox) (c := .ref TE') (i := 1) (Wout := fun _ _ _ _ => False)
      (tb := fun W D σ H => ∃ Ech : XK, (∀ cls d σ' H', Ech cls d H' → W cls d σ' H') ∧ σ[0]? = some (some (.ref f)) ∧ H c = some (LamX.CodeO c q) ∧ te Ech H D.rt)
      (ts := fun a cls d D σ H => ∃ j, j < 16 ∧ cls = .ref (ec j) ∧ d = none ∧ (∃ σ0 : L2.St, σ = σ0.set 1 (some (.ref a))) ∧ tm j a { nx := fun _ H' => D.rt .non H', rt := D.rt } (L2.start NT [.ref a]) H)
      rfl rfl S.nd rfl he ⟨hgl, by decide, .inl gT⟩ takesN0 ?_ ?_), ?_⟩
  · intro W pn xe tk own
    constructor
    intro pins s' σ H' D I h
    obtain ⟨Ech, hW, h1, h2, h3⟩ := h
    have hp := act W pn xe Ech p1 p2 tk hW
    exact (pss_one (ps_ret (pos := p3) hp)).run pins s' σ H' D I ⟨h1, h2, h3⟩
  · intro a oe cls d pn hz hf
    constructor
    intro pins s' σ H' D I h
    obtain ⟨j, hj, rfl, rfl, ⟨σ0, h0⟩, h2⟩ := h
    have hlen : σ.length = 2 := I.len
    have h1 : σ[1]? = some (some (.ref a)) := by
      rw [h0]
      refine List.getElem?_set_self ?_
      rw [h0, List.length_set] at hlen
      omega
    have hp := pe_hot1 (X := (toldCx X ["deed", "e"] "_law_told" (defScope st) g cd s H).nox) (a := a) (oe := oe) (pn := pn) (x := "_law_term") (n := "e") (y := "e") (i := 1) (k := k) (t := tm j a) (p := p5) (q := p6) (pos := p7) DT SM hb hr gtm rfl (.inl he)
      (fun f cdv A outer s H hr' hh => der j a oe f cdv A outer s H hj hz hf hr' hh)
    exact (pss_one (ps_ret (pos := p8) hp)).run pins s' σ H' D I ⟨h1, h2⟩
  · refine ⟨wTold ec (fun c a Q H => tm c a { nx := fun _ H' => Q .non H', rt := Q } (L2.start NT [.ref a]) H) Q, ?_, rfl, hc, ht⟩
    rintro cls d σ' H' ⟨rfl, j, hj, rfl, h⟩
    refine ⟨true, EO.exm j hj, fun _ a na => ?_, fun z => nomatch z⟩
    exact ⟨j, hj, rfl, rfl, ⟨σ', rfl⟩, h a na⟩
/-- the names of the error classes -/
def enames : List Str := ["InvalidTable", "InvalidWord", "InvalidNumber", "InvalidSign", "InvalidNormal", "InvalidPositive", "InvalidFraction", "InvalidModulus", "InvalidRemainder", "InvalidLetter", "InvalidText", "NotPositive", "FiniteOrder", "AllFixed", "TooLong", "NothingToUndo"]
/-- what is told of an error -/
def errD (c : Nat) : PyData := .tuple [.str "error", .str (enames.getD c "")]
def dTold (d : DE) : DE := fun r Q _ => d r Q (fun c => c < 16 ∧ Q (errD c))
theorem s_told {C : Cn} {T : List (Addr × Str)} {tt : Nat → Addr → VK → Hp → Prop} {te : XK → TE} {d : DE} (hT : ∀ G, C.GP G → G.T = T)
    (htt : ∀ (c : Nat) (G : Hid) (a : Addr) (H : Hp) (Q : VK), c < 16 → G.J H → (∀ v H', Ex G H H' → G.J H' → Rep C.K G H' v (errD c) → Q v H') → tt c a Q H)
    (hte : ∀ E : XK, SimE { C with E0 := E } (te E) d) : SimE C (tTold C.ec T tt te) (dTold d) := by
  intro G ρ Q E gp h σ H Q' j rs k kx
  have eT := hT G gp
  subst eT
  refine ⟨G.tab j, fun H1 eN T1 => ?_⟩
  have j1 := G.tabs j eN T1
  have e1 : Ex G H H1 := Ex.extN eN
  refine hte (wTold C.ec tt Q') G ρ Q _ gp h σ H1 Q' j1 (rs.mono e1) (k.mono e1) ?_
  intro c H' e j' hq
  exact ⟨rfl, c, hq.1, rfl, fun a na => htt c G a H' Q' hq.1 j' fun v H2 e2 j2 r2 => k v H2 _ ((e1.trans e).trans e2) j2 r2 hq.2⟩
/-- the hidden part with the error at a for the dice -/
def Hid.err (G : Hid) (a : Addr) : Hid := { G with isO := fun _ v => v = .ref a }
theorem rep_err {K : PySem.W.Frag} {G : Hid} {a : Addr} {H : Hp} {v : V} {d : PyData} (p : plain d = true) (h : Rep K (G.err a) H v d) : Rep K G H v d := .inl (h.dp p)
end Tz

/-! The draws: a list of two ints that changes; the rounds; the law's outer loop. -/
namespace Tz
open PySem PySem.Spec PyProof.Rows L2
/-! ### a great number by a cell and a place -/
def b_law_drawn : DS := (dSeq (dAsg (dOp oMod (dOp oAdd (dOp oMul (dVar 0) (dC (.int 6364136223846793005))) (dOp oMul (dOp oAdd (dVar 1) (dC (.int 1))) (dC (.int 1442695040888963407)))) (dC (.int 340282366920938463463374607431768211507))) (dgName 2)) (dSeq (dAsg (dOp oMod (dOp oMul (dVar 2) (dVar 2)) (dC (.int 340282366920938463463374607431768211297))) (dgName 2)) (dSeq (dAsg (dOp oMul (dOp oMul (dOp oAdd (dOp oMod (dVar 2) (dC (.int 18446744073709551557))) (dC (.int 1))) (dOp oAdd (dOp oDiv (dVar 2) (dC (.int 18446744073709551557))) (dC (.int 1)))) (dVar 2)) (dgName 2)) (dRet (dOp oMod (dVar 2) (dC (.int 340282366920938463463374607431768211507)))))))
def f_law_drawn : DF := dFn 3 b_law_drawn
def t_law_drawn (C : Cn) (A : Ga) : TS := (tSeq (tAsg (tOp rModU (tOp rAddU (tOp rMulU (tVar 0) (tC (.int 6364136223846793005))) (tOp rMulU (tOp rAddU (tVar 1) (tC (.int 1))) (tC (.int 1442695040888963407)))) (tC (.int 340282366920938463463374607431768211507))) (gName 2)) (tSeq (tAsg (tOp rModU (tOp rMulU (tVar 2) (tVar 2)) (tC (.int 340282366920938463463374607431768211297))) (gName 2)) (tSeq (tAsg (tOp rMulU (tOp rMulU (tOp rAddU (tOp rModU (tVar 2) (tC (.int 18446744073709551557))) (tC (.int 1))) (tOp rAddU (tOp rDivU (tVar 2) (tC (.int 18446744073709551557))) (tC (.int 1)))) (tVar 2)) (gName 2)) (tRet (tOp rModU (tVar 2) (tC (.int 340282366920938463463374607431768211507)))))))
theorem sim_law_drawn (C : Cn) (A : Ga) : SimS C (t_law_drawn C A) b_law_drawn := (s_seq (s_asg (s_op s_mod (s_op s_add (s_op s_mul (s_var 0) s_int) (s_op s_mul (s_op s_add (s_var 1) s_int) s_int)) s_int) (g_name 2)) (s_seq (s_asg (s_op s_mod (s_op s_mul (s_var 2) (s_var 2)) s_int) (g_name 2)) (s_seq (s_asg (s_op s_mul (s_op s_mul (s_op s_add (s_op s_mod (s_var 2) s_int) s_int) (s_op s_add (s_op s_div (s_var 2) s_int) s_int)) (s_var 2)) (g_name 2)) (s_ret (s_op s_mod (s_var 2) s_int)))))
theorem mulOk_of {i j : Int} {a b : Nat} (ha : i.natAbs < 2 ^ a) (hb : j.natAbs < 2 ^ b) (h : a + b ≤ 999998) : mulOk i j := by
  have h1 : i.natAbs < 2 ^ (a + 1) := Nat.lt_of_lt_of_le ha (Nat.pow_le_pow_right (by decide) (Nat.le_succ a))
  have h2 : j.natAbs < 2 ^ (b + 1) := Nat.lt_of_lt_of_le hb (Nat.pow_le_pow_right (by decide) (Nat.le_succ b))
  exact (wide_mul h1 h2 (Nat.succ_pos a) (Nat.succ_pos b) (by omega)).ok
theorem mulOk_r {i j : Int} (h : -(2 ^ 64) < j ∧ j < 2 ^ 64) : mulOk i j := CMul.ok (.inr h)
theorem mulOk_l {i j : Int} (h : -(2 ^ 64) < i ∧ i < 2 ^ 64) : mulOk i j := CMul.ok (.inl h)
theorem drawn_any {x n : Int} {Q : PyData → Prop} {E : Nat → Prop} (h : ∀ z : Int, Q (.int z)) : f_law_drawn [.int x, .int n] Q E := by
  show b_law_drawn [some (.int x), some (.int n), none] _ _ _
  simp only [b_law_drawn, dSeq, dAsg, dOp, dVar, dC, dgName, dRet, look, put, onS, oMod, oDiv, oI, oAdd, oMul]
  refine ⟨mulOk_r (by decide), mulOk_r (by decide), by decide, ?_⟩
  generalize ha : (x * 6364136223846793005 + (n + 1) * 1442695040888963407).fmod 340282366920938463463374607431768211507 = a
  have h1 : 0 ≤ a := by rw [← ha]; exact Int.fmod_nonneg_of_pos _ (by decide)
  have h2 : a < 340282366920938463463374607431768211507 := by rw [← ha]; exact Int.fmod_lt_of_pos _ (by decide)
  have h3 : a.natAbs < 2 ^ 129 := by omega
  refine ⟨mulOk_of h3 h3 (by decide), by decide, ?_⟩
  generalize hb : (a * a).fmod 340282366920938463463374607431768211297 = b
  have k1 : 0 ≤ b := by rw [← hb]; exact Int.fmod_nonneg_of_pos _ (by decide)
  have k2 : b < 340282366920938463463374607431768211297 := by rw [← hb]; exact Int.fmod_lt_of_pos _ (by decide)
  have k3 : b.natAbs < 2 ^ 129 := by omega
  refine ⟨by decide, ⟨by decide, by decide +kernel⟩, ?_⟩
  generalize hc : b.fmod 18446744073709551557 = c
  generalize hd : b.fdiv 18446744073709551557 = d
  have c1 : 0 ≤ c := by rw [← hc]; exact Int.fmod_nonneg_of_pos _ (by decide)
  have c2 : c < 18446744073709551557 := by rw [← hc]; exact Int.fmod_lt_of_pos _ (by decide)
  have d1 : 0 ≤ d := by rw [← hd, Int.fdiv_eq_ediv_of_nonneg _ (by decide)]; exact Int.ediv_nonneg k1 (by decide)
  have d2 : d ≤ b := by rw [← hd, Int.fdiv_eq_ediv_of_nonneg _ (by decide)]; omega
  have e1 : (c + 1).natAbs < 2 ^ 65 := by omega
  have e2 : (d + 1).natAbs < 2 ^ 130 := by omega
  exact ⟨mulOk_of e1 e2 (by decide), mulOk_of (wide_lt e1 e2) k3 (by decide), by decide, h _⟩
/-! ### a draw -/
/-- a draw: any number below many -/
def f_law_roll : DF := fun ds Q _ => match ds with
  | [.dict [], .int m] => 0 < m ∧ m < 2 ^ 62 ∧ ∀ i : Int, 0 ≤ i → i < m → Q (.int i)
  | _ => False
def t_law_roll (K : PySem.W.Frag) (ec : Nat → Addr) (E : XK) : TS :=
  tSeq (tIfS (tTest (tOp rGeU (tOp (rIxL K) (tVar 0) (tC (.int 0))) (tOp rPowU (tC (.int 10)) (tC (.int 18)))))
      (tSeq (tAsg (tOp rModU (tOp (rIxL K) (tVar 0) (tC (.int 0))) (tVar 1)) (gName 2))
        (tSeq (tAsg (tOp rDivU (tOp (rIxL K) (tVar 0) (tC (.int 0))) (tVar 1)) (gSub (tVar 0) (tC (.int 0)) rSetL)) (tRet (tVar 2)))) tNext)
    (tSeq (tAsg (tOp (rI0 fun i j => .int (i + j)) (tOp (rIxL K) (tVar 0) (tC (.int 1))) (tC (.int 1))) (gSub (tVar 0) (tC (.int 1)) rSetL))
      (tRet (tOp rModU (tOp rDivU (tCallS (lift K ec GPany 2 f_law_drawn) (fun _ => E) (tCons (tOp (rIxL K) (tVar 0) (tC (.int 0))) (tCons (tOp (rIxL K) (tVar 0) (tC (.int 1))) tNil))) (tC (.int 8))) (tVar 1))))
theorem roll_reads {K : PySem.W.Frag} {ec : Nat → Addr} {vs : List V} {H : Hp} {Q : VK} {E : XK} (h : lift K ec GPr 2 f_law_roll vs H Q E) : t_law_roll K ec E { nx := fun _ H' => Q .non H', rt := Q } (L2.start ["dice", "many", "told"] vs) H := by
  obtain ⟨G, ds, Q0, E0, gp, j, r, hl, hf, kq, ke⟩ := h
  match ds, hf with
  | [.dict [], .int m], hf =>
    obtain ⟨v1, v2, rfl, r1, r2⟩ := reps2 r
    rw [rep_int r2]
    obtain ⟨m0, m1, hq⟩ := hf
    have hdice : G.isDice v1 := by
      rcases r1 with r1 | r1
      · cases r1
      · exact r1.2
    obtain ⟨p, rfl, dp, h1, h2⟩ := gp v1 hdice
    obtain ⟨x, n, hp⟩ := h1 H j
    have ml : m.natAbs.log2 < 9000 := by
      have hb : m.natAbs < 2 ^ 63 := by omega
      have := PySem.Flt.log2_lt_of (by decide) hb
      omega
    have ex : ∀ (x' n' : Int), Ex G H (upd H p (.lst [.int x', .int n'])) := fun x' n' a o nd _ ha => by
      rw [upd_ne fun z => nd (by rw [z]; exact dp)]
      exact ha
    have md : ∀ y : Int, 0 ≤ y.fmod m ∧ y.fmod m < m := fun y => ⟨Int.fmod_nonneg_of_pos _ m0, Int.fmod_lt_of_pos _ m0⟩
    -- dice[0] >= 10 ** 18
    refine ⟨_, rfl, p, _, 0, _, rfl, rfl, SqL.of hp, rfl, 10, 18, rfl, rfl, ⟨by decide, by decide, by decide⟩, x, _, rfl, rfl, _, rfl, ite2 (fun _ => ?_) (fun _ => ?_)⟩
    · -- told = dice[0] % many; dice[0] = dice[0] // many
      refine ⟨_, rfl, p, _, 0, _, rfl, rfl, SqL.of hp, rfl, _, rfl, x, m, rfl, rfl, by omega, ?_⟩
      refine ⟨_, rfl, p, _, 0, _, rfl, rfl, SqL.of hp, rfl, _, rfl, x, m, rfl, rfl, ⟨by omega, ml⟩, ?_⟩
      refine ⟨_, rfl, p, _, 0, 0, rfl, rfl, hp, rfl, ?_⟩
      refine ⟨_, rfl, ?_⟩
      exact kq _ _ _ (ex _ _) (h2 H _ _ j) (.inl (.int _)) (hq _ (md x).1 (md x).2)
    · -- dice[1] = dice[1] + 1; return drawn(..) // 8 % many
      refine ⟨_, rfl, p, _, 1, _, rfl, rfl, SqL.of hp, rfl, n, 1, rfl, rfl, ?_⟩
      refine ⟨_, rfl, p, _, 1, 1, rfl, rfl, hp, rfl, ?_⟩
      have hp' : (upd H p (.lst ([V.int x, V.int n].set 1 (.int (n + 1))))) p = some (.lst [.int x, .int (n + 1)]) := upd_same
      have j' : G.J (upd H p (.lst ([V.int x, V.int n].set 1 (.int (n + 1))))) := h2 H x (n + 1) j
      refine ⟨_, rfl, p, _, 0, _, rfl, rfl, SqL.of hp', rfl, _, rfl, p, _, 1, _, rfl, rfl, SqL.of hp', rfl, ?_⟩
      refine ⟨G, [.int x, .int (n + 1)], fun d => ∃ z : Int, d = .int z, fun _ => False, trivial, j', ⟨.inl (.int _), .inl (.int _), trivial⟩, rfl, drawn_any fun z => ⟨z, rfl⟩, ?_, fun _ _ _ _ z => z.elim⟩
      rintro v H2 d e2 j2 r2' ⟨z, rfl⟩
      rw [rep_int r2']
      refine ⟨z, 8, rfl, rfl, ⟨by decide, by decide +kernel⟩, _, rfl, _, m, rfl, rfl, by omega, ?_⟩
      exact kq _ _ _ ((ex x (n + 1)).trans e2) j2 (.inl (.int _)) (hq _ (md _).1 (md _).2)
/-! ### a cell of the script; the rounds -/
theorem shaped_ints (ns : List Int) : SeqAt.shaped (.list (ns.map .int)) = true := by
  have h1 : ∀ ns : List Int, PyData.canLayAll0 (ns.map PyData.int) = true := by
    intro ns
    induction ns with
    | nil => unfold PyData.canLayAll0; rfl
    | cons n ns ih =>
      show PyData.canLayAll0 (.int n :: ns.map PyData.int) = true
      unfold PyData.canLayAll0
      rw [ih]
      unfold PyData.canLay0
      rfl
  have h2 : ∀ ns : List Int, PyData.depthAll (ns.map PyData.int) = 0 := by
    intro ns
    induction ns with
    | nil => unfold PyData.depthAll; rfl
    | cons n ns ih =>
      show PyData.depthAll (.int n :: ns.map PyData.int) = 0
      unfold PyData.depthAll
      rw [ih]
      unfold PyData.depth
      rfl
  unfold SeqAt.shaped
  rw [Bool.and_eq_true]
  constructor
  · unfold PyData.canLay0
    exact h1 ns
  · unfold PyData.depth
    rw [h2 ns]
    decide
theorem dp_ints {K : PySem.W.Frag} {H : Hp} : ∀ ns : List Int, DpAll K H (ns.map V.int) (ns.map PyData.int)
  | [] => .nil
  | n :: ns => .cons (.int n) (dp_ints ns)
def spCell (K : PySem.W.Frag) : Sp := fun vs H Q _ => ∃ (a : Addr) (k : Int) (ns : List Int), vs = [.ref a, .int k] ∧ SqL K H a (ns.map V.int) ∧ ns.length ≤ 63 ∧ 0 ≤ k ∧ k < 64 ∧ ∀ z H', Same H H' → Q (.int z) H'
def t_law_cell (K : PySem.W.Frag) : TS := (tSeq (tIfS (tTest (tOp (rEqU K) (tVar 0) (tLst tNil))) (tRet (tOp rMulU (tVar 1) (tC (.int 7919)))) tNext) (tRet (tOp rAddU (tOp (rIx K) (tVar 0) (tOp rModU (tVar 1) (tCB (rLenU K) (tCons (tVar 0) tNil)))) (tOp rMulU (tOp rDivU (tVar 1) (tCB (rLenU K) (tCons (tVar 0) tNil))) (tC (.int 104729))))))
theorem same_upd {H : Hp} {p : Addr} {o : HO} (h : H p = none) : Same H (upd H p o) := fun b x e => by
  rw [upd_ne (ne_of_none e h)]
  exact e
theorem cell_reads {K : PySem.W.Frag} {vs : List V} {H : Hp} {Q : VK} {E : XK} (h : spCell K vs H Q E) : t_law_cell K { nx := fun _ H' => Q .non H', rt := Q } (L2.start ["script", "k"] vs) H := by
  obtain ⟨a, k, ns, rfl, hs, hl, k0, k1, q⟩ := h
  refine ⟨_, rfl, Nat.zero_le _, fun p np => ?_⟩
  have s1 : Same H (upd H p (.lst [])) := same_upd np
  have hs1 : SqL K (upd H p (.lst [])) a (ns.map V.int) := s1.seq hs
  refine .inr ⟨.list (ns.map .int), .list [], .lst hs1 (dp_ints ns), .lst (SqL.of upd_same) .nil, shaped_ints ns, by decide +kernel, _, rfl, ite2 (fun _ => ?_) (fun hne => ?_)⟩
  · refine ⟨_, rfl, .inl ⟨k, 7919, rfl, rfl, mulOk_r (by decide), q _ _ s1⟩⟩
  · have hn : ns ≠ [] := fun z => hne (by rw [z]; decide +kernel)
    have hpos : 0 < ns.length := List.length_pos_iff.mpr hn
    have hlen : (ns.map V.int).length = ns.length := List.length_map _
    have hm0 : 0 ≤ k.fmod (ns.length : Int) := Int.fmod_nonneg_of_pos _ (by omega)
    have hm1 : k.fmod (ns.length : Int) < ns.length := Int.fmod_lt_of_pos _ (by omega)
    obtain ⟨j, ej⟩ : ∃ j : Nat, k.fmod (ns.length : Int) = (j : Int) := ⟨(k.fmod (ns.length : Int)).toNat, by omega⟩
    have hj : j < ns.length := by omega
    have hll : ((ns.length : Int)).natAbs.log2 < 9000 := by
      have hb : ((ns.length : Int)).natAbs < 2 ^ 7 := by omega
      have := PySem.Flt.log2_lt_of (by decide) hb
      omega
    refine ⟨_, rfl, _, rfl, _, rfl, .ref a, ns.length, rfl, .inl ⟨_, hs1, hlen.symm⟩, k, (ns.length : Int), rfl, rfl, by omega, ?_⟩
    refine .inl ⟨a, _, k.fmod (ns.length : Int), .int ns[j], rfl, rfl, hs1, at_of ej (by rw [List.getElem?_map, List.getElem?_eq_getElem hj]; rfl), ?_⟩
    refine ⟨_, rfl, _, rfl, .ref a, ns.length, rfl, .inl ⟨_, hs1, hlen.symm⟩, k, (ns.length : Int), rfl, rfl, ⟨by omega, hll⟩, ?_⟩
    refine .inl ⟨_, 104729, rfl, rfl, mulOk_r (by decide), .inl ⟨_, _, rfl, rfl, q _ _ s1⟩⟩
def spRounds (K : PySem.W.Frag) : Sp := fun vs H Q _ => ∃ (a : Addr) (most : Int) (ns : List Int), vs = [.ref a, .int most] ∧ SqL K H a (ns.map V.int) ∧ ns.length ≤ 63 ∧ 1 ≤ most ∧ most ≤ 10 ∧
  ∀ (r : Addr) (ps : List Addr) (H' : Hp), Same H H' → H r = none → H' r = some (.lst (ps.map V.ref)) → ps.Nodup → (∀ p ∈ ps, H p = none ∧ p ≠ r ∧ ∃ x, H' p = some (.lst [.int x, .int 0])) → Q (.ref r) H'
def t_law_rounds (K : PySem.W.Frag) : TS := tRet (tLc (iRng1 (tCons (tCB rMax2U (tCons (tC (.int 1)) (tCons (tCB rMin2U (tCons (tVar 1) (tCons (tCB (rLenU K) (tCons (tVar 0) tNil)) tNil))) tNil))) tNil)) (gName 2) tYes
  (tLst (tCons (tCallS (spCell K) (fun _ => fun _ _ _ => False) (tCons (tVar 0) (tCons (tVar 2) tNil))) (tCons (tC (.int 0)) tNil))) [2])
theorem rounds_reads {K : PySem.W.Frag} {vs : List V} {H : Hp} {Q : VK} {E : XK} (h : spRounds K vs H Q E) : t_law_rounds K { nx := fun _ H' => Q .non H', rt := Q } (L2.start ["script", "most", "k"] vs) H := by
  obtain ⟨a, most, ns, rfl, hs, hl, m0, m1, q⟩ := h
  have hlen : (ns.map V.int).length = ns.length := List.length_map _
  refine ⟨_, rfl, _, rfl, .ref a, ns.length, rfl, .inl ⟨_, hs, hlen.symm⟩, most, (ns.length : Int), rfl, 1, _, rfl, ?_⟩
  generalize hn : (if (if (ns.length : Int) < most then (ns.length : Int) else most) > 1 then (if (ns.length : Int) < most then (ns.length : Int) else most) else 1) = n
  have n0 : 1 ≤ n := by rw [← hn]; split <;> split <;> omega
  have n1 : n ≤ 10 := by rw [← hn]; split <;> split <;> omega
  refine ⟨n, rfl, by omega, by omega, ?_⟩
  intro D nD
  refine lc_range (lo := 0) (n := n.toNat) (fun i H' => ∃ ps : List Addr, ps.length = i ∧ ps.Nodup ∧ Same H H' ∧ H' D = some (.lst (ps.map V.ref)) ∧ ∀ p ∈ ps, H p = none ∧ p ≠ D ∧ ∃ x, H' p = some (.lst [.int x, .int 0]))
    ⟨[], rfl, List.nodup_nil, same_upd nD, upd_same, fun p hp => nomatch hp⟩ ?_ ?_
  · rintro i H1 hi ⟨ps, pl, pd, s1, hD, hp⟩
    refine ⟨rfl, ?_⟩
    refine ⟨_, rfl, _, rfl, a, _, ns, rfl, s1.seq hs, hl, by omega, by omega, ?_⟩
    intro z H2 s2
    refine ⟨by show 2 ≤ sizeLine; decide, fun p np => ?_⟩
    have np1 : H1 p = none := s2.free np
    have hD2 : H2 D = some (.lst (ps.map V.ref)) := s2 _ _ hD
    have hpD : p ≠ D := fun e => by rw [e, hD2] at np; cases np
    have h3 : (upd H2 p (.lst [.int z, .int 0])) D = some (.lst (ps.map V.ref)) := by rw [upd_ne (Ne.symm hpD)]; exact hD2
    refine ⟨ps.map V.ref, h3, by rw [List.length_map, pl]; exact Nat.lt_of_le_of_lt (by omega : i ≤ 10) (by decide), ps ++ [p], by rw [List.length_append, pl]; rfl, ?_, ?_, ?_, ?_⟩
    · refine List.nodup_append.mpr ⟨pd, List.nodup_cons.mpr ⟨List.not_mem_nil, List.nodup_nil⟩, fun b hb c hc => ?_⟩
      rw [List.mem_singleton] at hc
      subst hc
      intro e
      subst e
      obtain ⟨_, _, x, hx⟩ := hp b hb
      rw [hx] at np1
      cases np1
    · intro b o hb
      have hb2 := s2 _ _ (s1 _ _ hb)
      rw [upd_ne (ne_of_none hb nD), upd_ne (ne_of_none hb2 np)]
      exact hb2
    · rw [upd_same, List.map_append]
      rfl
    · intro b hb
      rcases List.mem_append.mp hb with hb | hb
      · obtain ⟨y1, y2, x, hx⟩ := hp b hb
        refine ⟨y1, y2, x, ?_⟩
        have hx2 := s2 _ _ hx
        rw [upd_ne y2, upd_ne (ne_of_none hx2 np)]
        exact hx2
      · rw [List.mem_singleton] at hb
        subst hb
        exact ⟨s1.free np1, hpD, z, by rw [upd_ne hpD, upd_same]⟩
  · rintro H1 ⟨ps, pl, pd, s1, hD, hp⟩
    exact q D ps H1 s1 nD hD pd hp
end Tz

/-! The law's outer loop: each round has its own dice. -/
namespace Tz
open PySem PySem.Spec PyProof.Rows L2
abbrev GPlaw (T : List (Addr × Str)) : Hid → Prop := fun G => G.T = T ∧ Rolls G
theorem addLaw {T : List (Addr × Str)} : ∀ (G : Hid) (p : Addr) (h : ¬ G.D p) (xs : List V), GPlaw T G → GPlaw T (G.add p h xs) := fun G p h xs R => ⟨R.1, rolls_add G p h xs R.2⟩
theorem tabs_keep {T : List (Addr × Str)} {H H' : Hp} (t : LamX.Tabs T H) (h1 : ∀ q ∈ T, H' q.1 = H q.1) (h2 : ∀ a o, NT o → H a = some o → a ∉ T.map (·.1) → H' a = some o) : LamX.Tabs T H' := by
  intro q hq
  obtain ⟨ps, a, b, c⟩ := t q hq
  refine ⟨ps, by rw [h1 q hq]; exact a, b, fun pos cv hc => ?_⟩
  obtain ⟨x, e1, e2⟩ := c pos cv hc
  refine ⟨x, e1, ?_⟩
  have nt : NT (LamX.CodeO x q.2) := LamX.codeO_ne
  by_cases hx : x ∈ T.map (·.1)
  · obtain ⟨q', hq', e⟩ := List.mem_map.mp hx
    rw [← e, h1 q' hq', e]
    exact e2
  · exact h2 x _ nt e2 hx
/-- the dice at p and the tables are hidden -/
def Hdice (T : List (Addr × Str)) (p : Addr) : Hid where
  D := fun a => a = p ∨ a ∈ T.map (·.1)
  J := fun H => (∃ x n, H p = some (.lst [.int x, .int n])) ∧ LamX.Tabs T H
  live := by
    rintro H a ⟨⟨x, n, e⟩, t⟩ (d | d)
    · rw [d, e]
      exact fun z => nomatch z
    · obtain ⟨q, hq, rfl⟩ := List.mem_map.mp d
      obtain ⟨ps, h, _⟩ := t q hq
      rw [h]
      exact fun z => nomatch z
  keep := by
    rintro H H' ⟨⟨x, n, e⟩, t⟩ hd hx
    refine ⟨⟨x, n, by rw [hd p (.inl rfl)]; exact e⟩, tabs_keep t (fun q hq => hd _ (.inr (List.mem_map.mpr ⟨q, hq, rfl⟩))) fun a o nt ha na => ?_⟩
    by_cases hp : a = p
    · rw [hp, hd p (.inl rfl), ← hp]
      exact ha
    · exact hx a o (fun z => z.elim hp na) nt ha
  isO := fun _ v => v = .ref p
  T := T
  tab := fun j => j.2
  tabs := by
    rintro H H' ⟨⟨x, n, e⟩, t⟩ hx ht
    exact ⟨⟨x, n, hx p _ e fun ps z => nomatch z⟩, ht⟩
theorem rolls_dice (T : List (Addr × Str)) (p : Addr) : Rolls (Hdice T p) := by
  rintro v rfl
  refine ⟨p, rfl, .inl rfl, fun H j => j.1, fun H x n j => ⟨⟨x, n, upd_same⟩, ?_⟩⟩
  obtain ⟨⟨x', n', e⟩, t⟩ := j
  have np : ∀ q ∈ T, q.1 ≠ p := fun q hq => by
    obtain ⟨ps, h, _⟩ := t q hq
    exact ne_of h e fun z => nomatch z
  intro q hq
  obtain ⟨ps, h1, h2, h3⟩ := t q hq
  refine ⟨ps, by rw [upd_ne (np q hq)]; exact h1, h2, fun pos cv hc => ?_⟩
  obtain ⟨c, e1, e2⟩ := h3 pos cv hc
  have nc : c ≠ p := ne_of e2 e fun z => by
    unfold LamX.CodeO at z
    cases z
  exact ⟨c, e1, by rw [upd_ne nc]; exact e2⟩
def spLaw (K : PySem.W.Frag) (T : List (Addr × Str)) : Sp := fun vs H Q _ => ∃ (a : Addr) (ns : List Int), vs = [.ref a] ∧ SqL K H a (ns.map V.int) ∧ ns.length ≤ 63 ∧ LamX.Tabs T H ∧ ∀ H', Q (.bl true) H'
def t_law_of (K : PySem.W.Frag) (most : Int) (di : Nat) (E : XK) (tb : TS) : TS :=
  tSeq (tFor (iList K (tCallS (spRounds K) (fun _ => E) (tCons (tVar 0) (tCons (tC (.int most)) tNil)))) (gName di) tb) (tRet (tC (.bl true)))
theorem look_none : ∀ (n i : Nat), look (List.replicate n none) i = none := look_rep
theorem law_reads {K : PySem.W.Frag} {ec : Nat → Addr} {T : List (Addr × Str)} {most : Int} {di n : Nat} {N : List Str} {tb : XK → TS} {b : DS} (m0 : 1 ≤ most) (m1 : most ≤ 10) (hdi : di < n) (hN : N.length = n)
    (sim : ∀ E : XK, SimS ⟨K, ec, GPlaw T, E, addLaw⟩ (tb E) b) (pl : b (put (List.replicate n none) di dice) (fun _ => True) (fun _ => False) (fun _ => False))
    {vs : List V} {H : Hp} {Q : VK} {E : XK} (h : spLaw K T vs H Q E) : t_law_of K most di E (tb E) { nx := fun _ H' => Q .non H', rt := Q } (L2.start N vs) H := by
  obtain ⟨a, ns, rfl, hs, hl, ht, q⟩ := h
  refine ⟨_, rfl, a, most, ns, rfl, hs, hl, m0, m1, ?_⟩
  intro r ps H1 s1 nr hr pd hp
  have slen : (L2.start N [V.ref a]).length = n := by
    unfold L2.start
    simp
    omega
  have t1 : LamX.Tabs T H1 := ht.ext s1
  refine ⟨r, rfl, ⟨_, SqL.of hr⟩, for_list (K := K) (a := r) (xs := ps.map V.ref) (fun i σ H2 => σ.length = n ∧ H2 r = some (.lst (ps.map V.ref)) ∧ LamX.Tabs T H2 ∧ ∀ (j : Nat) p, i ≤ j → ps[j]? = some p → p ≠ r ∧ ∃ x, H2 p = some (.lst [.int x, .int 0]))
    ⟨slen, hr, t1, fun j p _ e => ⟨(hp p (List.mem_of_getElem? e)).2.1, (hp p (List.mem_of_getElem? e)).2.2⟩⟩ (fun i σ H2 _ z => SqL.of z.2.1) ?_ ?_⟩
  · rintro i x σ H2 hx ⟨hlen, hr2, t2, hp2⟩
    rw [List.getElem?_map] at hx
    obtain ⟨p, hpi, rfl⟩ := Option.map_eq_some_iff.mp hx
    obtain ⟨npr, x, hpx⟩ := hp2 i p (Nat.le_refl i) hpi
    have notT : ∀ (c : Addr) (zs : List V), H2 c = some (.lst zs) → c ∉ T.map (·.1) := fun c zs hc hm => by
      obtain ⟨q', hq', e⟩ := List.mem_map.mp hm
      obtain ⟨ps', h1, _⟩ := t2 q' hq'
      rw [e, hc] at h1
      cases h1
    have j2 : (Hdice T p).J H2 := ⟨⟨x, 0, hpx⟩, t2⟩
    have rs0 : RepS K (Hdice T p) H2 σ (List.replicate n none) := ⟨by rw [List.length_replicate, hlen]; exact Nat.le_refl _, fun i d z => by rw [look_rep] at z; cases z⟩
    have rs : RepS K (Hdice T p) H2 (σ.set di (some (.ref p))) (put (List.replicate n none) di dice) := rs0.put (.inr ⟨rfl, rfl⟩)
    refine sim E (Hdice T p) _ _ _ _ ⟨rfl, rolls_dice T p⟩ pl (σ.set di (some (.ref p))) H2 _ j2 rs ⟨fun σ3 H3 r3 e3 j3 rs3 hl3 _ => ?_, fun v H3 x _ _ _ z => z.elim⟩ fun c H3 _ _ z => z.elim
    refine ⟨by rw [hl3, List.length_set, hlen], e3 r _ (fun z => z.elim (fun z => npr z.symm) (notT r _ hr2)) nt_lst hr2, j3.2, fun j p' hij hpj => ?_⟩
    obtain ⟨n1, y, hy⟩ := hp2 j p' (Nat.le_of_succ_le hij) hpj
    have hne : p' ≠ p := fun z => by
      have := nd_ix pd hpj (by rw [z]; exact hpi)
      omega
    exact ⟨n1, y, e3 p' _ (fun z => z.elim hne (notT p' _ hy)) nt_lst hy⟩
  · rintro σ H2 _
    exact q H2
end Tz

/-! The def that names an error's class. -/
namespace Tz
open PySem PySem.Spec PyProof.Rows L2
def b_law_term (c : Nat) : DS := (dSeq (dAsg (dLst (dCons (dIsX (decide (c = 0))) (dCons (dIsX (decide (c = 1))) (dCons (dIsX (decide (c = 2))) dNil)))) (dgName 1)) (dSeq (dAsg (dOp oAdd (dVar 1) (dLst (dCons (dIsX (decide (c = 3))) (dCons (dIsX (decide (c = 4))) (dCons (dIsX (decide (c = 5))) dNil))))) (dgName 1)) (dSeq (dAsg (dOp oAdd (dVar 1) (dLst (dCons (dIsX (decide (c = 6))) (dCons (dIsX (decide (c = 7))) (dCons (dIsX (decide (c = 8))) dNil))))) (dgName 1)) (dSeq (dAsg (dOp oAdd (dVar 1) (dLst (dCons (dIsX (decide (c = 9))) (dCons (dIsX (decide (c = 10))) (dCons (dIsX (decide (c = 11))) dNil))))) (dgName 1)) (dSeq (dAsg (dOp oAdd (dVar 1) (dLst (dCons (dIsX (decide (c = 12))) (dCons (dIsX (decide (c = 13))) (dCons (dIsX (decide (c = 14))) dNil))))) (dgName 1)) (dSeq (dAsg (dOp oAdd (dVar 1) (dLst (dCons (dIsX (decide (c = 15))) dNil))) (dgName 1)) (dSeq (dAsg (dLst (dCons (dC (.str ("InvalidTable" : Str))) (dCons (dC (.str ("InvalidWord" : Str))) (dCons (dC (.str ("InvalidNumber" : Str))) (dCons (dC (.str ("InvalidSign" : Str))) (dCons (dC (.str ("InvalidNormal" : Str))) (dCons (dC (.str ("InvalidPositive" : Str))) dNil))))))) (dgName 2)) (dSeq (dAsg (dOp oAdd (dVar 2) (dLst (dCons (dC (.str ("InvalidFraction" : Str))) (dCons (dC (.str ("InvalidModulus" : Str))) (dCons (dC (.str ("InvalidRemainder" : Str))) (dCons (dC (.str ("InvalidLetter" : Str))) (dCons (dC (.str ("InvalidText" : Str))) dNil))))))) (dgName 2)) (dSeq (dAsg (dOp oAdd (dVar 2) (dLst (dCons (dC (.str ("NotPositive" : Str))) (dCons (dC (.str ("FiniteOrder" : Str))) (dCons (dC (.str ("AllFixed" : Str))) (dCons (dC (.str ("TooLong" : Str))) (dCons (dC (.str ("NothingToUndo" : Str))) dNil))))))) (dgName 2)) (dSeq (dIfS (dOr (dTest (dOp oNe (dCB oSum (dCons (dLcInt 1) dNil)) (dC (.int 1)))) (dNot (dTest (dIsX true)))) (dRet (dTup (dCons (dC (.str ("error" : Str))) (dCons (dC (.str ("other" : Str))) dNil)))) dNext) (dRet (dTup (dCons (dC (.str ("error" : Str))) (dCons (dOp oIx (dVar 2) (dIdxT (dVar 1))) dNil))))))))))))))
def t_law_term (K : PySem.W.Frag) (ec : Nat → Addr) (c : Nat) (a : Addr) : TS := (tSeq (tAsg (tLst (tCons (tIsX K a (ec c) (.ref (ec 0))) (tCons (tIsX K a (ec c) (.ref (ec 1))) (tCons (tIsX K a (ec c) (.ref (ec 2))) tNil)))) (gName 1)) (tSeq (tAsg (tOp rAddU (tVar 1) (tLst (tCons (tIsX K a (ec c) (.ref (ec 3))) (tCons (tIsX K a (ec c) (.ref (ec 4))) (tCons (tIsX K a (ec c) (.ref (ec 5))) tNil))))) (gName 1)) (tSeq (tAsg (tOp rAddU (tVar 1) (tLst (tCons (tIsX K a (ec c) (.ref (ec 6))) (tCons (tIsX K a (ec c) (.ref (ec 7))) (tCons (tIsX K a (ec c) (.ref (ec 8))) tNil))))) (gName 1)) (tSeq (tAsg (tOp rAddU (tVar 1) (tLst (tCons (tIsX K a (ec c) (.ref (ec 9))) (tCons (tIsX K a (ec c) (.ref (ec 10))) (tCons (tIsX K a (ec c) (.ref (ec 11))) tNil))))) (gName 1)) (tSeq (tAsg (tOp rAddU (tVar 1) (tLst (tCons (tIsX K a (ec c) (.ref (ec 12))) (tCons (tIsX K a (ec c) (.ref (ec 13))) (tCons (tIsX K a (ec c) (.ref (ec 14))) tNil))))) (gName 1)) (tSeq (tAsg (tOp rAddU (tVar 1) (tLst (tCons (tIsX K a (ec c) (.ref (ec 15))) tNil))) (gName 1)) (tSeq (tAsg (tLst (tCons (tC (.str ("InvalidTable" : Str))) (tCons (tC (.str ("InvalidWord" : Str))) (tCons (tC (.str ("InvalidNumber" : Str))) (tCons (tC (.str ("InvalidSign" : Str))) (tCons (tC (.str ("InvalidNormal" : Str))) (tCons (tC (.str ("InvalidPositive" : Str))) tNil))))))) (gName 2)) (tSeq (tAsg (tOp rAddU (tVar 2) (tLst (tCons (tC (.str ("InvalidFraction" : Str))) (tCons (tC (.str ("InvalidModulus" : Str))) (tCons (tC (.str ("InvalidRemainder" : Str))) (tCons (tC (.str ("InvalidLetter" : Str))) (tCons (tC (.str ("InvalidText" : Str))) tNil))))))) (gName 2)) (tSeq (tAsg (tOp rAddU (tVar 2) (tLst (tCons (tC (.str ("NotPositive" : Str))) (tCons (tC (.str ("FiniteOrder" : Str))) (tCons (tC (.str ("AllFixed" : Str))) (tCons (tC (.str ("TooLong" : Str))) (tCons (tC (.str ("NothingToUndo" : Str))) tNil))))))) (gName 2)) (tSeq (tIfS (tOr (tTest (tOp (rNeU K) (tCB (rSum K) (tCons (tLcInt 1) tNil)) (tC (.int 1)))) (tNot (tB (tIsX K a (ec c) (.ty "ValueError"))))) (tRet (tTup (tCons (tC (.str ("error" : Str))) (tCons (tC (.str ("other" : Str))) tNil)))) tNext) (tRet (tTup (tCons (tC (.str ("error" : Str))) (tCons (tOp (rIx K) (tVar 2) (tBM K "list" (rIndex K) (tVar 1) (tCons (tC (.bl true)) tNil))) tNil))))))))))))))
theorem sim_law_term {C : Cn} {c : Nat} {a TE' : Addr} (hc : c < 16) (EO : ErrsOk C.K C.ec TE') (hD : ∀ G, C.GP G → ∀ v, G.isDice v → v = .ref a) : SimS C (t_law_term C.K C.ec c a) (b_law_term c) :=
  let K := C.K; let ec := C.ec; (s_seq (s_asg (s_lst (s_cons (s_isX hD (.own _) (EO.kit c 0 hc (by decide))) (s_cons (s_isX hD (.own _) (EO.kit c 1 hc (by decide))) (s_cons (s_isX hD (.own _) (EO.kit c 2 hc (by decide))) s_nil)))) (g_name 1)) (s_seq (s_asg (s_op s_add (s_var 1) (s_lst (s_cons (s_isX hD (.own _) (EO.kit c 3 hc (by decide))) (s_cons (s_isX hD (.own _) (EO.kit c 4 hc (by decide))) (s_cons (s_isX hD (.own _) (EO.kit c 5 hc (by decide))) s_nil))))) (g_name 1)) (s_seq (s_asg (s_op s_add (s_var 1) (s_lst (s_cons (s_isX hD (.own _) (EO.kit c 6 hc (by decide))) (s_cons (s_isX hD (.own _) (EO.kit c 7 hc (by decide))) (s_cons (s_isX hD (.own _) (EO.kit c 8 hc (by decide))) s_nil))))) (g_name 1)) (s_seq (s_asg (s_op s_add (s_var 1) (s_lst (s_cons (s_isX hD (.own _) (EO.kit c 9 hc (by decide))) (s_cons (s_isX hD (.own _) (EO.kit c 10 hc (by decide))) (s_cons (s_isX hD (.own _) (EO.kit c 11 hc (by decide))) s_nil))))) (g_name 1)) (s_seq (s_asg (s_op s_add (s_var 1) (s_lst (s_cons (s_isX hD (.own _) (EO.kit c 12 hc (by decide))) (s_cons (s_isX hD (.own _) (EO.kit c 13 hc (by decide))) (s_cons (s_isX hD (.own _) (EO.kit c 14 hc (by decide))) s_nil))))) (g_name 1)) (s_seq (s_asg (s_op s_add (s_var 1) (s_lst (s_cons (s_isX hD (.own _) (EO.kit c 15 hc (by decide))) s_nil))) (g_name 1)) (s_seq (s_asg (s_lst (s_cons s_str (s_cons s_str (s_cons s_str (s_cons s_str (s_cons s_str (s_cons s_str s_nil))))))) (g_name 2)) (s_seq (s_asg (s_op s_add (s_var 2) (s_lst (s_cons s_str (s_cons s_str (s_cons s_str (s_cons s_str (s_cons s_str s_nil))))))) (g_name 2)) (s_seq (s_asg (s_op s_add (s_var 2) (s_lst (s_cons s_str (s_cons s_str (s_cons s_str (s_cons s_str (s_cons s_str s_nil))))))) (g_name 2)) (s_seq (s_ifS (s_or (s_test (s_op s_ne (s_cb s_sum (s_cons s_lcInt s_nil)) s_int)) (s_not (s_B (s_isX hD (.ty "ValueError") (EO.val c hc))))) (s_ret (s_tup (s_cons s_str (s_cons s_str s_nil)))) s_next) (s_ret (s_tup (s_cons s_str (s_cons (s_op s_ix (s_var 2) (s_idxT (s_var 1))) s_nil))))))))))))))
theorem sz {n m : Nat} (h : Nat.ble n m = true := by rfl) : n ≤ m := Nat.le_of_ble_eq_true h
theorem term_sound (c : Nat) (hc : c < 16) {nx : Rho → Prop} {rt : PyData → Prop} {E : Nat → Prop} (h : rt (errD c)) : b_law_term c [some dice, none, none, none] nx rt E := by
  match c, hc, h with
  | 0, _, h =>
    exact ⟨rfl, rfl, rfl, rfl, sz, rfl, rfl, rfl, rfl, sz, sz, rfl, rfl, rfl, rfl, sz, sz, rfl, rfl, rfl, rfl, sz, sz, rfl, rfl, rfl, rfl, sz, sz, rfl, rfl, sz, sz, rfl, sz, rfl, sz, sz, rfl, sz, sz, rfl, rfl, sz, h⟩
  | 1, _, h =>
    exact ⟨rfl, rfl, rfl, rfl, sz, rfl, rfl, rfl, rfl, sz, sz, rfl, rfl, rfl, rfl, sz, sz, rfl, rfl, rfl, rfl, sz, sz, rfl, rfl, rfl, rfl, sz, sz, rfl, rfl, sz, sz, rfl, sz, rfl, sz, sz, rfl, sz, sz, rfl, rfl, sz, h⟩
  | 2, _, h =>
    exact ⟨rfl, rfl, rfl, rfl, sz, rfl, rfl, rfl, rfl, sz, sz, rfl, rfl, rfl, rfl, sz, sz, rfl, rfl, rfl, rfl, sz, sz, rfl, rfl, rfl, rfl, sz, sz, rfl, rfl, sz, sz, rfl, sz, rfl, sz, sz, rfl, sz, sz, rfl, rfl, sz, h⟩
  | 3, _, h =>
    exact ⟨rfl, rfl, rfl, rfl, sz, rfl, rfl, rfl, rfl, sz, sz, rfl, rfl, rfl, rfl, sz, sz, rfl, rfl, rfl, rfl, sz, sz, rfl, rfl, rfl, rfl, sz, sz, rfl, rfl, sz, sz, rfl, sz, rfl, sz, sz, rfl, sz, sz, rfl, rfl, sz, h⟩
  | 4, _, h =>
    exact ⟨rfl, rfl, rfl, rfl, sz, rfl, rfl, rfl, rfl, sz, sz, rfl, rfl, rfl, rfl, sz, sz, rfl, rfl, rfl, rfl, sz, sz, rfl, rfl, rfl, rfl, sz, sz, rfl, rfl, sz, sz, rfl, sz, rfl, sz, sz, rfl, sz, sz, rfl, rfl, sz, h⟩
  | 5, _, h =>
    exact ⟨rfl, rfl, rfl, rfl, sz, rfl, rfl, rfl, rfl, sz, sz, rfl, rfl, rfl, rfl, sz, sz, rfl, rfl, rfl, rfl, sz, sz, rfl, rfl, rfl, rfl, sz, sz, rfl, rfl, sz, sz, rfl, sz, rfl, sz, sz, rfl, sz, sz, rfl, rfl, sz, h⟩
  | 6, _, h =>
    exact ⟨rfl, rfl, rfl, rfl, sz, rfl, rfl, rfl, rfl, sz, sz, rfl, rfl, rfl, rfl, sz, sz, rfl, rfl, rfl, rfl, sz, sz, rfl, rfl, rfl, rfl, sz, sz, rfl, rfl, sz, sz, rfl, sz, rfl, sz, sz, rfl, sz, sz, rfl, rfl, sz, h⟩
  | 7, _, h =>
    exact ⟨rfl, rfl, rfl, rfl, sz, rfl, rfl, rfl, rfl, sz, sz, rfl, rfl, rfl, rfl, sz, sz, rfl, rfl, rfl, rfl, sz, sz, rfl, rfl, rfl, rfl, sz, sz, rfl, rfl, sz, sz, rfl, sz, rfl, sz, sz, rfl, sz, sz, rfl, rfl, sz, h⟩
  | 8, _, h =>
    exact ⟨rfl, rfl, rfl, rfl, sz, rfl, rfl, rfl, rfl, sz, sz, rfl, rfl, rfl, rfl, sz, sz, rfl, rfl, rfl, rfl, sz, sz, rfl, rfl, rfl, rfl, sz, sz, rfl, rfl, sz, sz, rfl, sz, rfl, sz, sz, rfl, sz, sz, rfl, rfl, sz, h⟩
  | 9, _, h =>
    exact ⟨rfl, rfl, rfl, rfl, sz, rfl, rfl, rfl, rfl, sz, sz, rfl, rfl, rfl, rfl, sz, sz, rfl, rfl, rfl, rfl, sz, sz, rfl, rfl, rfl, rfl, sz, sz, rfl, rfl, sz, sz, rfl, sz, rfl, sz, sz, rfl, sz, sz, rfl, rfl, sz, h⟩
  | 10, _, h =>
    exact ⟨rfl, rfl, rfl, rfl, sz, rfl, rfl, rfl, rfl, sz, sz, rfl, rfl, rfl, rfl, sz, sz, rfl, rfl, rfl, rfl, sz, sz, rfl, rfl, rfl, rfl, sz, sz, rfl, rfl, sz, sz, rfl, sz, rfl, sz, sz, rfl, sz, sz, rfl, rfl, sz, h⟩
  | 11, _, h =>
    exact ⟨rfl, rfl, rfl, rfl, sz, rfl, rfl, rfl, rfl, sz, sz, rfl, rfl, rfl, rfl, sz, sz, rfl, rfl, rfl, rfl, sz, sz, rfl, rfl, rfl, rfl, sz, sz, rfl, rfl, sz, sz, rfl, sz, rfl, sz, sz, rfl, sz, sz, rfl, rfl, sz, h⟩
  | 12, _, h =>
    exact ⟨rfl, rfl, rfl, rfl, sz, rfl, rfl, rfl, rfl, sz, sz, rfl, rfl, rfl, rfl, sz, sz, rfl, rfl, rfl, rfl, sz, sz, rfl, rfl, rfl, rfl, sz, sz, rfl, rfl, sz, sz, rfl, sz, rfl, sz, sz, rfl, sz, sz, rfl, rfl, sz, h⟩
  | 13, _, h =>
    exact ⟨rfl, rfl, rfl, rfl, sz, rfl, rfl, rfl, rfl, sz, sz, rfl, rfl, rfl, rfl, sz, sz, rfl, rfl, rfl, rfl, sz, sz, rfl, rfl, rfl, rfl, sz, sz, rfl, rfl, sz, sz, rfl, sz, rfl, sz, sz, rfl, sz, sz, rfl, rfl, sz, h⟩
  | 14, _, h =>
    exact ⟨rfl, rfl, rfl, rfl, sz, rfl, rfl, rfl, rfl, sz, sz, rfl, rfl, rfl, rfl, sz, sz, rfl, rfl, rfl, rfl, sz, sz, rfl, rfl, rfl, rfl, sz, sz, rfl, rfl, sz, sz, rfl, sz, rfl, sz, sz, rfl, sz, sz, rfl, rfl, sz, h⟩
  | 15, _, h =>
    exact ⟨rfl, rfl, rfl, rfl, sz, rfl, rfl, rfl, rfl, sz, sz, rfl, rfl, rfl, rfl, sz, sz, rfl, rfl, rfl, rfl, sz, sz, rfl, rfl, rfl, rfl, sz, sz, rfl, rfl, sz, sz, rfl, sz, rfl, sz, sz, rfl, sz, sz, rfl, rfl, sz, h⟩
  | n + 16, hc, _ => exact absurd hc (by omega)
abbrev toldT (K : PySem.W.Frag) (ec : Nat → Addr) : Nat → Addr → VK → Hp → Prop := fun c a Q H => t_law_term K ec c a { nx := fun _ H' => Q .non H', rt := Q } (L2.start ["e", "flags", "kinds", "flag"] [.ref a]) H
theorem term_tells {K : PySem.W.Frag} {ec : Nat → Addr} {TE' : Addr} (EO : ErrsOk K ec TE') (c : Nat) (G : Hid) (a : Addr) (H : Hp) (Q : VK) (hc : c < 16) (j : G.J H) (k : ∀ v H', Ex G H H' → G.J H' → Rep K G H' v (errD c) → Q v H') : toldT K ec c a Q H := by
  have sim := sim_law_term (C := ⟨K, ec, fun G => ∀ v, G.isDice v → v = .ref a, fun _ _ _ => False, fun G p h xs z => z⟩) (a := a) hc EO (fun _ z => z)
  refine sim (G.err a) [some dice, none, none, none] (fun _ => False) (fun d => d = errD c) (fun _ => False) (fun v z => z) (term_sound c hc rfl) _ H _ j ⟨Nat.le_refl 4, fun i d z => ?_⟩ ⟨fun _ _ _ _ _ _ _ z => z.elim, ?_⟩ fun _ _ _ _ z => z.elim
  · have : i = 0 := by
      match i, z with
      | 0, _ => rfl
      | 1, z => cases z
      | 2, z => cases z
      | 3, z => cases z
      | n + 4, z => cases z
    subst this
    cases z
    exact ⟨.ref a, rfl, .inr ⟨rfl, rfl⟩⟩
  · intro v H' x e j' r hx
    subst hx
    exact k v H' e j' (rep_err rfl r)
end Tz

/-! The end: what the top has left, checked by one look each. -/
namespace Tz
open PySem PySem.Spec PyProof.Rows L2
def isN : Option (Option Value) → Bool
  | some none => true
  | _ => false
def isB (n : String) : Option (Option Value) → Bool
  | some (some (.builtin m)) => m == n
  | _ => false
def isTy (n : String) : Option Value → Bool
  | some (.type m) => m == n
  | _ => false
theorem isN_eq {o : Option (Option Value)} (h : isN o = true) : o = some none := by
  unfold isN at h
  split at h
  · rfl
  · cases h
theorem isB_eq {n : String} {o : Option (Option Value)} (h : isB n o = true) : o = some (some (.builtin n)) := by
  unfold isB at h
  split at h
  · rw [beq_iff_eq.mp h]
  · cases h
theorem isTy_eq {n : String} {o : Option Value} (h : isTy n o = true) : o = some (.type n) := by
  unfold isTy at h
  split at h
  · rw [beq_iff_eq.mp h]
  · cases h
def errChk1 (K : PySem.W.Frag) (TE : Addr) (C : Addr) : Bool :=
  isB "BaseException.__getattribute__" (PySem.W.findIn K (.ref C) "__getattribute__") && (isN (PySem.W.findIn K (.ref C) "__getattr__") && (PySem.W.subIn K (.ref C) (.type "BaseException") == some true && (PySem.W.hasDictIn K C &&
  (isB "object.__class__" (PySem.W.findIn K (.ref C) "__class__") && (PySem.W.kitOne K (.ref C) (.type "ValueError") == some true && (PySem.W.exmOne K (.ref C) (.ref TE) == some true && (PySem.W.keepIn K (.ref C) && (isTy "type" (PySem.W.typeIn K (.ref C)) && PySem.W.mroIn K C (.type "object") == some true))))))))
def errChk (K : PySem.W.Frag) (ec : Nat → Addr) (TE : Addr) : Bool :=
  isB "getset_descriptor.__get__" (PySem.W.specialIn K (.builtin "object.__class__") "__get__") && (PySem.W.takesIn K (.builtin "object.__class__") == some true) && ((List.range 16).all (fun c => errChk1 K TE (ec c)) && (List.range 16).all fun c => (List.range 16).all fun k => PySem.W.kitOne K (.ref (ec c)) (.ref (ec k)) == some (decide (c = k)))
theorem errs_of {K : PySem.W.Frag} {ec : Nat → Addr} {TE : Addr} (h : errChk K ec TE = true) : ErrsOk K ec TE ∧ ∀ c, c < 16 → PySem.W.keepIn K (.ref (ec c)) = true ∧ PySem.W.subIn K (.ref (ec c)) (.type "BaseException") = some true ∧ PySem.W.typeIn K (.ref (ec c)) = some (.type "type") := by
  unfold errChk at h
  rw [Bool.and_eq_true, Bool.and_eq_true, Bool.and_eq_true] at h
  obtain ⟨⟨h1, h0⟩, h2, h3⟩ := h
  have k2 : ∀ c, c < 16 → errChk1 K TE (ec c) = true := fun c hc => List.all_eq_true.mp h2 c (List.mem_range.mpr hc)
  have k3 : ∀ c k, c < 16 → k < 16 → PySem.W.kitOne K (.ref (ec c)) (.ref (ec k)) = some (decide (c = k)) := fun c k hc hk => beq_iff_eq.mp (List.all_eq_true.mp (List.all_eq_true.mp h3 c (List.mem_range.mpr hc)) k (List.mem_range.mpr hk))
  have k4 : ∀ c, c < 16 → ExcC K (ec c) ∧ PySem.W.kitOne K (.ref (ec c)) (.type "ValueError") = some true ∧ PySem.W.exmOne K (.ref (ec c)) (.ref TE) = some true ∧ PySem.W.keepIn K (.ref (ec c)) = true ∧ PySem.W.typeIn K (.ref (ec c)) = some (.type "type") := fun c hc => by
    have q := k2 c hc
    unfold errChk1 at q
    simp only [Bool.and_eq_true] at q
    obtain ⟨a1, a2, a3, a4, a5, a6, a7, a8, a9, a10⟩ := q
    exact ⟨⟨isB_eq a1, isN_eq a2, beq_iff_eq.mp a3, a4, isB_eq a5, isB_eq h1, beq_iff_eq.mp h0, beq_iff_eq.mp a10⟩, beq_iff_eq.mp a6, beq_iff_eq.mp a7, a8, isTy_eq a9⟩
  exact ⟨⟨fun c hc => (k4 c hc).1, k3, fun c hc => (k4 c hc).2.1, fun c hc => (k4 c hc).2.2.1⟩, fun c hc => ⟨(k4 c hc).2.2.2.1, (k4 c hc).1.hs, (k4 c hc).2.2.2.2⟩⟩
def bnames : List Str := ["len", "abs", "max", "min", "all", "sum", "tuple", "list", "str", "int", "bool", "isinstance", "range", "sorted", "set", "ValueError"]
def bltChk (K : PySem.W.Frag) : Bool := bnames.all fun x => isN (PySem.W.nsIn K mainGlobals x)
theorem blt_of {K : PySem.W.Frag} {h : Heap} {mg : Str → Option Value} (X : K.In h) (G : h.Ns mainGlobals mg) (c : bltChk K = true) : Blt mg ∧ mg "ValueError" = none := by
  have k : ∀ x ∈ bnames, mg x = none := fun x hx => PySem.W.mg_none_of X G (isN_eq (List.all_eq_true.mp c x hx))
  exact ⟨⟨k _ (by decide), k _ (by decide), k _ (by decide), k _ (by decide), k _ (by decide), k _ (by decide), k _ (by decide), k _ (by decide), k _ (by decide), k _ (by decide), k _ (by decide), k _ (by decide), k _ (by decide), k _ (by decide), k _ (by decide)⟩, k _ (by decide)⟩
theorem unit_of {K : PySem.W.Frag} {A : Ga} {o : Obj} {n : Nat} {t1 t2 t3 t4 : Nat} (l : K.lookup A.un = some o) (hc : o.cls = .type "tuple") (hd : o.data = .seq #[.int 1 t1, .int 0 t2, .int 0 t3, .int 1 t4] n) : GaOk K A :=
  ⟨fun H => .tup (.inr ⟨o, _, n, l, hc, hd, by show 4 ≤ sizeLine; decide, .cons (a := V.int 1) ⟨_, rfl⟩ (.cons (a := V.int 0) ⟨_, rfl⟩ (.cons (a := V.int 0) ⟨_, rfl⟩ (.cons (a := V.int 1) ⟨_, rfl⟩ .nil)))⟩) (.cons (.int 1) (.cons (.int 0) (.cons (.int 0) (.cons (.int 1) .nil))))⟩
theorem tabs0 {Pt : Addr} {q : Str} {H : Hp} (h : H Pt = some (.tbl #[])) : LamX.Tabs [(Pt, q)] H := fun p hp => by
  rw [List.mem_singleton.mp hp]
  exact ⟨#[], h, by constructor, fun pos cv z => nomatch z⟩
theorem tabsN {H : Hp} : LamX.Tabs [] H := fun p hp => nomatch hp
theorem cx_none {P : Program} {w : World} (H : Hp) (s : Shared) (e : Value) (s' : Shared) (z : L2N.CX P w [] H s (fun _ _ _ => False) e s') : False := by
  obtain ⟨_, _, _, _, _, _, _, _, _, _, _, _, z⟩ := z
  exact z.elim
theorem def0_of {K : PySem.W.Frag} {h : Heap} {mg : Str → Option Value} {x : Str} {st : Stmt} {f : Addr} {oc : Value} {od an : Option Addr} {osl : Array (Option Value)} {kV doc pm cdv ct : Value} (X : K.In h) (G : h.Ns mainGlobals mg) (a : PySem.W.nsIn K mainGlobals x = some (some (.ref f)))
    (l : K.lookup f = some ⟨oc, od, .func (PySem.W.fnOf x x (defArgs st) (defBody st) (defScope st) .none kV doc pm an cdv ct), osl⟩) (c : PySem.W.codeIn K cdv x = true) (k : PySem.W.keepIn K (.ref f) = true) : Def0 K mg x st := ⟨f, _, fun_mk l c k, PySem.W.mg_of X G a⟩
end Tz

/-! What the transformers say, one rule each, told so that the kernel is shown every step. -/
namespace Tz
open PySem PySem.Spec PyProof.Rows L2
section
variable {a b c : DE} {s : DA} {r : Rho} {Q : PyData → Prop} {E : Nat → Prop} {nx : Rho → Prop} {rt : PyData → Prop} {QB : Bool → Prop} {QL : List PyData → Prop} {k : Rho → Prop}
def onB (x : PyData) (Q : Bool → Prop) : Prop := match x with
  | .bool b => Q b
  | _ => False
theorem onB_b {v : Bool} : onB (.bool v) QB = QB v := propext Iff.rfl
def onI (x : PyData) (Q : Int → Prop) : Prop := match x with
  | .int b => Q b
  | _ => False
theorem onI_i {v : Int} {Q : Int → Prop} : onI (.int v) Q = Q v := propext Iff.rfl
def onStr (x : PyData) (Q : Str → Prop) : Prop := match x with
  | .str b => Q b
  | _ => False
theorem onStr_s {v : Str} {Q : Str → Prop} : onStr (.str v) Q = Q v := propext Iff.rfl
def onSeq (x : PyData) (Q : List PyData → Prop) : Prop := match x with
  | .list xs => Q xs
  | .tuple xs => Q xs
  | .str x => Q (x.cps.toList.map fun c => .str ⟨#[c]⟩)
  | _ => False
theorem onSeq_l {v : List PyData} : onSeq (.list v) QL = QL v := propext Iff.rfl
theorem onSeq_t {v : List PyData} : onSeq (.tuple v) QL = QL v := propext Iff.rfl
theorem onSeq_s {v : Str} : onSeq (.str v) QL = QL (v.cps.toList.map fun c => .str ⟨#[c]⟩) := propext Iff.rfl
theorem onS_s {α : Type} {x : α} {Q : α → Prop} : onS (some x) Q = Q x := propext Iff.rfl
theorem dFn_e {n : Nat} {f : DS} {ds : List PyData} : dFn n f ds Q E = f (startR n ds) (fun _ => Q .none) Q E := propext Iff.rfl
theorem dVar_e {i : Nat} : dVar i r Q E = onS (look r i) Q := propext Iff.rfl
theorem dC_e {d : PyData} : dC d r Q E = Q d := propext Iff.rfl
theorem dOp_e {o : O2} : dOp o a b r Q E = a r (fun x => b r (fun y => o x y Q) E) E := propext Iff.rfl
theorem dUn_e {o : O1} : dUn o a r Q E = a r (fun x => o x Q) E := propext Iff.rfl
theorem dNil_e : dNil r QL E = QL [] := propext Iff.rfl
theorem dCons_e : dCons a s r QL E = a r (fun x => s r (fun xs => QL (x :: xs)) E) E := propext Iff.rfl
theorem dTup_e : dTup s r Q E = s r (fun xs => plains xs = true ∧ xs.length ≤ 100000 ∧ Q (.tuple xs)) E := propext Iff.rfl
theorem dLst_e : dLst s r Q E = s r (fun xs => plains xs = true ∧ xs.length ≤ 100000 ∧ Q (.list xs)) E := propext Iff.rfl
theorem dTest_e : dTest a r QB E = a r (fun x => onB x QB) E := propext Iff.rfl
theorem dTru_i {i : Nat} {v : Int} (h : look r i = some (.int v)) : dTru (dVar i) r QB E = QB (v != 0) := by
  show onS (look r i) _ = _
  rw [h]
  exact propext Iff.rfl
theorem dAnd_e {a b : DT} : dAnd a b r QB E = a r (fun c => if c = true then b r QB E else QB false) E := propext Iff.rfl
theorem dOr_e {a b : DT} : dOr a b r QB E = a r (fun c => if c = true then QB true else b r QB E) E := propext Iff.rfl
theorem dNot_e {a : DT} : dNot a r QB E = a r (fun c => QB (!c)) E := propext Iff.rfl
theorem dAndV_e : dAndV a b r Q E = a r (fun x => onB x fun c => if c = true then b r Q E else Q (.bool false)) E := propext Iff.rfl
theorem dOrV_e : dOrV a b r Q E = a r (fun x => onB x fun c => if c = true then Q (.bool true) else b r Q E) E := propext Iff.rfl
theorem dNotV_e : dNotV a r Q E = a r (fun x => onB x fun c => Q (.bool (!c))) E := propext Iff.rfl
theorem dIf_e {t : DT} : dIf t a b r Q E = t r (fun c => if c = true then a r Q E else b r Q E) E := propext Iff.rfl
theorem dChain_e {o o' : O2} : dChain o o' a b c r Q E = a r (fun x => b r (fun y => o x y (fun z => onB z fun k => if k = true then c r (fun w => o' y w Q) E else Q (.bool false))) E) E := propext Iff.rfl
theorem dCall_e {n : Nat} {f : DF} : dCall n f s r Q E = s r (fun ds => ds.length = n ∧ f ds Q E) E := propext Iff.rfl
theorem dCB_e {o : List PyData → (PyData → Prop) → Prop} : dCB o s r Q E = s r (fun ds => o ds Q) E := propext Iff.rfl
theorem dNext_e : dNext r nx rt E = nx r := propext Iff.rfl
theorem dSeq_e {a b : DS} : dSeq a b r nx rt E = a r (fun r' => b r' nx rt E) rt E := propext Iff.rfl
theorem dRet_e : dRet a r nx rt E = a r rt E := propext Iff.rfl
theorem dDrop_e : dDrop a r nx rt E = a r (fun _ => nx r) E := propext Iff.rfl
theorem dAsg_e {g : DG} : dAsg a g r nx rt E = a r (fun x => g x r nx) E := propext Iff.rfl
theorem dIfS_e {t : DT} {a b : DS} : dIfS t a b r nx rt E = t r (fun c => if c = true then a r nx rt E else b r nx rt E) E := propext Iff.rfl
theorem dRaise_e {c : Nat} : dRaise c r nx rt E = E c := propext Iff.rfl
theorem dgName_e {i : Nat} {x : PyData} : dgName i x r k = k (put r i x) := propext Iff.rfl
theorem dgNil_e : dgNil [] r k = k r := propext ⟨fun z => z.2, fun z => ⟨rfl, z⟩⟩
theorem dgCons_e {g : DG} {gs : DGs} {x : PyData} {xs : List PyData} : dgCons g gs (x :: xs) r k = g x r (fun r' => gs xs r' k) := propext Iff.rfl
theorem dgTup_e {n : Nat} {gs : DGs} {xs : List PyData} : dgTup n gs (.tuple xs) r k = (xs.length = n ∧ gs xs r k) := propext Iff.rfl
theorem dPar_e {i j : Nat} {a b : DE} : dPar i j (dCons a (dCons b dNil)) r nx rt E = a r (fun x => b r (fun y => nx (put (put r i x) j y)) E) E := propext Iff.rfl
theorem dPar3_e {i j l : Nat} {a b c : DE} : dPar3 i j l (dCons a (dCons b (dCons c dNil))) r nx rt E = a r (fun x => b r (fun y => c r (fun z => nx (put (put (put r i x) j y) l z)) E) E) E := propext Iff.rfl
theorem dFor_e {i : DI} {g : DG} {b : DS} : dFor i g b r nx rt E = i r (fun xs => forL g b nx rt E xs r) E := propext Iff.rfl
theorem forL_n {g : DG} {b : DS} : forL g b nx rt E [] r = nx r := propext Iff.rfl
theorem forL_c {g : DG} {b : DS} {x : PyData} {xs : List PyData} : forL g b nx rt E (x :: xs) r = g x r (fun r' => b r' (fun r'' => forL g b nx rt E xs r'') rt E) := propext Iff.rfl
theorem dLc_e {i : DI} {g : DG} {t : DT} {vs : List Nat} : dLc i g t a vs r Q E = i r (fun xs => xs.length ≤ 100000 ∧ lcL g t a (drps r vs) (fun ys => Q (.list ys)) xs []) E := propext Iff.rfl
theorem lcL_n {g : DG} {t : DT} {acc : List PyData} : lcL g t a r QL [] acc = QL acc := propext Iff.rfl
theorem lcL_c {g : DG} {t : DT} {x : PyData} {xs acc : List PyData} : lcL g t a r QL (x :: xs) acc = g x r (fun r' => t r' (fun b => if b = true then a r' (fun y => plain y = true ∧ lcL g t a r QL xs (acc ++ [y])) (fun _ => False) else lcL g t a r QL xs acc) (fun _ => False)) := propext Iff.rfl
theorem dYes_e : dYes r QB E = QB true := propext Iff.rfl
theorem dOver_e : dOver a r QL E = a r (fun x => onSeq x QL) E := propext Iff.rfl
theorem dRng1_e : dRng1 a r QL E = a r (fun x => onI x fun j => -(2 ^ 62) ≤ j ∧ j < 2 ^ 62 ∧ QL (rangeD 0 j.toNat)) E := propext Iff.rfl
theorem dRng2_e : dRng2 a b r QL E = a r (fun x => b r (fun y => match x, y with
  | .int i, .int j => (-(2 ^ 62) ≤ i ∧ i < 2 ^ 62 ∧ -(2 ^ 62) ≤ j ∧ j < 2 ^ 62) ∧ QL (rangeD i (j - i).toNat)
  | _, _ => False) E) E := propext Iff.rfl
theorem dPart_e {QO : Option Int → Prop} : dPart a r QO E = a r (fun x => onI x fun i => QO (some i)) E := propext Iff.rfl
theorem dNoPart_e {QO : Option Int → Prop} : dNoPart r QO E = QO none := propext Iff.rfl
theorem dMs_e {o : O2} : dMs o a b r Q E = a r (fun x => onStr x fun z => b r (fun y => o (.str z) y Q) E) E := propext Iff.rfl
theorem dIsi_e {T : String} : dIsi T a r Q E = a r (fun x => plain x = true ∧ onS (isiB x T) fun b => Q (.bool b)) E := propext Iff.rfl
theorem dTold_e : dTold a r Q E = a r Q (fun c => c < 16 ∧ Q (errD c)) := propext Iff.rfl
/-- a call within told -/
def toldQ (f : DF) (ds : List PyData) (Q : PyData → Prop) : Prop := f ds Q (fun c => c < 16 ∧ Q (errD c))
theorem dToldC_e {n : Nat} {f : DF} : dTold (dCall n f s) r Q E = s r (fun ds => ds.length = n ∧ toldQ f ds Q) (fun c => c < 16 ∧ Q (errD c)) := propext Iff.rfl
theorem told_bad {f : DF} {ds : List PyData} {Q : PyData → Prop} {c : Nat} (hc : c < 16) (hf : ∀ (Q : PyData → Prop) (E : Nat → Prop), E c → f ds Q E) (h : Q (errD c)) : toldQ f ds Q := hf _ _ ⟨hc, h⟩
theorem oAdd_ii {i j : Int} : oAdd (.int i) (.int j) Q = Q (.int (i + j)) := propext Iff.rfl
theorem oAdd_ss {i j : Str} : oAdd (.str i) (.str j) Q = (i.length + j.length ≤ 1000000 ∧ Q (.str (i ++ j))) := propext Iff.rfl
theorem oAdd_ll {i j : List PyData} : oAdd (.list i) (.list j) Q = (i.length + j.length ≤ 1000000 ∧ Q (.list (i ++ j))) := propext Iff.rfl
theorem oSub_ii {i j : Int} : oSub (.int i) (.int j) Q = Q (.int (i - j)) := propext Iff.rfl
theorem oMul_ii {i j : Int} : oMul (.int i) (.int j) Q = (mulOk i j ∧ Q (.int (i * j))) := propext Iff.rfl
theorem oMul_si {z : Str} {n : Int} : oMul (.str z) (.int n) Q = (-(2 ^ 63) ≤ n ∧ n < 2 ^ 63 ∧ z.length * n.toNat ≤ 1000000 ∧ Q (.str (repStr z n))) := propext Iff.rfl
theorem oDiv_ii {i j : Int} : oDiv (.int i) (.int j) Q = (divOk i j ∧ Q (.int (i.fdiv j))) := propext Iff.rfl
theorem oMod_ii {i j : Int} : oMod (.int i) (.int j) Q = (j ≠ 0 ∧ Q (.int (i.fmod j))) := propext Iff.rfl
theorem oPow_ii {i j : Int} : oPow (.int i) (.int j) Q = (CPow i j ∧ Q (.int (i ^ j.toNat))) := propext Iff.rfl
theorem oNeg_i {i : Int} : oNeg (.int i) Q = Q (.int (-i)) := propext Iff.rfl
theorem oEq_ii {i j : Int} : oEq (.int i) (.int j) Q = Q (.bool (decide (i = j))) := propext Iff.rfl
theorem oNe_ii {i j : Int} : oNe (.int i) (.int j) Q = Q (.bool (!decide (i = j))) := propext Iff.rfl
theorem oLt_ii {i j : Int} : oLt (.int i) (.int j) Q = Q (.bool (decide (i < j))) := propext Iff.rfl
theorem oLe_ii {i j : Int} : oLe (.int i) (.int j) Q = Q (.bool (decide (i ≤ j))) := propext Iff.rfl
theorem oGt_ii {i j : Int} : oGt (.int i) (.int j) Q = Q (.bool (decide (j < i))) := propext Iff.rfl
theorem oGe_ii {i j : Int} : oGe (.int i) (.int j) Q = Q (.bool (decide (j ≤ i))) := propext Iff.rfl
theorem oIs_e {x : PyData} : oIs x .none Q = (plain x = true ∧ Q (.bool (isNone x))) := propext Iff.rfl
theorem oIsN_e {x : PyData} : oIsN x .none Q = (plain x = true ∧ Q (.bool (!isNone x))) := propext Iff.rfl
theorem oIx_l {ds : List PyData} {i : Int} : oIx (.list ds) (.int i) Q = onS (atI ds i) Q := propext Iff.rfl
theorem oIx_t {ds : List PyData} {i : Int} : oIx (.tuple ds) (.int i) Q = onS (atI ds i) Q := propext Iff.rfl
theorem oIx_s {z : Str} {i : Int} : oIx (.str z) (.int i) Q = (z.length ≤ 1000000 ∧ onS (atI z.cps.toList i) fun c => Q (.str ⟨#[c]⟩)) := propext Iff.rfl
theorem oLen_t {ds : List PyData} : oLen [.tuple ds] Q = Q (.int ds.length) := propext Iff.rfl
theorem oLen_l {ds : List PyData} : oLen [.list ds] Q = Q (.int ds.length) := propext Iff.rfl
theorem oAbs_i {i : Int} : oAbs [.int i] Q = Q (.int (if i < 0 then -i else i)) := propext Iff.rfl
theorem oMax_l {xs : List PyData} : oMaxU [.list xs] Q = onS (asInts xs) (fun ns => ns ≠ [] ∧ ∀ m, m ∈ ns → (∀ y, y ∈ ns → y ≤ m) → Q (.int m)) := propext Iff.rfl
theorem oMin_l {xs : List PyData} : oMinU [.list xs] Q = onS (asStrs xs) (fun ss => ss ≠ [] ∧ ∀ m, m ∈ ss → (∀ y ∈ ss, ¬ y.cps.toList < m.cps.toList) → Q (.str m)) := propext Iff.rfl
theorem oMin_t {xs : List PyData} : oMinU [.tuple xs] Q = onS (asInts xs) (fun ns => ns ≠ [] ∧ ∀ m, m ∈ ns → (∀ y, y ∈ ns → m ≤ y) → Q (.int m)) := propext Iff.rfl
theorem oMax_t {xs : List PyData} : oMaxU [.tuple xs] Q = onS (asInts xs) (fun ns => ns ≠ [] ∧ ∀ m, m ∈ ns → (∀ y, y ∈ ns → y ≤ m) → Q (.int m)) := propext Iff.rfl
theorem oMax2_ii {i j : Int} : oMax2 [.int i, .int j] Q = Q (.int (if j > i then j else i)) := propext Iff.rfl
theorem oMin2_ii {i j : Int} : oMin2 [.int i, .int j] Q = Q (.int (if j < i then j else i)) := propext Iff.rfl
theorem oAll_l {xs : List PyData} : oAll [.list xs] Q = onS (asBools xs) (fun bs => Q (.bool (bs.all id))) := propext Iff.rfl
theorem oSum_l {xs : List PyData} : oSum [.list xs] Q = onS (asInts xs) (fun ns => Q (.int ns.sum)) := propext Iff.rfl
theorem oTuple_l {xs : List PyData} : oTuple [.list xs] Q = Q (.tuple xs) := propext Iff.rfl
theorem oJoin_l {z : Str} {ds : List PyData} : oJoin (.str z) (.list ds) Q = onS (asStrs ds) (fun ys => (ys.map (·.length)).sum + ys.length * z.length ≤ 1000000 ∧ Q (.str (Txt.join z ys))) := propext Iff.rfl
theorem oSindex_ss {x y : Str} : oSindex (.str x) (.str y) Q = onS ((Builtin.Str.occurrences x y 0 x.length 1).head?) (fun (i : Nat) => Q (.int (i : Int))) := propext Iff.rfl
theorem roll_e {n : Int} : f_law_roll [dice, .int n] Q E = (0 < n ∧ n < 2 ^ 62 ∧ ∀ i : Int, 0 ≤ i → i < n → Q (.int i)) := propext Iff.rfl
theorem if_t {p q : Prop} : (if true = true then p else q) = p := if_pos rfl
theorem if_T {p q : Prop} [d : Decidable True] : (if True then p else q) = p := if_pos trivial
theorem if_F {p q : Prop} [d : Decidable False] : (if False then p else q) = q := if_neg id
theorem if_f {p q : Prop} : (if false = true then p else q) = q := if_neg nofun
theorem oLen_s {z : Str} : oLen [.str z] Q = (z.length ≤ 1000000 ∧ Q (.int z.length)) := propext Iff.rfl
theorem oList_t {xs : List PyData} : oList [.tuple xs] Q = Q (.list xs) := propext Iff.rfl
theorem oList_l {xs : List PyData} : oList [.list xs] Q = Q (.list xs) := propext Iff.rfl
def onSl (x : PyData) (lo hi : Option Int) (Q : PyData → Prop) : Prop := match x with
  | .list ds => Q (.list (cutD ds lo hi))
  | .tuple ds => ¬ (HT.sIx ds.length 0 lo = 0 ∧ HT.sIx ds.length ds.length hi = ds.length) ∧ Q (.tuple (cutD ds lo hi))
  | .str z => z.length ≤ 1000000 ∧ Q (.str (cutS z lo hi))
  | _ => False
theorem dSl_e {l h : DO} : dSl a l h r Q E = a r (fun x => l r (fun lo => h r (fun hi => onSl x lo hi Q) E) E) E := propext Iff.rfl
theorem onSl_l {ds : List PyData} {lo hi : Option Int} : onSl (.list ds) lo hi Q = Q (.list (cutD ds lo hi)) := propext Iff.rfl
theorem onSl_s {z : Str} {lo hi : Option Int} : onSl (.str z) lo hi Q = (z.length ≤ 1000000 ∧ Q (.str (cutS z lo hi))) := propext Iff.rfl
end
/-- four whole numbers -/
structure M where
  a : Int
  b : Int
  c : Int
  d : Int
  deriving DecidableEq
namespace M
abbrev p (m : M) : PyData := .tuple [.int m.a, .int m.b, .int m.c, .int m.d]
def mul (m n : M) : M := ⟨m.a * n.a + m.b * n.c, m.a * n.b + m.b * n.d, m.c * n.a + m.d * n.c, m.c * n.b + m.d * n.d⟩
def inv (m : M) : M := ⟨m.d, -m.b, -m.c, m.a⟩
def neg (m : M) : M := ⟨-m.a, -m.b, -m.c, -m.d⟩
def det (m : M) : Int := m.a * m.d - m.b * m.c
def one : M := ⟨1, 0, 0, 1⟩
/-- all of them at most n, signs apart -/
def le (m : M) (n : Nat) : Prop := m.a.natAbs ≤ n ∧ m.b.natAbs ≤ n ∧ m.c.natAbs ≤ n ∧ m.d.natAbs ≤ n
theorem le.mono {m : M} {k n : Nat} (h : m.le k) (e : k ≤ n) : m.le n := ⟨Nat.le_trans h.1 e, Nat.le_trans h.2.1 e, Nat.le_trans h.2.2.1 e, Nat.le_trans h.2.2.2 e⟩
theorem det_mul (m n : M) : (m.mul n).det = m.det * n.det := by
  simp only [mul, det, Int.mul_sub, Int.sub_mul, Int.mul_add, Int.add_mul]
  have e1 : m.a * n.a * (m.c * n.b) = m.a * n.b * (m.c * n.a) := by ac_rfl
  have e2 : m.b * n.c * (m.d * n.d) = m.b * n.d * (m.d * n.c) := by ac_rfl
  have e3 : m.a * n.a * (m.d * n.d) = m.a * m.d * (n.a * n.d) := by ac_rfl
  have e4 : m.b * n.c * (m.c * n.b) = m.b * m.c * (n.b * n.c) := by ac_rfl
  have e5 : m.a * n.b * (m.d * n.c) = m.a * m.d * (n.b * n.c) := by ac_rfl
  have e6 : m.b * n.d * (m.c * n.a) = m.b * m.c * (n.a * n.d) := by ac_rfl
  omega
theorem det_inv (m : M) : m.inv.det = m.det := by
  simp only [inv, det, Int.neg_mul_neg]
  rw [Int.mul_comm m.d m.a]
theorem det_neg (m : M) : m.neg.det = m.det := by
  simp only [neg, det, Int.neg_mul_neg]
theorem ext {m n : M} (h1 : m.a = n.a) (h2 : m.b = n.b) (h3 : m.c = n.c) (h4 : m.d = n.d) : m = n := by
  cases m; cases n; simp only at h1 h2 h3 h4; rw [h1, h2, h3, h4]
theorem mul_assoc (m n k : M) : (m.mul n).mul k = m.mul (n.mul k) := by
  apply ext <;> simp only [mul, Int.mul_add, Int.add_mul, Int.mul_assoc] <;> omega
theorem mul_inv (m : M) (h : m.det = 1) : m.mul m.inv = one := by
  simp only [det] at h
  have e1 : m.a * -m.b = -(m.a * m.b) := Int.mul_neg _ _
  have e2 : m.b * -m.c = -(m.b * m.c) := Int.mul_neg _ _
  have e3 : m.c * -m.b = -(m.c * m.b) := Int.mul_neg _ _
  have e4 : m.d * -m.c = -(m.d * m.c) := Int.mul_neg _ _
  have e5 := Int.mul_comm m.a m.b
  have e6 := Int.mul_comm m.c m.d
  have e7 := Int.mul_comm m.c m.b
  have e8 := Int.mul_comm m.d m.a
  apply ext <;> simp only [mul, inv, one] <;> omega
theorem inv_mul (m : M) (h : m.det = 1) : m.inv.mul m = one := by
  have z := mul_inv m.inv (by rw [det_inv]; exact h)
  have e : m.inv.inv = m := by apply ext <;> simp only [inv, Int.neg_neg]
  rw [e] at z
  exact z
theorem inv_mul_rev (m n : M) : (m.mul n).inv = n.inv.mul m.inv := by
  apply ext <;> simp only [mul, inv, Int.neg_mul_neg, Int.mul_neg, Int.neg_mul]
  · rw [Int.mul_comm m.c, Int.mul_comm m.d]; omega
  · rw [Int.mul_comm m.a, Int.mul_comm m.b]; omega
  · rw [Int.mul_comm m.c, Int.mul_comm m.d]; omega
  · rw [Int.mul_comm m.a, Int.mul_comm m.b]; omega
theorem one_mul (m : M) : one.mul m = m := by
  apply ext <;> simp only [mul, one] <;> omega
theorem mul_one (m : M) : m.mul one = m := by
  apply ext <;> simp only [mul, one] <;> omega
theorem natAbs_mul_le {x y : Int} {k n : Nat} (h1 : x.natAbs ≤ k) (h2 : y.natAbs ≤ n) : (x * y).natAbs ≤ k * n := by
  rw [Int.natAbs_mul]
  exact Nat.mul_le_mul h1 h2
theorem le.mul {m n : M} {j k : Nat} (h : m.le j) (e : n.le k) : (m.mul n).le (2 * (j * k)) := by
  have add : ∀ {x y z w : Int}, x.natAbs ≤ j → y.natAbs ≤ k → z.natAbs ≤ j → w.natAbs ≤ k → (x * y + z * w).natAbs ≤ 2 * (j * k) := fun h1 h2 h3 h4 => by
    have a1 := natAbs_mul_le h1 h2
    have a2 := natAbs_mul_le h3 h4
    have := Int.natAbs_add_le (a := ‹Int› * ‹Int›) (b := 0)
    refine Nat.le_trans (Int.natAbs_add_le _ _) ?_
    omega
  exact ⟨add h.1 e.1 h.2.1 e.2.2.1, add h.1 e.2.1 h.2.1 e.2.2.2, add h.2.2.1 e.1 h.2.2.2 e.2.2.1, add h.2.2.1 e.2.1 h.2.2.2 e.2.2.2⟩
theorem le.inv {m : M} {k : Nat} (h : m.le k) : m.inv.le k := ⟨h.2.2.2, by show (-m.b).natAbs ≤ k; rw [Int.natAbs_neg]; exact h.2.1, by show (-m.c).natAbs ≤ k; rw [Int.natAbs_neg]; exact h.2.2.1, h.1⟩
theorem le.neg {m : M} {k : Nat} (h : m.le k) : m.neg.le k := ⟨by show (-m.a).natAbs ≤ k; rw [Int.natAbs_neg]; exact h.1, by show (-m.b).natAbs ≤ k; rw [Int.natAbs_neg]; exact h.2.1, by show (-m.c).natAbs ≤ k; rw [Int.natAbs_neg]; exact h.2.2.1, by show (-m.d).natAbs ≤ k; rw [Int.natAbs_neg]; exact h.2.2.2⟩
instance (m : M) (n : Nat) : Decidable (m.le n) := by
  unfold le
  infer_instance
end M
theorem mok {x y : Int} (h : x.natAbs ≤ 9223372036854775808) : mulOk x y := mulOk_l (by omega)
theorem mokr {x y : Int} (h : y.natAbs ≤ 9223372036854775808) : mulOk x y := mulOk_r (by omega)
theorem mokb {x y : Int} (h : x.natAbs ≤ 2 ^ 9000) (k : y.natAbs ≤ 2 ^ 9000) : mulOk x y :=
  mulOk_of (a := 9001) (b := 9001) (Nat.lt_of_le_of_lt h (Nat.pow_lt_pow_right (by decide) (by decide))) (Nat.lt_of_le_of_lt k (Nat.pow_lt_pow_right (by decide) (by decide))) (by decide)
theorem plains_n : (plains [] = true) = True := eq_true rfl
theorem plains_c {x : PyData} {xs : List PyData} : (plains (x :: xs) = true) = (plain x = true ∧ plains xs = true) := by
  show ((plain x && plains xs) = true) = _
  rw [Bool.and_eq_true]
theorem plain_t {x : List PyData} : (plain (.tuple x) = true) = True := eq_true rfl
theorem plain_l {x : List PyData} : (plain (.list x) = true) = True := eq_true rfl
theorem plain_i {x : Int} : (plain (.int x) = true) = True := eq_true rfl
theorem plain_s {x : Str} : (plain (.str x) = true) = True := eq_true rfl
theorem plain_b {x : Bool} : (plain (.bool x) = true) = True := eq_true rfl
theorem plain_no : (plain .none = true) = True := eq_true rfl
theorem oEq_bb {i j : Bool} {Q : PyData → Prop} : oEq (.bool i) (.bool j) Q = Q (.bool (decide (i = j))) := propext Iff.rfl
theorem oNe_bb {i j : Bool} {Q : PyData → Prop} : oNe (.bool i) (.bool j) Q = Q (.bool (!decide (i = j))) := propext Iff.rfl
/-- equality of two tuples of four by data -/
theorem eqv4 (m n : M) : PyData.eqv m.p n.p = decide (m = n) := by
  have e : PyData.eqv m.p n.p = (decide (m.a = n.a) && (decide (m.b = n.b) && (decide (m.c = n.c) && (decide (m.d = n.d) && true)))) := rfl
  rw [e]
  by_cases h : m = n
  · subst h
    simp
  · rw [decide_eq_false h]
    by_cases h1 : m.a = n.a <;> by_cases h2 : m.b = n.b <;> by_cases h3 : m.c = n.c <;> by_cases h4 : m.d = n.d <;> simp only [h1, h2, h3, h4, decide_true, decide_false, Bool.and_true, Bool.true_and, Bool.false_and, Bool.and_false, Bool.false_eq_true] <;> first | rfl | (exact (h (M.ext h1 h2 h3 h4)).elim)
theorem isi_tt (x : List PyData) : isiB (.tuple x) "tuple" = some true := show kitB "tuple" "tuple" = some true from by decide +kernel
theorem isi_lt (x : List PyData) : isiB (.list x) "tuple" = some false := show kitB "list" "tuple" = some false from by decide +kernel
theorem isi_nt : isiB .none "tuple" = some false := show kitB "NoneType" "tuple" = some false from by decide +kernel
theorem isi_it (x : Int) : isiB (.int x) "tuple" = some false := show kitB "int" "tuple" = some false from by decide +kernel
theorem isi_bt (x : Bool) : isiB (.bool x) "tuple" = some false := show kitB "bool" "tuple" = some false from by decide +kernel
theorem isi_st (x : Str) : isiB (.str x) "tuple" = some false := show kitB "str" "tuple" = some false from by decide +kernel
theorem isi_ii (x : Int) : isiB (.int x) "int" = some true := show kitB "int" "int" = some true from by decide +kernel
theorem isi_ib (x : Int) : isiB (.int x) "bool" = some false := show kitB "int" "bool" = some false from by decide +kernel
theorem isi_bi (x : Bool) : isiB (.bool x) "int" = some true := show kitB "bool" "int" = some true from by decide +kernel
theorem isi_bb (x : Bool) : isiB (.bool x) "bool" = some true := show kitB "bool" "bool" = some true from by decide +kernel
theorem isi_si (x : Str) : isiB (.str x) "int" = some false := show kitB "str" "int" = some false from by decide +kernel
theorem isi_ni : isiB .none "int" = some false := show kitB "NoneType" "int" = some false from by decide +kernel
theorem isi_ti (x : List PyData) : isiB (.tuple x) "int" = some false := show kitB "tuple" "int" = some false from by decide +kernel
theorem isi_li (x : List PyData) : isiB (.list x) "int" = some false := show kitB "list" "int" = some false from by decide +kernel
theorem isi_ss (x : Str) : isiB (.str x) "str" = some true := show kitB "str" "str" = some true from by decide +kernel
theorem isi_is (x : Int) : isiB (.int x) "str" = some false := show kitB "int" "str" = some false from by decide +kernel
theorem isi_bs (x : Bool) : isiB (.bool x) "str" = some false := show kitB "bool" "str" = some false from by decide +kernel
theorem isi_ns : isiB .none "str" = some false := show kitB "NoneType" "str" = some false from by decide +kernel
theorem isi_ts (x : List PyData) : isiB (.tuple x) "str" = some false := show kitB "tuple" "str" = some false from by decide +kernel
theorem isi_ls (x : List PyData) : isiB (.list x) "str" = some false := show kitB "list" "str" = some false from by decide +kernel
theorem pl4 {a b c d : Int} : (plains [.int a, .int b, .int c, .int d] = true) = True := eq_true rfl
theorem atI4_0 {α : Type} {a b c d : α} : atI [a, b, c, d] 0 = some a := rfl
theorem atI4_1 {α : Type} {a b c d : α} : atI [a, b, c, d] 1 = some b := rfl
theorem atI4_2 {α : Type} {a b c d : α} : atI [a, b, c, d] 2 = some c := rfl
theorem atI4_3 {α : Type} {a b c d : α} : atI [a, b, c, d] 3 = some d := rfl
theorem ten6 : ((10 : Int) ^ (6 : Int).toNat) = 1000000 := by decide
theorem ne_mm {m n : M} {Q : PyData → Prop} (h : Q (.bool (!decide (m = n)))) : oNe m.p n.p Q := ⟨rfl, rfl, by rw [eqv4]; exact h⟩
theorem eq_mm {m n : M} {Q : PyData → Prop} (h : Q (.bool (decide (m = n)))) : oEq m.p n.p Q := ⟨rfl, rfl, by rw [eqv4]; exact h⟩
end Tz

/-! Words of letters, by code points. -/
namespace Tz
open PySem PySem.Spec PyProof.Rows L2
abbrev W (w : List Nat) : PyData := .str ⟨w.toArray⟩
abbrev ch (c : Nat) : PyData := .str ⟨#[c]⟩
/-- a letter's four -/
def L (c : Nat) : M := if c = 115 then ⟨0, -1, 1, 0⟩ else if c = 116 then ⟨1, 1, 0, 1⟩ else if c = 84 then ⟨1, -1, 0, 1⟩ else if c = 119 then ⟨0, -1, 1, 1⟩ else if c = 118 then ⟨-1, -1, 1, 0⟩ else ⟨1, 0, 1, 1⟩
def six (c : Nat) : Prop := c = 115 ∨ c = 116 ∨ c = 84 ∨ c = 119 ∨ c = 118 ∨ c = 108
def three (c : Nat) : Prop := c = 115 ∨ c = 116 ∨ c = 84
theorem three.six {c : Nat} (h : three c) : six c := by rcases h with h | h | h <;> simp [Tz.six, h]
theorem L_det (c : Nat) : (L c).det = 1 := by
  unfold L
  split
  · decide
  · split
    · decide
    · split
      · decide
      · split
        · decide
        · split <;> decide
theorem L_le (c : Nat) : (L c).le 1 := by
  unfold L
  split
  · decide
  · split
    · decide
    · split
      · decide
      · split
        · decide
        · split <;> decide
def wm (m : M) : List Nat → M
  | [] => m
  | c :: w => wm (m.mul (L c)) w
theorem wm_mul (m n : M) : ∀ w, wm (m.mul n) w = m.mul (wm n w)
  | [] => rfl
  | c :: w => by
    show wm ((m.mul n).mul (L c)) w = m.mul (wm (n.mul (L c)) w)
    rw [M.mul_assoc, wm_mul m (n.mul (L c)) w]
theorem wm_one (m : M) (w : List Nat) : wm m w = m.mul (wm .one w) := by
  have := wm_mul m .one w
  rw [M.mul_one] at this
  exact this
theorem wm_append (m : M) : ∀ u w, wm m (u ++ w) = wm (wm m u) w
  | [], _ => rfl
  | c :: u, w => wm_append (m.mul (L c)) u w
theorem wm_det {m : M} (h : m.det = 1) : ∀ w, (wm m w).det = 1
  | [] => h
  | c :: w => wm_det (m := m.mul (L c)) (by rw [M.det_mul, h, L_det]; rfl) w
theorem wm_le {m : M} {k : Nat} (h : m.le k) : ∀ w : List Nat, (wm m w).le (k * 2 ^ w.length)
  | [] => h.mono (by simp)
  | c :: w => (wm_le (m := m.mul (L c)) (h.mul (L_le c)) w).mono (by rw [List.length_cons, Nat.pow_succ]; simp only [Nat.mul_one]; rw [Nat.mul_comm 2 k, Nat.mul_assoc, Nat.mul_comm 2]; exact Nat.le_refl _)
theorem wm_le1 : ∀ w : List Nat, (wm .one w).le (2 ^ (w.length - 1))
  | [] => by decide
  | c :: w => by
    show (wm (M.one.mul (L c)) w).le (2 ^ w.length)
    rw [M.one_mul]
    have := wm_le (L_le c) w
    rw [Nat.one_mul] at this
    exact this
/-! ### words of t and l: entries grow as in Fibonacci's row -/
def two (c : Nat) : Prop := c = 116 ∨ c = 108
theorem two.six {c : Nat} (h : two c) : six c := by rcases h with h | h <;> simp [Tz.six, h]
def Row (a b : Int) (x y : Nat) : Prop := 0 ≤ a ∧ 0 ≤ b ∧ a ≤ x ∧ b ≤ x ∧ a + b ≤ y
def fbx : Nat → Nat → Nat → Nat
  | 0, x, _ => x
  | n + 1, x, y => fbx n y (x + y)
theorem wm_row : ∀ (w : List Nat) (m : M) (x y : Nat), (∀ c ∈ w, two c) → Row m.a m.b x y → Row m.c m.d x y → x ≤ y → (wm m w).le (fbx w.length x y)
  | [], m, x, y, _, h1, h2, _ => by
    obtain ⟨a1, a2, a3, a4, a5⟩ := h1
    obtain ⟨b1, b2, b3, b4, b5⟩ := h2
    exact ⟨by show m.a.natAbs ≤ x; omega, by show m.b.natAbs ≤ x; omega, by show m.c.natAbs ≤ x; omega, by show m.d.natAbs ≤ x; omega⟩
  | c :: w, m, x, y, hw, h1, h2, hxy => by
    obtain ⟨a1, a2, a3, a4, a5⟩ := h1
    obtain ⟨b1, b2, b3, b4, b5⟩ := h2
    show (wm (m.mul (L c)) w).le (fbx w.length y (x + y))
    rcases hw c List.mem_cons_self with rfl | rfl
    · refine wm_row w _ y (x + y) (fun d hd => hw d (List.mem_cons_of_mem _ hd)) ?_ ?_ (by omega)
      · show Row (m.a * 1 + m.b * 0) (m.a * 1 + m.b * 1) y (x + y)
        exact ⟨by omega, by omega, by omega, by omega, by omega⟩
      · show Row (m.c * 1 + m.d * 0) (m.c * 1 + m.d * 1) y (x + y)
        exact ⟨by omega, by omega, by omega, by omega, by omega⟩
    · refine wm_row w _ y (x + y) (fun d hd => hw d (List.mem_cons_of_mem _ hd)) ?_ ?_ (by omega)
      · show Row (m.a * 1 + m.b * 1) (m.a * 0 + m.b * 1) y (x + y)
        exact ⟨by omega, by omega, by omega, by omega, by omega⟩
      · show Row (m.c * 1 + m.d * 1) (m.c * 0 + m.d * 1) y (x + y)
        exact ⟨by omega, by omega, by omega, by omega, by omega⟩
theorem fb8 : ∀ n, n ≤ 8 → fbx n 1 1 ≤ 34 := by decide
theorem wm_le34 {w : List Nat} (hw : ∀ c ∈ w, two c) (hl : w.length ≤ 8) : (wm .one w).le 34 := (wm_row w .one 1 1 hw (by refine ⟨?_, ?_, ?_, ?_, ?_⟩ <;> decide) (by refine ⟨?_, ?_, ?_, ?_, ?_⟩ <;> decide) (Nat.le_refl _)).mono (fb8 _ hl)
/-! ### powers -/
def powM (m : M) : Nat → M
  | 0 => .one
  | n + 1 => (powM m n).mul m
def zpow (m : M) (k : Int) : M := if 0 ≤ k then powM m k.natAbs else powM m.inv k.natAbs
theorem powM_le {m : M} {k : Nat} (h : m.le k) : ∀ n, (powM m n).le ((2 * k) ^ n)
  | 0 => show M.one.le 1 by decide
  | n + 1 => ((powM_le h n).mul h).mono (by
    rw [Nat.pow_succ]
    have : 2 * ((2 * k) ^ n * k) = (2 * k) ^ n * (2 * k) := by ac_rfl
    omega)
theorem powM_det {m : M} (h : m.det = 1) : ∀ n, (powM m n).det = 1
  | 0 => rfl
  | n + 1 => by
    show ((powM m n).mul m).det = 1
    rw [M.det_mul, powM_det h n, h]
    rfl
theorem zpow_det {m : M} (h : m.det = 1) (k : Int) : (zpow m k).det = 1 := by
  unfold zpow
  split
  · exact powM_det h _
  · exact powM_det (by rw [M.det_inv]; exact h) _
theorem zpow_le {m : M} {j : Nat} (h : m.le j) (k : Int) : (zpow m k).le ((2 * j) ^ k.natAbs) := by
  unfold zpow
  split
  · exact powM_le h _
  · exact powM_le h.inv _
theorem powM_comm (m : M) : ∀ n, (powM m n).mul m = m.mul (powM m n)
  | 0 => by show M.one.mul m = m.mul .one; rw [M.one_mul, M.mul_one]
  | n + 1 => by
    show ((powM m n).mul m).mul m = m.mul ((powM m n).mul m)
    rw [powM_comm m n, M.mul_assoc, powM_comm m n]
theorem inv_inv (m : M) : m.inv.inv = m := by apply M.ext <;> simp only [M.inv, Int.neg_neg]
theorem zpow_succ {m : M} (h : m.det = 1) (k : Int) : zpow m (k + 1) = (zpow m k).mul m := by
  unfold zpow
  by_cases h0 : 0 ≤ k
  · rw [if_pos h0, if_pos (by omega), show (k + 1).natAbs = k.natAbs + 1 by omega]
    rfl
  · rw [if_neg h0]
    obtain ⟨n, e⟩ : ∃ n, k.natAbs = n + 1 := ⟨k.natAbs - 1, by omega⟩
    rw [e]
    show _ = ((powM m.inv n).mul m.inv).mul m
    rw [M.mul_assoc, M.inv_mul m h, M.mul_one]
    by_cases h1 : k = -1
    · rw [if_pos (by omega), show (k + 1).natAbs = 0 by omega, show n = 0 by omega]
      rfl
    · rw [if_neg (by omega), show (k + 1).natAbs = n by omega]
theorem zpow_pred {m : M} (h : m.det = 1) (k : Int) : zpow m (k - 1) = (zpow m k).mul m.inv := by
  have := zpow_succ h (k - 1)
  rw [show k - 1 + 1 = k by omega] at this
  rw [this, M.mul_assoc, M.mul_inv m h, M.mul_one]
theorem zpow_add {m : M} (h : m.det = 1) (j : Int) : ∀ k : Int, zpow m (j + k) = (zpow m j).mul (zpow m k) := by
  have pos : ∀ n : Nat, zpow m (j + n) = (zpow m j).mul (zpow m n) := fun n => by
    induction n with
    | zero => show zpow m (j + 0) = _; rw [Int.add_zero]; exact (M.mul_one _).symm
    | succ n ih => rw [show j + ((n + 1 : Nat) : Int) = j + n + 1 by omega, zpow_succ h, ih, M.mul_assoc, ← zpow_succ h]; rfl
  have neg : ∀ n : Nat, zpow m (j - n) = (zpow m j).mul (zpow m (-(n : Int))) := fun n => by
    induction n with
    | zero => show zpow m (j - 0) = _; rw [Int.sub_zero]; exact (M.mul_one _).symm
    | succ n ih => rw [show j - ((n + 1 : Nat) : Int) = j - n - 1 by omega, zpow_pred h, ih, M.mul_assoc, ← zpow_pred h, show -(n : Int) - 1 = -((n + 1 : Nat) : Int) by omega]
  intro k
  by_cases hk : 0 ≤ k
  · obtain ⟨n, rfl⟩ := Int.eq_ofNat_of_zero_le hk
    exact pos n
  · have := neg k.natAbs
    rw [show j - (k.natAbs : Int) = j + k by omega, show -(k.natAbs : Int) = k by omega] at this
    exact this
theorem powM_shift (x : Int) : ∀ n : Nat, powM ⟨1, x, 0, 1⟩ n = ⟨1, n * x, 0, 1⟩
  | 0 => by
    apply M.ext <;> simp [powM, M.one]
  | n + 1 => by
    show (powM ⟨1, x, 0, 1⟩ n).mul _ = _
    rw [powM_shift x n]
    apply M.ext <;> simp [M.mul, Int.add_mul] <;> omega
theorem zpow_shift (k : Int) : zpow ⟨1, 1, 0, 1⟩ k = ⟨1, k, 0, 1⟩ := by
  unfold zpow
  split
  · rw [powM_shift]
    apply M.ext <;> simp <;> omega
  · show powM ⟨1, -1, -0, 1⟩ _ = _
    rw [show (-0 : Int) = 0 from rfl, powM_shift]
    apply M.ext <;> simp <;> omega
theorem empty_s : (Str.ofString "") = (⟨#[]⟩ : Str) := by decide +kernel
theorem str_app (a b : List Nat) : ((⟨a.toArray⟩ : Str) ++ (⟨b.toArray⟩ : Str)) = ⟨(a ++ b).toArray⟩ := by
  show (⟨a.toArray ++ b.toArray⟩ : Str) = _
  rw [List.append_toArray]
theorem join_ch : ∀ w : List Nat, Txt.join (Str.ofString "") (w.map fun c => (⟨#[c]⟩ : Str)) = ⟨w.toArray⟩ := by
  intro w
  rw [TL.join_eq, empty_s]
  induction w with
  | nil => rfl
  | cons c w ih =>
    cases w with
    | nil => rfl
    | cons d w =>
      show (⟨[c].toArray⟩ : Str) ++ (⟨([] : List Nat).toArray⟩ : Str) ++ Str.join ⟨#[]⟩ ((d :: w).map fun c => (⟨#[c]⟩ : Str)) = _
      rw [ih, str_app, str_app]
      rfl
theorem asStrs_ch : ∀ w : List Nat, asStrs (w.map ch) = some (w.map fun c => (⟨#[c]⟩ : Str))
  | [] => rfl
  | c :: w => by
    show (asStrs (w.map ch)).map _ = _
    rw [asStrs_ch w]
    rfl
theorem sum_ch (w : List Nat) : ((w.map fun c => (⟨#[c]⟩ : Str)).map (·.length)).sum = w.length := by
  induction w with
  | nil => rfl
  | cons c w ih =>
    rw [List.map_cons, List.map_cons, List.sum_cons, ih]
    show 1 + w.length = w.length + 1
    omega
/-- what a list of letters is joined to -/
theorem join_ok {w : List Nat} {Q : PyData → Prop} (hl : w.length ≤ 1000000) (h : Q (W w)) : oJoin (.str (Str.ofString "")) (.list (w.map ch)) Q := by
  rw [oJoin_l, asStrs_ch, onS_s, join_ch, sum_ch]
  refine ⟨?_, h⟩
  rw [empty_s]
  show w.length + _ * 0 ≤ _
  omega
/-- a comprehension without a test, by what each item gives -/
theorem lc_any {i : Nat} {e : DE} {r : Rho} (P : PyData → Prop) (hp : ∀ y, P y → plain y = true) : ∀ (xs acc : List PyData) (Q : List PyData → Prop), (∀ x ∈ xs, ∀ k : PyData → Prop, (∀ y, P y → k y) → e (put r i x) k (fun _ => False)) →
    (∀ ys, ys.length = xs.length → (∀ y ∈ ys, P y) → Q (acc ++ ys)) → lcL (dgName i) dYes e r Q xs acc
  | [], acc, Q, _, hq => by
    have := hq [] rfl (fun y hy => nomatch hy)
    rw [List.append_nil] at this
    exact this
  | x :: xs, acc, Q, he, hq => by
    rw [lcL_c, dgName_e, dYes_e, if_t]
    refine he x List.mem_cons_self _ fun y py => ⟨hp y py, ?_⟩
    refine lc_any P hp xs (acc ++ [y]) Q (fun x' hx' => he x' (List.mem_cons_of_mem _ hx')) fun ys hl hy => ?_
    rw [List.append_assoc]
    exact hq (y :: ys) (by rw [List.length_cons, List.length_cons, hl]) fun z hz => (List.mem_cons.mp hz).elim (fun e => e ▸ py) (hy z)
theorem chs_of : ∀ (ys : List PyData) (p : Nat → Prop), (∀ y ∈ ys, ∃ c, p c ∧ y = ch c) → ∃ w : List Nat, w.length = ys.length ∧ (∀ c ∈ w, p c) ∧ ys = w.map ch
  | [], p, _ => ⟨[], rfl, (fun c hc => nomatch hc), rfl⟩
  | y :: ys, p, h => by
    obtain ⟨w, h1, h2, h3⟩ := chs_of ys p fun z hz => h z (List.mem_cons_of_mem _ hz)
    obtain ⟨c, hc, rfl⟩ := h y List.mem_cons_self
    exact ⟨c :: w, by rw [List.length_cons, List.length_cons, h1], fun d hd => (List.mem_cons.mp hd).elim (fun e => e ▸ hc) (h2 d), by rw [h3]; rfl⟩
/-- ''.join([LETTERS[roll(dice, n)] for turn in range(j)]) -/
theorem letters_ok {r : Rho} {i : Nat} {z : Str} {n : Int} {m : Nat} {p : Nat → Prop} {Q : List PyData → Prop} (hr : look (drps r [i]) 0 = some dice) (hi : i ≠ 0) (n0 : 0 < n) (n1 : n < 2 ^ 62) (hz : z.length ≤ 1000000) (hp : ∀ k : Int, 0 ≤ k → k < n → ∃ c, atI z.cps.toList k = some c ∧ p c)
    (h : ∀ w : List Nat, w.length = m → (∀ c ∈ w, p c) → Q (w.map ch)) :
    lcL (dgName i) dYes (dOp oIx (dC (.str z)) (dCall 2 f_law_roll (dCons (dVar 0) (dCons (dC (.int n)) dNil)))) (drps r [i]) Q (rangeD 0 m) [] := by
  refine lc_any (fun y => ∃ c, p c ∧ y = ch c) (fun y ⟨c, _, e⟩ => by rw [e]; rfl) _ _ _ (fun x _ k hk => ?_) fun ys hl hy => ?_
  · have e : look (put (drps r [i]) i x) 0 = some dice := by
      generalize drps r [i] = r' at hr
      cases r' with
      | nil => cases hr
      | cons a r' =>
        cases i with
        | zero => exact (hi rfl).elim
        | succ i => exact hr
    rw [dOp_e, dC_e, dCall_e, dCons_e, dVar_e, e, onS_s, dCons_e, dC_e, dNil_e]
    refine ⟨rfl, n0, n1, fun q q0 q1 => ?_⟩
    obtain ⟨c, hc, pc⟩ := hp q q0 q1
    rw [oIx_s, hc, onS_s]
    exact ⟨hz, hk _ ⟨c, pc, rfl⟩⟩
  · obtain ⟨w, h1, h2, h3⟩ := chs_of ys p hy
    rw [List.nil_append, h3]
    refine h w ?_ h2
    rw [h1, hl]
    unfold rangeD
    rw [List.length_map, List.length_range]
theorem at12 {α : Type} {x0 x1 x2 x3 x4 x5 x6 x7 x8 x9 x10 x11 : α} {P : α → Prop} (h0 : P x0) (h1 : P x1) (h2 : P x2) (h3 : P x3) (h4 : P x4) (h5 : P x5) (h6 : P x6) (h7 : P x7) (h8 : P x8) (h9 : P x9) (h10 : P x10) (h11 : P x11) (i : Int) (i0 : 0 ≤ i) (i1 : i < 12) : onS (atI [x0, x1, x2, x3, x4, x5, x6, x7, x8, x9, x10, x11] i) P := by
  obtain ⟨n, rfl⟩ := Int.eq_ofNat_of_zero_le i0
  match n, i1 with
  | 0, _ => exact h0
  | 1, _ => exact h1
  | 2, _ => exact h2
  | 3, _ => exact h3
  | 4, _ => exact h4
  | 5, _ => exact h5
  | 6, _ => exact h6
  | 7, _ => exact h7
  | 8, _ => exact h8
  | 9, _ => exact h9
  | 10, _ => exact h10
  | 11, _ => exact h11
  | n + 12, h => omega
/-- a for loop by what holds before each turn -/
theorem for_inv {g : DG} {b : DS} {nx : Rho → Prop} {rt : PyData → Prop} {E : Nat → Prop} (I : List PyData → Rho → Prop) (step : ∀ (x : PyData) (xs : List PyData) (r : Rho) (k : Rho → Prop), I (x :: xs) r → (∀ r', I xs r' → k r') → g x r (fun r' => b r' k rt E)) (fin : ∀ r, I [] r → nx r) : ∀ (xs : List PyData) (r : Rho), I xs r → forL g b nx rt E xs r
  | [], r, h => by
    rw [forL_n]
    exact fin r h
  | x :: xs, r, h => by
    rw [forL_c]
    exact step x xs r _ h fun r' h' => for_inv I step fin xs r' h'
theorem while_inv {t : DT} {b : DS} {nx : Rho → Prop} {rt : PyData → Prop} {E : Nat → Prop} (I : Nat → Rho → Prop) (step : ∀ (n : Nat) (r : Rho) (k : Rho → Prop), I n r → (∀ j r', j < n → I j r' → k r') → t r (fun c => if c = true then b r k rt E else nx r) E) : ∀ (n : Nat) (r : Rho), I n r → ∀ m, n < m → whileN t b nx rt E m r
  | n, r, h, m + 1, hm => step n r _ h fun j r' hj h' => while_inv I step j r' h' m (by omega)
theorem dWhile_i {t : DT} {b : DS} {nx : Rho → Prop} {rt : PyData → Prop} {E : Nat → Prop} {r : Rho} (I : Nat → Rho → Prop) (n : Nat) (h : I n r) (step : ∀ (n : Nat) (r : Rho) (k : Rho → Prop), I n r → (∀ j r', j < n → I j r' → k r') → t r (fun c => if c = true then b r k rt E else nx r) E) : dWhile t b r nx rt E :=
  ⟨n + 1, while_inv I step n r h (n + 1) (Nat.lt_succ_self n)⟩
theorem eqv_ss {a b c d : Str} : PyData.eqv (.tuple [.str a, .str b]) (.tuple [.str c, .str d]) = (decide (a = c) && (decide (b = d) && true)) := rfl
theorem ne_err {c : Nat} {x : Str} {Q : PyData → Prop} (hx : enames.getD c (Str.ofString "") = x) (h : Q (.bool false)) (s : SeqAt.shaped (errD c) = true := by decide +kernel) : oNe (errD c) (.tuple [.str (Str.ofString "error"), .str x]) Q := by
  subst hx
  have e : PyData.eqv (errD c) (errD c) = true := by
    unfold errD
    rw [eqv_ss]
    simp
  refine ⟨s, s, ?_⟩
  show Q (.bool (!PyData.eqv (errD c) (errD c)))
  rw [e]
  exact h
theorem ne_same {m n : M} {k : Bool → Prop} (e : m = n) (h : k false) : oNe m.p n.p (fun x => onB x k) := ne_mm (by rw [decide_eq_true e]; exact h)
theorem ne_errB {c : Nat} {x : Str} {k : Bool → Prop} (hx : enames.getD c (Str.ofString "") = x) (h : k false) (s : SeqAt.shaped (errD c) = true := by decide +kernel) : oNe (errD c) (.tuple [.str (Str.ofString "error"), .str x]) (fun x => onB x k) := ne_err hx h s
/-- a comprehension whose items each give one value -/
theorem lc_map {i : Nat} {e : DE} {r : Rho} (g : PyData → PyData) : ∀ (xs acc : List PyData) (Q : List PyData → Prop), (∀ x ∈ xs, plain (g x) = true ∧ ∀ k : PyData → Prop, k (g x) → e (put r i x) k (fun _ => False)) → Q (acc ++ xs.map g) → lcL (dgName i) dYes e r Q xs acc
  | [], acc, Q, _, hq => by
    rw [List.map_nil, List.append_nil] at hq
    exact hq
  | x :: xs, acc, Q, he, hq => by
    rw [lcL_c, dgName_e, dYes_e, if_t]
    refine (he x List.mem_cons_self).2 _ ⟨(he x List.mem_cons_self).1, ?_⟩
    refine lc_map g xs (acc ++ [g x]) Q (fun x' hx' => he x' (List.mem_cons_of_mem _ hx')) ?_
    rw [List.append_assoc]
    exact hq
theorem asBools_fn (f : PyData → Bool) : ∀ xs : List PyData, asBools (xs.map fun x => .bool (f x)) = some (xs.map f)
  | [] => rfl
  | x :: xs => by
    show (asBools (xs.map fun x => .bool (f x))).map _ = _
    rw [asBools_fn f xs]
    rfl
end Tz

/-! The module's dict of the letters. -/
namespace Tz
open PySem PySem.Spec PyProof.Rows L2
def sixB (c : Nat) : Bool := [115, 116, 84, 119, 118, 108].contains c
theorem six_of {c : Nat} (h : sixB c = true) : six c := by
  unfold sixB at h
  simp at h
  unfold six
  omega
theorem sixB_of {c : Nat} (h : six c) : sixB c = true := by rcases h with rfl | rfl | rfl | rfl | rfl | rfl <;> rfl
def letD (z : Str) : Option PyData := match z.cps.toList with
  | [c] => if sixB c = true then some (L c).p else none
  | _ => none
structure GaLe (K : PySem.W.Frag) (A : Ga) : Prop where
  le : ∀ c, six c → ∃ v, KDct K A.w A.le ⟨#[c]⟩ v ∧ ∀ H : Hp, Dq K H v (L c).p
theorem ix_let {X : Cx} {A : Ga} (hw : A.w = X.w) : IxR X (rIxD X.K A.w) := by
  rw [hw]
  exact ix_kdict
def dLet (b : DE) : DE := fun r Q E => b r (fun y => match y with
  | .str z => onS (letD z) Q
  | _ => False) E
theorem s_let {C : Cn} {A : Ga} {tb : TE} {b : DE} (h : GaLe C.K A) (hb : SimE C tb b) : SimE C (tOp (rIxD C.K A.w) (tC (.ref A.le)) tb) (dLet b) := by
  intro G ρ Q E gp hd σ H Q' j rs k kx
  refine hb G ρ _ E gp hd σ H _ j rs (fun v H1 x e1 j1 r1 h1 => ?_) kx
  match x, r1, h1 with
  | .str z, r1, h1 =>
    obtain ⟨d, e, q⟩ := onS_some h1
    unfold letD at e
    split at e
    · rename_i c hz
      by_cases hs : sixB c = true
      · rw [if_pos hs] at e
        cases e
        obtain ⟨u, hu, hq⟩ := h.le c (six_of hs)
        have ez : z = ⟨#[c]⟩ := by
          cases z with
          | mk a =>
            congr 1
            exact Array.toList_inj.mp hz
        subst ez
        exact ⟨_, _, u, rfl, rep_str r1, hu, k u H1 _ e1 j1 (.inl (hq _)) q⟩
      · rw [if_neg hs] at e
        cases e
    · cases e
theorem dLet_c {b : DE} {r : Rho} {Q : PyData → Prop} {E : Nat → Prop} : dLet b r Q E = b r (fun y => onStr y fun z => onS (letD z) Q) E := propext Iff.rfl
theorem letD_c {c : Nat} (h : six c) : letD ⟨#[c]⟩ = some (L c).p := by
  show (if sixB c = true then some (L c).p else none) = _
  rw [if_pos (sixB_of h)]
theorem tup4_of {K : PySem.W.Frag} {u : Addr} {o : Obj} {n t1 t2 t3 t4 : Nat} {a b c d : Int} (l : K.lookup u = some o) (hc : o.cls = .type "tuple") (hd : o.data = .seq #[.int a t1, .int b t2, .int c t3, .int d t4] n) (H : Hp) : Dq K H (.ref u) (M.mk a b c d).p :=
  .tup (.inr ⟨o, _, n, l, hc, hd, by show 4 ≤ sizeLine; decide, .cons (a := V.int a) ⟨_, rfl⟩ (.cons (a := V.int b) ⟨_, rfl⟩ (.cons (a := V.int c) ⟨_, rfl⟩ (.cons (a := V.int d) ⟨_, rfl⟩ .nil)))⟩) (.cons (.int a) (.cons (.int b) (.cons (.int c) (.cons (.int d) .nil))))
theorem key_s : Str.ofString "s" = ⟨#[115]⟩ := by decide +kernel
theorem key_t : Str.ofString "t" = ⟨#[116]⟩ := by decide +kernel
theorem key_T : Str.ofString "T" = ⟨#[84]⟩ := by decide +kernel
theorem key_w : Str.ofString "w" = ⟨#[119]⟩ := by decide +kernel
theorem key_v : Str.ofString "v" = ⟨#[118]⟩ := by decide +kernel
theorem key_l : Str.ofString "l" = ⟨#[108]⟩ := by decide +kernel
end Tz

/-! Words: places, comparisons of letters, alternation. -/
namespace Tz
open PySem PySem.Spec PyProof.Rows L2
theorem look_put_ne : ∀ {r : Rho} {i j : Nat} {d : PyData}, j ≠ i → look (put r i d) j = look r j
  | [], _, _, _, _ => rfl
  | _ :: _, 0, 0, _, h => (h rfl).elim
  | _ :: _, 0, _ + 1, _, _ => rfl
  | _ :: _, _ + 1, 0, _, _ => rfl
  | _ :: r, i + 1, j + 1, d, h => look_put_ne (r := r) (i := i) (j := j) (d := d) fun e => h (by rw [e])
theorem look_put_eq : ∀ {r : Rho} {i : Nat} {d : PyData}, i < r.length → look (put r i d) i = some d
  | [], _, _, h => by cases h
  | _ :: _, 0, _, _ => rfl
  | _ :: r, i + 1, d, h => look_put_eq (r := r) (i := i) (d := d) (Nat.lt_of_succ_lt_succ h)
theorem atI_nat {α : Type} {xs : List α} {n : Nat} : atI xs (n : Int) = xs[n]? := by
  unfold atI ixN
  rw [if_pos (by omega)]
  by_cases h : n < xs.length
  · rw [if_pos (by omega), Int.toNat_natCast]
    rfl
  · rw [if_neg (by omega)]
    rw [List.getElem?_eq_none (by omega)]
    rfl
theorem atI_last {α : Type} {xs : List α} {x : α} : atI (xs ++ [x]) (-1) = some x := by
  unfold atI ixN
  rw [if_neg (by decide), if_pos (by simp; omega)]
  have e : (-1 + ((xs ++ [x]).length : Int)).toNat = xs.length := by simp; omega
  rw [e]
  show (xs ++ [x])[xs.length]? = some x
  simp
theorem W_len (w : List Nat) : (⟨w.toArray⟩ : Str).length = w.length := by simp [Str.length]
theorem W_list (w : List Nat) : (⟨w.toArray⟩ : Str).cps.toList = w := rfl
theorem str_inj {a b : List Nat} : ((⟨a.toArray⟩ : Str) = ⟨b.toArray⟩) ↔ a = b := by
  constructor
  · intro h
    have := congrArg (fun s : Str => s.cps.toList) h
    simpa using this
  · intro h
    rw [h]
theorem oEq_s2 {a b : Str} {Q : PyData → Prop} : oEq (.str a) (.str b) Q = Q (.bool (decide (a = b))) := propext Iff.rfl
theorem oNe_s2 {a b : Str} {Q : PyData → Prop} : oNe (.str a) (.str b) Q = Q (.bool (!decide (a = b))) := propext Iff.rfl
theorem eq_ch {c d : Nat} : decide ((⟨#[c]⟩ : Str) = ⟨#[d]⟩) = decide (c = d) := by
  rw [decide_eq_decide]
  have := str_inj (a := [c]) (b := [d])
  rw [show ([c].toArray) = #[c] from rfl, show ([d].toArray) = #[d] from rfl] at this
  rw [this]
  simp
theorem is_s {c : Nat} : decide ((⟨#[c]⟩ : Str) = Str.ofString "s") = decide (c = 115) := by rw [key_s, eq_ch]
/-- s and the others alternate -/
def alt : List Nat → Bool
  | c :: d :: w => (decide (c = 115) != decide (d = 115)) && alt (d :: w)
  | _ => true
def altAt (w : List Nat) (i : Nat) : Bool := decide (w.getD i 0 = 115) != decide (w.getD (i + 1) 0 = 115)
theorem alt_range : ∀ w : List Nat, ((List.range (w.length - 1)).map (altAt w)).all id = alt w
  | [] => rfl
  | [_] => rfl
  | c :: d :: w => by
    have ih := alt_range (d :: w)
    show ((List.range (w.length + 1)).map (altAt (c :: d :: w))).all id = _
    rw [List.range_succ_eq_map, List.map_cons, List.map_map, List.all_cons]
    have e : (altAt (c :: d :: w)) ∘ Nat.succ = altAt (d :: w) := by
      funext i
      rfl
    rw [e]
    have ih' : ((List.range w.length).map (altAt (d :: w))).all id = alt (d :: w) := ih
    rw [ih']
    rfl
theorem asBools_at (f : Nat → Bool) : ∀ xs : List Nat, asBools (xs.map fun i => .bool (f i)) = some (xs.map f)
  | [] => rfl
  | x :: xs => by
    show (asBools (xs.map fun i => .bool (f i))).map _ = _
    rw [asBools_at f xs]
    rfl
theorem get_D {w : List Nat} {n : Nat} (h : n < w.length) : w[n]? = some (w.getD n 0) := by
  rw [List.getElem?_eq_getElem h, List.getD_eq_getElem?_getD, List.getElem?_eq_getElem h]
  rfl
/-- all([(word[at] == "s") != (word[at + 1] == "s") for at in range(len(word) - 1)]) -/
theorem alt_ok {i v : Nat} {r : Rho} {w : List Nat} {QL : List Bool → Prop} (h2 : look r v = some (W w)) (hv : v ≠ i) (hi : i < r.length) (hl : w.length ≤ 100000) (h : ∀ bs : List Bool, bs.all id = alt w → QL bs) :
    (⟨w.toArray⟩ : Str).length ≤ 1000000 ∧ -2 ^ 62 ≤ ((⟨w.toArray⟩ : Str).length : Int) - 1 ∧ ((⟨w.toArray⟩ : Str).length : Int) - 1 < 2 ^ 62 ∧ (rangeD 0 (((⟨w.toArray⟩ : Str).length : Int) - 1).toNat).length ≤ 100000 ∧
    lcL (dgName i) dYes (dOp oNe (dOp oEq (dOp oIx (dVar v) (dVar i)) (dC (.str ("s" : Str)))) (dOp oEq (dOp oIx (dVar v) (dOp oAdd (dVar i) (dC (.int 1)))) (dC (.str ("s" : Str))))) r (fun ys => onS (asBools ys) QL) (rangeD 0 (((⟨w.toArray⟩ : Str).length : Int) - 1).toNat) [] := by
  rw [W_len]
  refine ⟨by omega, by omega, by omega, by unfold rangeD; rw [List.length_map, List.length_range]; omega, ?_⟩
  have et : ((w.length : Int) - 1).toNat = w.length - 1 := by omega
  rw [et]
  refine lc_map (fun x => match x with
    | .int k => .bool (altAt w k.toNat)
    | _ => .bool false) _ _ _ (fun x hx => ?_) ?_
  · unfold rangeD at hx
    obtain ⟨n, hn, rfl⟩ := List.mem_map.mp hx
    have hn := List.mem_range.mp hn
    refine ⟨rfl, fun k hk => ?_⟩
    have hk : k (.bool (altAt w (0 + (n : Int)).toNat)) := hk
    rw [Int.zero_add, Int.toNat_natCast] at hk
    rw [Int.zero_add]
    have e1 : look (put r i (.int (n : Int))) v = some (W w) := by rw [look_put_ne hv]; exact h2
    have e2 : look (put r i (.int (n : Int))) i = some (.int (n : Int)) := look_put_eq hi
    rw [dOp_e, dOp_e, dOp_e, dVar_e, e1, onS_s, dVar_e, e2, onS_s, oIx_s, W_list, atI_nat, get_D (by omega), onS_s, W_len, dC_e, oEq_s2, is_s]
    refine ⟨by omega, ?_⟩
    rw [dOp_e, dOp_e, dVar_e, e1, onS_s, dOp_e, dVar_e, e2, onS_s, dC_e, oAdd_ii, oIx_s, W_list, show ((n : Int) + 1) = ((n + 1 : Nat) : Int) from rfl, atI_nat, get_D (by omega), onS_s, W_len, dC_e, oEq_s2, is_s, oNe_bb]
    refine ⟨by omega, ?_⟩
    have e3 : altAt w n = !decide (decide (w.getD n 0 = 115) = decide (w.getD (n + 1) 0 = 115)) := by
      unfold altAt
      generalize decide (w.getD n 0 = 115) = a
      generalize decide (w.getD (n + 1) 0 = 115) = b
      cases a <;> cases b <;> rfl
    rw [← e3]
    exact hk
  · rw [List.nil_append]
    unfold rangeD
    rw [List.map_map]
    have e : (List.range (w.length - 1)).map ((fun x => match x with
        | .int k => PyData.bool (altAt w k.toNat)
        | _ => .bool false) ∘ fun (i : Nat) => PyData.int (0 + (i : Int))) = (List.range (w.length - 1)).map fun i => PyData.bool (altAt w i) := by
      apply List.map_congr_left
      intro n _
      show PyData.bool (altAt w (0 + (n : Int)).toNat) = _
      rw [Int.zero_add, Int.toNat_natCast]
    rw [e, asBools_at, onS_s]
    exact h _ (alt_range w)
/-! ### repeated words -/
def rep (w : List Nat) (n : Nat) : List Nat := (List.replicate n w).flatten
theorem foldl_rep (w : List Nat) : ∀ (m : Nat) (acc : Array Nat), (List.replicate m w.toArray).foldl (· ++ ·) acc = acc ++ (rep w m).toArray
  | 0, acc => by simp [rep]
  | m + 1, acc => by
    rw [List.replicate_succ, List.foldl_cons, foldl_rep w m]
    unfold rep
    rw [List.replicate_succ, List.flatten_cons, Array.append_assoc]
    simp
theorem repStr_W (w : List Nat) (n : Int) : repStr ⟨w.toArray⟩ n = ⟨(rep w n.toNat).toArray⟩ := by
  unfold repStr
  by_cases h : n < 1
  · rw [if_pos h, show n.toNat = 0 by omega]
    rfl
  · rw [if_neg h]
    show (⟨(List.replicate n.toNat w.toArray).foldl (· ++ ·) #[]⟩ : Str) = _
    rw [foldl_rep, Array.empty_append]
theorem rep_len (w : List Nat) (n : Nat) : (rep w n).length = w.length * n := by
  induction n with
  | zero => simp [rep]
  | succ n ih =>
    unfold rep at ih ⊢
    rw [List.replicate_succ, List.flatten_cons, List.length_append, ih, Nat.mul_succ]
    omega
theorem rep_mem {w : List Nat} {n : Nat} {c : Nat} (h : c ∈ rep w n) : c ∈ w := by
  unfold rep at h
  rw [List.mem_flatten] at h
  obtain ⟨l, h1, h2⟩ := h
  rw [(List.mem_replicate.mp h1).2] at h2
  exact h2
theorem rep_succ (w : List Nat) (n : Nat) : rep w (n + 1) = w ++ rep w n := by
  unfold rep
  rw [List.replicate_succ, List.flatten_cons]
theorem rep_one (c n : Nat) : rep [c] n = List.replicate n c := by
  induction n with
  | zero => rfl
  | succ n ih => rw [rep_succ, ih, List.replicate_succ]; rfl
theorem dTru_b {i : Nat} {v : Bool} {r : Rho} {QB : Bool → Prop} {E : Nat → Prop} (h : look r i = some (.bool v)) : dTru (dVar i) r QB E = QB v := by
  show onS (look r i) _ = _
  rw [h]
  exact propext Iff.rfl
/-- ''.join([z[roll(dice, n)] for turn in range(j)]), the dice at place v -/
theorem letters_at {r : Rho} {i v : Nat} {z : Str} {n : Int} {m : Nat} {p : Nat → Prop} {Q : List PyData → Prop} (hr : look r v = some dice) (hi : v ≠ i) (n0 : 0 < n) (n1 : n < 2 ^ 62) (hz : z.length ≤ 1000000) (hp : ∀ k : Int, 0 ≤ k → k < n → ∃ c, atI z.cps.toList k = some c ∧ p c)
    (h : ∀ w : List Nat, w.length = m → (∀ c ∈ w, p c) → Q (w.map ch)) :
    lcL (dgName i) dYes (dOp oIx (dC (.str z)) (dCall 2 f_law_roll (dCons (dVar v) (dCons (dC (.int n)) dNil)))) r Q (rangeD 0 m) [] := by
  refine lc_any (fun y => ∃ c, p c ∧ y = ch c) (fun y ⟨c, _, e⟩ => by rw [e]; rfl) _ _ _ (fun x _ k hk => ?_) fun ys hl hy => ?_
  · have e : look (put r i x) v = some dice := by rw [look_put_ne hi]; exact hr
    rw [dOp_e, dC_e, dCall_e, dCons_e, dVar_e, e, onS_s, dCons_e, dC_e, dNil_e]
    refine ⟨rfl, n0, n1, fun q q0 q1 => ?_⟩
    obtain ⟨c, hc, pc⟩ := hp q q0 q1
    rw [oIx_s, hc, onS_s]
    exact ⟨hz, hk _ ⟨c, pc, rfl⟩⟩
  · obtain ⟨w, h1, h2, h3⟩ := chs_of ys p hy
    rw [List.nil_append, h3]
    refine h w ?_ h2
    rw [h1, hl]
    unfold rangeD
    rw [List.length_map, List.length_range]
theorem rng_len (lo : Int) (n : Nat) : (rangeD lo n).length = n := by
  unfold rangeD
  rw [List.length_map, List.length_range]
theorem rng_succ (lo : Int) (n : Nat) : rangeD lo (n + 1) = .int lo :: rangeD (lo + 1) n := by
  unfold rangeD
  rw [List.range_succ_eq_map, List.map_cons, List.map_map]
  congr 1
  · simp
  · apply List.map_congr_left
    intro i _
    simp only [Function.comp]
    congr 1
    omega
/-- what a range from j on begins with -/
theorem rng_split {lo : Int} {n j : Nat} {x : PyData} {xs : List PyData} (h : x :: xs = rangeD lo (n - j)) : j < n ∧ x = .int lo ∧ xs = rangeD (lo + 1) (n - (j + 1)) := by
  have hlt : j < n := by
    refine Decidable.byContradiction fun z => ?_
    rw [show n - j = 0 by omega] at h
    cases h
  rw [show n - j = (n - (j + 1)) + 1 by omega, rng_succ] at h
  cases h
  exact ⟨hlt, rfl, rfl⟩
theorem rng_end {lo : Int} {n j : Nat} (h : [] = rangeD lo (n - j)) : n ≤ j := by
  have := congrArg List.length h
  rw [rng_len] at this
  simp at this
  omega
theorem cutS_lo (w : List Nat) (n : Int) (h0 : 0 ≤ n) (h1 : n ≤ w.length) : cutS ⟨w.toArray⟩ none (some n) = ⟨(w.take n.toNat).toArray⟩ := by
  unfold cutS
  rw [W_list, W_len]
  have e1 : HT.sIx w.length 0 none = 0 := rfl
  have e2 : HT.sIx w.length w.length (some n) = n.toNat := by
    show (if n < 0 then _ else min n.toNat w.length) = _
    rw [if_neg (by omega)]
    omega
  rw [e1, e2, List.drop_zero, Nat.sub_zero]
theorem cutS_hi (w : List Nat) (n : Int) (h0 : 0 ≤ n) (h1 : n ≤ w.length) : cutS ⟨w.toArray⟩ (some n) none = ⟨(w.drop n.toNat).toArray⟩ := by
  unfold cutS
  rw [W_list, W_len]
  have e1 : HT.sIx w.length w.length none = w.length := rfl
  have e2 : HT.sIx w.length 0 (some n) = n.toNat := by
    show (if n < 0 then _ else min n.toNat w.length) = _
    rw [if_neg (by omega)]
    omega
  rw [e1, e2]
  congr 1
  rw [List.take_of_length_le (by rw [List.length_drop]; omega)]
theorem atI_0 {α : Type} {c : α} {w : List α} : atI (c :: w) 0 = some c := by
  have := atI_nat (xs := c :: w) (n := 0)
  exact this
theorem oLt_ss {i j : Str} {Q : PyData → Prop} : oLt (.str i) (.str j) Q = Q (.bool (decide (i.cps.toList < j.cps.toList))) := propext Iff.rfl
theorem cutS_last (w : List Nat) (c : Nat) : cutS ⟨(w ++ [c]).toArray⟩ none (some (-1)) = ⟨w.toArray⟩ := by
  unfold cutS
  rw [W_list, W_len]
  have e1 : HT.sIx (w ++ [c]).length 0 none = 0 := rfl
  have e2 : HT.sIx (w ++ [c]).length (w ++ [c]).length (some (-1)) = w.length := by
    show ((-1 : Int) + ((w ++ [c]).length : Int)).toNat = _
    rw [List.length_append, List.length_singleton]
    omega
  rw [e1, e2, List.drop_zero, Nat.sub_zero, List.take_left]
/-! ### shapes -/
def asc (w : List Nat) : Prop := ∀ c ∈ w, c < 128
theorem strOk_W {w : List Nat} (h : asc w) : PyData.strOk ⟨w.toArray⟩ = true := by
  unfold PyData.strOk
  simp
  intro x hx
  have := h x hx
  omega
theorem shW {w : List Nat} (h : asc w) : SeqAt.shaped (W w) = true := by
  unfold SeqAt.shaped PyData.canLay0 PyData.depth
  rw [strOk_W h]
  rfl
/-- a sign and a word -/
abbrev SW (i : Int) (w : List Nat) : PyData := .tuple [.int i, W w]
theorem shSW {i : Int} {w : List Nat} (h : asc w) : SeqAt.shaped (SW i w) = true := by
  unfold SeqAt.shaped
  have e : (SW i w).canLay0 = (true && (PyData.strOk ⟨w.toArray⟩ && true)) := rfl
  rw [e, strOk_W h]
  rfl
theorem eqvSW {i j : Int} {u w : List Nat} : PyData.eqv (SW i u) (SW j w) = decide (i = j ∧ u = w) := by
  have e : PyData.eqv (SW i u) (SW j w) = (decide (i = j) && (decide ((⟨u.toArray⟩ : Str) = ⟨w.toArray⟩) && true)) := rfl
  rw [e, Bool.and_true, ← Bool.decide_and, decide_eq_decide, str_inj]
theorem ne_sw {i j : Int} {u w : List Nat} {Q : PyData → Prop} (hu : asc u) (hw : asc w) (h : Q (.bool (!decide (i = j ∧ u = w)))) : oNe (SW i u) (SW j w) Q := ⟨shSW hu, shSW hw, by rw [eqvSW]; exact h⟩
theorem eq_sw {i j : Int} {u w : List Nat} {Q : PyData → Prop} (hu : asc u) (hw : asc w) (h : Q (.bool (decide (i = j ∧ u = w)))) : oEq (SW i u) (SW j w) Q := ⟨shSW hu, shSW hw, by rw [eqvSW]; exact h⟩
end Tz

/-! x += e; a written dict that is asked at once. -/
namespace Tz
open PySem PySem.Spec PyProof.Rows L2
/-- an error class, where no error is told -/
def errChk0 (K : PySem.W.Frag) (C : Addr) : Bool := PySem.W.subIn K (.ref C) (.type "BaseException") == some true && (PySem.W.keepIn K (.ref C) && isTy "type" (PySem.W.typeIn K (.ref C)))
theorem errs0_of {K : PySem.W.Frag} {C : Addr} (h : errChk0 K C = true) : PySem.W.keepIn K (.ref C) = true ∧ PySem.W.subIn K (.ref C) (.type "BaseException") = some true ∧ PySem.W.typeIn K (.ref C) = some (.type "type") := by
  unfold errChk0 at h
  simp only [Bool.and_eq_true] at h
  exact ⟨h.2.1, beq_iff_eq.mp h.1, isTy_eq h.2.2⟩
theorem hu_of {k : Nat} {A : Around} (r : Room k A) : A.units + 1 < cLine := by have := r.un; omega
def dAug (i : Nat) (a : DE) : DS := fun r nx _ E => onS (look r i) fun x => onI x fun p => a r (fun y => onI y fun q => nx (put r i (.int (p + q)))) E
theorem s_aug {C : Cn} {i : Nat} {ta : TE} {a : DE} (ha : SimE C ta a) : SimS C (tAug i ta (ipI fun i j => i + j)) (dAug i a) := by
  intro G ρ nx rt E gp h σ H D j rs k kx
  obtain ⟨x, ex, h⟩ := onS_some h
  obtain ⟨v, hv, rv⟩ := rs.2 i x ex
  match x, rv, h with
  | .int p, rv, h =>
  refine ⟨v, hv, ha G ρ _ E gp h σ H _ j rs (fun u H1 y e1 j1 r1 h1 => ?_) kx⟩
  match y, r1, h1 with
  | .int q, r1, h1 =>
    refine ⟨p, q, rep_int rv, rep_int r1, k.nx _ H1 _ e1 j1 ((rs.mono e1).put (.inl (.int _))) (List.length_set ..) h1⟩
theorem dAug_i {i : Nat} {a : DE} {r : Rho} {nx : Rho → Prop} {rt : PyData → Prop} {E : Nat → Prop} {p : Int} (h : look r i = some (.int p)) : dAug i a r nx rt E = a r (fun y => onI y fun q => nx (put r i (.int (p + q)))) E := by
  show onS (look r i) _ = _
  rw [h]
  exact propext Iff.rfl
/-! ### {..}[x] -/
abbrev KVs := List (Str × V × PyData)
def kvK (kv : KVs) : List (Key × V) := kv.map fun e => (.inr e.1, e.2.1)
abbrev tDG (kv : KVs) (tb : TE) : TE := tDGet (tDisp (kv.map fun e => (tC (.str e.1), tC e.2.1))) tb
def dgFind (kv : KVs) (z : Str) : Option PyData := (kv.find? fun e => decide (e.1 = z)).map (·.2.2)
def dDG (kv : KVs) (b : DE) : DE := fun r Q E => b r (fun y => match y with
  | .str z => onS (dgFind kv z) Q
  | _ => False) E
def sameB : V → PyData → Bool
  | .int i, .int j => decide (i = j)
  | .str i, .str j => decide (i = j)
  | _, _ => false
def kvOk (kv : KVs) : Bool := kv.all (fun e => decide (valV (mergeK [] (kvK kv)) (.inr e.1) = some e.2.1) && sameB e.2.1 e.2.2) && decide (kv.length ≤ 15)
theorem sameB_dq {K : PySem.W.Frag} {H : Hp} {v : V} {d : PyData} (h : sameB v d = true) : Dq K H v d := by
  unfold sameB at h
  split at h
  · rw [of_decide_eq_true h]
    exact .int _
  · rw [of_decide_eq_true h]
    exact .str _
  · cases h
theorem tPairs_c {σ : L2.St} {H : Hp} : ∀ (kv : KVs) (Q : List (V × V) → Hp → Prop), Q (kv.map fun e => (.str e.1, e.2.1)) H → tPairs (kv.map fun e => (tC (.str e.1), tC e.2.1)) σ H Q
  | [], Q, h => h
  | e :: kv, Q, h => tPairs_c kv (fun ps H3 => Q ((.str e.1, e.2.1) :: ps) H3) h
theorem s_dg {C : Cn} (kv : KVs) {tb : TE} {b : DE} (hk : kvOk kv = true) (hb : SimE C tb b) : SimE C (tDG kv tb) (dDG kv b) := by
  intro G ρ Q E gp hd σ H Q' j rs k kx p np
  rw [kvOk, Bool.and_eq_true, List.all_eq_true] at hk
  obtain ⟨hk, hl⟩ := hk
  refine tPairs_c kv _ ⟨upd_same, kvK kv, ?_, ?_, ?_⟩
  · unfold kvK
    rw [List.map_map]
    rfl
  · unfold kvK
    rw [List.length_map]
    exact of_decide_eq_true hl
  · have eu : upd (upd H p (.dK [])) p (.dK (mergeK [] (kvK kv))) = upd H p (.dK (mergeK [] (kvK kv))) := by
      funext a
      by_cases h : a = p
      · rw [h, upd_same, upd_same]
      · rw [upd_ne h, upd_ne h, upd_ne h]
    rw [eu]
    obtain ⟨e0, j0, nd⟩ := Ex.new (o := .dK (mergeK [] (kvK kv))) j np
    refine hb G ρ _ E gp hd σ _ _ j0 (rs.mono e0) (fun v H1 x e1 j1 r1 h1 => ?_) (kx.mono e0)
    have hp : H1 p = some (.dK (mergeK [] (kvK kv))) := e1 p _ nd (fun ps z => nomatch z) upd_same
    match x, r1, h1 with
    | .str z, r1, h1 =>
      obtain ⟨d, ed, q⟩ := onS_some h1
      unfold dgFind at ed
      obtain ⟨e, ee, rfl⟩ := Option.map_eq_some_iff.mp ed
      have hz : e.1 = z := of_decide_eq_true (List.find?_some (p := fun e : Str × V × PyData => decide (e.1 = z)) ee)
      have hm := List.mem_of_find?_eq_some ee
      have := hk e hm
      rw [Bool.and_eq_true] at this
      have hv := of_decide_eq_true this.1
      rw [hz] at hv
      refine ⟨p, e.2.1, rfl, .inl ⟨_, .inr z, .inl hp, rep_str r1, hv.symm⟩, k _ H1 _ (e0.trans e1) j1 (.inl (sameB_dq this.2)) q⟩
theorem dDG_e {kv : KVs} {b : DE} {r : Rho} {Q : PyData → Prop} {E : Nat → Prop} : dDG kv b r Q E = b r (fun y => onStr y fun z => onS (dgFind kv z) Q) E := propext Iff.rfl
end Tz

/-! Alternating words, the last letter first: each stands for a table of its own, up to the sign. -/
namespace Tz
open PySem PySem.Spec PyProof.Rows L2
def swv (c : Nat) : Prop := c = 115 ∨ c = 119 ∨ c = 118
theorem swv.six {c : Nat} (h : swv c) : six c := by rcases h with h | h | h <;> simp [Tz.six, h]
instance (c : Nat) : Decidable (swv c) := by unfold swv; infer_instance
theorem swv.asc {w : List Nat} (h : ∀ c ∈ w, swv c) : asc w := fun c hc => by rcases h c hc with rfl | rfl | rfl <;> decide
theorem three.asc {w : List Nat} (h : ∀ c ∈ w, three c) : asc w := fun c hc => by rcases h c hc with rfl | rfl | rfl <;> decide
/-- alternating -/
def Aw (w : List Nat) : Prop := (∀ c ∈ w, swv c) ∧ alt w = true
theorem Aw.nil : Aw [] := ⟨(fun c hc => nomatch hc), rfl⟩
theorem Aw.tail {c : Nat} {w : List Nat} (h : Aw (c :: w)) : Aw w := by
  refine ⟨fun d hd => h.1 d (List.mem_cons_of_mem _ hd), ?_⟩
  cases w with
  | nil => rfl
  | cons d w =>
    have := h.2
    unfold alt at this
    rw [Bool.and_eq_true] at this
    exact this.2
theorem Aw.head {c d : Nat} {w : List Nat} (h : Aw (c :: d :: w)) : (c = 115 ↔ ¬ d = 115) := by
  have := h.2
  unfold alt at this
  rw [Bool.and_eq_true] at this
  have z := this.1
  by_cases h1 : c = 115 <;> by_cases h2 : d = 115 <;> simp [h1, h2] at z ⊢
theorem Aw.cons {c d : Nat} {w : List Nat} (hc : swv c) (h : Aw (d :: w)) (e : c = 115 ↔ ¬ d = 115) : Aw (c :: d :: w) := by
  refine ⟨fun x hx => (List.mem_cons.mp hx).elim (fun z => z ▸ hc) (h.1 x), ?_⟩
  unfold alt
  rw [h.2, Bool.and_true]
  by_cases h1 : c = 115 <;> by_cases h2 : d = 115 <;> simp [h1, h2] at e ⊢
theorem Aw.one {c : Nat} (hc : swv c) : Aw [c] := ⟨fun x hx => by rw [List.mem_singleton.mp hx]; exact hc, rfl⟩
/-- another letter at the beginning -/
theorem Aw.swap {c d : Nat} {w : List Nat} (h : Aw (c :: w)) (hc : ¬ c = 115) (hd : swv d) (hd' : ¬ d = 115) : Aw (d :: w) := by
  cases w with
  | nil => exact .one hd
  | cons e w => exact .cons hd h.tail (by have := h.head; omega)
theorem alt_snoc2 (c d : Nat) : ∀ x : List Nat, alt (x ++ [d] ++ [c]) = (alt (x ++ [d]) && (decide (d = 115) != decide (c = 115)))
  | [] => by
    show ((decide (d = 115) != decide (c = 115)) && true) = (true && _)
    rw [Bool.and_true, Bool.true_and]
  | [e] => by
    show ((decide (e = 115) != decide (d = 115)) && ((decide (d = 115) != decide (c = 115)) && true)) = (((decide (e = 115) != decide (d = 115)) && true) && _)
    rw [Bool.and_true, Bool.and_true]
  | e :: f :: x => by
    have ih := alt_snoc2 c d (f :: x)
    show ((decide (e = 115) != decide (f = 115)) && alt ((f :: x) ++ [d] ++ [c])) = (((decide (e = 115) != decide (f = 115)) && alt ((f :: x) ++ [d])) && _)
    rw [ih, Bool.and_assoc]
theorem alt_rev : ∀ w : List Nat, alt w.reverse = alt w
  | [] => rfl
  | [_] => rfl
  | c :: d :: w => by
    have ih := alt_rev (d :: w)
    rw [List.reverse_cons, List.reverse_cons, alt_snoc2, ← List.reverse_cons, ih]
    show _ = ((decide (c = 115) != decide (d = 115)) && alt (d :: w))
    rw [Bool.and_comm]
    congr 1
    cases decide (d = 115) <;> cases decide (c = 115) <;> rfl
theorem Aw.rev {w : List Nat} (h : Aw w) : Aw w.reverse := ⟨fun c hc => h.1 c (List.mem_reverse.mp hc), by rw [alt_rev]; exact h.2⟩
theorem Aw.of_rev {w : List Nat} (h : Aw w.reverse) : Aw w := by
  have := h.rev
  rw [List.reverse_reverse] at this
  exact this
/-- the table of a word that is read from its end -/
def wr : List Nat → M
  | [] => .one
  | c :: r => (wr r).mul (L c)
theorem wr_app : ∀ (x : List Nat) (y : List Nat), wr (x ++ y) = (wr y).mul (wr x)
  | [], y => (M.mul_one _).symm
  | c :: x, y => by
    show (wr (x ++ y)).mul (L c) = (wr y).mul ((wr x).mul (L c))
    rw [wr_app x y, M.mul_assoc]
theorem wr_rev (w : List Nat) : wr w.reverse = wm .one w := by
  have : ∀ (w : List Nat) (m : M), m.mul (wr w.reverse) = wm m w := by
    intro w
    induction w with
    | nil => intro m; exact M.mul_one m
    | cons c w ih =>
      intro m
      show _ = wm (m.mul (L c)) w
      rw [← ih, List.reverse_cons, wr_app]
      show m.mul ((M.one.mul (L c)).mul _) = _
      rw [M.one_mul, M.mul_assoc]
  have z := this w .one
  rw [M.one_mul] at z
  exact z
theorem wr_det (r : List Nat) : (wr r).det = 1 := by
  have := wr_rev r.reverse
  rw [List.reverse_reverse] at this
  rw [this]
  exact wm_det (by decide) _
/-! ### signs -/
def sg (s : Int) (m : M) : M := if 0 < s then m else m.neg
def pm (m n : M) : Prop := m = n ∨ m = n.neg
theorem neg_neg (m : M) : m.neg.neg = m := by apply M.ext <;> simp only [M.neg, Int.neg_neg]
theorem mul_neg (m n : M) : m.mul n.neg = (m.mul n).neg := by apply M.ext <;> simp only [M.mul, M.neg] <;> grind
theorem neg_mul (m n : M) : m.neg.mul n = (m.mul n).neg := by apply M.ext <;> simp only [M.mul, M.neg] <;> grind
theorem pm.symm {m n : M} (h : pm m n) : pm n m := by
  rcases h with h | h
  · exact .inl h.symm
  · exact .inr (by rw [h, neg_neg])
theorem pm.trans {m n k : M} (h : pm m n) (g : pm n k) : pm m k := by
  rcases h with rfl | rfl <;> rcases g with rfl | rfl
  · exact .inl rfl
  · exact .inr rfl
  · exact .inr rfl
  · exact .inl (neg_neg _)
theorem pm.mul {m n : M} (h : pm m n) (k : M) : pm (m.mul k) (n.mul k) := by
  rcases h with rfl | rfl
  · exact .inl rfl
  · exact .inr (neg_mul _ _)
theorem sg_pm (s : Int) (m : M) : pm (sg s m) m := by
  unfold sg
  split
  · exact .inl rfl
  · exact .inr rfl
theorem sg_mul (s : Int) (m n : M) : (sg s m).mul n = sg s (m.mul n) := by
  unfold sg
  split
  · rfl
  · exact neg_mul m n
theorem mul_sg (s : Int) (m n : M) : m.mul (sg s n) = sg s (m.mul n) := by
  unfold sg
  split
  · rfl
  · exact mul_neg m n
theorem sg_neg {s : Int} (h : s = 1 ∨ s = -1) (m : M) : sg (-s) m = (sg s m).neg := by
  rcases h with rfl | rfl
  · rfl
  · exact (neg_neg m).symm
theorem sg_sg {s : Int} (h : s = 1 ∨ s = -1) (m : M) : sg s m.neg = (sg s m).neg := by
  rcases h with rfl | rfl
  · rfl
  · rfl
theorem sgn_neg {s : Int} (h : s = 1 ∨ s = -1) : -s = 1 ∨ -s = -1 := by omega
theorem sg_det {s : Int} {m : M} (h : m.det = 1) : (sg s m).det = 1 := by
  unfold sg
  split
  · exact h
  · rw [M.det_neg]; exact h
theorem sg_one (m : M) : sg 1 m = m := rfl
theorem sg_uniq {s s' : Int} {m : M} (h : m.det = 1) (hs : s = 1 ∨ s = -1) (hs' : s' = 1 ∨ s' = -1) (e : sg s m = sg s' m) : s = s' := by
  have no : ¬ m = m.neg := fun z => by
    have z1 : m.a = -m.a := congrArg M.a z
    have z2 : m.b = -m.b := congrArg M.b z
    have z3 : m.a = 0 := by omega
    have z4 : m.b = 0 := by omega
    unfold M.det at h
    rw [z3, z4, Int.zero_mul, Int.zero_mul] at h
    omega
  rcases hs with rfl | rfl <;> rcases hs' with rfl | rfl
  · rfl
  · exact (no e).elim
  · exact (no e.symm).elim
  · rfl
/-! ### rows -/
def RS (x y : Int) : Prop := (0 ≤ x ∧ y ≤ 0) ∨ (x ≤ 0 ∧ 0 ≤ y)
def RW (x y : Int) : Prop := (0 ≤ x ∧ 0 ≤ y) ∨ (x ≤ 0 ∧ y ≤ 0)
def StS (m : M) : Prop := RS m.a m.b ∧ RS m.c m.d
def StW (m : M) : Prop := RW m.a m.b ∧ RW m.c m.d ∧ ((m.a ≠ 0 ∧ m.b ≠ 0) ∨ (m.c ≠ 0 ∧ m.d ≠ 0))
theorem StS.neg {m : M} (h : StS m) : StS m.neg := by
  obtain ⟨h1, h2⟩ := h
  unfold RS at h1 h2
  exact ⟨by show RS (-m.a) (-m.b); unfold RS; omega, by show RS (-m.c) (-m.d); unfold RS; omega⟩
theorem St_no {m n : M} (h : StS m) (g : StW n) (e : pm m n) : False := by
  have h' : StS n := by
    rcases e with rfl | rfl
    · exact h
    · have := h.neg
      rw [neg_neg] at this
      exact this
  obtain ⟨h1, h2⟩ := h'
  obtain ⟨g1, g2, g3⟩ := g
  unfold RS at h1 h2
  unfold RW at g1 g2
  omega
theorem colb {m : M} (h : m.det = 1) : ¬ (m.b = 0 ∧ m.d = 0) := fun z => by
  unfold M.det at h
  rw [z.1, z.2, Int.mul_zero, Int.zero_mul] at h
  omega
theorem cola {m : M} (h : m.det = 1) : ¬ (m.a = 0 ∧ m.c = 0) := fun z => by
  unfold M.det at h
  rw [z.1, z.2, Int.mul_zero, Int.zero_mul] at h
  omega
theorem mul_s (m : M) : m.mul (L 115) = ⟨m.b, -m.a, m.d, -m.c⟩ := by
  show m.mul ⟨0, -1, 1, 0⟩ = _
  apply M.ext <;> simp only [M.mul] <;> omega
theorem mul_w (m : M) : m.mul (L 119) = ⟨m.b, m.b - m.a, m.d, m.d - m.c⟩ := by
  show m.mul ⟨0, -1, 1, 1⟩ = _
  apply M.ext <;> simp only [M.mul] <;> omega
theorem mul_v (m : M) : m.mul (L 118) = ⟨m.b - m.a, -m.a, m.d - m.c, -m.c⟩ := by
  show m.mul ⟨-1, -1, 1, 0⟩ = _
  apply M.ext <;> simp only [M.mul] <;> omega
/-- how many letters are not s -/
def nW : List Nat → Nat
  | [] => 0
  | c :: r => if c = 115 then nW r else nW r + 1
structure Inv1 (r : List Nat) : Prop where
  st : match r with
    | [] => StS (wr r)
    | c :: _ => if c = 115 then StS (wr r) else StW (wr r)
  big : nW r + 1 ≤ max ((wr r).a.natAbs + (wr r).c.natAbs) ((wr r).b.natAbs + (wr r).d.natAbs)
theorem StW.s {m : M} (h : StW m) : StS (m.mul (L 115)) := by
  rw [mul_s]
  obtain ⟨g1, g2, _⟩ := h
  unfold RW at g1 g2
  exact ⟨by show RS m.b (-m.a); unfold RS; omega, by show RS m.d (-m.c); unfold RS; omega⟩
theorem StS.w {m : M} (h : StS m) (d : m.det = 1) : StW (m.mul (L 119)) := by
  rw [mul_w]
  obtain ⟨g1, g2⟩ := h
  have z := colb d
  unfold RS at g1 g2
  exact ⟨by show RW m.b (m.b - m.a); unfold RW; omega, by show RW m.d (m.d - m.c); unfold RW; omega, by show (m.b ≠ 0 ∧ m.b - m.a ≠ 0) ∨ (m.d ≠ 0 ∧ m.d - m.c ≠ 0); omega⟩
theorem StS.v {m : M} (h : StS m) (d : m.det = 1) : StW (m.mul (L 118)) := by
  rw [mul_v]
  obtain ⟨g1, g2⟩ := h
  have z := cola d
  unfold RS at g1 g2
  exact ⟨by show RW (m.b - m.a) (-m.a); unfold RW; omega, by show RW (m.d - m.c) (-m.c); unfold RW; omega, by show (m.b - m.a ≠ 0 ∧ -m.a ≠ 0) ∨ (m.d - m.c ≠ 0 ∧ -m.c ≠ 0); omega⟩
theorem inv1 : ∀ r : List Nat, Aw r → Inv1 r
  | [], _ => ⟨by show StS .one; exact ⟨.inl ⟨by decide, by decide⟩, .inr ⟨by decide, by decide⟩⟩, by decide⟩
  | c :: r, h => by
    have ih := inv1 r h.tail
    have hd := wr_det r
    have hc := h.1 c List.mem_cons_self
    have hst : ¬ c = 115 → StS (wr r) := fun z => by
      cases r with
      | nil => exact ih.st
      | cons d r =>
        have e : d = 115 := by have := h.head; omega
        have st := ih.st
        simp only [e, if_true] at st
        rw [e]
        exact st
    have big := ih.big
    refine ⟨?_, ?_⟩
    · show if c = 115 then StS ((wr r).mul (L c)) else StW ((wr r).mul (L c))
      by_cases h1 : c = 115
      · rw [if_pos h1, h1]
        cases r with
        | nil =>
          show StS (M.one.mul (L 115))
          rw [mul_s]
          exact ⟨.inl ⟨by decide, by decide⟩, .inl ⟨by decide, by decide⟩⟩
        | cons d r =>
          have e : ¬ d = 115 := by have := h.head; omega
          have st := ih.st
          simp only [e, if_false] at st
          exact st.s
      · rw [if_neg h1]
        rcases hc with z | z | z
        · exact (h1 z).elim
        · rw [z]; exact (hst h1).w hd
        · rw [z]; exact (hst h1).v hd
    · show (if c = 115 then nW r else nW r + 1) + 1 ≤ max (((wr r).mul (L c)).a.natAbs + ((wr r).mul (L c)).c.natAbs) (((wr r).mul (L c)).b.natAbs + ((wr r).mul (L c)).d.natAbs)
      by_cases h1 : c = 115
      · rw [if_pos h1, h1, mul_s]
        show _ ≤ max ((wr r).b.natAbs + (wr r).d.natAbs) ((-(wr r).a).natAbs + (-(wr r).c).natAbs)
        omega
      · rw [if_neg h1]
        have z := colb hd
        have z' := cola hd
        obtain ⟨g1, g2⟩ := hst h1
        unfold RS at g1 g2
        rcases hc with y | y | y
        · exact (h1 y).elim
        · rw [y, mul_w]
          show _ ≤ max ((wr r).b.natAbs + (wr r).d.natAbs) (((wr r).b - (wr r).a).natAbs + ((wr r).d - (wr r).c).natAbs)
          omega
        · rw [y, mul_v]
          show _ ≤ max (((wr r).b - (wr r).a).natAbs + ((wr r).d - (wr r).c).natAbs) ((-(wr r).a).natAbs + (-(wr r).c).natAbs)
          omega
theorem Aw.stW {c : Nat} {r : List Nat} (h : Aw (c :: r)) (hc : ¬ c = 115) : StW (wr (c :: r)) := by
  have := (inv1 _ h).st
  simp only [hc, if_false] at this
  exact this
theorem Aw.stS {c : Nat} {r : List Nat} (h : Aw (c :: r)) (hc : ¬ c = 115) : StS (wr r) := by
  cases r with
  | nil => exact (inv1 _ Aw.nil).st
  | cons d r =>
    have e : d = 115 := by have := h.head; omega
    have st := (inv1 _ h.tail).st
    simp only [e, if_true] at st
    rw [e]
    exact st
theorem Aw.stS' {r : List Nat} (h : Aw (115 :: r)) : StS (wr (115 :: r)) := by
  have := (inv1 _ h).st
  simp only [if_true] at this
  exact this
theorem nW_len : ∀ {r : List Nat}, Aw r → r.length ≤ 2 * nW r + 1 ∧ (∀ c q, r = c :: q → ¬ c = 115 → r.length ≤ 2 * nW r)
  | [], _ => ⟨by decide, fun c q e => nomatch e⟩
  | c :: r, h => by
    obtain ⟨i1, i2⟩ := nW_len h.tail
    have key : ¬ c = 115 → (c :: r).length ≤ 2 * nW (c :: r) := fun hc => by
      show r.length + 1 ≤ 2 * (if c = 115 then nW r else nW r + 1)
      rw [if_neg hc]
      omega
    refine ⟨?_, fun c' q e hc => by cases e; exact key hc⟩
    by_cases hc : c = 115
    · show r.length + 1 ≤ 2 * (if c = 115 then nW r else nW r + 1) + 1
      rw [if_pos hc]
      cases r with
      | nil => decide
      | cons d r =>
        have e : ¬ d = 115 := by have := h.head; omega
        have := i2 d r rfl e
        omega
    · have := key hc
      omega
theorem pm_le {m n : M} {k : Nat} (h : pm m n) (l : m.le k) : n.le k := by
  rcases h with rfl | rfl
  · exact l
  · have := l.neg
    rw [neg_neg] at this
    exact this
/-- the length of an alternating word by the size of its table -/
theorem Aw.len {r : List Nat} {k : Nat} (h : Aw r) (l : (wr r).le k) : r.length + 1 ≤ 4 * k := by
  have h1 := (nW_len h).1
  have h2 := (inv1 r h).big
  obtain ⟨l1, l2, l3, l4⟩ := l
  omega
/-! ### uniqueness -/
theorem L_inv (m n : M) (c : Nat) (h : pm (m.mul (L c)) (n.mul (L c))) : pm m n := by
  have := h.mul (L c).inv
  rw [M.mul_assoc, M.mul_assoc, M.mul_inv _ (L_det c), M.mul_one, M.mul_one] at this
  exact this
theorem no_unit {c : Nat} {r : List Nat} (h : Aw (c :: r)) : ¬ pm .one (wr (c :: r)) := fun e => by
  have s1 : StS .one := (inv1 _ Aw.nil).st
  by_cases hc : c = 115
  · subst hc
    have e2 : pm (wr r) (M.mk 0 1 (-1) 0) := by
      have := (e.symm).mul (M.mk 0 1 (-1) 0)
      rw [M.one_mul] at this
      have e3 : (wr (115 :: r)).mul (M.mk 0 1 (-1) 0) = wr r := by
        show ((wr r).mul (L 115)).mul _ = _
        rw [M.mul_assoc]
        exact M.mul_one _
      rw [e3] at this
      exact this
    cases r with
    | nil =>
      rcases e2 with z | z
      · exact absurd z (by decide)
      · exact absurd z (by decide)
    | cons d r =>
      have hd : ¬ d = 115 := by have := h.head; omega
      exact St_no (m := M.mk 0 1 (-1) 0) ⟨.inr ⟨by decide, by decide⟩, .inr ⟨by decide, by decide⟩⟩ (h.tail.stW hd) e2.symm
  · exact St_no s1 (h.stW hc) e
theorem wv_l (m : M) : m.mul (L 118) = (m.mul (L 119)).mul (L 119) := by
  rw [M.mul_assoc]
  congr 1
theorem uniq : ∀ (r q : List Nat), Aw r → Aw q → pm (wr r) (wr q) → r = q
  | [], [], _, _, _ => rfl
  | [], d :: q, _, hq, e => (no_unit hq e).elim
  | c :: r, [], hr, _, e => (no_unit hr e.symm).elim
  | c :: r, d :: q, hr, hq, e => by
    by_cases hcd : c = d
    · subst hcd
      rw [uniq r q hr.tail hq.tail (L_inv _ _ c e)]
    · exfalso
      by_cases hc : c = 115
      · subst hc
        exact St_no hr.stS' (hq.stW fun z => hcd z.symm) e
      · by_cases hd : d = 115
        · subst hd
          exact St_no hq.stS' (hr.stW hc) e.symm
        · have sc := hr.1 c List.mem_cons_self
          have sd := hq.1 d List.mem_cons_self
          unfold swv at sc sd
          have s1 := hr.stS hc
          have e : pm ((wr r).mul (L c)) ((wr q).mul (L d)) := e
          have cases2 : (c = 119 ∧ d = 118) ∨ (c = 118 ∧ d = 119) := by omega
          rcases cases2 with ⟨rfl, rfl⟩ | ⟨rfl, rfl⟩
          · rw [wv_l] at e
            have e2 := L_inv _ _ 119 e
            exact St_no s1 ((hq.swap (d := 119) (by decide) (.inr (.inl rfl)) (by decide)).stW (by decide)) e2
          · rw [wv_l] at e
            have e2 := L_inv _ _ 119 e
            have s2 := hq.stS (by decide)
            exact St_no s2 ((hr.swap (d := 119) (by decide) (.inr (.inl rfl)) (by decide)).stW (by decide)) e2.symm
theorem nf_uniq {s s' : Int} {r q : List Nat} (hs : s = 1 ∨ s = -1) (hs' : s' = 1 ∨ s' = -1) (hr : Aw r) (hq : Aw q) (e : sg s (wr r) = sg s' (wr q)) : s = s' ∧ r = q := by
  have p : pm (wr r) (wr q) := (sg_pm s (wr r)).symm.trans (by rw [e]; exact sg_pm s' (wr q))
  have := uniq r q hr hq p
  subst this
  exact ⟨sg_uniq (wr_det r) hs hs' e, rfl⟩
/-- the same for words as they are written -/
theorem nf_uniqW {s s' : Int} {w x : List Nat} (hs : s = 1 ∨ s = -1) (hs' : s' = 1 ∨ s' = -1) (hw : Aw w) (hx : Aw x) (e : sg s (wm .one w) = sg s' (wm .one x)) : s = s' ∧ w = x := by
  rw [← wr_rev, ← wr_rev] at e
  obtain ⟨h1, h2⟩ := nf_uniq hs hs' hw.rev hx.rev e
  exact ⟨h1, List.reverse_inj.mp h2⟩
theorem Aw.lenW {w : List Nat} {k : Nat} (h : Aw w) (l : (wm .one w).le k) : w.length + 1 ≤ 4 * k := by
  rw [← wr_rev] at l
  have := h.rev.len l
  rw [List.length_reverse] at this
  exact this
/-! ### a letter more -/
def pb (s : Int) (r : List Nat) (c : Nat) : Int × List Nat := match r with
  | [] => (s, [c])
  | d :: q => if (decide (d = 115) != decide (c = 115)) = true then (s, c :: d :: q) else if c = 115 then (-s, q) else if d = 119 then (if c = 119 then (s, 118 :: q) else (-s, q)) else (if c = 118 then (-s, 119 :: q) else (-s, q))
theorem pb_ok {s : Int} {r : List Nat} {c : Nat} (hs : s = 1 ∨ s = -1) (hr : Aw r) (hc : swv c) : ((pb s r c).1 = 1 ∨ (pb s r c).1 = -1) ∧ Aw (pb s r c).2 ∧ sg (pb s r c).1 (wr (pb s r c).2) = sg s ((wr r).mul (L c)) ∧ (pb s r c).2.length ≤ r.length + 1 := by
  have hn := sgn_neg hs
  cases r with
  | nil => exact ⟨hs, .one hc, rfl, Nat.le_refl _⟩
  | cons d q =>
    have sd := hr.1 d List.mem_cons_self
    unfold pb
    by_cases h1 : (decide (d = 115) != decide (c = 115)) = true
    · simp only [h1, if_true]
      refine ⟨hs, .cons hc hr ?_, rfl, Nat.le_refl _⟩
      by_cases z1 : d = 115 <;> by_cases z2 : c = 115 <;> simp [z1, z2] at h1 ⊢
    · simp only [h1, if_false]
      have sgq : ∀ e : M, (L d).mul (L c) = e.neg → sg (-s) ((wr q).mul e) = sg s ((wr (d :: q)).mul (L c)) := fun e he => by
        show _ = sg s (((wr q).mul (L d)).mul (L c))
        rw [M.mul_assoc, he, mul_neg, sg_sg hs, sg_neg hs]
      by_cases h2 : c = 115
      · subst h2
        have hd : d = 115 := by
          refine Decidable.byContradiction fun z => h1 ?_
          simp [z]
        subst hd
        simp only [if_true]
        refine ⟨hn, hr.tail, ?_, by simp; omega⟩
        have := sgq .one (by decide)
        rw [M.mul_one] at this
        exact this
      · have hd : ¬ d = 115 := fun z => h1 (by simp [z, h2])
        simp only [h2, if_false]
        have sd' : d = 119 ∨ d = 118 := by unfold swv at sd; omega
        have sc' : c = 119 ∨ c = 118 := by unfold swv at hc; omega
        rcases sd' with rfl | rfl <;> rcases sc' with rfl | rfl
        · simp only [if_true]
          refine ⟨hs, hr.swap (by decide) (.inr (.inr rfl)) (by decide), ?_, by simp⟩
          show sg s ((wr q).mul (L 118)) = _
          rw [wv_l]
          rfl
        · simp only [if_true]
          refine ⟨hn, hr.tail, ?_, by simp; omega⟩
          have := sgq .one (by decide)
          rw [M.mul_one] at this
          exact this
        · simp
          refine ⟨by omega, hr.tail, ?_, by omega⟩
          have := sgq .one (by decide)
          rw [M.mul_one] at this
          exact this
        · simp
          refine ⟨by omega, hr.swap (by decide) (.inr (.inl rfl)) (by decide), ?_⟩
          exact sgq (L 119) (by decide)
end Tz

/-! Words of t and l. -/
namespace Tz
open PySem PySem.Spec PyProof.Rows L2
theorem tl_str : (Str.ofString "tl").cps.toList = [116, 108] := by decide +kernel
theorem tl_mem {c : Nat} : c ∈ (Str.ofString "tl").cps.toList ↔ two c := by
  rw [tl_str]
  simp [two]
instance (c : Nat) : Decidable (two c) := by unfold two; infer_instance
theorem two.asc {w : List Nat} (h : ∀ c ∈ w, two c) : asc w := fun c hc => by rcases h c hc with rfl | rfl <;> decide
/-- words of t and l: the first letter in front -/
theorem wm_cons (c : Nat) (w : List Nat) : wm .one (c :: w) = (L c).mul (wm .one w) := by
  show wm (M.one.mul (L c)) w = _
  rw [M.one_mul, wm_one]
def nn (m : M) : Prop := 0 ≤ m.a ∧ 0 ≤ m.b ∧ 0 ≤ m.c ∧ 0 ≤ m.d
instance (m : M) : Decidable (nn m) := by unfold nn; infer_instance
theorem t_mul (m : M) : (L 116).mul m = ⟨m.a + m.c, m.b + m.d, m.c, m.d⟩ := by
  show M.mul ⟨1, 1, 0, 1⟩ m = _
  apply M.ext <;> simp only [M.mul] <;> omega
theorem l_mul (m : M) : (L 108).mul m = ⟨m.a, m.b, m.a + m.c, m.b + m.d⟩ := by
  show M.mul ⟨1, 0, 1, 1⟩ m = _
  apply M.ext <;> simp only [M.mul] <;> omega
theorem nn_wm : ∀ {w : List Nat}, (∀ c ∈ w, two c) → nn (wm .one w)
  | [], _ => by decide
  | c :: w, h => by
    have ih := nn_wm (w := w) fun d hd => h d (List.mem_cons_of_mem _ hd)
    obtain ⟨h1, h2, h3, h4⟩ := ih
    rw [wm_cons]
    rcases h c List.mem_cons_self with rfl | rfl
    · rw [t_mul]
      exact ⟨by show 0 ≤ _ + _; omega, by show 0 ≤ _ + _; omega, h3, h4⟩
    · rw [l_mul]
      exact ⟨h1, h2, by show 0 ≤ _ + _; omega, by show 0 ≤ _ + _; omega⟩
theorem row_ne {m : M} (h : m.det = 1) : ¬ (m.a = 0 ∧ m.b = 0) ∧ ¬ (m.c = 0 ∧ m.d = 0) := by
  unfold M.det at h
  constructor
  · rintro ⟨z1, z2⟩
    rw [z1, z2, Int.zero_mul, Int.zero_mul] at h
    omega
  · rintro ⟨z1, z2⟩
    rw [z1, z2, Int.mul_zero, Int.mul_zero] at h
    omega
end Tz

/-! Alternating words up to a change: round words that belong to like tables are rotations of one another. -/
namespace Tz
open PySem PySem.Spec PyProof.Rows L2
/-! ### each table has an alternating word -/
theorem nf_word : ∀ (w : List Nat), (∀ c ∈ w, swv c) → ∀ (s : Int) (r : List Nat), (s = 1 ∨ s = -1) → Aw r → ∃ s' r', (s' = 1 ∨ s' = -1) ∧ Aw r' ∧ sg s' (wr r') = sg s (wm (wr r) w)
  | [], _, s, r, hs, hr => ⟨s, r, hs, hr, rfl⟩
  | c :: w, hw, s, r, hs, hr => by
    obtain ⟨p1, p2, p3, _⟩ := pb_ok (r := r) (c := c) hs hr (hw c List.mem_cons_self)
    obtain ⟨s', r', h1, h2, h3⟩ := nf_word w (fun d hd => hw d (List.mem_cons_of_mem _ hd)) _ _ p1 p2
    refine ⟨s', r', h1, h2, ?_⟩
    rw [h3]
    show _ = sg s (wm ((wr r).mul (L c)) w)
    rw [wm_one (wr _), ← sg_mul, p3, sg_mul, ← wm_one]
def Gen (m : M) : Prop := ∃ (s : Int) (w : List Nat), (s = 1 ∨ s = -1) ∧ (∀ c ∈ w, swv c) ∧ m = sg s (wm .one w)
theorem sg_comp {s s' : Int} (h : s = 1 ∨ s = -1) (h' : s' = 1 ∨ s' = -1) (m : M) : ∃ t : Int, (t = 1 ∨ t = -1) ∧ sg s (sg s' m) = sg t m := by
  rcases h with rfl | rfl <;> rcases h' with rfl | rfl
  · exact ⟨1, .inl rfl, rfl⟩
  · exact ⟨-1, .inr rfl, rfl⟩
  · exact ⟨-1, .inr rfl, rfl⟩
  · exact ⟨1, .inl rfl, neg_neg m⟩
theorem Gen.mul {m n : M} (h : Gen m) (g : Gen n) : Gen (m.mul n) := by
  obtain ⟨s, w, hs, hw, rfl⟩ := h
  obtain ⟨t, v, ht, hv, rfl⟩ := g
  obtain ⟨u, hu, e⟩ := sg_comp hs ht (wm .one (w ++ v))
  refine ⟨u, w ++ v, hu, fun c hc => (List.mem_append.mp hc).elim (hw c) (hv c), ?_⟩
  rw [sg_mul, mul_sg, ← wm_one, ← wm_append]
  exact e
theorem Gen.one : Gen .one := ⟨1, [], .inl rfl, (fun c hc => nomatch hc), rfl⟩
theorem Gen.t (n : Nat) : Gen ⟨1, n, 0, 1⟩ := by
  induction n with
  | zero => exact Gen.one
  | succ n ih =>
    have := ih.mul (⟨-1, [115, 119], .inr rfl, by decide, rfl⟩ : Gen ⟨1, 1, 0, 1⟩)
    have e : (M.mk 1 n 0 1).mul ⟨1, 1, 0, 1⟩ = ⟨1, ((n + 1 : Nat) : Int), 0, 1⟩ := by
      apply M.ext <;> simp [M.mul]
      omega
    rw [e] at this
    exact this
theorem Gen.T (n : Nat) : Gen ⟨1, -(n : Int), 0, 1⟩ := by
  induction n with
  | zero => exact Gen.one
  | succ n ih =>
    have := ih.mul (⟨-1, [118, 115], .inr rfl, by decide, rfl⟩ : Gen ⟨1, -1, 0, 1⟩)
    have e : (M.mk 1 (-(n : Int)) 0 1).mul ⟨1, -1, 0, 1⟩ = ⟨1, -((n + 1 : Nat) : Int), 0, 1⟩ := by
      apply M.ext <;> simp [M.mul]
      omega
    rw [e] at this
    exact this
theorem Gen.sh (q : Int) : Gen ⟨1, q, 0, 1⟩ := by
  by_cases h : 0 ≤ q
  · obtain ⟨n, rfl⟩ := Int.eq_ofNat_of_zero_le h
    exact Gen.t n
  · have := Gen.T q.natAbs
    rw [show -((q.natAbs : Nat) : Int) = q by omega] at this
    exact this
theorem Gen.neg {m : M} (h : Gen m) : Gen m.neg := by
  obtain ⟨s, w, hs, hw, rfl⟩ := h
  exact ⟨-s, w, sgn_neg hs, hw, (sg_neg hs _).symm⟩
theorem unit_ad' {a d : Int} (h : a * d = 1) : (a = 1 ∧ d = 1) ∨ (a = -1 ∧ d = -1) := by
  have e : a.natAbs * d.natAbs = 1 := by rw [← Int.natAbs_mul, h]; rfl
  have ha : a.natAbs = 1 := Nat.eq_one_of_mul_eq_one_right e
  rcases Int.natAbs_eq a with z | z
  · rw [ha] at z
    have z : a = 1 := z
    subst z
    omega
  · rw [ha] at z
    have z : a = -1 := z
    subst z
    omega
theorem gen_all : ∀ (n : Nat) (m : M), m.det = 1 → m.c.natAbs = n → Gen m := by
  intro n
  induction n using Nat.strongRecOn with
  | _ n ih =>
    rintro ⟨a, b, c, d⟩ h hn
    have h : a * d - b * c = 1 := h
    have hn : c.natAbs = n := hn
    by_cases hc : c = 0
    · subst hc
      rw [Int.mul_zero, Int.sub_zero] at h
      rcases unit_ad' h with ⟨rfl, rfl⟩ | ⟨rfl, rfl⟩
      · exact Gen.sh b
      · have := (Gen.sh (-b)).neg
        have e : (M.mk 1 (-b) 0 1).neg = ⟨-1, b, 0, -1⟩ := by
          apply M.ext <;> simp [M.neg]
        rw [e] at this
        exact this
    · have e := Int.emod_add_mul_ediv a c
      have r0 := Int.emod_nonneg a hc
      have r1 : a % c < c.natAbs := by
        by_cases hp : 0 < c
        · have := Int.emod_lt_of_pos a hp
          omega
        · have := Int.emod_lt_of_pos a (show 0 < -c by omega)
          rw [Int.emod_neg] at this
          omega
      generalize a / c = q at e
      generalize a % c = r at e r0 r1
      have g := ih r.natAbs (by omega) ⟨c, d, -r, q * d - b⟩ (by
        show c * (q * d - b) - d * -r = 1
        rw [← e] at h
        grind) (by show (-r).natAbs = _; omega)
      have := ((Gen.sh q).mul (⟨1, [115], .inl rfl, by decide, rfl⟩ : Gen ⟨0, -1, 1, 0⟩)).mul g
      have e2 : ((M.mk 1 q 0 1).mul ⟨0, -1, 1, 0⟩).mul ⟨c, d, -r, q * d - b⟩ = ⟨a, b, c, d⟩ := by
        rw [← e]
        apply M.ext <;> simp only [M.mul] <;> grind
      rw [e2] at this
      exact this
theorem ex_nf {m : M} (h : m.det = 1) : ∃ (s : Int) (r : List Nat), (s = 1 ∨ s = -1) ∧ Aw r ∧ sg s (wr r) = m := by
  obtain ⟨s, w, hs, hw, rfl⟩ := gen_all _ m h rfl
  obtain ⟨s', r', h1, h2, h3⟩ := nf_word w hw s [] hs Aw.nil
  exact ⟨s', r', h1, h2, h3⟩
/-! ### ends -/
def hk (w : List Nat) : Option Bool := w.head?.map fun c => decide (c = 115)
def lk (w : List Nat) : Option Bool := hk w.reverse
theorem aw_app {a b : List Nat} (ha : Aw a) (hb : Aw b) (h : ∀ x y, lk a = some x → hk b = some y → x ≠ y) : Aw (a ++ b) := by
  induction a with
  | nil => exact hb
  | cons c a ih =>
    have ih := ih ha.tail (fun x y hx hy => h x y (by
      cases a with
      | nil => cases hx
      | cons d a =>
        unfold lk hk at hx ⊢
        rw [List.reverse_cons, List.head?_append]
        cases hr : (d :: a).reverse with
        | nil => simp at hr
        | cons e q =>
          rw [hr] at hx
          exact hx) hy)
    cases a with
    | nil =>
      cases b with
      | nil => exact ha
      | cons d b =>
        have := h (decide (c = 115)) (decide (d = 115)) rfl rfl
        refine Aw.cons (ha.1 c List.mem_cons_self) hb ?_
        by_cases z1 : c = 115 <;> by_cases z2 : d = 115 <;> simp [z1, z2] at this ⊢
    | cons d a => exact Aw.cons (ha.1 c List.mem_cons_self) ih ha.head
theorem aw_left {a b : List Nat} (h : Aw (a ++ b)) : Aw a := by
  induction a with
  | nil => exact Aw.nil
  | cons c a ih =>
    have t : Aw (a ++ b) := h.tail
    cases a with
    | nil => exact .one (h.1 c List.mem_cons_self)
    | cons d a => exact Aw.cons (h.1 c List.mem_cons_self) (ih t) h.head
theorem aw_right {a b : List Nat} (h : Aw (a ++ b)) : Aw b := by
  induction a with
  | nil => exact h
  | cons c a ih => exact ih h.tail
theorem lk_snoc (a : List Nat) (c : Nat) : lk (a ++ [c]) = some (decide (c = 115)) := by
  unfold lk hk
  rw [List.reverse_append]
  rfl
theorem hk_cons (c : Nat) (a : List Nat) : hk (c :: a) = some (decide (c = 115)) := rfl
theorem lk_app {a b : List Nat} (h : b ≠ []) : lk (a ++ b) = lk b := by
  unfold lk hk
  rw [List.reverse_append, List.head?_append]
  cases hr : b.reverse with
  | nil =>
    have := congrArg List.reverse hr
    rw [List.reverse_reverse] at this
    exact (h this).elim
  | cons c q => rfl
theorem hk_app {a b : List Nat} (h : a ≠ []) : hk (a ++ b) = hk a := by
  cases a with
  | nil => exact (h rfl).elim
  | cons c a => rfl
theorem mid_ne {a b : List Nat} {c d : Nat} (h : Aw (a ++ [c] ++ (d :: b))) : ¬ decide (c = 115) = decide (d = 115) := by
  have := aw_right (a := a) (b := c :: d :: b) (by simpa using h)
  have := this.head
  by_cases z1 : c = 115 <;> by_cases z2 : d = 115 <;> simp [z1, z2] at this ⊢
/-- round: one letter at most, or ends of two kinds -/
def Cyc (w : List Nat) : Prop := w.length ≤ 1 ∨ hk w ≠ lk w
/-- the letter of the inverse -/
def iv (c : Nat) : Nat := if c = 119 then 118 else if c = 118 then 119 else c
theorem iv_swv {c : Nat} (h : swv c) : swv (iv c) := by
  rcases h with rfl | rfl | rfl <;> decide
theorem iv_s {c : Nat} : decide (iv c = 115) = decide (c = 115) := by
  unfold iv
  by_cases h1 : c = 119
  · rw [if_pos h1, h1]; rfl
  · rw [if_neg h1]
    by_cases h2 : c = 118
    · rw [if_pos h2, h2]; rfl
    · rw [if_neg h2]
theorem aw_iv {w : List Nat} (h : Aw w) : Aw (w.map iv) := by
  induction w with
  | nil => exact Aw.nil
  | cons c w ih =>
    have ih := ih h.tail
    have hc := iv_swv (h.1 c List.mem_cons_self)
    cases w with
    | nil => exact .one hc
    | cons d w =>
      refine Aw.cons hc ih ?_
      have e1 := iv_s (c := c)
      have e2 := iv_s (c := d)
      rw [decide_eq_decide] at e1 e2
      rw [e1, e2]
      exact h.head
theorem hk_iv (w : List Nat) : hk (w.map iv) = hk w := by
  cases w with
  | nil => rfl
  | cons c w =>
    show some (decide (iv c = 115)) = some (decide (c = 115))
    rw [iv_s]
theorem lk_iv (w : List Nat) : lk (w.map iv) = lk w := by
  unfold lk
  rw [← List.map_reverse, hk_iv]
theorem L_iv {c : Nat} (h : swv c) : pm (L (iv c)) (L c).inv := by
  rcases h with rfl | rfl | rfl
  · exact .inr (by decide)
  · exact .inr (by decide)
  · exact .inr (by decide)
theorem pm_mul_l {m n k : M} (h : pm m n) : pm (k.mul m) (k.mul n) := by
  rcases h with rfl | rfl
  · exact .inl rfl
  · exact .inr (mul_neg _ _)
/-- the inverse of a table by the inverse word: r read from the end, its letters inverted -/
theorem wm_iv : ∀ {r : List Nat}, (∀ c ∈ r, swv c) → pm (wm .one (r.map iv)) (wr r).inv
  | [], _ => .inl (by decide)
  | c :: r, h => by
    have ih := wm_iv (r := r) fun d hd => h d (List.mem_cons_of_mem _ hd)
    show pm (wm (M.one.mul (L (iv c))) (r.map iv)) ((wr r).mul (L c)).inv
    rw [M.one_mul, wm_one, M.inv_mul_rev]
    exact ((L_iv (h c List.mem_cons_self)).mul _).trans (pm_mul_l ih)
theorem pm_inv {m n : M} (h : pm m n) : pm m.inv n.inv := by
  rcases h with rfl | rfl
  · exact .inl rfl
  · exact .inr rfl
/-- conjugates -/
def cj (d m : M) : M := (d.mul m).mul d.inv
theorem cj_mul (d e m : M) : cj (d.mul e) m = cj d (cj e m) := by
  unfold cj
  rw [M.inv_mul_rev]
  simp only [M.mul_assoc]
theorem cj_neg (d m : M) : cj d.neg m = cj d m := by
  unfold cj
  have : d.neg.inv = d.inv.neg := by apply M.ext <;> simp [M.neg, M.inv]
  rw [this, neg_mul, neg_mul, mul_neg, neg_neg]
theorem cj_pm {d e m : M} (h : pm d e) : cj d m = cj e m := by
  rcases h with rfl | rfl
  · rfl
  · exact cj_neg e m
theorem cj_one (m : M) : cj .one m = m := by
  unfold cj
  rw [M.one_mul]
  exact M.mul_one m
theorem cj_sg (d m : M) (s : Int) : cj d (sg s m) = sg s (cj d m) := by
  unfold cj
  rw [mul_sg, sg_mul]
theorem cj_det {d m : M} (hd : d.det = 1) (hm : m.det = 1) : (cj d m).det = 1 := by
  unfold cj
  rw [M.det_mul, M.det_mul, M.det_inv, hd, hm]
  rfl
theorem cj_inv {d m : M} (hd : d.det = 1) : cj d.inv (cj d m) = m := by
  rw [← cj_mul, M.inv_mul d hd, cj_one]
theorem cj_tr {d m : M} (hd : d.det = 1) : (cj d m).a + (cj d m).d = m.a + m.d := by
  unfold M.det at hd
  simp only [cj, M.mul, M.inv]
  grind
/-- a rotation by a letter: N(c w) and N(w c) -/
theorem rot_l (c : Nat) (w : List Nat) : cj (L c).inv (wm .one (c :: w)) = wm .one (w ++ [c]) := by
  unfold cj
  rw [wm_append]
  show ((L c).inv.mul (wm (M.one.mul (L c)) w)).mul (L c).inv.inv = (wm .one w).mul (L c)
  rw [M.one_mul, wm_one, ← M.mul_assoc, M.inv_mul _ (L_det c), M.one_mul, inv_inv]
theorem rot_r (c : Nat) (w : List Nat) : cj (L c) (wm .one (w ++ [c])) = wm .one (c :: w) := by
  rw [← rot_l, ← cj_mul, M.mul_inv _ (L_det c), cj_one]
/-- rotations -/
def Rot (z z' : List Nat) : Prop := ∃ a b, z = a ++ b ∧ z' = b ++ a
theorem Rot.refl (z : List Nat) : Rot z z := ⟨[], z, rfl, (List.append_nil z).symm⟩
theorem Rot.symm {z z' : List Nat} (h : Rot z z') : Rot z' z := by
  obtain ⟨a, b, rfl, rfl⟩ := h
  exact ⟨b, a, rfl, rfl⟩
theorem rot_cons {c : Nat} {w z : List Nat} (h : Rot (w ++ [c]) z) : Rot (c :: w) z := by
  obtain ⟨a, b, e, rfl⟩ := h
  rcases List.eq_nil_or_concat b with rfl | ⟨b', d, rfl⟩
  · rw [List.append_nil] at e
    subst e
    rw [List.nil_append]
    exact ⟨[c], w, rfl, rfl⟩
  · rw [List.concat_eq_append] at e ⊢
    rw [← List.append_assoc] at e
    obtain ⟨e1, e2⟩ := List.append_inj' e rfl
    cases e2
    subst e1
    exact ⟨c :: a, b', rfl, by simp⟩
theorem rot_snoc {c : Nat} {w z : List Nat} (h : Rot (c :: w) z) : Rot (w ++ [c]) z := by
  obtain ⟨a, b, e, rfl⟩ := h
  cases a with
  | nil =>
    rw [List.nil_append] at e
    subst e
    exact ⟨w, [c], rfl, by simp⟩
  | cons d a =>
    cases e
    exact ⟨a, b ++ [c], by simp, by simp⟩
theorem cyc_rot {c : Nat} {w : List Nat} (hw : Aw (c :: w)) (h : Cyc (c :: w)) : Aw (w ++ [c]) ∧ Cyc (w ++ [c]) := by
  rcases List.eq_nil_or_concat w with rfl | ⟨w', d, rfl⟩
  · exact ⟨hw, h⟩
  · rw [List.concat_eq_append] at h hw ⊢
    rcases h with h | h
    · simp at h
    · have e1 : lk (c :: (w' ++ [d])) = some (decide (d = 115)) := lk_snoc (c :: w') d
      rw [hk_cons, e1] at h
      have hcd : decide (d = 115) ≠ decide (c = 115) := fun z => h (by rw [z])
      constructor
      · refine aw_app hw.tail (.one (hw.1 c List.mem_cons_self)) fun x y hx hy => ?_
        rw [lk_snoc] at hx
        cases hx
        cases hy
        exact hcd
      · right
        rw [lk_snoc]
        cases w' with
        | nil =>
          show some (decide (d = 115)) ≠ _
          exact fun z => hcd (Option.some.inj z)
        | cons e w' =>
          show some (decide (e = 115)) ≠ _
          have := hw.head
          intro z
          have z := Option.some.inj z
          rw [decide_eq_decide] at z
          omega
theorem cyc_rot' {c : Nat} {w : List Nat} (hw : Aw (w ++ [c])) (h : Cyc (w ++ [c])) : Aw (c :: w) ∧ Cyc (c :: w) := by
  cases w with
  | nil => exact ⟨hw, h⟩
  | cons d w =>
    rcases h with h | h
    · simp at h
    · rw [lk_snoc] at h
      have h : some (decide (d = 115)) ≠ some (decide (c = 115)) := h
      have hcd : decide (d = 115) ≠ decide (c = 115) := fun z => h (by rw [z])
      have hc : swv c := hw.1 c (List.mem_append_right _ (List.mem_singleton.mpr rfl))
      refine ⟨Aw.cons hc (aw_left hw) (by rw [ne_eq, decide_eq_decide] at hcd; omega), .inr ?_⟩
      rw [hk_cons]
      have e1 : lk (c :: d :: w) = lk (d :: w) := lk_app (a := [c]) (by simp)
      rw [e1]
      rcases List.eq_nil_or_concat (d :: w) with z | ⟨w', e, z⟩
      · cases z
      · rw [List.concat_eq_append] at z
        rw [z, lk_snoc]
        rw [z] at hw
        have := mid_ne (a := w') (b := []) (c := e) (d := c) (by simpa using hw)
        exact fun q => this (Option.some.inj q).symm
/-- where nothing cancels, the ends are alike -/
theorem no_cyc {x z : List Nat} {m : M} (hx : Aw x) (hz : Aw z) (h2 : 2 ≤ x.length) (he : hk x = lk x) (cz : Cyc z) (e : pm (wm .one x) (wm .one z)) : False := by
  rw [← wr_rev, ← wr_rev] at e
  have := uniq _ _ hx.rev hz.rev e
  have := List.reverse_inj.mp this
  subst this
  rcases cz with h | h
  · omega
  · exact h he
theorem merge {c d : Nat} (hc : swv c) (hd : swv d) (k : decide (c = 115) = decide (d = 115)) : pm ((L c).mul (L d)) .one ∨ ∃ e, swv e ∧ ¬ e = 115 ∧ ¬ c = 115 ∧ pm ((L c).mul (L d)) (L e) := by
  rcases hc with rfl | rfl | rfl <;> rcases hd with rfl | rfl | rfl
  · exact .inl (.inr (by decide))
  · exact absurd k (by decide)
  · exact absurd k (by decide)
  · exact absurd k (by decide)
  · exact .inr ⟨118, .inr (.inr rfl), by decide, by decide, .inl (by decide)⟩
  · exact .inl (.inr (by decide))
  · exact absurd k (by decide)
  · exact .inl (.inr (by decide))
  · exact .inr ⟨119, .inr (.inl rfl), by decide, by decide, .inr (by decide)⟩
theorem pm_refl (m : M) : pm m m := .inl rfl
/-- N(y) N(z) N(y)^-1 as a word -/
theorem cj_word {r z : List Nat} (hr : ∀ c ∈ r, swv c) : pm (cj (wr r) (wm .one z)) (wm .one (r.reverse ++ z ++ r.map iv)) := by
  have e1 : wm .one (r.reverse ++ z ++ r.map iv) = ((wr r).mul (wm .one z)).mul (wm .one (r.map iv)) := by
    rw [wm_append, wm_append, wm_one (wm (wm .one r.reverse) z), wm_one (wm .one r.reverse) z, ← wr_rev r.reverse, List.reverse_reverse]
  rw [e1]
  unfold cj
  exact pm_mul_l (wm_iv hr).symm
theorem pm_sg {s s' : Int} {m n : M} (e : sg s m = sg s' n) : pm m n := (sg_pm s m).symm.trans (by rw [e]; exact sg_pm s' n)
theorem hk_rev (r : List Nat) : hk r.reverse = lk r := rfl
theorem lk_rev (r : List Nat) : lk r.reverse = hk r := by unfold lk; rw [List.reverse_reverse]
theorem eq_letter {c d : Nat} (hc : swv c) (hd : swv d) (h : pm ((L c).mul (L d).inv) .one) : c = d := by
  rcases hc with rfl | rfl | rfl <;> rcases hd with rfl | rfl | rfl <;> first | rfl | (exfalso; rcases h with h | h <;> revert h <;> decide)
/-- like round words: a rotation -/
theorem conj_cyc : ∀ (r z z' : List Nat) (s s' : Int), Aw r → Aw z → Aw z' → Cyc z → Cyc z' → (s = 1 ∨ s = -1) → (s' = 1 ∨ s' = -1) → cj (wr r) (sg s (wm .one z)) = sg s' (wm .one z') → s = s' ∧ Rot z z'
  | [], z, z', s, s', _, hz, hz', _, _, hs, hs', e => by
    have e : cj .one _ = _ := e
    rw [cj_one] at e
    obtain ⟨h1, h2⟩ := nf_uniqW hs hs' hz hz' e
    subst h2
    exact ⟨h1, Rot.refl z⟩
  | d :: r, [], z', s, s', hr, hz, hz', cz, cz', hs, hs', e => by
    have e0 : cj (wr (d :: r)) (sg s (wm .one [])) = sg s (wm .one []) := by
      rw [cj_sg]
      congr 1
      show cj _ .one = .one
      unfold cj
      rw [M.mul_one, M.mul_inv _ (wr_det _)]
    rw [e0] at e
    obtain ⟨h1, h2⟩ := nf_uniqW hs hs' hz hz' e
    subst h2
    exact ⟨h1, Rot.refl []⟩
  | d :: r, [c], z', s, s', hr, hz, hz', cz, cz', hs, hs', e => by
    have sd := hr.1 d List.mem_cons_self
    have sc := hz.1 c List.mem_cons_self
    by_cases k : decide (c = 115) = decide (d = 115)
    · have comm : cj (L d) (wm .one [c]) = wm .one [c] := by
        show cj (L d) (M.one.mul (L c)) = M.one.mul (L c)
        rw [M.one_mul]
        rcases sd with rfl | rfl | rfl <;> rcases sc with rfl | rfl | rfl <;> first | decide | exact absurd k (by decide)
      refine conj_cyc r [c] z' s s' hr.tail hz hz' cz cz' hs hs' ?_
      have e : cj ((wr r).mul (L d)) _ = _ := e
      rw [cj_mul, cj_sg, comm] at e
      exact e
    · exfalso
      refine no_cyc (m := .one) (x := (d :: r).reverse ++ [c] ++ (d :: r).map iv) ?_ hz' (by simp; omega) ?_ cz' ((cj_word hr.1).symm.trans ?_)
      · refine aw_app (aw_app hr.rev hz fun x y hx hy => ?_) (aw_iv hr) fun x y hx hy => ?_
        · rw [lk_rev, hk_cons] at hx
          cases hx
          cases hy
          exact fun q => k q.symm
        · rw [lk_snoc] at hx
          rw [hk_iv, hk_cons] at hy
          cases hx
          cases hy
          exact k
      · rw [hk_app (by simp), hk_app (by simp), hk_rev, lk_app (by simp), lk_iv]
      · rw [cj_sg] at e
        exact pm_sg e
  | d :: r, c :: c2 :: z, z', s, s', hr, hz, hz', cz, cz', hs, hs', e => by
    have sd := hr.1 d List.mem_cons_self
    have sc := hz.1 c List.mem_cons_self
    have e' : cj ((wr r).mul (L d)) (sg s (wm .one (c :: c2 :: z))) = sg s' (wm .one z') := e
    have ep : pm (cj (wr (d :: r)) (wm .one (c :: c2 :: z))) (wm .one z') := by
      rw [cj_sg] at e
      exact pm_sg e
    rw [cj_mul] at e'
    have hcy : hk (c :: c2 :: z) ≠ lk (c :: c2 :: z) := by
      rcases cz with q | q
      · simp at q
      · exact q
    obtain ⟨z0, cn, ez⟩ : ∃ z0 cn, c2 :: z = z0 ++ [cn] := by
      rcases List.eq_nil_or_concat (c2 :: z) with q | ⟨z0, cn, q⟩
      · cases q
      · exact ⟨z0, cn, by rw [q, List.concat_eq_append]⟩
    have scn : swv cn := hz.1 cn (by rw [ez]; simp)
    rw [hk_cons, ez] at hcy
    have lkc : lk (c :: (z0 ++ [cn])) = some (decide (cn = 115)) := lk_snoc (c :: z0) cn
    rw [lkc] at hcy
    have kcn : ¬ decide (c = 115) = decide (cn = 115) := fun q => hcy (by rw [q])
    by_cases k : decide (c = 115) = decide (d = 115)
    · -- the letter meets the first one
      rcases merge sd sc k.symm with m1 | ⟨x, sx, xs, ds, mx⟩
      · -- it takes it away
        have ed : pm (L d) (L c).inv := by
          have := m1.mul (L c).inv
          rw [M.mul_assoc, M.mul_inv _ (L_det c), M.mul_one, M.one_mul] at this
          exact this
        rw [cj_sg, cj_pm ed, rot_l] at e'
        obtain ⟨a1, a2⟩ := cyc_rot hz cz
        obtain ⟨h1, h2⟩ := conj_cyc r _ z' s s' hr.tail a1 hz' a2 cz' hs hs' e'
        exact ⟨h1, rot_cons h2⟩
      · exfalso
        have cs : ¬ c = 115 := fun q => ds (by rw [q] at k; exact of_decide_eq_true k.symm)
        have ax : Aw (x :: c2 :: z) := hz.swap cs sx xs
        refine no_cyc (m := .one) (x := r.reverse ++ (x :: c2 :: z) ++ (d :: r).map iv) ?_ hz' (by simp; omega) ?_ cz' (pm.trans ?_ ep)
        · refine aw_app (aw_app hr.tail.rev ax fun a b ha hb => ?_) (aw_iv hr) fun a b ha hb => ?_
          · rw [lk_rev] at ha
            cases hb
            cases r with
            | nil => cases ha
            | cons d2 r =>
              cases ha
              have := hr.head
              have h2 : d2 = 115 := by omega
              show decide (d2 = 115) ≠ decide (x = 115)
              rw [h2, decide_eq_false xs]
              decide
          · rw [lk_app (by simp), show x :: c2 :: z = [x] ++ (c2 :: z) from rfl, lk_app (by simp), ez, lk_snoc] at ha
            rw [hk_iv, hk_cons] at hb
            cases ha
            cases hb
            rw [← k]
            exact fun q => kcn q.symm
        · rw [lk_app (by simp), lk_iv]
          cases r with
          | nil =>
            show some (decide (x = 115)) = some (decide (d = 115))
            rw [decide_eq_false xs, decide_eq_false ds]
          | cons d2 r =>
            rw [hk_app (by simp), hk_app (by simp), hk_rev]
            exact (lk_app (a := [d]) (by simp)).symm
        · refine pm.trans ?_ (cj_word (z := c :: c2 :: z) hr.1).symm
          rw [wm_append, wm_append, wm_append, wm_append, List.reverse_cons, wm_append]
          show pm (wm (wm ((wm .one r.reverse).mul (L x)) (c2 :: z)) _) (wm (wm (((wm .one r.reverse).mul (L d)).mul (L c)) (c2 :: z)) _)
          rw [wm_one (wm ((wm .one r.reverse).mul (L x)) (c2 :: z)) ((d :: r).map iv), wm_one ((wm .one r.reverse).mul (L x)) (c2 :: z), wm_one (wm (((wm .one r.reverse).mul (L d)).mul (L c)) (c2 :: z)) ((d :: r).map iv), wm_one (((wm .one r.reverse).mul (L d)).mul (L c)) (c2 :: z), M.mul_assoc (wm .one r.reverse) (L d)]
          exact ((pm_mul_l mx.symm).mul _).mul _
    · -- it meets the last one
      have kd : decide (cn = 115) = decide (d = 115) := by
        revert k kcn
        cases decide (c = 115) <;> cases decide (d = 115) <;> cases decide (cn = 115) <;> decide
      have kiv : decide (cn = 115) = decide (iv d = 115) := by rw [iv_s]; exact kd
      rcases merge scn (iv_swv sd) kiv with m1 | ⟨x, sx, xs, cns, mx⟩
      · have ed : cn = d := eq_letter scn sd (by
          refine pm.trans (pm_mul_l (L_iv sd).symm) m1)
        subst ed
        have hz1 : Aw ((c :: z0) ++ [cn]) := by
          have := hz
          rw [ez] at this
          exact this
        have cz1 : Cyc ((c :: z0) ++ [cn]) := by
          have := cz
          rw [ez] at this
          exact this
        rw [cj_sg, ez, show c :: (z0 ++ [cn]) = (c :: z0) ++ [cn] from rfl, rot_r] at e'
        obtain ⟨a1, a2⟩ := cyc_rot' hz1 cz1
        obtain ⟨h1, h2⟩ := conj_cyc r _ z' s s' hr.tail a1 hz' a2 cz' hs hs' e'
        refine ⟨h1, ?_⟩
        rw [ez]
        exact rot_snoc h2
      · exfalso
        have hz1 : Aw ((c :: z0) ++ [cn]) := by
          have := hz
          rw [ez] at this
          exact this
        have ds : ¬ d = 115 := fun q => cns (by rw [q] at kd; exact of_decide_eq_true kd)
        have ax : Aw ((c :: z0) ++ [x]) := by
          refine aw_app (aw_left hz1) (.one sx) fun a b ha hb => ?_
          cases hb
          rcases List.eq_nil_or_concat (c :: z0) with q | ⟨u, y, q⟩
          · cases q
          · rw [List.concat_eq_append] at q
            rw [q, lk_snoc] at ha
            cases ha
            rw [q] at hz1
            have := mid_ne (a := u) (b := []) (c := y) (d := cn) (by simpa using hz1)
            show decide (y = 115) ≠ decide (x = 115)
            rw [decide_eq_false xs, ← decide_eq_false cns]
            exact this
        refine no_cyc (m := .one) (x := (d :: r).reverse ++ ((c :: z0) ++ [x]) ++ r.map iv) ?_ hz' (by simp; omega) ?_ cz' (pm.trans ?_ ep)
        · refine aw_app (aw_app hr.rev ax fun a b ha hb => ?_) (aw_iv hr.tail) fun a b ha hb => ?_
          · rw [lk_rev, hk_cons] at ha
            cases ha
            cases hb
            exact fun q => k q.symm
          · rw [lk_app (by simp), lk_snoc] at ha
            rw [hk_iv] at hb
            cases ha
            cases r with
            | nil => cases hb
            | cons d2 r =>
              cases hb
              have := hr.head
              have h2 : d2 = 115 := by omega
              rw [h2, decide_eq_false xs]
              decide
        · rw [hk_app (by simp), hk_app (by simp), hk_rev]
          cases r with
          | nil =>
            rw [List.map_nil, List.append_nil, lk_app (by simp), lk_snoc]
            show some (decide (d = 115)) = _
            rw [decide_eq_false xs, decide_eq_false ds]
          | cons d2 r =>
            rw [lk_app (by simp), lk_iv]
            exact lk_app (a := [d]) (by simp)
        · refine pm.trans ?_ (cj_word (z := c :: c2 :: z) hr.1).symm
          rw [ez, show c :: (z0 ++ [cn]) = (c :: z0) ++ [cn] from rfl, List.map_cons, show iv d :: r.map iv = [iv d] ++ r.map iv from rfl]
          simp only [wm_append]
          show pm (wm ((wm (wm .one (d :: r).reverse) (c :: z0)).mul (L x)) (r.map iv)) (wm (((wm (wm .one (d :: r).reverse) (c :: z0)).mul (L cn)).mul (L (iv d))) (r.map iv))
          rw [wm_one _ (r.map iv), wm_one (((wm (wm .one (d :: r).reverse) (c :: z0)).mul (L cn)).mul (L (iv d))) (r.map iv), M.mul_assoc _ (L cn)]
          exact (pm_mul_l mx.symm).mul _
/-! ### the least rotation -/
def Minr (z : List Nat) : Prop := ∀ z', Rot z z' → ¬ z' < z
theorem minr_uniq {z z' : List Nat} (h : Minr z) (h' : Minr z') (r : Rot z z') : z = z' := by
  have h1 := h z' r
  have h2 := h' z r.symm
  exact List.le_antisymm (List.not_lt.mp h1) (List.not_lt.mp h2)
theorem Rot.trans {x y z : List Nat} (h : Rot x y) (g : Rot y z) : Rot x z := by
  obtain ⟨a, b, rfl, rfl⟩ := h
  obtain ⟨c, d, e, rfl⟩ := g
  rcases List.append_eq_append_iff.mp e with ⟨u, rfl, rfl⟩ | ⟨u, rfl, rfl⟩
  · exact ⟨u, d ++ b, by simp, by simp⟩
  · exact ⟨a ++ c, u, by simp, by simp⟩
theorem cyc_rotn : ∀ (u v : List Nat), Aw (u ++ v) → Cyc (u ++ v) → Aw (v ++ u) ∧ Cyc (v ++ u)
  | [], v, h, c => by rw [List.append_nil]; exact ⟨h, c⟩
  | x :: u, v, h, c => by
    obtain ⟨h1, h2⟩ := cyc_rot (c := x) (w := u ++ v) h c
    rw [List.append_assoc] at h1 h2
    have := cyc_rotn u (v ++ [x]) h1 h2
    rw [List.append_assoc] at this
    exact this
theorem cj_take (u v : List Nat) : cj (wm .one u).inv (wm .one (u ++ v)) = wm .one (v ++ u) := by
  unfold cj
  rw [wm_append, wm_append, wm_one (wm .one u) v, wm_one (wm .one v) u, ← M.mul_assoc, M.inv_mul _ (wm_det (by decide) u), M.one_mul, inv_inv]
/-- a round word with more than one letter has an even number of them -/
theorem kinds : ∀ (w : List Nat) (c : Nat), Aw (c :: w) → (lk (c :: w) = hk (c :: w) ↔ (c :: w).length % 2 = 1)
  | [], c, _ => by simp [lk, hk]
  | d :: w, c, h => by
    have ih := kinds w d h.tail
    have e1 : lk (c :: d :: w) = lk (d :: w) := lk_app (a := [c]) (by simp)
    rw [e1]
    have hcd := h.head
    rw [hk_cons] at ih ⊢
    rw [List.length_cons]
    obtain ⟨y, hy⟩ : ∃ y, lk (d :: w) = some y := by
      rcases List.eq_nil_or_concat (d :: w) with q | ⟨u, x, q⟩
      · cases q
      · rw [List.concat_eq_append] at q
        exact ⟨_, by rw [q, lk_snoc]⟩
    rw [hy] at ih ⊢
    have k : decide (c = 115) = !decide (d = 115) := by
      by_cases z1 : c = 115 <;> by_cases z2 : d = 115 <;> simp [z1, z2] at hcd ⊢
    rw [k]
    have ih' : y = decide (d = 115) ↔ (d :: w).length % 2 = 1 := by
      rw [← ih]
      simp
    constructor
    · intro z
      have z : y = !decide (d = 115) := Option.some.inj z
      have hy' : ¬ y = decide (d = 115) := by rw [z]; cases decide (d = 115) <;> decide
      have hl : ¬ (d :: w).length % 2 = 1 := fun q => hy' (ih'.mpr q)
      omega
    · intro z
      have : ¬ y = decide (d = 115) := fun q => by
        have := ih'.mp q
        omega
      congr 1
      revert this
      cases y <;> cases decide (d = 115) <;> decide
theorem cyc_even {w : List Nat} (h : Aw w) (c : Cyc w) : w.length ≤ 1 ∨ w.length % 2 = 0 := by
  rcases c with c | c
  · exact .inl c
  · right
    cases w with
    | nil => rfl
    | cons x w =>
      have := kinds w x h
      have hne : ¬ (x :: w).length % 2 = 1 := fun q => c (this.mpr q).symm
      omega
/-- rotations by their place -/
def rt (x : List Nat) (i : Nat) : List Nat := x.drop i ++ x.take i
theorem rt_rot (x : List Nat) (i : Nat) : Rot x (rt x i) := ⟨x.take i, x.drop i, (List.take_append_drop i x).symm, rfl⟩
theorem rot_rt {x z : List Nat} (h : Rot x z) : ∃ i, i ≤ x.length ∧ z = rt x i := by
  obtain ⟨a, b, rfl, rfl⟩ := h
  exact ⟨a.length, by simp, by unfold rt; simp⟩
theorem rt_len (x : List Nat) : rt x x.length = rt x 0 := by unfold rt; simp
theorem rt_zero (x : List Nat) : rt x 0 = x := by unfold rt; simp
theorem minr_of {x b : List Nat} (hr : Rot x b) (h : ∀ i, i < max 1 x.length → ¬ rt x i < b) : Minr b := fun z hz => by
  obtain ⟨i, hi, rfl⟩ := rot_rt (hr.trans hz)
  by_cases hl : i < max 1 x.length
  · exact h i hl
  · have : i = x.length := by omega
    rw [this, rt_len]
    exact h 0 (by omega)
/-- sign and round word of a table -/
structure Rd (m : M) (s : Int) (b : List Nat) : Prop where
  sign : s = 1 ∨ s = -1
  aw : Aw b
  cyc : Cyc b
  min : Minr b
  ex : ∃ C : M, C.det = 1 ∧ cj C m = sg s (wm .one b)
theorem rd_uniq {m m' D : M} {s s' : Int} {b b' : List Nat} (h : Rd m s b) (h' : Rd m' s' b') (hD : D.det = 1) (e : cj D m = m') : s = s' ∧ b = b' := by
  obtain ⟨C, c1, c2⟩ := h.ex
  obtain ⟨C', d1, d2⟩ := h'.ex
  have hd : ((C'.mul D).mul C.inv).det = 1 := by rw [M.det_mul, M.det_mul, M.det_inv, c1, d1, hD]; rfl
  obtain ⟨t, r, ht, hr, er⟩ := ex_nf hd
  have key : cj (wr r) (sg s (wm .one b)) = sg s' (wm .one b') := by
    have p : pm (wr r) ((C'.mul D).mul C.inv) := by
      rw [← er]
      exact (sg_pm t (wr r)).symm
    rw [cj_pm p, ← c2, cj_mul, cj_mul, cj_inv c1, e, d2]
  obtain ⟨h1, h2⟩ := conj_cyc r b b' s s' hr h.aw h'.aw h.cyc h'.cyc h.sign h'.sign key
  exact ⟨h1, minr_uniq h.min h'.min h2⟩
theorem Rd.neg {m : M} {s : Int} {b : List Nat} (h : Rd m s b) : Rd m.neg (-s) b := by
  refine ⟨sgn_neg h.sign, h.aw, h.cyc, h.min, ?_⟩
  obtain ⟨C, c1, c2⟩ := h.ex
  refine ⟨C, c1, ?_⟩
  rw [sg_neg h.sign, ← c2]
  unfold cj
  rw [mul_neg, neg_mul]
end Tz

/-! Powers of words: periods, and roots of tables. -/
namespace Tz
open PySem PySem.Spec PyProof.Rows L2
/-! ### periods -/
def PerS (f : Nat → Nat) (p : Nat) : Prop := ∀ i, f (i + p) = f i
theorem PerS.mul {f : Nat → Nat} {p : Nat} (h : PerS f p) (k : Nat) : ∀ i, f (i + p * k) = f i := by
  induction k with
  | zero => intro i; rfl
  | succ k ih =>
    intro i
    rw [Nat.mul_succ, ← Nat.add_assoc, h, ih]
theorem PerS.sub {f : Nat → Nat} {p q : Nat} (h : PerS f p) (g : PerS f q) (hpq : q ≤ p) : PerS f (p - q) := fun i => by
  have := g (i + (p - q))
  rw [show i + (p - q) + q = i + p by omega, h] at this
  exact this.symm
theorem PerS.mod {f : Nat → Nat} {p q : Nat} (h : PerS f p) (g : PerS f q) : PerS f (p % q) := fun i => by
  have := g.mul (p / q) (i + p % q)
  rw [Nat.add_assoc, Nat.add_comm (p % q), Nat.div_add_mod, h] at this
  exact this.symm
theorem PerS.gcd : ∀ (q p : Nat) {f : Nat → Nat}, PerS f p → PerS f q → PerS f (Nat.gcd p q) := by
  intro q
  induction q using Nat.strongRecOn with
  | _ q ih =>
    intro p f hp hq
    by_cases h : q = 0
    · rw [h, Nat.gcd_zero_right]
      exact hp
    · have := ih (p % q) (Nat.mod_lt _ (by omega)) q hq (hp.mod hq)
      rw [Nat.gcd_comm p q, Nat.gcd_rec q p, Nat.gcd_comm]
      exact this
/-- the letters again and again -/
def Fw (w : List Nat) (i : Nat) : Nat := w.getD (i % w.length) 0
theorem Fw_per (w : List Nat) : PerS (Fw w) w.length := fun i => by
  unfold Fw
  rw [Nat.add_mod_right]
theorem getD_app_l {a b : List Nat} {i : Nat} (h : i < a.length) : (a ++ b).getD i 0 = a.getD i 0 := by
  rw [List.getD_eq_getElem?_getD, List.getD_eq_getElem?_getD, List.getElem?_append_left h]
theorem getD_app_r {a b : List Nat} {i : Nat} (h : a.length ≤ i) : (a ++ b).getD i 0 = b.getD (i - a.length) 0 := by
  rw [List.getD_eq_getElem?_getD, List.getD_eq_getElem?_getD, List.getElem?_append_right h]
theorem rep_getD (u : List Nat) : ∀ (k j : Nat), j < u.length * k → (rep u k).getD j 0 = u.getD (j % u.length) 0
  | 0, j, h => by omega
  | k + 1, j, h => by
    rw [rep_succ]
    by_cases hj : j < u.length
    · rw [getD_app_l hj, Nat.mod_eq_of_lt hj]
    · rw [getD_app_r (by omega), rep_getD u k (j - u.length) (by rw [Nat.mul_succ] at h; omega)]
      congr 1
      rw [Nat.mod_eq_sub_mod (a := j) (by omega)]
theorem Fw_rep (u : List Nat) {k : Nat} (hk : 0 < k) (hu : 0 < u.length) : Fw (rep u k) = Fw u := by
  funext i
  unfold Fw
  rw [rep_len, rep_getD u k _ (Nat.mod_lt _ (Nat.mul_pos hu hk))]
  congr 1
  exact Nat.mod_mul_right_mod i u.length k
theorem ext_getD {a b : List Nat} (hl : a.length = b.length) (h : ∀ j, j < a.length → a.getD j 0 = b.getD j 0) : a = b := by
  apply List.ext_getElem hl
  intro i h1 h2
  have := h i h1
  rw [List.getD_eq_getElem?_getD, List.getD_eq_getElem?_getD, List.getElem?_eq_getElem h1, List.getElem?_eq_getElem h2] at this
  exact this
/-- a word is a power of its first p letters: p is a period -/
theorem rep_per {w : List Nat} {p : Nat} (hp : 0 < p) (hd : p ∣ w.length) (hw : 0 < w.length) : rep (w.take p) (w.length / p) = w ↔ PerS (Fw w) p := by
  have hle : p ≤ w.length := Nat.le_of_dvd hw hd
  have hk : 0 < w.length / p := Nat.div_pos hle hp
  have hl : (w.take p).length = p := by rw [List.length_take]; omega
  have hm : p * (w.length / p) = w.length := Nat.mul_div_cancel' hd
  constructor
  · intro h
    have e : Fw w = Fw (w.take p) := by
      have := Fw_rep (w.take p) hk (by omega)
      rw [h] at this
      exact this
    rw [e]
    have := Fw_per (w.take p)
    rw [hl] at this
    exact this
  · intro h
    refine ext_getD (by rw [rep_len, hl, hm]) fun j hj => ?_
    rw [rep_len, hl, hm] at hj
    rw [rep_getD _ _ _ (by rw [hl, hm]; exact hj), hl]
    have hjp : j % p < p := Nat.mod_lt _ hp
    have e1 : (w.take p).getD (j % p) 0 = w.getD (j % p) 0 := by
      rw [List.getD_eq_getElem?_getD, List.getD_eq_getElem?_getD, List.getElem?_take_of_lt hjp]
    have e2 : Fw w (j % p) = w.getD (j % p) 0 := by
      unfold Fw
      rw [Nat.mod_eq_of_lt (by omega)]
    have e3 : Fw w j = w.getD j 0 := by
      unfold Fw
      rw [Nat.mod_eq_of_lt hj]
    have := h.mul (j / p) (j % p)
    rw [Nat.add_comm, Nat.div_add_mod, e2, e3] at this
    rw [e1, ← this]
/-- the least period -/
def LP (f : Nat → Nat) (p : Nat) : Prop := 0 < p ∧ PerS f p ∧ ∀ q, 0 < q → PerS f q → p ≤ q
theorem LP.uniq {f : Nat → Nat} {p q : Nat} (h : LP f p) (g : LP f q) : p = q := Nat.le_antisymm (h.2.2 q g.1 g.2.1) (g.2.2 p h.1 h.2.1)
theorem LP.dvd {w : List Nat} {p : Nat} (h : LP (Fw w) p) (hw : 0 < w.length) : p ∣ w.length := by
  have g := PerS.gcd w.length p h.2.1 (Fw_per w)
  have g0 : 0 < Nat.gcd p w.length := Nat.gcd_pos_of_pos_left _ h.1
  have := h.2.2 _ g0 g
  have e : Nat.gcd p w.length = p := Nat.le_antisymm (Nat.le_of_dvd h.1 (Nat.gcd_dvd_left _ _)) this
  rw [← e]
  exact Nat.gcd_dvd_right _ _
theorem LP_of {w : List Nat} {p : Nat} (hw : 0 < w.length) (hp : 0 < p) (hd : p ∣ w.length) (h : PerS (Fw w) p) (hmin : ∀ q, 0 < q → q < p → q ∣ w.length → ¬ PerS (Fw w) q) : LP (Fw w) p := by
  refine ⟨hp, h, fun q q0 hq => Decidable.byContradiction fun z => ?_⟩
  have g := PerS.gcd w.length q hq (Fw_per w)
  have g0 : 0 < Nat.gcd q w.length := Nat.gcd_pos_of_pos_left _ q0
  have gle : Nat.gcd q w.length ≤ q := Nat.le_of_dvd q0 (Nat.gcd_dvd_left _ _)
  exact hmin _ g0 (by omega) (Nat.gcd_dvd_right _ _) g
theorem LP.rep {u : List Nat} {p k : Nat} (h : LP (Fw u) p) (hk : 0 < k) (hu : 0 < u.length) : LP (Fw (rep u k)) p := by
  rw [Fw_rep u hk hu]
  exact h
/-- a rotation -/
theorem Fw_rot1 (c : Nat) (w : List Nat) (i : Nat) : Fw (w ++ [c]) i = Fw (c :: w) (i + 1) := by
  unfold Fw
  rw [List.length_append, List.length_singleton, List.length_cons]
  have hlt : i % (w.length + 1) < w.length + 1 := Nat.mod_lt _ (by omega)
  have e : (i + 1) % (w.length + 1) = (i % (w.length + 1) + 1) % (w.length + 1) := by
    rw [Nat.mod_add_mod]
  rw [e]
  generalize i % (w.length + 1) = j at hlt
  by_cases hj : j < w.length
  · rw [getD_app_l hj, Nat.mod_eq_of_lt (by omega)]
    rfl
  · have hj : j = w.length := by omega
    rw [hj, getD_app_r (Nat.le_refl _), Nat.sub_self, Nat.mod_self]
    rfl
theorem Fw_rot : ∀ (a b : List Nat) (i : Nat), Fw (b ++ a) i = Fw (a ++ b) (i + a.length)
  | [], b, i => by rw [List.append_nil]; rfl
  | c :: a, b, i => by
    have h := Fw_rot a (b ++ [c]) i
    rw [List.append_assoc] at h
    have h : Fw (b ++ c :: a) i = Fw (a ++ (b ++ [c])) (i + a.length) := h
    rw [h, ← List.append_assoc, Fw_rot1]
    rfl
theorem LP.shift {f g : Nat → Nat} {p a n : Nat} (h : LP f p) (hg : ∀ i, g i = f (i + a)) (hn : 0 < n) (hf : PerS f n) : LP g p := by
  refine ⟨h.1, fun i => ?_, fun q q0 hq => h.2.2 q q0 fun i => ?_⟩
  · rw [hg, hg, show i + p + a = i + a + p by omega]
    exact h.2.1 _
  · -- f i = f (i + n * a) = g (i + n * a - a)
    have e : ∀ i, f i = g (i + (n * a - a)) := fun i => by
      rw [hg, ← hf.mul a i]
      congr 1
      have : a ≤ n * a := Nat.le_mul_of_pos_left a hn
      omega
    rw [e, e, show i + q + (n * a - a) = i + (n * a - a) + q by omega]
    exact hq _
theorem LP.rot {x y : List Nat} {p : Nat} (h : LP (Fw x) p) (r : Rot x y) (hx : 0 < x.length) : LP (Fw y) p := by
  obtain ⟨a, b, rfl, rfl⟩ := r
  exact h.shift (a := a.length) (fun i => Fw_rot a b i) hx (Fw_per _)
theorem Rot.len {x y : List Nat} (r : Rot x y) : x.length = y.length := by
  obtain ⟨a, b, rfl, rfl⟩ := r
  rw [List.length_append, List.length_append, Nat.add_comm]
/-! ### the inverse word -/
def ivw (x : List Nat) : List Nat := x.reverse.map iv
theorem ivw_len (x : List Nat) : (ivw x).length = x.length := by unfold ivw; rw [List.length_map, List.length_reverse]
theorem ivw_getD {x : List Nat} {i : Nat} (h : i < x.length) : (ivw x).getD i 0 = iv (x.getD (x.length - 1 - i) 0) := by
  unfold ivw
  rw [List.getD_eq_getElem?_getD, List.getD_eq_getElem?_getD, List.getElem?_map, List.getElem?_reverse h, List.getElem?_eq_getElem (show x.length - 1 - i < x.length by omega)]
  rfl
theorem iv_iv (c : Nat) : iv (iv c) = c := by
  unfold iv
  by_cases h1 : c = 119
  · rw [if_pos h1, h1]; rfl
  · rw [if_neg h1]
    by_cases h2 : c = 118
    · rw [if_pos h2, h2]; rfl
    · rw [if_neg h2, if_neg h1, if_neg h2]
theorem ivw_ivw (x : List Nat) : ivw (ivw x) = x := by
  unfold ivw
  rw [← List.map_reverse, List.reverse_reverse, List.map_map]
  have : iv ∘ iv = id := by funext c; exact iv_iv c
  rw [this, List.map_id]
theorem PerS.ivw {x : List Nat} {p : Nat} (h : PerS (Fw x) p) (hp : p ≤ x.length) (hx : 0 < x.length) : PerS (Fw (ivw x)) p := fun i => by
  unfold Fw
  rw [ivw_len]
  have hu : i % x.length < x.length := Nat.mod_lt _ hx
  have e : (i + p) % x.length = (i % x.length + p) % x.length := by rw [Nat.mod_add_mod]
  rw [e]
  generalize i % x.length = u at hu
  rw [ivw_getD (Nat.mod_lt _ hx), ivw_getD hu]
  congr 1
  have F1 : ∀ j, j < x.length → Fw x j = x.getD j 0 := fun j hj => by unfold Fw; rw [Nat.mod_eq_of_lt hj]
  by_cases hc : u + p < x.length
  · rw [Nat.mod_eq_of_lt hc, ← F1 _ (by omega), ← F1 _ (by omega), ← h]
    congr 1
    omega
  · rw [Nat.mod_eq_sub_mod (by omega), Nat.mod_eq_of_lt (by omega), ← F1 _ (by omega), ← F1 _ (by omega), ← h, ← Fw_per x (x.length - 1 - u)]
    congr 1
    omega
theorem LP.ivw {x : List Nat} {p : Nat} (h : LP (Fw x) p) (hx : 0 < x.length) : LP (Fw (ivw x)) p := by
  have pl : p ≤ x.length := h.2.2 _ hx (Fw_per x)
  refine ⟨h.1, h.2.1.ivw pl hx, fun q q0 hq => Decidable.byContradiction fun z => ?_⟩
  have := hq.ivw (by rw [ivw_len]; omega) (by rw [ivw_len]; exact hx)
  rw [ivw_ivw] at this
  have := h.2.2 q q0 this
  omega
theorem L_iv_e {c : Nat} (h : swv c) : L (iv c) = (L c).inv.neg := by
  rcases h with rfl | rfl | rfl <;> decide
theorem wm_iv_e : ∀ {r : List Nat}, (∀ c ∈ r, swv c) → wm .one (r.map iv) = if r.length % 2 = 0 then (wr r).inv else (wr r).inv.neg
  | [], _ => by decide
  | c :: r, h => by
    have ih := wm_iv_e (r := r) fun d hd => h d (List.mem_cons_of_mem _ hd)
    show wm (M.one.mul (L (iv c))) (r.map iv) = if (r.length + 1) % 2 = 0 then ((wr r).mul (L c)).inv else ((wr r).mul (L c)).inv.neg
    rw [M.one_mul, wm_one, ih, L_iv_e (h c List.mem_cons_self), M.inv_mul_rev]
    by_cases hp : r.length % 2 = 0
    · rw [if_pos hp, if_neg (by omega), neg_mul]
    · rw [if_neg hp, if_pos (by omega), neg_mul, mul_neg, neg_neg]
theorem inv_word {x : List Nat} (hx : ∀ c ∈ x, swv c) (he : x.length % 2 = 0) : (wm .one x).inv = wm .one (ivw x) := by
  unfold ivw
  rw [wm_iv_e (fun c hc => hx c (List.mem_reverse.mp hc)), List.length_reverse, if_pos he, wr_rev]
theorem ivw_aw {x : List Nat} (h : Aw x) : Aw (ivw x) := aw_iv h.rev
theorem ivw_cyc {x : List Nat} (h : Cyc x) : Cyc (ivw x) := by
  rcases h with h | h
  · exact .inl (by rw [ivw_len]; exact h)
  · right
    unfold ivw
    rw [hk_iv, lk_iv, lk_rev]
    exact fun z => h z.symm
/-! ### powers -/
theorem rep_snoc (u : List Nat) : ∀ k, rep u (k + 1) = rep u k ++ u
  | 0 => by simp [rep]
  | k + 1 => by
    have ih := rep_snoc u k
    rw [rep_succ u (k + 1), ih, ← List.append_assoc, ← rep_succ, ih]
theorem pow_word (u : List Nat) : ∀ k, powM (wm .one u) k = wm .one (rep u k)
  | 0 => rfl
  | k + 1 => by
    show (powM (wm .one u) k).mul (wm .one u) = _
    rw [pow_word u k, rep_snoc, wm_append, ← wm_one]
def sp (s : Int) (k : Nat) : Int := if s = 1 then 1 else if k % 2 = 0 then 1 else -1
theorem sp_sign (s : Int) (k : Nat) : sp s k = 1 ∨ sp s k = -1 := by
  unfold sp
  split
  · exact .inl rfl
  · split
    · exact .inl rfl
    · exact .inr rfl
theorem pow_sg {s : Int} (hs : s = 1 ∨ s = -1) (m : M) : ∀ k, powM (sg s m) k = sg (sp s k) (powM m k)
  | 0 => by
    rcases hs with rfl | rfl
    · rfl
    · rfl
  | k + 1 => by
    show (powM (sg s m) k).mul (sg s m) = sg (sp s (k + 1)) ((powM m k).mul m)
    rw [pow_sg hs m k, sg_mul, mul_sg]
    rcases hs with rfl | rfl
    · rfl
    · by_cases hk : k % 2 = 0
      · have e1 : sp (-1) k = 1 := by unfold sp; rw [if_neg (by decide), if_pos hk]
        have e2 : sp (-1) (k + 1) = -1 := by unfold sp; rw [if_neg (by decide), if_neg (by omega)]
        rw [e1, e2]
        rfl
      · have e1 : sp (-1) k = -1 := by unfold sp; rw [if_neg (by decide), if_neg hk]
        have e2 : sp (-1) (k + 1) = 1 := by unfold sp; rw [if_neg (by decide), if_pos (by omega)]
        rw [e1, e2]
        exact neg_neg _
theorem cj_pow {D : M} (hd : D.det = 1) (m : M) : ∀ k, powM (cj D m) k = cj D (powM m k)
  | 0 => by
    show M.one = cj D .one
    unfold cj
    rw [M.mul_one, M.mul_inv _ hd]
  | k + 1 => by
    show (powM (cj D m) k).mul (cj D m) = cj D ((powM m k).mul m)
    rw [cj_pow hd m k]
    unfold cj
    simp only [M.mul_assoc]
    rw [← M.mul_assoc D.inv D, M.inv_mul _ hd, M.one_mul]
theorem cyc_rep {x : List Nat} (h : Aw x) (c : Cyc x) (h2 : 2 ≤ x.length) : ∀ k, Aw (rep x (k + 1)) ∧ hk (rep x (k + 1)) = hk x ∧ lk (rep x (k + 1)) = lk x
  | 0 => by
    have : rep x 1 = x := by simp [rep]
    rw [this]
    exact ⟨h, rfl, rfl⟩
  | k + 1 => by
    obtain ⟨i1, i2, i3⟩ := cyc_rep h c h2 k
    have hne : hk x ≠ lk x := by
      rcases c with c | c
      · omega
      · exact c
    have xn : x ≠ [] := fun z => by rw [z] at h2; simp at h2
    have rn : rep x (k + 1) ≠ [] := fun z => by
      have := congrArg List.length z
      rw [rep_len, List.length_nil] at this
      have := Nat.mul_pos (show 0 < x.length by omega) (show 0 < k + 1 by omega)
      omega
    rw [rep_succ]
    refine ⟨aw_app h i1 fun a b ha hb => ?_, hk_app xn, ?_⟩
    · rw [i2] at hb
      intro z
      apply hne
      rw [ha, hb, z]
    · rw [lk_app rn, i3]
theorem cyc_repC {x : List Nat} {k : Nat} (h : Aw x) (c : Cyc x) (h2 : 2 ≤ x.length) (hk0 : 0 < k) : Aw (rep x k) ∧ Cyc (rep x k) ∧ 2 ≤ (rep x k).length := by
  obtain ⟨j, rfl⟩ : ∃ j, k = j + 1 := ⟨k - 1, by omega⟩
  obtain ⟨i1, i2, i3⟩ := cyc_rep h c h2 j
  refine ⟨i1, .inr ?_, ?_⟩
  · rw [i2, i3]
    rcases c with c | c
    · omega
    · exact c
  · rw [rep_len, Nat.mul_succ]
    have := Nat.zero_le (x.length * j)
    omega
/-- the first letters of a round power -/
theorem cyc_take {x u : List Nat} {k : Nat} (h : Aw x) (c : Cyc x) (h2 : 2 ≤ x.length) (e : rep u k = x) (hk0 : 0 < k) : Aw u ∧ Cyc u ∧ 2 ≤ u.length := by
  obtain ⟨j, rfl⟩ : ∃ j, k = j + 1 := ⟨k - 1, by omega⟩
  have un : u ≠ [] := fun z => by
    rw [z] at e
    have := congrArg List.length e
    rw [rep_len] at this
    simp at this
    omega
  have hne : hk x ≠ lk x := by
    rcases c with c | c
    · omega
    · exact c
  have e1 : hk x = hk u := by rw [← e, rep_succ, hk_app un]
  have e2 : lk x = lk u := by rw [← e, rep_snoc, lk_app un]
  have au : Aw u := by
    rw [← e, rep_succ] at h
    exact aw_left h
  rw [e1, e2] at hne
  refine ⟨au, .inr hne, ?_⟩
  cases u with
  | nil => exact (un rfl).elim
  | cons a u =>
    cases u with
    | nil => exact (hne rfl).elim
    | cons b u => simp
/-- a table with a round word of two letters or more has no finite order -/
theorem no_fin {m D : M} {s : Int} {x : List Nat} (hs : s = 1 ∨ s = -1) (hd : D.det = 1) (hx : Aw x) (cx : Cyc x) (h2 : 2 ≤ x.length) (e : cj D m = sg s (wm .one x)) (k : Nat) (hk0 : 0 < k) : powM m k ≠ .one := fun z => by
  have e1 : cj D (powM m k) = sg (sp s k) (wm .one (rep x k)) := by
    rw [← cj_pow hd, e, pow_sg hs, pow_word]
  rw [z] at e1
  have e2 : cj D .one = .one := by
    unfold cj
    rw [M.mul_one, M.mul_inv _ hd]
  rw [e2] at e1
  obtain ⟨a1, a2, a3⟩ := cyc_repC hx cx h2 hk0
  have p : pm .one (wm .one (rep x k)) := by
    have := sg_pm (sp s k) (wm .one (rep x k))
    rw [← e1] at this
    exact this
  rw [← wr_rev] at p
  cases hr : (rep x k).reverse with
  | nil =>
    have := congrArg List.length hr
    rw [List.length_reverse, List.length_nil] at this
    omega
  | cons c r =>
    rw [hr] at p
    have := a1.rev
    rw [hr] at this
    exact no_unit this p
/-- another round word of the same table -/
theorem rd_rot {m D : M} {s s' : Int} {x b : List Nat} (hs : s = 1 ∨ s = -1) (hd : D.det = 1) (hx : Aw x) (cx : Cyc x) (e : cj D m = sg s (wm .one x)) (r : Rd m s' b) : s = s' ∧ Rot x b := by
  obtain ⟨C, c1, c2⟩ := r.ex
  have hd' : (C.mul D.inv).det = 1 := by rw [M.det_mul, M.det_inv, c1, hd]; rfl
  obtain ⟨t, q, ht, hq, eq⟩ := ex_nf hd'
  have key : cj (wr q) (sg s (wm .one x)) = sg s' (wm .one b) := by
    have p : pm (wr q) (C.mul D.inv) := by
      rw [← eq]
      exact (sg_pm t (wr q)).symm
    rw [cj_pm p, ← e, cj_mul, cj_inv hd, c2]
  exact conj_cyc q x b s s' hq hx r.aw cx r.cyc hs r.sign key
/-! ### the number of a root -/
def oddp (n : Nat) : Nat := if h : 0 < n ∧ n % 2 = 0 then oddp (n / 2) else n
termination_by n
decreasing_by omega
theorem oddp_even {n : Nat} (h : 0 < n) (h2 : n % 2 = 0) : oddp n = oddp (n / 2) := by
  rw [oddp, dif_pos ⟨h, h2⟩]
theorem oddp_odd {n : Nat} (h2 : ¬ n % 2 = 0) : oddp n = n := by
  rw [oddp, dif_neg (fun z => h2 z.2)]
theorem oddp_spec : ∀ n, 0 < n → 0 < oddp n ∧ oddp n % 2 = 1 ∧ ∃ j, n = oddp n * 2 ^ j := by
  intro n
  induction n using Nat.strongRecOn with
  | _ n ih =>
    intro h
    by_cases h2 : n % 2 = 0
    · obtain ⟨a, b, j, c⟩ := ih (n / 2) (by omega) (by omega)
      rw [oddp_even h h2]
      refine ⟨a, b, j + 1, ?_⟩
      rw [Nat.pow_succ, ← Nat.mul_assoc, ← c]
      omega
    · rw [oddp_odd h2]
      exact ⟨h, by omega, 0, by simp⟩
theorem oddp_pow2 (a : Nat) (ha : a % 2 = 1) : ∀ j, oddp (a * 2 ^ j) = a
  | 0 => by rw [Nat.pow_zero, Nat.mul_one]; exact oddp_odd (by omega)
  | j + 1 => by
    have e : a * 2 ^ (j + 1) = 2 * (a * 2 ^ j) := by rw [Nat.pow_succ]; ac_rfl
    have pos : 0 < a * 2 ^ j := Nat.mul_pos (by omega) (Nat.pow_pos (by decide))
    rw [e, oddp_even (by omega) (by omega), Nat.mul_div_cancel_left _ (by decide), oddp_pow2 a ha j]
theorem oddp_mul3 {n : Nat} (h : 0 < n) : oddp (3 * n) = 3 * oddp n := by
  obtain ⟨a, b, j, c⟩ := oddp_spec n h
  generalize oddp n = o at a b c
  rw [c, ← Nat.mul_assoc]
  exact oddp_pow2 (3 * o) (by omega) j
def mn (s : Int) (e : Nat) : Nat := if 0 < s then e else oddp e
theorem mn_pos {s : Int} {e : Nat} (h : 0 < e) : 0 < mn s e := by
  unfold mn
  split
  · exact h
  · exact (oddp_spec e h).1
theorem mn_dvd {s : Int} {e : Nat} (h : 0 < e) : mn s e ∣ e := by
  unfold mn
  split
  · exact Nat.dvd_refl e
  · obtain ⟨_, _, j, c⟩ := oddp_spec e h
    exact ⟨2 ^ j, c⟩
theorem mn_sp {s : Int} {e : Nat} (hs : s = 1 ∨ s = -1) (h : 0 < e) : sp s (mn s e) = s := by
  rcases hs with rfl | rfl
  · rfl
  · have := (oddp_spec e h).2.1
    have e1 : mn (-1) e = oddp e := rfl
    rw [e1]
    unfold sp
    rw [if_neg (by decide), if_neg (by omega)]
/-- the root's own number is 1 -/
theorem mn_root {s : Int} {e : Nat} (hs : s = 1 ∨ s = -1) (h : 0 < e) : mn s (e / mn s e) = 1 := by
  rcases hs with rfl | rfl
  · show e / e = 1
    exact Nat.div_self h
  · obtain ⟨a, b, j, c⟩ := oddp_spec e h
    show oddp (e / oddp e) = 1
    have : e / oddp e = 1 * 2 ^ j := by
      rw [Nat.one_mul]
      exact Nat.div_eq_of_eq_mul_right a c
    rw [this]
    exact oddp_pow2 1 (by decide) j
end Tz

/-! A list that a loop appends to: it is hidden while it grows, its place marked in the environment. -/
namespace Tz
open PySem PySem.Spec PyProof.Rows L2
def plainO : Option PyData → Bool
  | some d => plain d
  | none => true
def plainR (r : Rho) : Bool := r.all plainO
theorem look_plain : ∀ {r : Rho} {i : Nat} {d : PyData}, plainR r = true → look r i = some d → plain d = true
  | [], _, _, _, h => by cases h
  | x :: r, 0, d, hp, h => by
    have hp : (plainO x && plainR r) = true := hp
    rw [Bool.and_eq_true] at hp
    have h : x = some d := h
    subst h
    exact hp.1
  | x :: r, i + 1, d, hp, h => by
    have hp : (plainO x && plainR r) = true := hp
    rw [Bool.and_eq_true] at hp
    exact look_plain (r := r) (i := i) hp.2 h
def openN (i : Nat) (c : DT) (pre : DS) (e : DE) (post : DS) (nx : Rho → Prop) : Nat → List PyData → Rho → Prop
  | 0, _, _ => False
  | n + 1, acc, r => c r (fun b => if b = true then pre r (fun r1 => look r1 i = some dice ∧ e r1 (fun y => plain y = true ∧ acc.length < 100000 ∧ post r1 (fun r2 => openN i c pre e post nx n (acc ++ [y]) r2) (fun _ => False) (fun _ => False)) (fun _ => False)) (fun _ => False) (fun _ => False)
      else look r i = some dice ∧ plainR (put r i (.list acc)) = true ∧ nx (put r i (.list acc))) (fun _ => False)
def dOpen (i0 i1 i2 i3 : Nat) (a : DE) (x : DA) (b cc : DE) (d6 : DS) (c : DT) (pre : DS) (e : DE) (post : DS) : DS := fun r nx rt E =>
  a r (fun v0 => plain v0 = true ∧ x r (fun xs => plains xs = true ∧ xs.length ≤ 100000 ∧ plainR r = true ∧ b r (fun v2 => cc r (fun v3 => d6 (put (put (put (put r i0 v0) i1 dice) i2 v2) i3 v3) (fun r1 => ∃ n, openN i1 c pre e post nx n xs r1) (fun _ => False) (fun _ => False)) (fun _ => False)) (fun _ => False)) E) E
/-- what is hidden beside: the open list, the only one that is marked -/
def opn (G : Hid) (p : Addr) (hp : ¬ G.D p) (xs : List V) : Hid := { G.add p hp xs with isO := fun _ v => v = .ref p }
theorem opn_vis {G : Hid} {p : Addr} {hp : ¬ G.D p} {xs : List V} {H : Hp} : Same (vis (opn G p hp xs) H) (vis G H) := fun a o h => by
  obtain ⟨n, t, q⟩ := vis_some h
  exact vis_of (fun d => n (.inl d)) t q
theorem vis_opn {G : Hid} {p : Addr} {hp : ¬ G.D p} {xs : List V} {H : Hp} {o : HO} (hn : H p = none) : Same (vis G H) (vis (opn G p hp xs) (upd H p o)) := fun a o' h => by
  obtain ⟨n, t, q⟩ := vis_some h
  have ne : a ≠ p := fun z => by rw [z, hn] at q; cases q
  refine vis_of (fun d => d.elim n ne) t ?_
  rw [upd_ne ne]
  exact q
theorem vis_step {G : Hid} {p : Addr} {hp : ¬ G.D p} {xs ys : List V} {H : Hp} {o : HO} : Same (vis (opn G p hp xs) H) (vis (opn G p hp ys) (upd H p o)) := fun a o' h => by
  obtain ⟨n, t, q⟩ := vis_some h
  have ne : a ≠ p := fun z => n (.inr z)
  refine vis_of n t ?_
  rw [upd_ne ne]
  exact q
theorem kxF {C : Cn} {G : Hid} {H : Hp} : KX1 C G H (fun _ => False) := fun _ _ _ _ z => z.elim
theorem kvF {C : Cn} {G : Hid} {H : Hp} {Q : VK} : KV1 C G H (fun _ => False) Q := fun _ _ _ _ _ _ z => z.elim
theorem rep_opn {K : PySem.W.Frag} {G : Hid} {p : Addr} {hp : ¬ G.D p} {xs : List V} {H : Hp} {v : V} (h : Rep K (opn G p hp xs) H v dice) : v = .ref p := by
  rcases h with h | h
  · cases h
  · exact h.2
theorem s_open {C : Cn} {i0 i1 i2 i3 : Nat} (hany : ∀ G, C.GP G) {ta tb tcc te : TE} {tx : TA} {t6 tpre tpost : TS} {tc : TT} {a b cc e : DE} {x : DA} {d6 pre post : DS} {c : DT} (ha : SimE C ta a) (hx : SimA C tx x) (hb : SimE C tb b) (hcc : SimE C tcc cc) (h6 : SimS C t6 d6) (hc : SimT C tc c) (hpre : SimS C tpre pre) (he : SimE C te e) (hpost : SimS C tpost post) :
    SimS C (tSeq (tAsg (tTup (tCons ta (tCons (tLst tx) (tCons tb (tCons tcc tNil))))) (gTup C.K 4 (gCons (gName i0) (gCons (gName i1) (gCons (gName i2) (gCons (gName i3) gNil)))))) (tSeq t6 (tWhile tc (tSeq tpre (tSeq (tDrop (tBM C.K "list" rAppend (tVar i1) (tCons te tNil))) tpost))))) (dOpen i0 i1 i2 i3 a x b cc d6 c pre e post) := by
  intro G ρ nx rt E gp h σ H D j rs k kx
  refine ha G ρ _ E gp h σ H _ j rs (fun v0 H1 x0 e1 j1 r1 h1 => ?_) kx
  obtain ⟨p0, h1⟩ := h1
  refine hx G ρ _ E gp h1 σ H1 _ j1 (rs.mono e1) (fun vs H2 xs e2 j2 r2 h2 => ?_) (kx.mono e1)
  obtain ⟨pl, hz, hnr, h2⟩ := h2
  refine ⟨by rw [r2.len]; exact small5 hz, fun p np => ?_⟩
  have nd : ¬ G.D p := fun z => G.live j2 z np
  have j3 : (opn G p nd vs).J (upd H2 p (.lst vs)) := Hid.add_new (hp := nd) j2 np
  have rs2 := rs.mono (e1.trans e2)
  have rs3 : RepS C.K (opn G p nd vs) (upd H2 p (.lst vs)) σ ρ := ⟨rs2.1, fun i d hd => by
    obtain ⟨v, hv, rv⟩ := rs2.2 i d hd
    exact ⟨v, hv, .inl (dq_same (vis_opn np) d v (rv.dp (look_plain hnr hd)))⟩⟩
  have r03 : Rep C.K (opn G p nd vs) (upd H2 p (.lst vs)) v0 x0 := .inl (dq_same (vis_opn np) x0 v0 ((r1.mono e2).dp p0))
  have d3 : DqAll C.K (vis (opn G p nd vs) (upd H2 p (.lst vs))) vs xs := dq_sameAll (vis_opn np) xs vs (r2.dp pl)
  refine hb (opn G p nd vs) ρ _ _ (hany _) h2 σ _ _ j3 rs3 (fun v2 H4 x2 e3 j4 r3 h3 => ?_) kxF
  refine hcc (opn G p nd vs) ρ _ _ (hany _) h3 σ H4 _ j4 (rs3.mono e3) (fun v3 H5 x3 e4 j5 r4 h4 => ?_) kxF
  refine ⟨by show 4 ≤ sizeLine; decide, fun q nq => ?_⟩
  obtain ⟨e6, j6, nd6⟩ := Ex.new (o := .tup [v0, .ref p, v2, v3]) j5 nq
  refine ⟨q, [v0, .ref p, v2, v3], rfl, .inl (.inl upd_same), rfl, v0, _, rfl, .ref p, _, rfl, v2, _, rfl, v3, _, rfl, rfl, ?_⟩
  have rs5 := rs3.mono (e3.trans (e4.trans e6))
  have rs6 := (((rs5.put (i := i0) (r03.mono (e3.trans (e4.trans e6)))).put (i := i1) (v := .ref p) (d := dice) (.inr ⟨rfl, rfl⟩)).put (i := i2) (r3.mono (e4.trans e6))).put (i := i3) (r4.mono e6)
  have d6' : DqAll C.K (vis (opn G p nd vs) (upd H5 q (.tup [v0, .ref p, v2, v3]))) vs xs := dq_sameAll (e3.trans (e4.trans e6)).same xs vs d3
  refine h6 (opn G p nd vs) _ _ _ _ (hany _) h4 _ _ _ j6 rs6 ⟨fun σ7 H7 r7 e7 j7 rs7 hl7 h7 => ?_, kvF⟩ kxF
  obtain ⟨n, h7⟩ := h7
  have hl7' : σ7.length = σ.length := by rw [hl7]; simp
  refine ⟨fun m σ' H' => ∃ (acc : List PyData) (us : List V) (ρ' : Rho), (opn G p nd us).J H' ∧ Ex (opn G p nd vs) (upd H2 p (.lst vs)) H' ∧ RepS C.K (opn G p nd us) H' σ' ρ' ∧ DqAll C.K (vis (opn G p nd us) H') us acc ∧ σ'.length = σ.length ∧ openN i1 c pre e post nx m acc ρ',
    ⟨n, xs, vs, r7, j7, e3.trans (e4.trans (e6.trans e7)), rs7, dq_sameAll e7.same xs vs d6', hl7', h7⟩, ?_⟩
  rintro m σ8 H8 ⟨acc, us, ρ8, j8, e8, rs8, dq8, hl8, h8⟩
  cases m with
  | zero => exact h8.elim
  | succ m =>
    refine hc (opn G p nd us) ρ8 _ _ (hany _) h8 σ8 H8 _ j8 rs8 (fun b' H9 e9 j9 h9 => ?_) kxF
    have e9' : Ex (opn G p nd vs) H8 H9 := e9
    cases b' with
    | true =>
      rw [if_pos rfl] at h9
      rw [if_pos rfl]
      refine ⟨fun σ' H' => ∃ (acc : List PyData) (us : List V) (ρ' : Rho), (opn G p nd us).J H' ∧ Ex (opn G p nd vs) (upd H2 p (.lst vs)) H' ∧ RepS C.K (opn G p nd us) H' σ' ρ' ∧ DqAll C.K (vis (opn G p nd us) H') us acc ∧ σ'.length = σ.length ∧ openN i1 c pre e post nx m acc ρ', fun σ' H' z => ⟨m, Nat.lt_succ_self m, z⟩, ?_⟩
      refine hpre (opn G p nd us) ρ8 _ _ _ (hany _) h9 σ8 H9 _ j9 (rs8.mono e9) ⟨fun σ10 H10 r10 e10 j10 rs10 hl10 h10 => ?_, kvF⟩ kxF
      obtain ⟨hdi, h10⟩ := h10
      obtain ⟨v, hv, rv⟩ := rs10.2 i1 _ hdi
      have ev := rep_opn rv
      subst ev
      refine ⟨.ref p, hv, .inl ⟨rfl, us, SqL.of j10.1⟩, ?_⟩
      refine he (opn G p nd us) r10 _ _ (hany _) h10 σ10 H10 _ j10 rs10 (fun y H11 dy e11 j11 r11 h11 => ?_) kxF
      obtain ⟨ply, hlen, h11⟩ := h11
      have dq11 : DqAll C.K (vis (opn G p nd us) H11) us acc := dq_sameAll (e9.trans (e10.trans e11)).same acc us dq8
      refine ⟨p, us, y, rfl, rfl, j11.1, ?_, ?_⟩
      · rw [dqAll_len dq11]
        exact Nat.lt_of_lt_of_le hlen (by decide)
      · have j12 : (opn G p nd (us ++ [y])).J (upd H11 p (.lst (us ++ [y]))) := Hid.add_upd (hp := nd) (xs := us) j11
        have e12 : Ex (opn G p nd vs) H11 (upd H11 p (.lst (us ++ [y]))) := fun a o na _ q => by
          have ne : a ≠ p := fun z => na (.inr z)
          rw [upd_ne ne]
          exact q
        have rs11 := rs10.mono e11
        have rs12 : RepS C.K (opn G p nd (us ++ [y])) (upd H11 p (.lst (us ++ [y]))) σ10 r10 := ⟨rs11.1, fun i d hd => by
          obtain ⟨w, hw, rw'⟩ := rs11.2 i d hd
          refine ⟨w, hw, ?_⟩
          rcases rw' with z | z
          · exact .inl (dq_same vis_step d w z)
          · exact .inr z⟩
        have dq12 : DqAll C.K (vis (opn G p nd (us ++ [y])) (upd H11 p (.lst (us ++ [y])))) (us ++ [y]) (acc ++ [dy]) := dqAll_app (dq_sameAll vis_step acc us dq11) (.cons (dq_same vis_step dy y (r11.dp ply)) .nil)
        refine hpost (opn G p nd (us ++ [y])) r10 _ _ _ (hany _) h11 σ10 _ _ j12 rs12 ⟨fun σ13 H13 r13 e13 j13 rs13 hl13 h13 => ?_, kvF⟩ kxF
        have e13' : Ex (opn G p nd vs) (upd H11 p (.lst (us ++ [y]))) H13 := e13
        have e10' : Ex (opn G p nd vs) H9 H10 := e10
        have e11' : Ex (opn G p nd vs) H10 H11 := e11
        exact ⟨acc ++ [dy], us ++ [y], r13, j13, e8.trans (e9'.trans (e10'.trans (e11'.trans (e12.trans e13')))), rs13, dq_sameAll e13.same _ _ dq12, by rw [hl13, hl10, hl8], h13⟩
    | false =>
      rw [if_neg Bool.false_ne_true] at h9
      rw [if_neg Bool.false_ne_true]
      obtain ⟨hdi, hpl, h9⟩ := h9
      have rs9 := rs8.mono e9
      obtain ⟨v, hv, rv⟩ := rs9.2 i1 _ hdi
      have ev := rep_opn rv
      subst ev
      have eG : Ex G H H9 := (e1.trans e2).trans fun a o na nt q => by
        have ne : a ≠ p := fun z => by rw [z, np] at q; cases q
        have q3 : upd H2 p (.lst vs) a = some o := by rw [upd_ne ne]; exact q
        exact e9' a o (fun z => z.elim na ne) nt (e8 a o (fun z => z.elim na ne) nt q3)
      refine k.nx σ8 H9 _ eG (Hid.add_J (hp := nd) (xs := us) j9) ⟨by rw [put_len]; exact rs9.1, fun i d hd => ?_⟩ hl8 h9
      rcases look_put hd with ⟨z1, z2, z3⟩ | ⟨z1, z2⟩
      · subst z1 z2
        exact ⟨.ref p, hv, .inl (.lst (vis_of nd nt_lst j9.1) (dq_sameAll opn_vis acc us (dq_sameAll e9.same acc us dq8)))⟩
      · obtain ⟨w, hw, rw'⟩ := rs9.2 i d z2
        exact ⟨w, hw, .inl (dq_same opn_vis d w (rw'.dp (look_plain hpl hd)))⟩
theorem s_open2 {C : Cn} {i0 i1 i2 i3 : Nat} (hany : ∀ G, C.GP G) {ta tb tcc te : TE} {tx : TA} {t6 tp1 tp2 tpost tr : TS} {tc : TT} {a b cc e : DE} {x : DA} {d6 p1 p2 post dr : DS} {c : DT} (ha : SimE C ta a) (hx : SimA C tx x) (hb : SimE C tb b) (hcc : SimE C tcc cc) (h6 : SimS C t6 d6) (hc : SimT C tc c) (hp1 : SimS C tp1 p1) (hp2 : SimS C tp2 p2) (he : SimE C te e) (hpost : SimS C tpost post) (hr : SimS C tr dr) :
    SimS C (tSeq (tAsg (tTup (tCons ta (tCons (tLst tx) (tCons tb (tCons tcc tNil))))) (gTup C.K 4 (gCons (gName i0) (gCons (gName i1) (gCons (gName i2) (gCons (gName i3) gNil)))))) (tSeq t6 (tSeq (tWhile tc (tSeq tp1 (tSeq tp2 (tSeq (tDrop (tBM C.K "list" rAppend (tVar i1) (tCons te tNil))) tpost)))) tr))) (dSeq (dOpen i0 i1 i2 i3 a x b cc d6 c (dSeq p1 p2) e post) dr) := by
  have h := s_seq (s_open (i0 := i0) (i1 := i1) (i2 := i2) (i3 := i3) hany ha hx hb hcc h6 hc (s_seq hp1 hp2) he hpost) hr
  exact h
theorem wipe_set2 {σ : L2.St} {i j : Nat} {v w : Option V} (h : i ≠ j) : wipe (((wipe σ [i, j]).set i v).set j w) [i, j] = wipe σ [i, j] := by
  apply List.ext_getElem?
  intro k
  simp only [wipe, List.getElem?_set, List.length_set]
  by_cases h1 : k = i
  · subst h1
    simp [h.symm]
  · by_cases h2 : k = j
    · subst h2
      simp [h]
    · simp [Ne.symm h1, Ne.symm h2]
theorem gin_tup2 {K : PySem.W.Frag} {i j : Nat} (h : i ≠ j) : GIn (gTup K 2 (gCons (gName i) (gCons (gName j) gNil))) [i, j] := by
  rintro v σ H Q ⟨a, xs, rfl, hs, hl, v1, r1, rfl, v2, r2, rfl, rfl, q⟩
  exact ⟨a, _, rfl, hs, hl, v1, _, rfl, v2, _, rfl, rfl, wipe_set2 h, q⟩
theorem openN_i {i : Nat} {c : DT} {pre : DS} {e : DE} {post : DS} {nx : Rho → Prop} (I : Nat → List PyData → Rho → Prop) (step : ∀ (n : Nat) (acc : List PyData) (r : Rho) (k : List PyData → Rho → Prop), I n acc r → (∀ j acc' r', j < n → I j acc' r' → k acc' r') → c r (fun b => if b = true then pre r (fun r1 => look r1 i = some dice ∧ e r1 (fun y => plain y = true ∧ acc.length < 100000 ∧ post r1 (fun r2 => k (acc ++ [y]) r2) (fun _ => False) (fun _ => False)) (fun _ => False)) (fun _ => False) (fun _ => False)
      else look r i = some dice ∧ plainR (put r i (.list acc)) = true ∧ nx (put r i (.list acc))) (fun _ => False)) : ∀ (n : Nat) (acc : List PyData) (r : Rho), I n acc r → ∀ m, n < m → openN i c pre e post nx m acc r
  | n, acc, r, h, m + 1, hm => step n acc r _ h fun j acc' r' hj h' => openN_i I step j acc' r' h' m (by omega)
theorem dOpen_e {i0 i1 i2 i3 : Nat} {a b cc e : DE} {x : DA} {d6 pre post : DS} {c : DT} {r : Rho} {nx : Rho → Prop} {rt : PyData → Prop} {E : Nat → Prop} : dOpen i0 i1 i2 i3 a x b cc d6 c pre e post r nx rt E = a r (fun v0 => plain v0 = true ∧ x r (fun xs => plains xs = true ∧ xs.length ≤ 100000 ∧ plainR r = true ∧ b r (fun v2 => cc r (fun v3 => d6 (put (put (put (put r i0 v0) i1 dice) i2 v2) i3 v3) (fun r1 => ∃ n, openN i1 c pre e post nx n xs r1) (fun _ => False) (fun _ => False)) (fun _ => False)) (fun _ => False)) E) E := propext Iff.rfl
end Tz

/-! A list comprehension whose element is a call that may raise: the exception leaves the block, held by the def's own frame. -/
namespace Tz
open PySem PySem.Spec PyProof.Rows L2
theorem traced_same {h h' base : Heap} {e C : Addr} {Z : Obj → Prop} {fl : Value} {m : Str → Option Value} (hn : h.Ns C m) (hs : Heap.SameBut C h h') (t : HandSPX.TracedZ h base e Z fl) : HandSPX.TracedZ h' base e Z fl := by
  obtain ⟨oe, vs, T, oT, ts, he, hz, hd, h1, hnT, hTe, hT, hdT, h3⟩ := t
  obtain ⟨oC, es, ep, hC, hdC, _⟩ := hn
  have n1 : e ≠ C := fun q => by rw [q, hC] at he; cases he; rw [hdC] at hd; cases hd
  have n2 : T ≠ C := fun q => by rw [q, hC] at hT; cases hT; rw [hdC] at hdT; cases hdT
  exact ⟨oe, vs, T, oT, ts, (hs.2 e n1).trans he, hz, hd, h1, hnT, hTe, (hs.2 T n2).trans hT, hdT, h3⟩
section
variable {M : Model} {A : Around} {E : Value → Shared → Prop} {s' : Shared} {base : Heap} {env cenv : Env} {outer l : List Env} {e L : Addr} {Z : Obj → Prop} {m : Str → Option Value}
theorem failsZ (hf : cenv.frame = some L) (hbC : base.get? cenv.locals = none) (hn : s'.heap.Ns cenv.locals m) (hh : HandSPX.HeldZ base l e Z L s'.heap)
    (hQ : ∀ h', HandSPX.HeldZ base l e Z L h' → (∀ b o, s'.heap.get? b = some o → b ≠ cenv.locals → (∀ vs, o.data ≠ .fields vs) → ∃ sl, h'.get? b = some { o with slots := sl }) → E (.ref e) { s' with heap := h' }) :
    CompFails M A E cenv (.ref e) s' := by
  refine ⟨m, hn, fun h₂ m₂ hn₂ hs₂ => ?_⟩
  obtain ⟨b1, b0, f1, t1⟩ := hh
  have b2 : base.StaysIn h₂ := fun b o hb => (hs₂.2 b fun q => by rw [q, hbC] at hb; cases hb).trans (b1 b o hb)
  have f2 : h₂.FunFrames base l := Heap.FunFrames.sameBut hs₂ hn₂ f1
  have t2 := traced_same hn hs₂ t1
  have t2' := t2
  obtain ⟨oe, vs, T, oT, ts, he, hz, hd, h1, r⟩ := t2
  unfold PySem.passOn
  refine wpAny_bind (wpAny_field he hd h1 ?_)
  rw [if_neg (show ¬ ((Value.ref T == Value.none) = true) from by simp), hf]
  exact wpAny_bind (HandSPX.setFlight_anyZ (l := l) b2 f2 t2' fun h₃ b3 f3 t3 k3 => wpAny_throw (hQ h₃ ⟨b3, b0, f3, t3⟩ fun b o hb hbL hnf => k3 b o ((hs₂.2 b hbL).trans hb) hnf))
theorem notedZ (hZ : PXN.Steady1 Z) (hfr : A.frames = some (env :: outer)) (hcf : cenv.frame = env.frame) (hf : env.frame = some L) (hbC : base.get? cenv.locals = none) (hn : s'.heap.Ns cenv.locals m) (hfl : HandSPX.FlyingZ base (env :: outer) e Z s'.heap)
    (hQ : ∀ h', HandSPX.HeldZ base (env :: outer) e Z L h' → (∀ b o, s'.heap.get? b = some o → b ≠ cenv.locals → (∀ vs, o.data ≠ .fields vs) → ∃ sl, h'.get? b = some { o with slots := sl }) → E (.ref e) { s' with heap := h' }) :
    notedBy M A cenv (CompFails M A E cenv) (.ref e) s' := by
  show wpAny M A (noteFrame (.ref e) cenv) _ _ s'
  rw [noteFrame_env _ hcf]
  refine PXN.looks_onZ hZ hfr hf hfl fun h' hH hk => ?_
  refine failsZ (l := env :: outer) (L := L) (hcf.trans hf) hbC (hn.upToSlots hk) hH fun h'' hH' hk' => hQ h'' hH' fun b o hb hbC' hnf => ?_
  obtain ⟨sl, e1⟩ := hk b o hb hnf
  obtain ⟨sl2, e2⟩ := hk' b { o with slots := sl } e1 hbC' hnf
  exact ⟨sl2, e2⟩
end
/-- what flies has a traceback, held by none -/
theorem sky_fl {B0 B h : Heap} {l0 l : List Env} {a L : Addr} {Z0 Z : Obj → Prop} (f : HandSPX.FlyingZ B0 l0 a Z0 h) (s : Sky B l a Z L h) : HandSPX.FlyingZ B l a Z h := by
  obtain ⟨_, _, _, oe, vs, T, oT, ts, he, hz, hd, h1, hnT, hTe, hT, hdT, h3⟩ := f
  rcases s with ⟨_, _, _, oe', vs', he', _, hd', h1'⟩ | s | ⟨_, _, _, oe', vs', T', oT', ts', he', _, hd', h1', _, _, hT', hdT', h3'⟩
  · rw [he] at he'; cases he'
    rw [hd] at hd'; cases hd'
    rw [h1] at h1'; cases h1'
  · exact s
  · rw [he] at he'; cases he'
    rw [hd] at hd'; cases hd'
    rw [h1] at h1'; cases h1'
    rw [hT] at hT'; cases hT'
    rw [hdT] at hdT'; cases hdT'
    rw [h3] at h3'
    exact absurd h3' (by simp [rawInt])
/-- the block's context, with its own wish about errors -/
abbrev blkX (X : Cx) (s : Shared) (H : Hp) (scope : Scope) (cenv : Env) (fp : List Addr) (xe : Value → Shared → Prop) : Cx := { X.blk s H scope cenv fp with xe := xe }
theorem inv_xe {X : Cx} {xe : Value → Shared → Prop} {pins : List (Addr × Obj)} {σ : L2.St} {H : Hp} {s : Shared} (I : Inv X pins σ H s) : Inv { X with xe := xe } pins σ H s := by
  obtain ⟨ok, i1, i2, i3, i4, i5, i6, i7, i8, i9, i10⟩ := I
  obtain ⟨o1, o2, o3, o4, o5, o6, o7, o8, o9, o10, o11, o12, o13, o14, o15, o16, o17, o18⟩ := ok
  exact ⟨⟨o1, o2, o3, o4, o5, o6, o7, o8, o9, o10, o11, o12, o13, o14, o15, o16, o17, o18⟩, i1, i2, i3, i4, i5, i6, i7, i8, i9, i10⟩
theorem blk_pass {X : Cx} {E : XK} {pins : List (Addr × Obj)} {σ : L2.St} {H3 : Hp} {s3 : Shared} {scope : Scope} {ce : Env} {fp : List Addr} (hs0 : X.stack = X.env :: X.outer) (hf0 : X.env.frame = some X.env.locals) (tk : L2N.Takes X (fun cls d _ H => E cls d H))
    (I3 : Inv X pins σ H3 s3) (f3 : ∀ b ∈ fp, FpOk X pins H3 b) (cL : ce.locals = s3.heap.objs.size) (cf : ce.frame = X.env.frame) :
    Passes (L2N.CX X.prog X.w) (blkX X s3 H3 scope ce fp (notedBy (model X.prog X.w) X.A ce (CompFails (model X.prog X.w) X.A X.xe ce))) E := by
  intro pins' σ' H s u s' I c
  have c0 := c
  obtain ⟨a0, B0, _, _, _, rfl, fl0, _⟩ := c0
  obtain ⟨a, B, sI, pins2, σ2, H', cls, d, ea, J, nb, up, sky, na, os, ag, w⟩ := L2N.XE.of_call (W := fun cls d _ H => E cls d H) I (fun _ _ _ h => h) c
  have ea : a0 = a := by cases ea; rfl
  subst ea
  have fl := sky_fl fl0 sky
  have I7 : Inv X pins σ H' sI := I3.call' (ch := fp) J.os J.base J.hok J.bare fun b hb => ⟨(f3 b hb).2.2.2.1, (f3 b hb).2.1, (f3 b hb).2.2.2.2.1, (f3 b hb).2.2.2.2.2⟩
  have nC : H' ce.locals = none := J.free
  obtain ⟨m, hn, _⟩ := J.loc
  have hn : sI.heap.Ns ce.locals m := hn
  have f := I3.fpOk (H' := H') (b := ce.locals) (Nat.le_of_eq cL.symm) nC
  obtain ⟨f0, f1, f2, f4, f5, f6⟩ := f
  have hfr : X.A.frames = some (X.env :: X.outer) := by rw [I3.ok.frames, hs0]
  have hfl : HandSPX.FlyingZ B (X.env :: X.outer) a0 (L2N.Zn cls d) s'.heap := by
    have z : HandSPX.FlyingZ B X.stack a0 (L2N.Zn cls d) s'.heap := fl
    rw [hs0] at z
    exact z
  obtain ⟨g1, g2, g3, g4⟩ := hfl
  have sub : ∀ {b : Addr} {o : Obj}, (PySem.W.hideAll B [ce.locals]).get? b = some o → B.get? b = some o := fun e => PySem.W.of_hideAll _ e
  have non : ∀ {b : Addr}, B.get? b = none → (PySem.W.hideAll B [ce.locals]).get? b = none := fun {b} e => by
    cases q : (PySem.W.hideAll B [ce.locals]).get? b with
    | none => rfl
    | some o => rw [sub q] at e; cases e
  have fl' : HandSPX.FlyingZ (PySem.W.hideAll B [ce.locals]) (X.env :: X.outer) a0 (L2N.Zn cls d) s'.heap := by
    refine ⟨fun b o e => g1 b o (sub e), non g2, funFrames_none g3 fun L hL => non ?_, ?_⟩
    · exact (g3.mem hL).1
    · obtain ⟨oe, vs, T, oT, ts, he, hz, hd, h1, hnT, r⟩ := g4
      exact ⟨oe, vs, T, oT, ts, he, hz, hd, h1, non hnT, r⟩
  show notedBy (model X.prog X.w) X.A ce (CompFails (model X.prog X.w) X.A X.xe ce) (.ref a0) s'
  refine notedZ L2N.Zn.steady hfr cf hf0 (PySem.W.hideAll_none _ (List.mem_singleton.mpr rfl)) (Heap.Ns.upToSlots hn up) fl' fun h' hH hk => ?_
  refine tk _ _ ⟨a0, PySem.W.hideAll B [ce.locals], { sI with heap := PySem.W.hideAll sI.heap [ce.locals] }, pins, σ, H', cls, d, rfl, I7.turned (t' := sI.toks) (fun b o hb e => PySem.W.hideAll_get _ e fun z => hb (List.mem_singleton.mp z)) f0 f1 f4 f5 f6, fun b o e hb => ?_, fun b o e hnf => ?_, .inr (.inr ?_), na, os, ag, w⟩
  · have e1 := PySem.W.of_hideAll _ e
    have ne : b ∉ [ce.locals] := fun z => by rw [PySem.W.hideAll_none _ z] at e; cases e
    exact PySem.W.hideAll_get _ (nb b o e1 hb) ne
  · have e1 := PySem.W.of_hideAll _ e
    have ne : b ∉ [ce.locals] := fun z => by rw [PySem.W.hideAll_none _ z] at e; cases e
    obtain ⟨sl, e2⟩ := up b o e1 hnf
    obtain ⟨sl2, e3⟩ := hk b { o with slots := sl } e2 (fun z => ne (List.mem_singleton.mpr z)) hnf
    exact ⟨sl2, e3⟩
  · rw [hs0]
    exact hH
/-- [call for target in iter if ..], the call may raise -/
theorem pe_lcX {X : Cx} {E : XK} {elt tg iter : Expr} {ifs : List Expr} {scope : Scope} {own : List (Str × Nat)} {pos : Pos} {wi : TI} {g : TG} {tt : TT} {te : TE} (hs0 : X.stack = X.env :: X.outer) (hf0 : X.env.frame = some X.env.locals) (tk : L2N.Takes X (fun cls d _ H => E cls d H))
    (hc : X.calm = true) (hN : X.N.Nodup) (hi : PI X tg iter wi) (ok : BlkOk X.N X.env.scope scope own)
    (hg : ∀ (s : Shared) (H : Hp) (C : Addr) (cl : List (Str × Addr)) (fp : List Addr), PG (X.blk s H scope (compEnvC scope cl C X.env) fp) tg g) (ht : ∀ (s : Shared) (H : Hp) (C : Addr) (cl : List (Str × Addr)) (fp : List Addr), PTs (X.blk s H scope (compEnvC scope cl C X.env) fp) ifs tt)
    (he : ∀ (s : Shared) (H : Hp) (C : Addr) (cl : List (Str × Addr)) (fp : List Addr) (xe : Value → Shared → Prop), Passes (L2N.CX X.prog X.w) (blkX X s H scope (compEnvC scope cl C X.env) fp xe) E → PE (blkX X s H scope (compEnvC scope cl C X.env) fp xe) elt te) (hs : ∀ x, foldedSetIterable iter X.env x = pure x := by intro _; rfl) :
    PE X (.ListComp elt [⟨tg, iter, ifs, 0⟩] scope pos) (tLc wi g tt te (own.map (·.2))) := by
  refine ⟨fun pins s σ H Q I h => ?_⟩
  rw [eval_ListComp]
  have hfree : ∀ y ∈ scope.names, y.2 = .free → ∃ c, X.env.cells.lookup y.1 = some c := fun y hy e => by
    rcases ok.free y hy e with k | k
    · exact I.ok.has _ (.inl k)
    · exact I.ok.has _ (.inr k)
  refine comprehension_at (use := none) rfl hs (closure_ok hfree) ok.kind (fun y hy e => by rw [ok.uniq y hy, e])
    (thn (hi.run pins s σ H _ I h) fun xv s1 hx => thn hx fun itv s2 h2 => ?_)
  obtain ⟨it, fp, tn, J, H2, e, I2, T, st2, f2, q⟩ := h2
  subst e
  refine wpAny_newObj_type (newEnv_comp ?_) (by show 0 ≤ sizeLine; decide)
  generalize hD : s2.heap.objs.size = D
  obtain ⟨W, ⟨m0, w0⟩, turn⟩ := q D (I2.hok.fresh (Nat.le_of_eq hD))
  generalize hs3 : ({ s2 with heap := s2.heap.push { cls := .type "list", data := .seq ([] : List Value).toArray } } : Shared) = s3
  have h3 : s3.heap = s2.heap.push { cls := .type "list", data := .seq ([] : List Value).toArray } := by rw [← hs3]
  have I3 : Inv X pins σ (upd H2 D (.lst [])) s3 := by
    rw [← hs3]
    refine I2.laid (t' := s2.toks) (fun b o e => Heap.get?_push_of_some _ e) (Nat.le_of_eq hD) ⟨Nat.zero_le _, [], 0, .nil, ?_⟩
    rw [← hD]
    exact Heap.get?_push_size _ rfl
  have f3 : ∀ b ∈ fp, FpOk X pins (upd H2 D (.lst [])) b ∧ b < s3.heap.objs.size := fun b hb => by
    obtain ⟨o, e, _⟩ := T.obj _ _ st2 b hb
    have hlt := Heap.lt_size e
    refine ⟨⟨?_, (f2 b hb).2⟩, by rw [h3, Heap.size_push]; exact Nat.lt_succ_of_lt hlt⟩
    rw [upd_ne (by rw [← hD]; exact Nat.ne_of_lt hlt)]
    exact (f2 b hb).1
  have st3 : tn 0 s3.heap := T.keep _ _ _ st2 fun b _ o e => by rw [h3]; exact Heap.get?_push_of_some _ e
  have I4 := block_start I3 ok hN f3
  have pg := hg s3 (upd H2 D (.lst [])) s3.heap.objs.size (cellsFrom (s3.heap.objs.size + 1) scope.names (cloFrom X.env.cells scope.names [])) fp
  have pt := ht s3 (upd H2 D (.lst [])) s3.heap.objs.size (cellsFrom (s3.heap.objs.size + 1) scope.names (cloFrom X.env.cells scope.names [])) fp
  have pe := fun xe => he s3 (upd H2 D (.lst [])) s3.heap.objs.size (cellsFrom (s3.heap.objs.size + 1) scope.names (cloFrom X.env.cells scope.names [])) fp xe
  show codeAny _ _ (.compStart (.ListComp elt [⟨tg, iter, ifs, 0⟩] scope pos) 0 (.ref it) (.ref D) (compEnvC scope (cellsFrom (s3.heap.objs.size + 1) scope.names (cloFrom X.env.cells scope.names [])) s3.heap.objs.size X.env)) (compEnds (model X.prog X.w) X.A X.xe none _ (.ref D) (compEnvC scope (cellsFrom (s3.heap.objs.size + 1) scope.names (cloFrom X.env.cells scope.names [])) s3.heap.objs.size X.env)) { s3 with heap := pushCells (s3.heap.push { cls := .type "dict", data := .dict #[] }) scope.names }
  have nfp : ∀ b ∈ fp, (upd H2 D (.lst [])) b = none := fun b hb => (f3 b hb).1.1
  generalize hce : compEnvC scope (cellsFrom (s3.heap.objs.size + 1) scope.names (cloFrom X.env.cells scope.names [])) s3.heap.objs.size X.env = ce at I4 pg pt pe ⊢
  have cL : ce.locals = s3.heap.objs.size := by subst hce; rfl
  have cf : ce.frame = X.env.frame := by subst hce; rfl
  generalize hH3 : upd H2 D (.lst []) = H3 at I3 I4 pg pt pe w0 nfp f3
  generalize hs4 : ({ s3 with heap := pushCells (s3.heap.push { cls := .type "dict", data := .dict #[] }) scope.names } : Shared) = s4 at I4 ⊢
  have pe := pe _ (blk_pass (scope := scope) hs0 hf0 tk I3 (fun b hb => (f3 b hb).1) cL cf)
  have st4 : tn 0 s4.heap := T.keep _ _ _ st3 fun b _ o e => by rw [← hs4]; exact pushCells_keeps _ _ _ _ (Heap.get?_push_of_some _ e)
  have stat : ∀ {σ' : L2.St} {H' : Hp} {s' : Shared}, Inv (X.blk s3 H3 scope ce fp) [] σ' H' s' → (∀ b ∈ fp, H' b = none) → ∀ b ∈ fp, FpOk (X.blk s3 H3 scope ce fp) [] H' b := fun {σ' H' s'} I' hn b hb =>
    ⟨hn b hb, (I'.ok.exf b hb).1, I'.ok.exfs b hb, .inl hb, fun x c e => (I'.ok.exf b hb).2 x c e, fun p hp => absurd (show p ∈ ([] : List (Addr × Obj)) ++ [] from hp) (by simp)⟩
  have loop : codeAny (model X.prog X.w) X.A (.compLoop (.ListComp elt [⟨tg, iter, ifs, 0⟩] scope pos) 0 (.ref it) (.ref D) ce) (compEnds (model X.prog X.w) X.A X.xe none (EP X pins σ Q) (.ref D) ce) s4 := by
    refine compLoop_any (fun n s' => ∃ i H', Inv (X.blk s3 H3 scope ce fp) [] (wipe σ (own.map (·.2))) H' s' ∧ tn i s'.heap ∧ (∀ b ∈ fp, H' b = none) ∧ W i n H') ?_ m0 ⟨0, H3, I4, st4, nfp, w0⟩
    rintro n s5 ⟨i, H5, I5, st5, n5, w5⟩
    rcases turn i n H5 w5 with ⟨stop, qq⟩ | ⟨go, Nx, hNx, step⟩
    · have td := T.done (X.blk s3 H3 scope ce fp) rfl rfl rfl hc i [] s5 _ H5 (fun _ _ => False) I5 (stat I5 n5) st5 stop
      refine thnF td fun r s6 ⟨hr, I6⟩ => ?_
      subst hr
      have I7 : Inv X pins σ H5 s6 := I3.call' (ch := fp) I6.os I6.base I6.hok I6.bare fun b hb => ⟨(f3 b hb).1.2.2.2.1, (f3 b hb).1.2.1, (f3 b hb).1.2.2.2.2.1, (f3 b hb).1.2.2.2.2.2⟩
      have nC : H5 ce.locals = none := I6.free
      obtain ⟨m, hn, _⟩ := I6.loc
      refine ⟨m, hn, fun h'' sb => ?_⟩
      obtain ⟨g0, g1, g2, g3, g4, g5⟩ := I3.fpOk (H' := H5) (b := ce.locals) (Nat.le_of_eq cL.symm) nC
      exact ⟨.ref D, H5, I7.turned (t' := s6.toks) (fun b o hb e => (sb.2 b hb).trans e) g0 g1 g3 g4 g5, rfl, qq⟩
    · have ti := T.item (X.blk s3 H3 scope ce fp) rfl rfl rfl hc i [] s5 _ H5 (fun _ _ => False) I5 (stat I5 n5) st5 go
      refine thnF ti fun r s6 ⟨u, hr, h6⟩ => ?_
      subst hr
      refine thnF h6 fun _ s7 ⟨x, H7, I7, r7, y7, st7, n7⟩ => ?_
      have I7' := I7.pinned (stat I7 n7) (T.obj _ _ st7)
      refine thnF (pg.run _ s7 _ H7 x u _ I7' r7 (step x H7 y7)) fun _ s8 ⟨σ8, H8, I8, hw8, q8⟩ => ?_
      refine thnF (pt.run _ s8 σ8 H8 _ I8 q8) fun b s9 ⟨H9, I9, q9⟩ => ?_
      have fin : ∀ {s' : Shared} {H' : Hp}, Inv (X.blk s3 H3 scope ce fp) ([] ++ pinsAt fp s7.heap) σ8 H' s' → Nx H' → ∃ m, m < n ∧ ∃ i H', Inv (X.blk s3 H3 scope ce fp) [] (wipe σ (own.map (·.2))) H' s' ∧ tn i s'.heap ∧ (∀ b ∈ fp, H' b = none) ∧ W i m H' := fun {s' H'} I' nx => by
        obtain ⟨m', hm, w'⟩ := hNx H' nx
        have pin' : ∀ b ∈ fp, ∀ o, s7.heap.get? b = some o → s'.heap.get? b = some o ∧ H' b = none := fun b hb o e =>
          let z := I'.pin (b, o) (List.mem_append_right _ (List.mem_append_right _ (mem_pinsAt hb e)))
          ⟨z.1, z.2.1⟩
        have hl : (wipe σ (own.map (·.2))).length = σ8.length := by rw [← hw8, wipe_length]
        refine ⟨m', hm, i + 1, H', (I'.unpinned (pins := [])).weak hl (fun j v e => ?_), T.keep _ _ _ st7 fun b hb o e => (pin' b hb o e).1, fun b hb => ?_, w'⟩
        · rw [← hw8] at e
          exact (wipe_some e).1
        · obtain ⟨o, e, _⟩ := T.obj _ _ st7 b hb
          exact (pin' b hb o e).2
      cases b with
      | false =>
        simp only [Bool.false_eq_true, if_false] at q9 ⊢
        exact fin I9 q9
      | true =>
        simp only [if_true] at q9 ⊢
        refine wpAny_mono (pe.run _ s9 σ8 H9 _ (inv_xe I9) q9) (fun z s10 ⟨yv, H10, I10, r10, acc, hD10, hz10, nx⟩ => ?_) (fun _ _ x => x)
        have I10' : Inv (X.blk s3 H3 scope ce fp) ([] ++ pinsAt fp s7.heap) σ8 H10 s10 := inv_xe (xe := fun _ _ => False) I10
        exact app_ok (X := X.blk s3 H3 scope ce fp) I10' hD10 hz10 r10 fun s11 I11 => fin I11 nx
  exact codeAny_compStart_list loop (T.self X.A 0 _ _ _ st4 loop)
/-- the same, by data -/
def lcX (g : DG) (t : DT) (e : DE) (r : Rho) (Q : List PyData → Prop) (E : Nat → Prop) : List PyData → List PyData → Prop
  | [], acc => Q acc
  | x :: xs, acc => g x r (fun r' => t r' (fun b => if b = true then e r' (fun y => plain y = true ∧ lcX g t e r Q E xs (acc ++ [y])) E else lcX g t e r Q E xs acc) (fun _ => False))
def dLcX (i : DI) (g : DG) (t : DT) (e : DE) (vs : List Nat) : DE := fun r Q E => i r (fun xs => xs.length ≤ 100000 ∧ lcX g t e (drps r vs) (fun ys => Q (.list ys)) E xs []) E
theorem dLcX_e {i : DI} {g : DG} {t : DT} {a : DE} {vs : List Nat} {r : Rho} {Q : PyData → Prop} {E : Nat → Prop} : dLcX i g t a vs r Q E = i r (fun xs => xs.length ≤ 100000 ∧ lcX g t a (drps r vs) (fun ys => Q (.list ys)) E xs []) E := propext Iff.rfl
theorem s_lcX {C : Cn} {wi : TI} {g : TG} {tt : TT} {te : TE} {vs : List Nat} {di : DI} {d : DG} {t : DT} {e : DE} (hi : SimI C wi di) (hgi : GIn g vs) (hg : SimG C.no g d) (ht : SimT C.no tt t) (he : SimE C te e) : SimE C (tLc wi g tt te vs) (dLcX di d t e vs) := by
  intro G ρ Q E gp h σ H Q' jj rs k kx
  refine hi G ρ _ E gp h σ H _ jj rs (fun J H1 xs e1 j1 wk h1 => ?_) kx
  intro p np
  obtain ⟨hlen, h1⟩ := h1
  have nd : ¬ G.D p := fun z => G.live j1 z np
  have e0 : Ex G H1 (upd H1 p (.lst [])) := (Ex.new (o := .lst []) j1 np).1
  refine ⟨fun i m H' => ∃ (acc : List V) (ds : List PyData), m = xs.length - i ∧ i ≤ xs.length ∧ Ex G H1 H' ∧ (G.add p nd acc).J H' ∧ acc.length ≤ i ∧ Reps C.K (G.add p nd acc) H' acc ds ∧ plains ds = true ∧ lcX d t e (drps ρ vs) (fun ys => Q (.list ys)) E (xs.drop i) ds,
    ⟨xs.length, [], [], by simp, Nat.zero_le _, e0, Hid.add_new j1 np, Nat.le_refl _, trivial, rfl, h1⟩, ?_⟩
  rintro i m H' ⟨acc, ds, rfl, hile, e2, j2, hal, ra, pl, h2⟩
  have gp' : C.no.GP (G.add p nd acc) := C.add G p nd acc gp
  have rs2 : RepS C.K (G.add p nd acc) H' (wipe σ vs) (drps ρ vs) := by
    refine ⟨by rw [drps_len, wipe_length]; exact rs.1, fun i d z => ?_⟩
    obtain ⟨v, x, y⟩ := ((rs.mono e1).wipe vs).2 i d z
    exact ⟨v, x, rep_in np e2 y⟩
  by_cases hlt : i < xs.length
  · have hd : xs.drop i = xs[i] :: xs.drop (i + 1) := List.drop_eq_getElem_cons hlt
    rw [hd] at h2
    obtain ⟨hgo, hy⟩ := (wk i H' e2 (Hid.add_J j2)).1 xs[i] (List.getElem?_eq_getElem hlt)
    refine .inr ⟨hgo, fun H3 => ∃ (acc : List V) (ds : List PyData), Ex G H1 H3 ∧ (G.add p nd acc).J H3 ∧ acc.length ≤ i + 1 ∧ Reps C.K (G.add p nd acc) H3 acc ds ∧ plains ds = true ∧ lcX d t e (drps ρ vs) (fun ys => Q (.list ys)) E (xs.drop (i + 1)) ds, ?_, fun x H3 y => ?_⟩
    · rintro H3 ⟨acc, ds, e3, j3, hal3, ra3, pl3, h3⟩
      exact ⟨xs.length - (i + 1), by omega, acc, ds, rfl, hlt, e3, j3, hal3, ra3, pl3, h3⟩
    · obtain ⟨rfl, r3⟩ := hy x H3 y
      have r3' : Rep C.K (G.add p nd acc) H3 x xs[i] := rep_in np e2 r3
      refine hgi x σ H3 _ ?_
      refine hg (G.add p nd acc) (drps ρ vs) _ xs[i] gp' h2 x (wipe σ vs) H3 _ j2 rs2 r3' fun σ4 ρ4 rs4 hl4 h4 => ?_
      have grow : ∀ {H5 : Hp}, Ex (G.add p nd acc) H3 H5 → Ex G H1 H5 := fun {H5} e5 a o na ta ha => by
        have ne : a ≠ p := ne_of_none ha np
        exact e5 a o (fun z => z.elim na ne) ta (e2 a o na ta ha)
      refine ht (G.add p nd acc) ρ4 _ _ gp' h4 σ4 H3 _ j2 rs4 (fun b H5 e5 j5 h5 => ?_) (fun c H5 _ _ z => z.elim)
      cases b with
      | false => exact ⟨acc, ds, grow e5, j5, by omega, ra.mono e5, pl, h5⟩
      | true =>
        refine he (G.add p nd acc) ρ4 _ _ gp' h5 σ4 H5 _ j5 (rs4.mono e5) (fun v H6 z e6 j6 r6 h6 => ?_) (fun c H6 e6 j6 z => kx c H6 (e1.trans (grow (e5.trans e6))) (Hid.add_J j6) z)
        have ra6 := (ra.mono e5).mono e6
        refine ⟨acc, j6.1, Nat.lt_of_le_of_lt (Nat.le_trans hal hile) (Nat.lt_of_le_of_lt hlen (by decide)), acc ++ [v], ds ++ [z], fun a o na ta ha => ?_, Hid.add_upd j6, ?_, reps_upd (reps_snoc ra6 r6), plains_snoc pl h6.1, h6.2⟩
        · have ne : a ≠ p := ne_of_none ha np
          rw [upd_ne ne]
          exact grow (e5.trans e6) a o na ta ha
        · rw [List.length_append]
          show acc.length + 1 ≤ i + 1
          omega
  · have hd : xs.drop i = [] := List.drop_eq_nil_of_le (by omega)
    rw [hd] at h2
    refine .inl ⟨(wk i H' e2 (Hid.add_J j2)).2 (by omega), ?_⟩
    exact k _ H' _ (e1.trans e2) (Hid.add_J j2) (.inl (.lst (vis_of nd nt_lst j2.1) ((reps_out ra).dp pl))) h2
/-- a call in such an element -/
theorem pe_clX {X : Cx} {E : XK} {k : Nat} {x : Str} {ps : List Str} {sp : Sp} {e : Expr} {es : List Expr} {t : TA} {p pos : Pos} (D : Dfn X.prog X.w X.K X.mg X.base k x ps sp) (pa : Passes (L2N.CX X.prog X.w) X E) (hr : Room k X.A) (hg : Gl X x) (ha : PA X (e :: es) t)
    (hdb : (x == ("__debug__" : Str)) = false := by decide) (he : starEach (e :: es) X.env = (false, eval e X.env) :: starEach es X.env := by rfl) (hpl : (backTo pos (starEach es X.env)).any (·.1) = false := by rfl) :
    PE X (.Call (.Name x p) (e :: es) [] pos) (tCallS sp (fun _ => E) t) := by
  obtain ⟨f, fd, F, hm, hk, hb⟩ := D
  exact pe_callS F hr hg hm hk hb (fun σ => fun pins H s e s' I c => pa pins σ H s e s' I c) ha hdb he hpl
/-- int of a text -/
def rIntT : List V → Hp → VK → Prop := fun xs H Q => ∃ a n, xs = [.str a] ∧ PySem.intText? a = some n ∧ a.length ≤ 640 ∧ Q (.int n) H
def oIntT : List PyData → (PyData → Prop) → Prop := fun ds Q => match ds with
  | [.str a] => a.length ≤ 640 ∧ onS (PySem.intText? a) fun n => Q (.int n)
  | _ => False
theorem oIntT_s {a : Str} {Q : PyData → Prop} : oIntT [.str a] Q = (a.length ≤ 640 ∧ onS (PySem.intText? a) fun n => Q (.int n)) := propext Iff.rfl
theorem call_intT {X : Cx} : CallR X (.type "int") rIntT := call_int_str
theorem s_intT {C : Cn} : SimC C rIntT oIntT := by
  intro G xs ds Q H Q' gp j r h k
  match ds, r, h with
  | [.str a], r, h =>
    obtain ⟨v, rfl, rv⟩ := reps1 r
    obtain ⟨hl, h⟩ := h
    cases e : PySem.intText? a with
    | none => rw [e] at h; exact h.elim
    | some n =>
      rw [e] at h
      refine ⟨a, n, ?_, e, hl, k _ H _ (Ex.refl G H) j (.inl (.int _)) h⟩
      rw [rep_str rv]
end Tz

/-! Numbers as texts, in plain Lean. -/
namespace Tz
open PySem PySem.Spec PyProof.Rows L2 TL
/-- the signs of an integer -/
def tx (n : Int) : List Nat := if n < 0 then 45 :: numL n.natAbs else numL n.natAbs
theorem tl_int (n : Int) : tl (Str.ofString (toString n)) = tx n := by
  unfold tx
  by_cases h : n < 0
  · rw [if_pos h, PyProof.Rows.toString_neg h]
    have e : (0 - n) = ((n.natAbs : Nat) : Int) := by omega
    rw [e, tl_ofString, String.toList_append, List.map_append]
    have e2 := tl_num n.natAbs
    rw [tl_ofString] at e2
    rw [e2]
    rfl
  · rw [if_neg h]
    have e : n = ((n.natAbs : Nat) : Int) := by omega
    rw [e]
    exact tl_num n.natAbs
/-- digits with no zero ahead -/
def canon (ds : List Nat) : Prop := NumText.AllDigits ds ∧ ds ≠ [] ∧ ∀ r, ds = 48 :: r → r = []
theorem val_snoc (ds : List Nat) (c : Nat) : NumText.digitsVal (ds ++ [c]) = NumText.digitsVal ds * 10 + (c - 48) := by
  unfold NumText.digitsVal
  rw [List.foldl_append]
  rfl
theorem numL_head (n : Nat) : ∀ r, numL n = 48 :: r → r = [] := by
  induction n using Nat.strongRecOn with
  | _ n ih =>
    intro r hr
    by_cases h : n < 10
    · rw [numL_lt h] at hr
      exact (List.cons.inj hr).2.symm
    · rw [numL_step (by omega)] at hr
      cases hq : numL (n / 10) with
      | nil => exact (numL_ne _ hq).elim
      | cons c t =>
        rw [hq, List.cons_append] at hr
        obtain ⟨rfl, rfl⟩ := List.cons.inj hr
        have ht := ih (n / 10) (by omega) t hq
        subst ht
        have e := numL_val (n / 10)
        rw [hq] at e
        have : n / 10 = 0 := by rw [← e]; rfl
        omega
theorem numL_canon (n : Nat) : canon (numL n) := ⟨numL_digits n, numL_ne n, numL_head n⟩
theorem canon_num : ∀ (k : Nat) (ds : List Nat), ds.length = k → canon ds → numL (NumText.digitsVal ds) = ds := by
  intro k
  induction k with
  | zero =>
    intro ds hl h
    exact (h.2.1 (List.eq_nil_of_length_eq_zero hl)).elim
  | succ k ih =>
    intro ds hl h
    have hne := h.2.1
    have hd := (List.dropLast_concat_getLast hne).symm
    generalize ds.dropLast = ps at hd
    generalize ds.getLast hne = c at hd
    subst hd
    have hc := h.1 c (List.mem_append_right _ (List.mem_singleton.mpr rfl))
    rw [val_snoc]
    by_cases hp : ps = []
    · subst hp
      show numL (0 * 10 + (c - 48)) = [c]
      rw [numL_lt (by omega)]
      congr 1
      omega
    · have cp : canon ps := by
        refine ⟨fun d hd => h.1 d (List.mem_append_left _ hd), hp, fun r hr => ?_⟩
        have := h.2.2 (r ++ [c]) (by rw [hr]; rfl)
        simp at this
      have e := ih ps (by rw [List.length_append, List.length_singleton] at hl; omega) cp
      have pos : 0 < NumText.digitsVal ps := by
        refine Nat.pos_of_ne_zero fun z => ?_
        rw [z, numL_lt (by decide)] at e
        have := h.2.2 [c] (by rw [← e]; rfl)
        simp at this
      rw [numL_step (by omega), show (NumText.digitsVal ps * 10 + (c - 48)) / 10 = NumText.digitsVal ps by omega, e, show 48 + (NumText.digitsVal ps * 10 + (c - 48)) % 10 = c by omega]
theorem canon_val {ds : List Nat} (h : canon ds) : numL (NumText.digitsVal ds) = ds := canon_num _ ds rfl h
theorem tx_inj {m n : Int} (h : tx m = tx n) : m = n := by
  unfold tx at h
  have no : ∀ {a b : Nat}, 45 :: numL a ≠ numL b := fun {a b} e => numL_free (n := b) (s := 45) (.inl (by decide)) (by rw [← e]; exact List.mem_cons_self)
  split at h <;> split at h
  · have := numL_inj (List.cons.inj h).2
    omega
  · exact (no h).elim
  · exact (no h.symm).elim
  · have := numL_inj h
    omega
theorem tx_free {n : Int} {s : Nat} (h : s ≠ 45) (h2 : s < 48 ∨ 57 < s) : s ∉ tx n := by
  unfold tx
  split
  · intro z
    rcases List.mem_cons.mp z with z | z
    · exact h z
    · exact numL_free h2 z
  · exact numL_free h2
end Tz

/-! An object that changes: what is hidden goes by a state; expressions and statements by data and state. -/
namespace Tz
open PySem PySem.Spec PyProof.Rows L2
abbrev GS := List PyData
/-- what is hidden, by a state -/
structure Fam where
  at_ : GS → Hid
  D : Addr → Prop
  isO : PyData → V → Prop
  hD : ∀ s, (at_ s).D = D
  hI : ∀ s, (at_ s).isO = isO
def ExG (F : Fam) (H H' : Hp) : Prop := ∀ a o, ¬ F.D a → NT o → H a = some o → H' a = some o
theorem ExG.refl (F : Fam) (H : Hp) : ExG F H H := fun _ _ _ _ h => h
theorem ExG.trans {F : Fam} {H H1 H2 : Hp} (a : ExG F H H1) (b : ExG F H1 H2) : ExG F H H2 := fun x o n t h => b x o n t (a x o n t h)
theorem exF {F : Fam} {H H' : Hp} (s : GS) : ExG F H H' ↔ Ex (F.at_ s) H H' := by
  unfold ExG Ex
  rw [F.hD s]
theorem visF {F : Fam} (s s' : GS) (H : Hp) : vis (F.at_ s) H = vis (F.at_ s') H := by
  unfold vis
  rw [F.hD s, F.hD s']
theorem repF {K : PySem.W.Frag} {F : Fam} {H : Hp} {v : V} {d : PyData} (s s' : GS) (h : Rep K (F.at_ s) H v d) : Rep K (F.at_ s') H v d := by
  unfold Rep at h ⊢
  rw [visF s' s, F.hI s', ← F.hI s]
  exact h
theorem repsF {K : PySem.W.Frag} {F : Fam} {H : Hp} (s s' : GS) : ∀ {vs : List V} {ds : List PyData}, Reps K (F.at_ s) H vs ds → Reps K (F.at_ s') H vs ds
  | [], [], _ => trivial
  | _ :: _, _ :: _, h => ⟨repF s s' h.1, repsF s s' h.2⟩
  | [], _ :: _, h => h.elim
  | _ :: _, [], h => h.elim
theorem repSF {K : PySem.W.Frag} {F : Fam} {H : Hp} {σ : L2.St} {r : Rho} (s s' : GS) (h : RepS K (F.at_ s) H σ r) : RepS K (F.at_ s') H σ r := ⟨h.1, fun i d q => by
  obtain ⟨v, a, b⟩ := h.2 i d q
  exact ⟨v, a, repF s s' b⟩⟩
/-- where a body stands, what is hidden by a state -/
structure Cz where
  K : PySem.W.Frag
  ec : Nat → Addr
  FP : Fam → Prop
  E0 : XK
  add : ∀ (F : Fam) (s : GS) (p : Addr) (h : ¬ (F.at_ s).D p) (xs : List V), FP F → ∃ F', FP F' ∧ (F.at_ s).add p h xs = F'.at_ s
theorem Cz.add' (C : Cz) (s : GS) (G : Hid) (p : Addr) (h : ¬ G.D p) (xs : List V) (g : ∃ F, C.FP F ∧ G = F.at_ s) : ∃ F, C.FP F ∧ G.add p h xs = F.at_ s := by
  obtain ⟨F, f, e⟩ := g
  subst e
  obtain ⟨F', f', e'⟩ := C.add F s p h xs f
  exact ⟨F', f', e'⟩
abbrev Cz.at_ (C : Cz) (s : GS) : Cn := ⟨C.K, C.ec, fun G => ∃ F, C.FP F ∧ G = F.at_ s, C.E0, C.add' s⟩
abbrev DEz := GS → Rho → (GS → PyData → Prop) → (GS → Nat → Prop) → Prop
abbrev DZ := GS → Rho → (GS → Rho → Prop) → (GS → PyData → Prop) → (GS → Nat → Prop) → Prop
abbrev DFz := GS → List PyData → (GS → PyData → Prop) → (GS → Nat → Prop) → Prop
section
variable (C : Cz) (F : Fam) (H : Hp)
def KVz (Q : GS → PyData → Prop) (Q' : VK) : Prop := ∀ v H' x s, ExG F H H' → (F.at_ s).J H' → Rep C.K (F.at_ s) H' v x → Q s x → Q' v H'
def KXz (E : GS → Nat → Prop) : Prop := ∀ c H' s, ExG F H H' → (F.at_ s).J H' → E s c → C.E0 (.ref (C.ec c)) none H'
structure KSz (n : Nat) (nx : GS → Rho → Prop) (rt : GS → PyData → Prop) (D : Ends) : Prop where
  nx : ∀ σ' H' r' s', ExG F H H' → (F.at_ s').J H' → RepS C.K (F.at_ s') H' σ' r' → σ'.length = n → nx s' r' → D.nx σ' H'
  rt : KVz C F H rt D.rt
end
def SimEz (C : Cz) (t : TE) (d : DEz) : Prop := ∀ (F : Fam) (s : GS) (r : Rho) (Q : GS → PyData → Prop) (E : GS → Nat → Prop), C.FP F → d s r Q E → ∀ (σ : L2.St) (H : Hp) (Q' : VK), (F.at_ s).J H → RepS C.K (F.at_ s) H σ r → KVz C F H Q Q' → KXz C F H E → t σ H Q'
def SimZ (C : Cz) (t : TS) (d : DZ) : Prop := ∀ (F : Fam) (s : GS) (r : Rho) (nx : GS → Rho → Prop) (rt : GS → PyData → Prop) (E : GS → Nat → Prop), C.FP F → d s r nx rt E → ∀ (σ : L2.St) (H : Hp) (D : Ends), (F.at_ s).J H → RepS C.K (F.at_ s) H σ r → KSz C F H σ.length nx rt D → KXz C F H E → t D σ H
theorem KXz.mono {C : Cz} {F : Fam} {H H1 : Hp} {E : GS → Nat → Prop} (k : KXz C F H E) (e : ExG F H H1) : KXz C F H1 E := fun c H' s e' j h => k c H' s (e.trans e') j h
theorem KVz.mono {C : Cz} {F : Fam} {H H1 : Hp} {Q : GS → PyData → Prop} {Q' : VK} (k : KVz C F H Q Q') (e : ExG F H H1) : KVz C F H1 Q Q' := fun v H' x s e' j r h => k v H' x s (e.trans e') j r h
theorem KSz.mono {C : Cz} {F : Fam} {H H1 : Hp} {n : Nat} {nx : GS → Rho → Prop} {rt : GS → PyData → Prop} {D : Ends} (k : KSz C F H n nx rt D) (e : ExG F H H1) : KSz C F H1 n nx rt D :=
  ⟨fun σ' H' r' s' e' j r hl h => k.nx σ' H' r' s' (e.trans e') j r hl h, k.rt.mono e⟩
/-! ### between the two levels -/
def zE (d : GS → DE) : DEz := fun s r Q E => d s r (Q s) (E s)
def zS (d : GS → DS) : DZ := fun s r nx rt E => d s r (nx s) (rt s) (E s)
/-- what leaves the state as it was -/
def dK (d : DEz) (s : GS) : DE := fun r Q E => d s r (fun s' x => s' = s ∧ Q x) (fun s' c => s' = s ∧ E c)
section
variable {C : Cz}
theorem kx_at {F : Fam} {H : Hp} {E : GS → Nat → Prop} (k : KXz C F H E) (s : GS) : KX1 (C.at_ s) (F.at_ s) H (E s) := fun c H' e j h => k c H' s ((exF s).mpr e) j h
theorem kv_at {F : Fam} {H : Hp} {Q : GS → PyData → Prop} {Q' : VK} (k : KVz C F H Q Q') (s : GS) : KV1 (C.at_ s) (F.at_ s) H (Q s) Q' := fun v H' x e j r h => k v H' x s ((exF s).mpr e) j r h
theorem ez_keep {t : TE} {d : GS → DE} (h : ∀ s, SimE (C.at_ s) t (d s)) : SimEz C t (zE d) := by
  intro F s r Q E fp q σ H Q' j rs k kx
  exact h s (F.at_ s) r (Q s) (E s) ⟨F, fp, rfl⟩ q σ H Q' j rs (kv_at k s) (kx_at kx s)
theorem s_K {t : TE} {d : DEz} (h : SimEz C t d) (s : GS) : SimE (C.at_ s) t (dK d s) := by
  intro G r Q E gp q σ H Q' j rs k kx
  obtain ⟨F, fp, e⟩ := gp
  subst e
  refine h F s r _ _ fp q σ H Q' j rs (fun v H' x s' e j' r' z => ?_) fun c H' s' e j' z => ?_
  · obtain ⟨es, z⟩ := z
    subst es
    exact k v H' x ((exF s').mp e) j' r' z
  · obtain ⟨es, z⟩ := z
    subst es
    exact kx c H' ((exF s').mp e) j' z
theorem z_lift {t : TS} {d : GS → DS} (h : ∀ s, SimS (C.at_ s) t (d s)) : SimZ C t (zS d) := by
  intro F s r nx rt E fp q σ H D j rs k kx
  exact h s (F.at_ s) r (nx s) (rt s) (E s) ⟨F, fp, rfl⟩ q σ H D j rs ⟨fun σ' H' r' e j' rs' hl z => k.nx σ' H' r' s ((exF s).mpr e) j' rs' hl z, kv_at k.rt s⟩ (kx_at kx s)
/-! ### calls -/
def liftZ (K : PySem.W.Frag) (ec : Nat → Addr) (FP : Fam → Prop) (n : Nat) (f : DFz) : Sp := fun vs H Q' E' => ∃ (F : Fam) (s : GS) (ds : List PyData) (Q : GS → PyData → Prop) (E : GS → Nat → Prop), FP F ∧ (F.at_ s).J H ∧ Reps K (F.at_ s) H vs ds ∧ ds.length = n ∧ f s ds Q E ∧
  (∀ v H' x s', ExG F H H' → (F.at_ s').J H' → Rep K (F.at_ s') H' v x → Q s' x → Q' v H') ∧ ∀ c H' s', ExG F H H' → (F.at_ s').J H' → E s' c → E' (.ref (ec c)) none H'
def zCall (n : Nat) (f : DFz) (a : GS → DA) : DEz := fun s r Q E => a s r (fun ds => ds.length = n ∧ f s ds Q E) (E s)
theorem ez_call {n : Nat} {f : DFz} {FP : Fam → Prop} {ts : TA} {a : GS → DA} (hg : ∀ F, C.FP F → FP F) (hs : ∀ s, SimA (C.at_ s) ts (a s)) : SimEz C (tCallS (liftZ C.K C.ec FP n f) (fun _ => C.E0) ts) (zCall n f a) := by
  intro F s r Q E fp q σ H Q' j rs k kx
  refine hs s (F.at_ s) r _ (E s) ⟨F, fp, rfl⟩ q σ H _ j rs (fun vs H1 xs e1 j1 r1 h1 => ?_) (kx_at kx s)
  have e1 := (exF s).mpr e1
  exact ⟨F, s, xs, Q, E, hg F fp, j1, r1, h1.1, h1.2, k.mono e1, kx.mono e1⟩
/-! ### statements -/
def zSeq (a b : DZ) : DZ := fun s r nx rt E => a s r (fun s' r' => b s' r' nx rt E) rt E
def zIfS (t : GS → DT) (a b : DZ) : DZ := fun s r nx rt E => t s r (fun c => if c = true then a s r nx rt E else b s r nx rt E) (E s)
def zRet (a : DEz) : DZ := fun s r _ rt E => a s r rt E
def zDrop (a : DEz) : DZ := fun s r nx _ E => a s r (fun s' _ => nx s' r) E
def zAsg (a : DEz) (g : DG) : DZ := fun s r nx _ E => a s r (fun s' x => g x r (nx s')) E
def zNext : DZ := fun s r nx _ _ => nx s r
theorem z_next : SimZ C tNext zNext := by
  intro F s r nx rt E fp q σ H D j rs k kx
  exact k.nx σ H r s (ExG.refl F H) j rs rfl q
theorem z_seq {t u : TS} {a b : DZ} (ha : SimZ C t a) (hb : SimZ C u b) : SimZ C (tSeq t u) (zSeq a b) := by
  intro F s r nx rt E fp q σ H D j rs k kx
  refine ha F s r _ rt E fp q σ H _ j rs ⟨fun σ' H' r' s' e1 j1 rs1 hl h1 => ?_, k.rt⟩ kx
  refine hb F s' r' nx rt E fp h1 σ' H' D j1 rs1 ?_ (kx.mono e1)
  rw [hl]
  exact k.mono e1
theorem z_ifS {t : TT} {u w : TS} {c : GS → DT} {a b : DZ} (hc : ∀ s, SimT (C.at_ s) t (c s)) (ha : SimZ C u a) (hb : SimZ C w b) : SimZ C (tIfS t u w) (zIfS c a b) := by
  intro F s r nx rt E fp q σ H D j rs k kx
  refine hc s (F.at_ s) r _ (E s) ⟨F, fp, rfl⟩ q σ H _ j rs (fun c H1 e1 j1 h1 => ?_) (kx_at kx s)
  have e2 := (exF s).mpr e1
  cases c with
  | true => exact ha F s r nx rt E fp h1 σ H1 D j1 (rs.mono e1) (k.mono e2) (kx.mono e2)
  | false => exact hb F s r nx rt E fp h1 σ H1 D j1 (rs.mono e1) (k.mono e2) (kx.mono e2)
theorem z_ret {ta : TE} {a : DEz} (ha : SimEz C ta a) : SimZ C (tRet ta) (zRet a) := by
  intro F s r nx rt E fp q σ H D j rs k kx
  exact ha F s r rt E fp q σ H _ j rs k.rt kx
theorem rs_mono {K : PySem.W.Frag} {F : Fam} {H H1 : Hp} {σ : L2.St} {r : Rho} {s s' : GS} (rs : RepS K (F.at_ s) H σ r) (e : ExG F H H1) : RepS K (F.at_ s') H1 σ r := repSF s s' (rs.mono ((exF s).mp e))
theorem z_drop {ta : TE} {a : DEz} (ha : SimEz C ta a) : SimZ C (tDrop ta) (zDrop a) := by
  intro F s r nx rt E fp q σ H D j rs k kx
  exact ha F s r _ E fp q σ H _ j rs (fun v H1 x s1 e1 j1 r1 h1 => k.nx σ H1 r s1 e1 j1 (rs_mono rs e1) rfl h1) kx
theorem z_asg {ta : TE} {a : DEz} {g : TG} {d : DG} (ha : SimEz C ta a) (hg : ∀ s, SimG (C.at_ s) g d) : SimZ C (tAsg ta g) (zAsg a d) := by
  intro F s r nx rt E fp q σ H D j rs k kx
  refine ha F s r _ E fp q σ H _ j rs (fun v H1 x s1 e1 j1 r1 h1 => ?_) kx
  exact hg s1 (F.at_ s1) r (nx s1) x ⟨F, fp, rfl⟩ h1 v σ H1 _ j1 (rs_mono rs e1) r1 fun σ' r' rs' hl z => k.nx σ' H1 r' s1 e1 j1 rs' hl z
def forZ (g : DG) (b : DZ) (nx : GS → Rho → Prop) (rt : GS → PyData → Prop) (E : GS → Nat → Prop) : List PyData → GS → Rho → Prop
  | [], s, r => nx s r
  | x :: xs, s, r => g x r (fun r' => b s r' (fun s' r'' => forZ g b nx rt E xs s' r'') rt E)
/-- for .. in range(n), n written -/
def zForR (n : Nat) (g : DG) (b : DZ) : DZ := fun s r nx rt E => forZ g b nx rt E (rangeD 0 n) s r
theorem z_forR {n : Nat} (hn : n < 100000) {g : TG} {t : TS} {d : DG} {b : DZ} (hg : ∀ s, SimG (C.at_ s) g d) (hb : SimZ C t b) : SimZ C (tFor (iRng1 (tCons (tC (.int n)) tNil)) g t) (zForR n d b) := by
  intro F s r nx rt E fp h σ H D jj rs k kx
  have hlen : (rangeD 0 n).length = n := by simp [rangeD]
  refine ⟨n, rfl, by omega, by omega, ?_⟩
  have tn : (n : Int).toNat = n := Int.toNat_natCast n
  rw [tn]
  have h : forZ d b nx rt E (rangeD 0 n) s r := h
  refine ⟨fun i m σ' H' => ∃ s' ρ', m = n - i ∧ i ≤ n ∧ ExG F H H' ∧ (F.at_ s').J H' ∧ RepS C.K (F.at_ s') H' σ' ρ' ∧ σ'.length = σ.length ∧ forZ d b nx rt E ((rangeD 0 n).drop i) s' ρ',
    ⟨n, s, r, by simp, Nat.zero_le _, ExG.refl F H, jj, rs, rfl, h⟩, ?_⟩
  rintro i m σ' H' ⟨s', ρ', rfl, hile, e2, j2, rs2, hl2, h2⟩
  have wk := wlk_range (K := C.K) (G := F.at_ s') (H := H') 0 n
  by_cases hlt : i < (rangeD 0 n).length
  · have hd : (rangeD 0 n).drop i = (rangeD 0 n)[i] :: (rangeD 0 n).drop (i + 1) := List.drop_eq_getElem_cons hlt
    rw [hd] at h2
    obtain ⟨hgo, hy⟩ := (wk i H' (Ex.refl _ _) j2).1 (rangeD 0 n)[i] (List.getElem?_eq_getElem hlt)
    refine .inr ⟨hgo, fun σ3 H3 => ∃ s3 ρ3, ExG F H H3 ∧ (F.at_ s3).J H3 ∧ RepS C.K (F.at_ s3) H3 σ3 ρ3 ∧ σ3.length = σ.length ∧ forZ d b nx rt E ((rangeD 0 n).drop (i + 1)) s3 ρ3, ?_, fun x H3 y => ?_⟩
    · rintro σ3 H3 ⟨s3, ρ3, e3, j3, rs3, hl3, h3⟩
      exact ⟨n - (i + 1), by omega, s3, ρ3, rfl, by omega, e3, j3, rs3, hl3, h3⟩
    · obtain ⟨rfl, r3⟩ := hy x H3 y
      refine hg s' (F.at_ s') ρ' _ (rangeD 0 n)[i] ⟨F, fp, rfl⟩ h2 x σ' H3 _ j2 rs2 r3 fun σ4 ρ4 rs4 hl4 h4 => ?_
      refine hb F s' ρ4 _ rt E fp h4 σ4 H3 _ j2 rs4 ⟨fun σ5 H5 r5 s5 e5 j5 rs5 hl5 h5 => ?_, k.rt.mono e2⟩ (kx.mono e2)
      exact ⟨s5, r5, e2.trans e5, j5, rs5, (hl5.trans hl4).trans hl2, h5⟩
  · have hd : (rangeD 0 n).drop i = [] := List.drop_eq_nil_of_le (by omega)
    rw [hd] at h2
    exact .inl ⟨(wk i H' (Ex.refl _ _) j2).2 (by omega), k.nx σ' H' ρ' s' e2 j2 rs2 hl2 h2⟩
end
/-! ### defs -/
def zFn (n : Nat) (b : DZ) : DFz := fun s ds Q E => b s (startR n ds) (fun s' _ => Q s' .none) Q E
section
variable {P : Program} {w : World} {K : PySem.W.Frag} {mg : Str → Option Value} {base : Heap}
/-- a def that keeps its promise by data and state -/
theorem fnz_ok {x q : Str} {st : Stmt} {f : Addr} {fd : FuncData} {N ps : List Str} {k n m : Nat} {ec : Nat → Addr} {FP : Fam → Prop} {hadd : ∀ (F : Fam) (s : GS) (p : Addr) (h : ¬ (F.at_ s).D p) (xs : List V), FP F → ∃ F', FP F' ∧ (F.at_ s).add p h xs = F'.at_ s} {t : XK → TS} {b : DZ}
    (F : Fun K x q st f fd) (S : FnScope N ps (defScope st)) (hn : N.length = n) (hm : ps.length = m) (hle : m ≤ n)
    (der : ∀ (cdv : Value) (A : Around) (outer : List Env) (s : Shared) (H : Hp) (E : XK), Room k (A.deeper (envOfC q (defScope st) s.heap.objs.size f cdv)) → PSs (bcx P w K mg base N q (defScope st) f cdv A outer s H E) (defBody st) (t E))
    (sim : ∀ E : XK, SimZ ⟨K, ec, FP, E, hadd⟩ (t E) b) : FnOk P w K mg base (L2N.CX P w) (k + 1) f fd ps (liftZ K ec FP m (zFn n b)) := by
  obtain ⟨oc, od, kV, doc, pm, an, cdv, ct, osl, rfl, lk, hcd⟩ := F.ex
  refine fn_of lk hcd S (fun vs H Q E h => ?_) (fun A outer s H vs Q E hr h => ?_)
  · obtain ⟨G, s, ds, Q0, E0, gp, j, r, hl, _⟩ := h
    rw [r.len, hl, hm]
  · obtain ⟨G, s0, ds, Q0, E0, gp, j, r, hl, hf, kq, ke⟩ := h
    have hlen := r.len
    refine ⟨t E, der cdv A outer s H E hr, ?_⟩
    have rs : RepS K (G.at_ s0) H (L2.start N vs) (startR n ds) := by
      rw [← hn]
      exact RepS.start r (by omega)
    refine sim E G s0 (startR n ds) (fun s' _ => Q0 s' .none) Q0 E0 gp hf (L2.start N vs) H _ j rs ⟨fun σ' H' r' s' e j' rs' hl' z => ?_, fun v H' x s' e j' rv z => kq v H' x s' e j' rv z⟩ fun c H' s' e j' h => ke c H' s' e j' h
    exact kq .non H' .none s' e j' (.inl .non) z
end
end Tz

/-! The desk: an instance whose three fields are the state. -/
namespace Tz
open PySem PySem.Spec PyProof.Rows L2
/-- the desk: a stand-in datum that no object represents -/
abbrev deskD : PyData := .dict [(.none, .none)]
abbrev dfs (v0 v1 v2 : V) : List (Str × V) := [("now", v0), ("earlier", v1), ("undone", v2)]
def DeskF (K : PySem.W.Frag) (Cd : Addr) (F : Fam) : Prop := ∀ v : V, F.isO deskD v → ∃ p dx, v = .ref p ∧ F.D p ∧
  (∀ s H, (F.at_ s).J H → ∃ v0 v1 v2, H p = some (.ins Cd dx (dfs v0 v1 v2)) ∧ DqAll K (vis (F.at_ s) H) [v0, v1, v2] s) ∧
  ∀ s H v0 v1 v2 s', (F.at_ s).J H → DqAll K (vis (F.at_ s) H) [v0, v1, v2] s' → (F.at_ s').J (upd H p (.ins Cd dx (dfs v0 v1 v2)))
theorem desk_is {K : PySem.W.Frag} {F : Fam} {s : GS} {H : Hp} {v : V} (r : Rep K (F.at_ s) H v deskD) : F.isO deskD v := by
  rcases r with r | r
  · cases r
  · have := r.2
    rw [F.hI s] at this
    exact this
def dFld (j : Nat) (a : DE) (s : GS) : DE := fun r Q E => a r (fun o => o = deskD ∧ onS (s[j]?) Q) E
section
variable {C : Cz} {Cd : Addr}
theorem s_fld {f : Str} {j : Nat} {ta : TE} {a : DE} {s : GS} (hF : ∀ F, C.FP F → DeskF C.K Cd F) (hc : Cls C.K Cd) (hn : NoAttr C.K Cd f) (hl : ∀ v0 v1 v2 : V, (dfs v0 v1 v2).lookup f = [v0, v1, v2][j]?) (ha : SimE (C.at_ s) ta a) : SimE (C.at_ s) (tFld C.K ta f) (dFld j a s) := by
  intro G ρ Q E gp h σ H Q' jj rs k kx
  refine ha G ρ _ E gp h σ H _ jj rs (fun v H1 x e1 j1 r1 h1 => ?_) kx
  obtain ⟨F, fp, e⟩ := gp
  subst e
  obtain ⟨ex, h1⟩ := h1
  subst ex
  obtain ⟨p, dx, rfl, dp, rd, wr⟩ := hF F fp v (desk_is r1)
  obtain ⟨v0, v1, v2, hp, dq⟩ := rd s H1 j1
  obtain ⟨d, hd, q⟩ := onS_some h1
  obtain ⟨u, hu, rq⟩ := dqAll_get dq hd
  exact ⟨p, Cd, dx, _, u, rfl, hp, hc, hn, (hl v0 v1 v2).trans hu, k u H1 d e1 j1 (.inl rq) q⟩
theorem dqAll_set {K : PySem.W.Frag} {H : Hp} {v : V} {d : PyData} (h : Dq K H v d) : ∀ {vs : List V} {ds : List PyData} (j : Nat), DqAll K H vs ds → DqAll K H (vs.set j v) (ds.set j d)
  | _, _, _, .nil => .nil
  | _, _, 0, .cons _ b => .cons h b
  | _, _, j + 1, .cons a b => .cons a (dqAll_set h j b)
def zSet (j : Nat) (a e : GS → DE) : DZ := fun s r nx rt E => e s r (fun y => plain y = true ∧ a s r (fun o => o = deskD ∧ nx (s.set j y) r) (E s)) (E s)
theorem z_set {f : Str} {j : Nat} {ta tv : TE} {a e : GS → DE} (hF : ∀ F, C.FP F → DeskF C.K Cd F) (hc : Cls C.K Cd) (hn : NoAttr C.K Cd f) (hp : ∀ v0 v1 v2 y : V, ∃ u0 u1 u2, putF f y (dfs v0 v1 v2) = dfs u0 u1 u2 ∧ [u0, u1, u2] = [v0, v1, v2].set j y)
    (ha : ∀ s, SimE (C.at_ s) ta (a s)) (he : ∀ s, SimE (C.at_ s) tv (e s)) : SimZ C (sFld C.K ta tv f) (zSet j a e) := by
  intro F s r nx rt E fp q σ H D jj rs k kx
  refine he s (F.at_ s) r _ (E s) ⟨F, fp, rfl⟩ q σ H _ jj rs (fun y H1 x e1 j1 r1 h1 => ?_) (kx_at kx s)
  obtain ⟨pl, h1⟩ := h1
  have g1 := (exF s).mpr e1
  refine ha s (F.at_ s) r _ (E s) ⟨F, fp, rfl⟩ h1 σ H1 _ j1 (rs.mono e1) (fun o H2 x2 e2 j2 r2 h2 => ?_) (kx_at (kx.mono g1) s)
  have g2 := (exF s).mpr e2
  obtain ⟨ex, h2⟩ := h2
  subst ex
  obtain ⟨p, dx, rfl, dp, rd, wr⟩ := hF F fp o (desk_is r2)
  obtain ⟨v0, v1, v2, hv, dq⟩ := rd s H2 j2
  obtain ⟨u0, u1, u2, eu, es⟩ := hp v0 v1 v2 y
  refine ⟨p, Cd, dx, _, rfl, hv, hc, hn, by show 3 < 1000; decide, ?_⟩
  rw [eu]
  have dq' : DqAll C.K (vis (F.at_ s) H2) [u0, u1, u2] (s.set j x) := by
    rw [es]
    exact dqAll_set (((r1.mono e2)).dp pl) j dq
  have j3 := wr s H2 u0 u1 u2 (s.set j x) j2 dq'
  have g3 : ExG F H2 (upd H2 p (.ins Cd dx (dfs u0 u1 u2))) := fun b o nd _ z => by
    rw [upd_ne fun w => nd (by rw [w]; exact dp)]
    exact z
  exact k.nx σ _ r _ ((g1.trans g2).trans g3) j3 (rs_mono rs ((g1.trans g2).trans g3)) rfl h2
/-- o.m(..), o the desk -/
def zMeth (n : Nat) (f : DFz) (a : GS → DE) (as : GS → DA) : DEz := fun s r Q E => a s r (fun o => o = deskD ∧ as s r (fun ds => ds.length + 1 = n ∧ f s (deskD :: ds) Q E) (E s)) (E s)
theorem ez_meth {n : Nat} {f : DFz} {FP : Fam → Prop} {m : Str} {ta : TE} {ts : TA} {a : GS → DE} {as : GS → DA} (hF : ∀ F, C.FP F → DeskF C.K Cd F) (hg : ∀ F, C.FP F → FP F) (hl : ∀ v0 v1 v2 : V, (dfs v0 v1 v2).lookup m = none) (ha : ∀ s, SimE (C.at_ s) ta (a s)) (hs : ∀ s, SimA (C.at_ s) ts (as s)) :
    SimEz C (tMeth Cd m (liftZ C.K C.ec FP n f) [] C.E0 ta ts) (zMeth n f a as) := by
  intro F s r Q E fp q σ H Q' j rs k kx
  refine ha s (F.at_ s) r _ (E s) ⟨F, fp, rfl⟩ q σ H _ j rs (fun o H1 x e1 j1 r1 h1 => ?_) (kx_at kx s)
  have g1 := (exF s).mpr e1
  obtain ⟨ex, h1⟩ := h1
  subst ex
  obtain ⟨p, dx, rfl, dp, rd, wr⟩ := hF F fp o (desk_is r1)
  obtain ⟨v0, v1, v2, hv, dq⟩ := rd s H1 j1
  refine ⟨p, dx, _, rfl, hv, hl v0 v1 v2, ?_⟩
  refine hs s (F.at_ s) r _ (E s) ⟨F, fp, rfl⟩ h1 σ H1 _ j1 (rs.mono e1) (fun vs H2 xs e2 j2 r2 h2 => ?_) (kx_at (kx.mono g1) s)
  have g2 := (exF s).mpr e2
  rw [List.append_nil]
  exact ⟨F, s, deskD :: xs, Q, E, hg F fp, j2, ⟨r1.mono e2, r2⟩, h2.1, h2.2, k.mono (g1.trans g2), kx.mono (g1.trans g2)⟩
end
/-! ### len of an instance -/
def rLenO (Cd : Addr) (sp : Sp) (E : XK) : List V → Hp → VK → Prop := fun vs H Q => ∃ a dx fs, vs = [V.ref a] ∧ H a = some (.ins Cd dx fs) ∧ sp [.ref a] H (fun v H2 => ∃ n : Int, v = .int n ∧ (0 ≤ n ∧ n < 2 ^ 63) ∧ Q (.int n) H2) E
theorem call_lenO {X : Cx} {CX : CXT} {k : Nat} {f Cd : Addr} {fd : FuncData} {ps : List Str} {sp : Sp} {E : XK} (hs : PySem.W.findIn X.K (.ref Cd) "__len__" = some (some (.ref f))) (hf : PySem.W.isFn X.K (.ref f) = true) (F : FnOk X.prog X.w X.K X.mg X.base CX k f fd ps sp) (hr : Room (k + 1) X.A) (hb : Binds X.K fd ps []) (hx : Passes CX X E) :
    CallR X (.builtin "len") (rLenO Cd sp E) := by
  intro pins s σ H vs us Q I r h
  obtain ⟨a, dx, fs, rfl, ha, q⟩ := h
  rw [Vals.ref1 r]
  obtain ⟨mA, O, _, _, _, _⟩ := ins_get I.hok ha
  obtain ⟨od, J, _⟩ := O.look
  obtain ⟨m, hF⟩ := I.fr
  refine PySem.W.len_K hF I.ok.mod.kin J hs hf ?_
  have hlen : ([Value.ref a] ++ ([] : List Value)).length = ps.length := by
    have := F.len _ _ _ _ q
    simpa using this
  have hbt := hb s [.ref a] I.kIn hlen
  refine wpAny_call (codeAny_mono (F.run X.A.in1 X.stack s H ⟨[.ref a], []⟩ [.ref a] [V.ref a] _ E hr.in1 I.env0.in1 hbt (.cons rfl .nil) q) fun r s' hq => ?_)
  cases r with
  | error e => exact hx pins σ H s e s' I hq
  | ok fl =>
    cases fl with
    | ret u =>
      obtain ⟨v, H', I', rv, n, ev, hn, qz⟩ := I.after hq
      subst ev
      obtain ⟨t, e⟩ := (show ∃ t, u = Value.int n t from rv)
      subst e
      exact ⟨hn, .int n, H', I'.tok _, ⟨_, rfl⟩, qz⟩
    | next => exact False.elim hq
    | brk => exact False.elim hq
    | cont => exact False.elim hq
def zLen (f : DFz) (a : GS → DE) : DEz := fun s r Q E => a s r (fun o => o = deskD ∧ f s [deskD] (fun s' x => match x with
  | .int n => (0 ≤ n ∧ n < 2 ^ 63) ∧ Q s' (.int n)
  | _ => False) E) (E s)
theorem ez_len {C : Cz} {Cd : Addr} {f : DFz} {FP : Fam → Prop} {ta : TE} {a : GS → DE} (hF : ∀ F, C.FP F → DeskF C.K Cd F) (hg : ∀ F, C.FP F → FP F) (ha : ∀ s, SimE (C.at_ s) ta (a s)) : SimEz C (tCB (rLenO Cd (liftZ C.K C.ec FP 1 f) C.E0) (tCons ta tNil)) (zLen f a) := by
  intro F s r Q E fp q σ H Q' j rs k kx
  refine ha s (F.at_ s) r _ (E s) ⟨F, fp, rfl⟩ q σ H _ j rs (fun o H1 x e1 j1 r1 h1 => ?_) (kx_at kx s)
  have g1 := (exF s).mpr e1
  obtain ⟨ex, h1⟩ := h1
  subst ex
  obtain ⟨p, dx, rfl, dp, rd, wr⟩ := hF F fp o (desk_is r1)
  obtain ⟨v0, v1, v2, hv, dq⟩ := rd s H1 j1
  refine ⟨p, dx, _, rfl, hv, F, s, [deskD], _, E, hg F fp, j1, ⟨r1, trivial⟩, rfl, h1, fun v H' x s' e j' rv z => ?_, kx.mono g1⟩
  match x, rv, z with
  | .int n, rv, z => exact ⟨n, rep_int rv, z.1, k _ H' _ s' (g1.trans e) j' (.inl (.int n)) z.2⟩
/-! ### told -/
def zTold (d : DEz) : DEz := fun s r Q _ => d s r Q (fun s' c => c < 16 ∧ Q s' (errD c))
theorem ez_told {C : Cz} {T : List (Addr × Str)} {tt : Nat → Addr → VK → Hp → Prop} {te : XK → TE} {d : DEz} (hT : ∀ F, C.FP F → ∀ s, (F.at_ s).T = T)
    (htt : ∀ (c : Nat) (G : Hid) (a : Addr) (H : Hp) (Q : VK), c < 16 → G.J H → (∀ v H', Ex G H H' → G.J H' → Rep C.K G H' v (errD c) → Q v H') → tt c a Q H)
    (hte : ∀ E : XK, SimEz { C with E0 := E } (te E) d) : SimEz C (tTold C.ec T tt te) (zTold d) := by
  intro F s r Q E fp q σ H Q' j rs k kx
  have eT := hT F fp s
  subst eT
  refine ⟨(F.at_ s).tab j, fun H1 eN T1 => ?_⟩
  have j1 := (F.at_ s).tabs j eN T1
  have e1 : Ex (F.at_ s) H H1 := Ex.extN eN
  have g1 := (exF s).mpr e1
  refine hte (wTold C.ec tt Q') F s r Q _ fp q σ H1 Q' j1 (rs.mono e1) (k.mono g1) ?_
  intro c H' s' e j' hq
  exact ⟨rfl, c, hq.1, rfl, fun a na => htt c (F.at_ s') a H' Q' hq.1 j' fun v H2 e2 j2 r2 => k v H2 _ s' ((g1.trans e).trans ((exF s').mpr e2)) j2 r2 hq.2⟩
/-! ### the family of a new desk -/
def deskFam (K : PySem.W.Frag) (G : Hid) (Cd p dx : Addr) (hp : ¬ G.D p) (s : GS) : Hid where
  D := fun a => G.D a ∨ a = p
  J := fun H => (∃ v0 v1 v2, H p = some (.ins Cd dx (dfs v0 v1 v2)) ∧ DqAll K (vis (G.add p hp []) H) [v0, v1, v2] s) ∧ G.J (era p H)
  live := by
    rintro H a ⟨⟨v0, v1, v2, e, _⟩, j⟩ (d | d)
    · have ne : a ≠ p := fun z => hp (by rw [← z]; exact d)
      have := G.live j d
      rw [era_ne ne] at this
      exact this
    · rw [d, e]
      exact fun z => nomatch z
  keep := by
    rintro H H' ⟨⟨v0, v1, v2, e, dq⟩, j⟩ hd hx
    refine ⟨⟨v0, v1, v2, by rw [hd p (.inr rfl)]; exact e, dq_sameAll (fun a o h => ?_) _ _ dq⟩, G.keep j (fun a d => ?_) fun a o nd nt ha => ?_⟩
    · obtain ⟨n, t, q⟩ := vis_some h
      exact vis_of n t (hx a o n t q)
    · have ne : a ≠ p := fun z => hp (by rw [← z]; exact d)
      rw [era_ne ne, era_ne ne]
      exact hd a (.inl d)
    · obtain ⟨ne, ha⟩ := era_some ha
      rw [era_ne ne]
      exact hx a o (fun z => z.elim nd ne) nt ha
  isO := fun d v => (d = deskD ∧ v = .ref p) ∨ (d ≠ deskD ∧ G.isO d v)
  T := G.T
  tab := by
    rintro H ⟨_, j⟩
    exact (G.tab j).ext fun b o e => (era_some e).2
  tabs := by
    rintro H H' ⟨⟨v0, v1, v2, e, dq⟩, j⟩ hx ht
    have e' : H' p = some (.ins Cd dx (dfs v0 v1 v2)) := hx p _ e fun ps z => nomatch z
    refine ⟨⟨v0, v1, v2, e', dq_sameAll (fun a o h => ?_) _ _ dq⟩, G.tabs j (fun b o hb no => ?_) fun q hq => ?_⟩
    · obtain ⟨n, t, q⟩ := vis_some h
      exact vis_of n t (hx a o q t)
    · obtain ⟨ne, hb⟩ := era_some hb
      rw [era_ne ne]
      exact hx b o hb no
    · obtain ⟨ps, h1, h2, h3⟩ := ht q hq
      have ne : q.1 ≠ p := ne_of h1 e' fun z => nomatch z
      refine ⟨ps, by rw [era_ne ne]; exact h1, h2, fun pos cv hc => ?_⟩
      obtain ⟨c, e1, e2⟩ := h3 pos cv hc
      have ne2 : c ≠ p := ne_of e2 e' fun z => by
        unfold LamX.CodeO at z
        cases z
      exact ⟨c, e1, by rw [era_ne ne2]; exact e2⟩
def famOf (K : PySem.W.Frag) (G : Hid) (Cd p dx : Addr) (hp : ¬ G.D p) : Fam := ⟨deskFam K G Cd p dx hp, fun a => G.D a ∨ a = p, fun d v => (d = deskD ∧ v = .ref p) ∨ (d ≠ deskD ∧ G.isO d v), fun _ => rfl, fun _ => rfl⟩
theorem vis_add {K : PySem.W.Frag} {G : Hid} {Cd p dx : Addr} {hp : ¬ G.D p} {s : GS} {H : Hp} : vis (deskFam K G Cd p dx hp s) H = vis (G.add p hp []) H := rfl
theorem famOf_desk {K : PySem.W.Frag} {G : Hid} {Cd p dx : Addr} {hp : ¬ G.D p} : DeskF K Cd (famOf K G Cd p dx hp) := by
  intro v hv
  rcases hv with ⟨_, rfl⟩ | ⟨z, _⟩
  · refine ⟨p, dx, rfl, .inr rfl, fun s H j => j.1, fun s H v0 v1 v2 s' j dq => ⟨⟨v0, v1, v2, upd_same, ?_⟩, ?_⟩⟩
    · refine dq_sameAll (fun a o h => ?_) _ _ dq
      obtain ⟨n, t, q⟩ := vis_some h
      refine vis_of n t ?_
      rw [upd_ne fun z => n (.inr z)]
      exact q
    · rw [era_upd]
      exact j.2
  · exact absurd rfl z
theorem famOf_rolls {K : PySem.W.Frag} {G : Hid} {Cd p dx : Addr} {hp : ¬ G.D p} (R : Rolls G) (s : GS) : Rolls ((famOf K G Cd p dx hp).at_ s) := by
  intro v hv
  have hv : G.isO dice v := by
    rcases hv with ⟨z, _⟩ | ⟨_, z⟩
    · cases z
    · exact z
  obtain ⟨q, rfl, d, h1, h2⟩ := R v hv
  have ne : q ≠ p := fun z => hp (by rw [← z]; exact d)
  refine ⟨q, rfl, .inl d, fun H j => ?_, fun H x n j => ?_⟩
  · obtain ⟨x, n, e⟩ := h1 _ j.2
    rw [era_ne ne] at e
    exact ⟨x, n, e⟩
  · obtain ⟨⟨v0, v1, v2, e, dq⟩, j⟩ := j
    refine ⟨⟨v0, v1, v2, by rw [upd_ne (Ne.symm ne)]; exact e, dq_sameAll (fun a o h => ?_) _ _ dq⟩, ?_⟩
    · obtain ⟨nd, t, z⟩ := vis_some h
      refine vis_of nd t ?_
      rw [upd_ne fun w => nd (.inl (by rw [w]; exact d))]
      exact z
    · have eq : era p (upd H q (.lst [.int x, .int n])) = upd (era p H) q (.lst [.int x, .int n]) := by
        funext a
        by_cases h : a = p
        · rw [h, era_self, upd_ne (Ne.symm ne), era_self]
        · rw [era_ne h]
          by_cases h' : a = q
          · rw [h', upd_same, upd_same]
          · rw [upd_ne h', upd_ne h', era_ne h]
      rw [eq]
      exact h2 _ x n j
/-- one more that is hidden beside the family -/
def Fam.add (F : Fam) (p : Addr) (hp : ¬ F.D p) (xs : List V) : Fam :=
  ⟨fun s => (F.at_ s).add p (by rw [F.hD s]; exact hp) xs, fun a => F.D a ∨ a = p, F.isO, fun s => by show (fun a => (F.at_ s).D a ∨ a = p) = _; rw [F.hD s], fun s => F.hI s⟩
theorem era_upd_ne {p q : Addr} {H : Hp} {o : HO} (ne : q ≠ p) : era p (upd H q o) = upd (era p H) q o := by
  funext a
  by_cases h : a = p
  · rw [h, era_self, upd_ne (Ne.symm ne), era_self]
  · rw [era_ne h]
    by_cases h' : a = q
    · rw [h', upd_same, upd_same]
    · rw [upd_ne h', upd_ne h', era_ne h]
theorem vis_addE {G : Hid} {p : Addr} {hp : ¬ G.D p} {xs : List V} {H : Hp} : Same (vis G (era p H)) (vis (G.add p hp xs) H) := fun a o h => by
  obtain ⟨n, t, q⟩ := vis_some h
  obtain ⟨ne, q⟩ := era_some q
  exact vis_of (fun z => z.elim n ne) t q
theorem vis_addE' {G : Hid} {p : Addr} {hp : ¬ G.D p} {xs : List V} {H : Hp} : Same (vis (G.add p hp xs) H) (vis G (era p H)) := fun a o h => by
  obtain ⟨n, t, q⟩ := vis_some h
  refine vis_of (fun z => n (.inl z)) t ?_
  rw [era_ne fun z => n (.inr z)]
  exact q
theorem add_desk {K : PySem.W.Frag} {Cd : Addr} {F : Fam} {p : Addr} {hp : ¬ F.D p} {xs : List V} (h : DeskF K Cd F) : DeskF K Cd (F.add p hp xs) := by
  intro v hv
  obtain ⟨q, dx, rfl, dq, rd, wr⟩ := h v hv
  have ne : q ≠ p := fun z => hp (by rw [← z]; exact dq)
  refine ⟨q, dx, rfl, .inl dq, fun s H j => ?_, fun s H v0 v1 v2 s' j z => ?_⟩
  · obtain ⟨v0, v1, v2, e, z⟩ := rd s _ j.2
    rw [era_ne ne] at e
    exact ⟨v0, v1, v2, e, dq_sameAll (vis_addE (hp := by rw [F.hD s]; exact hp)) _ _ z⟩
  · refine ⟨by rw [upd_ne (Ne.symm ne)]; exact j.1, ?_⟩
    rw [era_upd_ne ne]
    exact wr s _ v0 v1 v2 s' j.2 (dq_sameAll (vis_addE' (hp := by rw [F.hD s]; exact hp)) _ _ z)
/-- what is asked of a family in the law -/
def FPl (K : PySem.W.Frag) (Cd : Addr) (T : List (Addr × Str)) (F : Fam) : Prop := DeskF K Cd F ∧ ∀ s, GPlaw T (F.at_ s)
theorem addFPl {K : PySem.W.Frag} {Cd : Addr} {T : List (Addr × Str)} : ∀ (F : Fam) (s : GS) (p : Addr) (h : ¬ (F.at_ s).D p) (xs : List V), FPl K Cd T F → ∃ F', FPl K Cd T F' ∧ (F.at_ s).add p h xs = F'.at_ s := fun F s p h xs f => by
  have hp : ¬ F.D p := by
    rw [← F.hD s]
    exact h
  exact ⟨F.add p hp xs, ⟨add_desk f.1, fun s' => addLaw _ _ (by rw [F.hD s']; exact hp) _ (f.2 s')⟩, rfl⟩
def FPd (K : PySem.W.Frag) (Cd : Addr) (F : Fam) : Prop := DeskF K Cd F
theorem addFPd {K : PySem.W.Frag} {Cd : Addr} : ∀ (F : Fam) (s : GS) (p : Addr) (h : ¬ (F.at_ s).D p) (xs : List V), FPd K Cd F → ∃ F', FPd K Cd F' ∧ (F.at_ s).add p h xs = F'.at_ s := fun F s p h xs f => by
  have hp : ¬ F.D p := by
    rw [← F.hD s]
    exact h
  exact ⟨F.add p hp xs, add_desk f, rfl⟩
end Tz

/-! A new desk; methods ready to be called. -/
namespace Tz
open PySem PySem.Spec PyProof.Rows L2
/-- a method that keeps its promise, ready to be called -/
def Mfn (P : Program) (w : World) (K : PySem.W.Frag) (mg : Str → Option Value) (base : Heap) (k : Nat) (Cd : Addr) (m : Str) (ps : List Str) (sp : Sp) : Prop :=
  ∃ f fd, FnOk P w K mg base (L2N.CX P w) k f fd ps sp ∧ Meth K Cd m f ∧ Binds K fd ps []
theorem pe_mt {X : Cx} {E : XK} {k : Nat} {Cd : Addr} {m : Str} {ps : List Str} {sp : Sp} {o e : Expr} {es : List Expr} {ta : TE} {t : TA} {apos pos : Pos} {pl : Sem Bool} (M : Mfn X.prog X.w X.K X.mg X.base k Cd m ps sp) (c : Cls X.K Cd) (tk : L2N.Takes X (fun cls d _ H => E cls d H)) (hr : Room k X.A) (he : PE X o ta) (ha : PA X (e :: es) t)
    (hst : starEach (e :: es) X.env = (false, eval e X.env) :: starEach es X.env := by rfl) (hpl : (backTo pos (starEach es X.env)).any (·.1) = false := by rfl)
    (ht : eval (.Call (.Attribute o m apos) (e :: es) [] pos) X.env = (do let u ← eval o X.env; standAt apos.atName; let (g, us) ← holding [u] (getMethod u m pl); callWith pos g us (backTo pos (starEach (e :: es) X.env)) (backToKw pos (keywordEach [] X.env))) := by rfl) :
    PE X (.Call (.Attribute o m apos) (e :: es) [] pos) (tMeth Cd m sp [] E ta t) := by
  obtain ⟨f, fd, F, hm, hb⟩ := M
  exact pe_meth (pl := pl) he c hm F hr hb .nil (L2N.passes_call tk fun _ _ _ _ h => h) ha hst hpl ht
theorem pe_mt0 {X : Cx} {E : XK} {k : Nat} {Cd : Addr} {m : Str} {ps : List Str} {sp : Sp} {o : Expr} {ta : TE} {apos pos : Pos} {pl : Sem Bool} (M : Mfn X.prog X.w X.K X.mg X.base k Cd m ps sp) (c : Cls X.K Cd) (tk : L2N.Takes X (fun cls d _ H => E cls d H)) (hr : Room k X.A) (he : PE X o ta)
    (ht : eval (.Call (.Attribute o m apos) [] [] pos) X.env = (do let u ← eval o X.env; standAt apos.atName; let (g, us) ← holding [u] (getMethod u m pl); callWith pos g us (backTo pos (starEach [] X.env)) (backToKw pos (keywordEach [] X.env))) := by rfl) :
    PE X (.Call (.Attribute o m apos) [] [] pos) (tMeth Cd m sp [] E ta tNil) := by
  obtain ⟨f, fd, F, hm, hb⟩ := M
  exact pe_meth0 (pl := pl) he c hm F hr hb .nil (L2N.passes_call tk fun _ _ _ _ h => h) ht
theorem pe_lenM {X : Cx} {E : XK} {k : Nat} {Cd : Addr} {ps : List Str} {sp : Sp} {o : Expr} {ta : TE} {p pos : Pos} (M : Mfn X.prog X.w X.K X.mg X.base k Cd "__len__" ps sp) (tk : L2N.Takes X (fun cls d _ H => E cls d H)) (hr : Room (k + 1) X.A) (hg : Gl X "len") (hm : X.mg "len" = none) (he : PE X o ta)
    (hst : starEach [o] X.env = (false, eval o X.env) :: starEach [] X.env := by rfl) :
    PE X (.Call (.Name "len" p) [o] [] pos) (tCB (rLenO Cd sp E) (tCons ta tNil)) := by
  obtain ⟨f, fd, F, hmt, hb⟩ := M
  exact pe_callB (call_lenO hmt.at_ hmt.fn F hr hb (L2N.passes_call tk fun _ _ _ _ h => h)) hg hm PySem.boot_len (pa_cons he pa_nil (hs := hst)) (he := hst)
/-- a method as it stands in its class -/
def Met0 (K : PySem.W.Frag) (Cd : Addr) (m q : Str) (st : Stmt) : Prop := ∃ f fd, Fun K m q st f fd ∧ Meth K Cd m f
theorem mfz_of {P : Program} {w : World} {K : PySem.W.Frag} {mg : Str → Option Value} {base : Heap} {Cd : Addr} {m q : Str} {st : Stmt} {N ps : List Str} {k n l : Nat} {ec : Nat → Addr} {FP : Fam → Prop} {hadd : ∀ (F : Fam) (s : GS) (p : Addr) (h : ¬ (F.at_ s).D p) (xs : List V), FP F → ∃ F', FP F' ∧ (F.at_ s).add p h xs = F'.at_ s} {t : XK → TS} {b : DZ}
    (D : Met0 K Cd m q st) (S : FnScope N ps (defScope st)) (hn : N.length = n) (hm : ps.length = l) (hle : l ≤ n)
    (hb : ∀ (kV doc pm : Value) (an : Option Addr) (cdv ct : Value) (us : List Value), us.length = ps.length → bindArgs (PySem.W.fnOf m q (defArgs st) (defBody st) (defScope st) .none kV doc pm an cdv ct) ⟨us, []⟩ = pure (ps.zip us))
    (der : ∀ (f : Addr) (cdv : Value) (A : Around) (outer : List Env) (s : Shared) (H : Hp) (E : XK), Room k (A.deeper (envOfC q (defScope st) s.heap.objs.size f cdv)) → PSs (bcx P w K mg base N q (defScope st) f cdv A outer s H E) (defBody st) (t E))
    (sim : ∀ E : XK, SimZ ⟨K, ec, FP, E, hadd⟩ (t E) b) : Mfn P w K mg base (k + 1) Cd m ps (liftZ K ec FP l (zFn n b)) := by
  obtain ⟨f, fd, F, hg⟩ := D
  exact ⟨f, fd, fnz_ok F S hn hm hle (der f) sim, hg, F.binds hb⟩
theorem dfz_of {P : Program} {w : World} {K : PySem.W.Frag} {mg : Str → Option Value} {base : Heap} {x : Str} {st : Stmt} {N ps : List Str} {k n l : Nat} {ec : Nat → Addr} {FP : Fam → Prop} {hadd : ∀ (F : Fam) (s : GS) (p : Addr) (h : ¬ (F.at_ s).D p) (xs : List V), FP F → ∃ F', FP F' ∧ (F.at_ s).add p h xs = F'.at_ s} {t : XK → TS} {b : DZ}
    (D : Def0 K mg x st) (S : FnScope N ps (defScope st)) (hn : N.length = n) (hm : ps.length = l) (hle : l ≤ n)
    (hb : ∀ (kV doc pm : Value) (an : Option Addr) (cdv ct : Value) (us : List Value), us.length = ps.length → bindArgs (PySem.W.fnOf x x (defArgs st) (defBody st) (defScope st) .none kV doc pm an cdv ct) ⟨us, []⟩ = pure (ps.zip us))
    (der : ∀ (f : Addr) (cdv : Value) (A : Around) (outer : List Env) (s : Shared) (H : Hp) (E : XK), Room k (A.deeper (envOfC x (defScope st) s.heap.objs.size f cdv)) → PSs (bcx P w K mg base N x (defScope st) f cdv A outer s H E) (defBody st) (t E))
    (sim : ∀ E : XK, SimZ ⟨K, ec, FP, E, hadd⟩ (t E) b) : Dfn P w K mg base (k + 1) x ps (liftZ K ec FP l (zFn n b)) := by
  obtain ⟨f, fd, F, hg⟩ := D
  exact ⟨f, fd, fnz_ok F S hn hm hle (der f) sim, hg, F.kp, F.binds hb⟩
/-- a def with lambdas of its own: its code is at c -/
theorem dfc_of {P : Program} {w : World} {K : PySem.W.Frag} {mg : Str → Option Value} {base : Heap} {x : Str} {st : Stmt} {N ps : List Str} {k n l : Nat} {ec : Nat → Addr} {FP : Fam → Prop} {hadd : ∀ (F : Fam) (s : GS) (p : Addr) (h : ¬ (F.at_ s).D p) (xs : List V), FP F → ∃ F', FP F' ∧ (F.at_ s).add p h xs = F'.at_ s} {t : XK → TS} {b : DZ}
    {oc kV doc pm ct cdv : Value} {od an : Option Addr} {osl : Array (Option Value)} {f : Addr} (lk : K.lookup f = some ⟨oc, od, .func (PySem.W.fnOf x x (defArgs st) (defBody st) (defScope st) .none kV doc pm an cdv ct), osl⟩) (hcd : PySem.W.codeIn K cdv x = true) (hkp : PySem.W.keepIn K (.ref f) = true) (hg : mg x = some (.ref f))
    (S : FnScope N ps (defScope st)) (hn : N.length = n) (hm : ps.length = l) (hle : l ≤ n)
    (hb : ∀ (kV doc pm : Value) (an : Option Addr) (cdv ct : Value) (us : List Value), us.length = ps.length → bindArgs (PySem.W.fnOf x x (defArgs st) (defBody st) (defScope st) .none kV doc pm an cdv ct) ⟨us, []⟩ = pure (ps.zip us))
    (der : ∀ (A : Around) (outer : List Env) (s : Shared) (H : Hp) (E : XK), Room k (A.deeper (envOfC x (defScope st) s.heap.objs.size f cdv)) → PSs (bcx P w K mg base N x (defScope st) f cdv A outer s H E) (defBody st) (t E))
    (sim : ∀ E : XK, SimZ ⟨K, ec, FP, E, hadd⟩ (t E) b) : Dfn P w K mg base (k + 1) x ps (liftZ K ec FP l (zFn n b)) := by
  have F : Fun K x x st f _ := fun_mk lk hcd hkp
  refine ⟨f, _, ?_, hg, hkp, F.binds hb⟩
  refine fn_of lk hcd S (fun vs H Q E h => ?_) (fun A outer s H vs Q E hr h => ?_)
  · obtain ⟨G, s, ds, Q0, E0, gp, j, r, hl, _⟩ := h
    rw [r.len, hl, hm]
  · obtain ⟨G, s0, ds, Q0, E0, gp, j, r, hl, hf, kq, ke⟩ := h
    have hlen := r.len
    refine ⟨t E, der A outer s H E hr, ?_⟩
    have rs : RepS K (G.at_ s0) H (L2.start N vs) (startR n ds) := by
      rw [← hn]
      exact RepS.start r (by omega)
    refine sim E G s0 (startR n ds) (fun s' _ => Q0 s' .none) Q0 E0 gp hf (L2.start N vs) H _ j rs ⟨fun σ' H' r' s' e j' rs' hl' z => ?_, fun v H' x s' e j' rv z => kq v H' x s' e j' rv z⟩ fun c H' s' e j' h => ke c H' s' e j' h
    exact kq .non H' .none s' e j' (.inl .non) z
/-! ### a new desk -/
def spInit (Cd : Addr) : Sp := fun vs H Q _ => ∃ x dx, vs = [.ref x] ∧ H x = some (.ins Cd dx []) ∧ ∀ l1 l2 H', H l1 = none → H l2 = none → (∀ a o, a ≠ x → H a = some o → H' a = some o) → H' x = some (.ins Cd dx (dfs (.str "") (.ref l1) (.ref l2))) → H' l1 = some (.lst []) → H' l2 = some (.lst []) → Q .non H'
def t_init (K : PySem.W.Frag) : TS := tSeq (sFld K (tVar 0) (tC (.str "")) "now") (tSeq (sFld K (tVar 0) (tLst tNil) "earlier") (sFld K (tVar 0) (tLst tNil) "undone"))
/-- the desk's class: its fields are no attributes of the class -/
structure DeskC (K : PySem.W.Frag) (Cd : Addr) : Prop where
  cl : Cls K Cd
  n0 : NoAttr K Cd "now"
  n1 : NoAttr K Cd "earlier"
  n2 : NoAttr K Cd "undone"
theorem init_reads {K : PySem.W.Frag} {Cd : Addr} (c : DeskC K Cd) {vs : List V} {H : Hp} {Q : VK} {E : XK} (h : spInit Cd vs H Q E) : t_init K { nx := fun _ H' => Q .non H', rt := Q } (L2.start ["self"] vs) H := by
  obtain ⟨x, dx, rfl, hx, q⟩ := h
  refine ⟨_, rfl, x, Cd, dx, _, rfl, hx, c.cl, c.n0, by decide, ?_⟩
  refine ⟨by decide, fun l1 h1 => ?_⟩
  have n1 : l1 ≠ x := fun z => by rw [z, upd_same] at h1; cases h1
  refine ⟨_, rfl, x, Cd, dx, _, rfl, by rw [upd_ne (Ne.symm n1)]; exact upd_same, c.cl, c.n1, by decide, ?_⟩
  refine ⟨by decide, fun l2 h2 => ?_⟩
  have n2 : l2 ≠ x := fun z => by rw [z, upd_same] at h2; cases h2
  have n3 : l2 ≠ l1 := fun z => by rw [z, upd_ne n1, upd_same] at h2; cases h2
  refine ⟨_, rfl, x, Cd, dx, _, rfl, by rw [upd_ne (Ne.symm n2)]; exact upd_same, c.cl, c.n2, by show 2 < 1000; decide, ?_⟩
  rw [upd_ne n1] at h1
  rw [upd_ne n2, upd_ne n3, upd_ne n2] at h2
  refine q l1 l2 _ h1 h2 (fun a o na ha => ?_) upd_same ?_ ?_
  · have m1 : a ≠ l1 := fun z => by rw [z, h1] at ha; cases ha
    have m2 : a ≠ l2 := fun z => by rw [z, h2] at ha; cases ha
    rw [upd_ne na, upd_ne m2, upd_ne na, upd_ne m1, upd_ne na]
    exact ha
  · rw [upd_ne n1, upd_ne (Ne.symm n3), upd_ne n1, upd_same]
  · rw [upd_ne n2, upd_same]
def noDesk : Option PyData → Bool
  | some (.dict (_ :: _)) => false
  | _ => true
def deskFree (r : Rho) : Bool := r.all noDesk
theorem look_free : ∀ {r : Rho} {i : Nat} {d : PyData}, deskFree r = true → look r i = some d → d ≠ deskD
  | [], _, _, _, h => by cases h
  | x :: r, 0, d, hp, h => by
    have hp : (noDesk x && deskFree r) = true := hp
    rw [Bool.and_eq_true] at hp
    have h : x = some d := h
    subst h
    rintro rfl
    cases hp.1
  | x :: r, i + 1, d, hp, h => by
    have hp : (noDesk x && deskFree r) = true := hp
    rw [Bool.and_eq_true] at hp
    exact look_free (r := r) (i := i) hp.2 h
abbrev newS : GS := [.str "", .list [], .list []]
/-- a desk is made: it is hidden from now on -/
theorem made_desk {K : PySem.W.Frag} {G : Hid} {Cd x dx l1 l2 : Addr} {H H' : Hp} (j : G.J H) (hx : H x = none) (hd : H dx = none) (ne : dx ≠ x) (h1 : upd (upd H dx (.own x)) x (.ins Cd dx []) l1 = none) (h2 : upd (upd H dx (.own x)) x (.ins Cd dx []) l2 = none)
    (hk : ∀ a o, a ≠ x → upd (upd H dx (.own x)) x (.ins Cd dx []) a = some o → H' a = some o) (e : H' x = some (.ins Cd dx (dfs (.str "") (.ref l1) (.ref l2)))) (e1 : H' l1 = some (.lst [])) (e2 : H' l2 = some (.lst [])) :
    ∃ nd : ¬ G.D x, ((famOf K G Cd x dx nd).at_ newS).J H' ∧ Ex G H H' := by
  have nd : ¬ G.D x := fun z => G.live j z hx
  have ol : ∀ a o, H a = some o → a ≠ x ∧ H' a = some o := fun a o ha => by
    have nx : a ≠ x := fun z => by rw [z, hx] at ha; cases ha
    have ny : a ≠ dx := fun z => by rw [z, hd] at ha; cases ha
    exact ⟨nx, hk a o nx (by rw [upd_ne nx, upd_ne ny]; exact ha)⟩
  have new : ∀ l, upd (upd H dx (.own x)) x (.ins Cd dx []) l = none → ¬ (G.D l ∨ l = x) := fun l hl z => by
    rcases z with z | z
    · cases ho : H l with
      | none => exact G.live j z ho
      | some o =>
        have nx : l ≠ x := (ol l o ho).1
        have ny : l ≠ dx := fun w => by rw [w, hd] at ho; cases ho
        rw [upd_ne nx, upd_ne ny, ho] at hl
        cases hl
    · rw [z, upd_same] at hl
      cases hl
  refine ⟨nd, ⟨⟨_, _, _, e, .cons (.str "") (.cons (.lst (vis_of (new l1 h1) nt_lst e1) .nil) (.cons (.lst (vis_of (new l2 h2) nt_lst e2) .nil) .nil))⟩, G.keep j (fun a d => ?_) fun a o _ _ ha => ?_⟩, fun a o _ _ ha => (ol a o ha).2⟩
  · cases ho : H a with
    | none => exact absurd ho (G.live j d)
    | some o =>
      obtain ⟨nx, z⟩ := ol a o ho
      rw [era_ne nx, z]
  · obtain ⟨nx, z⟩ := ol a o ha
    rw [era_ne nx]
    exact z
/-- an environment of the law stands beside the desk too -/
theorem rs_fam {K : PySem.W.Frag} {G : Hid} {Cd x dx : Addr} {nd : ¬ G.D x} {H : Hp} {σ : L2.St} {r : Rho} {s : GS} (hx : vis G H x = none) (hf : deskFree r = true) (rs : RepS K G H σ r) : RepS K ((famOf K G Cd x dx nd).at_ s) H σ r := ⟨rs.1, fun i d q => by
  obtain ⟨v, a, b⟩ := rs.2 i d q
  refine ⟨v, a, ?_⟩
  rcases b with b | b
  · refine .inl (dq_same (fun c o h => ?_) d v b)
    obtain ⟨n, t, z⟩ := vis_some h
    refine vis_of (fun w => w.elim n fun w => ?_) t z
    rw [w, hx] at h
    cases h
  · exact .inr ⟨b.1, .inr ⟨look_free hf q, b.2⟩⟩⟩
def dNew (i0 i1 i2 i3 : Nat) (b c d : DE) (rest : DZ) : DS := fun r nx _ _ => deskFree r = true ∧ b r (fun x1 => c r (fun x2 => d r (fun x3 => rest newS (put (put (put (put r i0 deskD) i1 x1) i2 x2) i3 x3) (fun _ _ => nx (List.replicate r.length none)) (fun _ _ => False) (fun _ _ => False)) (fun _ => False)) (fun _ => False)) (fun _ => False)
theorem s_new {K : PySem.W.Frag} {ec : Nat → Addr} {T : List (Addr × Str)} {E0 : XK} {Cd : Addr} {i0 i1 i2 i3 : Nat} {tb tc td : TE} {tr : TS} {b c d : DE} {rest : DZ}
    (hb : SimE (Cz.at_ ⟨K, ec, FPl K Cd T, E0, addFPl⟩ newS) tb b) (hc : SimE (Cz.at_ ⟨K, ec, FPl K Cd T, E0, addFPl⟩ newS) tc c) (hd : SimE (Cz.at_ ⟨K, ec, FPl K Cd T, E0, addFPl⟩ newS) td d) (hr : SimZ ⟨K, ec, FPl K Cd T, E0, addFPl⟩ tr rest) :
    SimS ⟨K, ec, GPlaw T, E0, addLaw⟩ (tSeq (tAsg (tTup (tCons (tMake Cd (spInit Cd) [] E0 tNil) (tCons tb (tCons tc (tCons td tNil))))) (gTup K 4 (gCons (gName i0) (gCons (gName i1) (gCons (gName i2) (gCons (gName i3) gNil)))))) tr) (dNew i0 i1 i2 i3 b c d rest) := by
  intro G ρ nx rt E gp h σ H D j rs k kx
  obtain ⟨hf, h⟩ := h
  intro x dx hx hdx ne
  refine ⟨x, dx, rfl, upd_same, fun l1 l2 H1 h1 h2 hk e e1 e2 => ⟨rfl, ?_⟩⟩
  obtain ⟨nd, j1, ex1⟩ := made_desk (K := K) (Cd := Cd) j hx hdx ne h1 h2 hk e e1 e2
  have hxv : vis G H x = none := by
    cases z : vis G H x with
    | none => rfl
    | some o =>
      obtain ⟨_, _, q⟩ := vis_some z
      rw [hx] at q
      cases q
  have rs0 : RepS K ((famOf K G Cd x dx nd).at_ newS) H σ ρ := rs_fam hxv hf rs
  have fp : FPl K Cd T (famOf K G Cd x dx nd) := ⟨famOf_desk, fun s => ⟨gp.1, famOf_rolls gp.2 s⟩⟩
  have g1 : ExG (famOf K G Cd x dx nd) H H1 := fun a o n t z => ex1 a o (fun w => n (.inl w)) t z
  have rs1 : RepS K ((famOf K G Cd x dx nd).at_ newS) H1 σ ρ := rs0.mono ((exF newS).mp g1)
  have bk : ∀ σ' H', ExG (famOf K G Cd x dx nd) H1 H' → (∃ s, ((famOf K G Cd x dx nd).at_ s).J H') → σ'.length = σ.length → nx (List.replicate ρ.length none) → D.nx σ' H' := fun σ' H' g js hl q => by
    obtain ⟨s, js⟩ := js
    refine k.nx σ' H' (List.replicate ρ.length none) (fun a o n t z => ?_) ?_ ⟨by rw [List.length_replicate, hl]; exact rs.1, fun i d z => by rw [look_rep] at z; cases z⟩ hl q
    · have na : a ≠ x := fun w => by rw [w, hx] at z; cases z
      exact g a o (fun w => w.elim n na) t (ex1 a o n t z)
    · refine G.keep js.2 (fun a da => ?_) fun a o _ _ z => (era_some z).2
      have na : a ≠ x := fun w => nd (by rw [← w]; exact da)
      rw [era_ne na]
  have kxF' : ∀ H2, KX1 (Cz.at_ ⟨K, ec, FPl K Cd T, E0, addFPl⟩ newS) ((famOf K G Cd x dx nd).at_ newS) H2 (fun _ => False) := fun _ _ _ _ _ z => z.elim
  refine hb ((famOf K G Cd x dx nd).at_ newS) ρ _ _ ⟨_, fp, rfl⟩ h σ H1 _ j1 rs1 (fun v1 H2 x1 a2 j2 r2 h2 => ?_) (kxF' _)
  refine hc ((famOf K G Cd x dx nd).at_ newS) ρ _ _ ⟨_, fp, rfl⟩ h2 σ H2 _ j2 (rs1.mono a2) (fun v2 H3 x2 a3 j3 r3 h3 => ?_) (kxF' _)
  refine hd ((famOf K G Cd x dx nd).at_ newS) ρ _ _ ⟨_, fp, rfl⟩ h3 σ H3 _ j3 (rs1.mono (a2.trans a3)) (fun v3 H4 x3 a4 j4 r4 h4 => ?_) (kxF' _)
  refine ⟨by show 4 ≤ sizeLine; decide, fun q nq => ?_⟩
  obtain ⟨a5, j5, nd5⟩ := Ex.new (o := .tup [.ref x, v1, v2, v3]) j4 nq
  refine ⟨q, [.ref x, v1, v2, v3], rfl, .inl (.inl upd_same), rfl, .ref x, _, rfl, v1, _, rfl, v2, _, rfl, v3, _, rfl, rfl, ?_⟩
  have rs5 := rs1.mono (a2.trans (a3.trans (a4.trans a5)))
  have rs6 := (((rs5.put (i := i0) (v := .ref x) (d := deskD) (.inr ⟨rfl, .inl ⟨rfl, rfl⟩⟩)).put (i := i1) (r2.mono (a3.trans (a4.trans a5)))).put (i := i2) (r3.mono (a4.trans a5))).put (i := i3) (r4.mono a5)
  have g5 : ExG (famOf K G Cd x dx nd) H1 (upd H4 q (.tup [.ref x, v1, v2, v3])) := (exF newS).mpr (a2.trans (a3.trans (a4.trans a5)))
  refine hr (famOf K G Cd x dx nd) newS _ _ _ _ fp h4 _ _ _ j5 rs6 ⟨fun σ' H' r' s' g' j' rs' hl' z => ?_, fun _ _ _ _ _ _ _ z => z.elim⟩ fun _ _ _ _ _ z => z.elim
  exact bk σ' H' (g5.trans g') ⟨s', j'⟩ (by rw [hl']; simp) z
end Tz
namespace Tz
open PySem PySem.Spec PyProof.Rows L2
theorem dfs_look (v0 v1 v2 : V) (m : Str) : (dfs v0 v1 v2).lookup m = if m = "now" then some v0 else if m = "earlier" then some v1 else if m = "undone" then some v2 else none := by
  by_cases h0 : m = "now"
  · rw [if_pos h0, h0]
    simp [List.lookup]
  · rw [if_neg h0]
    have b0 : (m == ("now" : Str)) = false := beq_eq_false_iff_ne.mpr h0
    by_cases h1 : m = "earlier"
    · rw [if_pos h1]
      have b1 : (m == ("earlier" : Str)) = true := beq_iff_eq.mpr h1
      simp [List.lookup, b0, b1]
    · rw [if_neg h1]
      have b1 : (m == ("earlier" : Str)) = false := beq_eq_false_iff_ne.mpr h1
      by_cases h2 : m = "undone"
      · rw [if_pos h2]
        have b2 : (m == ("undone" : Str)) = true := beq_iff_eq.mpr h2
        simp [List.lookup, b0, b1, b2]
      · rw [if_neg h2]
        have b2 : (m == ("undone" : Str)) = false := beq_eq_false_iff_ne.mpr h2
        simp [List.lookup, b0, b1, b2]
theorem n10 : ¬ (("earlier" : Str) = "now") := by decide +kernel
theorem n20 : ¬ (("undone" : Str) = "now") := by decide +kernel
theorem n21 : ¬ (("undone" : Str) = "earlier") := by decide +kernel
theorem fl0 (v0 v1 v2 : V) : (dfs v0 v1 v2).lookup ("now" : Str) = [v0, v1, v2][0]? := by rw [dfs_look, if_pos rfl] <;> rfl
theorem fl1 (v0 v1 v2 : V) : (dfs v0 v1 v2).lookup ("earlier" : Str) = [v0, v1, v2][1]? := by rw [dfs_look, if_neg n10, if_pos rfl] <;> rfl
theorem fl2 (v0 v1 v2 : V) : (dfs v0 v1 v2).lookup ("undone" : Str) = [v0, v1, v2][2]? := by rw [dfs_look, if_neg n20, if_neg n21, if_pos rfl] <;> rfl
theorem nfl {m : Str} (h : (decide (m = "now") || decide (m = "earlier") || decide (m = "undone")) = false) (v0 v1 v2 : V) : (dfs v0 v1 v2).lookup m = none := by
  simp only [Bool.or_eq_false_iff, decide_eq_false_iff_not] at h
  rw [dfs_look, if_neg h.1.1, if_neg h.1.2, if_neg h.2]
theorem pf0 (v0 v1 v2 y : V) : ∃ u0 u1 u2, putF "now" y (dfs v0 v1 v2) = dfs u0 u1 u2 ∧ [u0, u1, u2] = [v0, v1, v2].set 0 y := ⟨y, v1, v2, by
  show (if ("now" : Str) = "now" then _ else _) = _
  rw [if_pos rfl], rfl⟩
theorem pf1 (v0 v1 v2 y : V) : ∃ u0 u1 u2, putF "earlier" y (dfs v0 v1 v2) = dfs u0 u1 u2 ∧ [u0, u1, u2] = [v0, v1, v2].set 1 y := ⟨v0, y, v2, by
  show (if ("now" : Str) = "earlier" then _ else (("now" : Str), v0) :: (if ("earlier" : Str) = "earlier" then _ else _)) = _
  rw [if_neg (Ne.symm n10), if_pos rfl], rfl⟩
theorem pf2 (v0 v1 v2 y : V) : ∃ u0 u1 u2, putF "undone" y (dfs v0 v1 v2) = dfs u0 u1 u2 ∧ [u0, u1, u2] = [v0, v1, v2].set 2 y := ⟨v0, v1, y, by
  show (if ("now" : Str) = "undone" then _ else (("now" : Str), v0) :: (if ("earlier" : Str) = "undone" then _ else (("earlier" : Str), v1) :: (if ("undone" : Str) = "undone" then _ else _))) = _
  rw [if_neg (Ne.symm n20), if_neg (Ne.symm n21), if_pos rfl], rfl⟩
/-- a class that is made by its __init__ -/
def Ini (P : Program) (w : World) (K : PySem.W.Frag) (mg : Str → Option Value) (base : Heap) (k : Nat) (Cd : Addr) (sp : Sp) : Prop := ∃ f fd, FnOk P w K mg base (L2N.CX P w) k f fd ["self"] sp ∧ Mk K Cd f ∧ Binds K fd ["self"] []
theorem pe_mk {X : Cx} {E : XK} {k : Nat} {Cd : Addr} {x : Str} {sp : Sp} {p pos : Pos} (M : Ini X.prog X.w X.K X.mg X.base k Cd sp) (tk : L2N.Takes X (fun cls d _ H => E cls d H)) (hr : Room (k + 1) X.A) (hg : Gl X x) (hm : X.mg x = some (.ref Cd)) (hdb : (x == ("__debug__" : Str)) = false := by decide) :
    PE X (.Call (.Name x p) [] [] pos) (tMake Cd sp [] E tNil) := by
  obtain ⟨f, fd, F, hmk, hb⟩ := M
  exact pe_make0 hmk F hr hg hm hb .nil (L2N.passes_call tk fun _ _ _ _ h => h) hdb
theorem ini_of {P : Program} {w : World} {K : PySem.W.Frag} {mg : Str → Option Value} {base : Heap} {Cd f : Addr} {fd : FuncData} {st : Stmt} (c : DeskC K Cd) (F : Fun K "__init__" "Desk.__init__" st f fd) (M : Mk K Cd f) (S : FnScope ["self"] ["self"] (defScope st))
    (hb : ∀ (kV doc pm : Value) (an : Option Addr) (cdv ct : Value) (us : List Value), us.length = 1 → bindArgs (PySem.W.fnOf "__init__" "Desk.__init__" (defArgs st) (defBody st) (defScope st) .none kV doc pm an cdv ct) ⟨us, []⟩ = pure ([("self" : Str)].zip us))
    (der : ∀ (cdv : Value) (A : Around) (outer : List Env) (s : Shared) (H : Hp) (E : XK), Room 0 (A.deeper (envOfC "Desk.__init__" (defScope st) s.heap.objs.size f cdv)) → PSs (bcx P w K mg base ["self"] "Desk.__init__" (defScope st) f cdv A outer s H E) (defBody st) (t_init K)) :
    Ini P w K mg base 1 Cd (spInit Cd) := by
  have hbn := F.binds (ps := ["self"]) hb
  obtain ⟨oc, od, kV, doc, pm, an, cdv, ct, osl, rfl, lk, hcd⟩ := F.ex
  exact ⟨f, _, fn_of lk hcd S (fun vs H Q E h => by obtain ⟨x, dx, rfl, _⟩ := h; rfl) fun A outer s H vs Q E hr h => ⟨t_init K, der cdv A outer s H E hr, init_reads c h⟩, M, hbn⟩
end Tz
namespace Tz
open PySem PySem.Spec PyProof.Rows L2
theorem tabs2 {P1 P2 : Addr} {q1 q2 : Str} {H : Hp} (h1 : H P1 = some (.tbl #[])) (h2 : H P2 = some (.tbl #[])) : LamX.Tabs [(P1, q1), (P2, q2)] H := fun p hp => by
  rcases List.mem_cons.mp hp with z | z
  · rw [z]
    exact ⟨#[], h1, by constructor, fun pos cv z => nomatch z⟩
  · rw [List.mem_singleton.mp z]
    exact ⟨#[], h2, by constructor, fun pos cv z => nomatch z⟩
end Tz

/-! What the transformers by data and state say, one rule each. -/
namespace Tz
open PySem PySem.Spec PyProof.Rows L2
section
variable {s : GS} {r : Rho} {Q : GS → PyData → Prop} {E : GS → Nat → Prop} {nx : GS → Rho → Prop} {rt : GS → PyData → Prop} {a b : DZ} {e : DEz}
theorem zFn_e {n : Nat} {f : DZ} {ds : List PyData} : zFn n f s ds Q E = f s (startR n ds) (fun s' _ => Q s' .none) Q E := propext Iff.rfl
theorem zE_e {d : GS → DE} : zE d s r Q E = d s r (Q s) (E s) := propext Iff.rfl
theorem zS_e {d : GS → DS} : zS d s r nx rt E = d s r (nx s) (rt s) (E s) := propext Iff.rfl
theorem dK_e {Q : PyData → Prop} {E : Nat → Prop} : dK e s r Q E = e s r (fun s' x => s' = s ∧ Q x) (fun s' c => s' = s ∧ E c) := propext Iff.rfl
theorem zCall_e {n : Nat} {f : DFz} {d : GS → DA} : zCall n f d s r Q E = d s r (fun ds => ds.length = n ∧ f s ds Q E) (E s) := propext Iff.rfl
theorem zSeq_e : zSeq a b s r nx rt E = a s r (fun s' r' => b s' r' nx rt E) rt E := propext Iff.rfl
theorem zIfS_e {t : GS → DT} : zIfS t a b s r nx rt E = t s r (fun c => if c = true then a s r nx rt E else b s r nx rt E) (E s) := propext Iff.rfl
theorem zRet_e : zRet e s r nx rt E = e s r rt E := propext Iff.rfl
theorem zDrop_e : zDrop e s r nx rt E = e s r (fun s' _ => nx s' r) E := propext Iff.rfl
theorem zAsg_e {g : DG} : zAsg e g s r nx rt E = e s r (fun s' x => g x r (nx s')) E := propext Iff.rfl
theorem zNext_e : zNext s r nx rt E = nx s r := propext Iff.rfl
theorem zForR_e {n : Nat} {g : DG} : zForR n g a s r nx rt E = forZ g a nx rt E (rangeD 0 n) s r := propext Iff.rfl
theorem forZ_n {g : DG} : forZ g a nx rt E [] s r = nx s r := propext Iff.rfl
theorem forZ_c {g : DG} {x : PyData} {xs : List PyData} : forZ g a nx rt E (x :: xs) s r = g x r (fun r' => a s r' (fun s' r'' => forZ g a nx rt E xs s' r'') rt E) := propext Iff.rfl
theorem dFld_e {j : Nat} {d : DE} {Q : PyData → Prop} {E : Nat → Prop} : dFld j d s r Q E = d r (fun o => o = deskD ∧ onS (s[j]?) Q) E := propext Iff.rfl
theorem zSet_e {j : Nat} {d d' : GS → DE} : zSet j d d' s r nx rt E = d' s r (fun y => plain y = true ∧ d s r (fun o => o = deskD ∧ nx (s.set j y) r) (E s)) (E s) := propext Iff.rfl
theorem zMeth_e {n : Nat} {f : DFz} {d : GS → DE} {d' : GS → DA} : zMeth n f d d' s r Q E = d s r (fun o => o = deskD ∧ d' s r (fun ds => ds.length + 1 = n ∧ f s (deskD :: ds) Q E) (E s)) (E s) := propext Iff.rfl
theorem zLen_e {f : DFz} {d : GS → DE} : zLen f d s r Q E = d s r (fun o => o = deskD ∧ f s [deskD] (fun s' x => onI x fun n => (0 ≤ n ∧ n < 2 ^ 63) ∧ Q s' (.int n)) E) (E s) := propext Iff.rfl
theorem zTold_e : zTold e s r Q E = e s r Q (fun s' c => c < 16 ∧ Q s' (errD c)) := propext Iff.rfl
end
theorem g3_0 {α : Type} {a b c : α} : [a, b, c][0]? = some a := rfl
theorem g3_1 {α : Type} {a b c : α} : [a, b, c][1]? = some b := rfl
theorem g3_2 {α : Type} {a b c : α} : [a, b, c][2]? = some c := rfl
theorem t3_0 {α : Type} {a b c x : α} : [a, b, c].set 0 x = [x, b, c] := rfl
theorem t3_1 {α : Type} {a b c x : α} : [a, b, c].set 1 x = [a, x, c] := rfl
theorem t3_2 {α : Type} {a b c x : α} : [a, b, c].set 2 x = [a, b, x] := rfl
theorem desk_eq : (deskD = deskD) = True := eq_true rfl
end Tz

namespace Tz
open PySem PySem.Spec PyProof.Rows L2
def b_is_made_of : DS := (dRet (dAndV (dIsi "str" (dVar 0)) (dAndV (dOp oLe (dCB oLen (dCons (dVar 0) dNil)) (dC (.int 1000))) (dCB oAll (dCons (dLc (dOver (dVar 0)) (dgName 2) dYes (dOp oIn (dVar 2) (dVar 1)) [2]) dNil)))))
def f_is_made_of : DF := dFn 3 b_is_made_of
def t_is_made_of (C : Cn) (A : Ga) : TS := (tRet (tAndV (tIsi C.K "str" (tVar 0)) (tAndV (tOp rLeU (tCB (rLenU C.K) (tCons (tVar 0) tNil)) (tC (.int 1000))) (tCB (rAll C.K) (tCons (tLc (iAny C.K (tVar 0)) (gName 2) tYes (tOp (rInU C.K) (tVar 2) (tVar 1)) [2]) tNil)))))
theorem sim_is_made_of (C : Cn) (A : Ga) : SimS C (t_is_made_of C A) b_is_made_of := (s_ret (s_andV (s_isi (s_var 0)) (s_andV (s_op s_le (s_cb s_len (s_cons (s_var 0) s_nil)) s_int) (s_cb s_all (s_cons (s_lc (i_over (s_var 0)) (gin_name 2) (g_name 2) s_yes (s_op s_in (s_var 2) (s_var 1))) s_nil)))))
def b_need_word : DS := (dIfS (dNot (dTest (dCall 2 f_is_made_of (dCons (dVar 0) (dCons (dC (.str ("stT" : Str))) dNil))))) (dRaise 1) dNext)
def f_need_word : DF := dFn 1 b_need_word
def t_need_word (C : Cn) (A : Ga) : TS := (tIfS (tNot (tB (tCallS (lift C.K C.ec GPany 2 f_is_made_of) (fun _ => C.E0) (tCons (tVar 0) (tCons (tC (.str ("stT" : Str))) tNil))))) (tRaise C 1) tNext)
theorem sim_need_word (C : Cn) (A : Ga) : SimS C (t_need_word C A) b_need_word := (s_ifS (s_not (s_B (s_call (fun _ _ => trivial) (s_cons (s_var 0) (s_cons s_str s_nil))))) (s_raise 1) s_next)
def b_put_behind : DS := (dSeq (dIfS (dOr (dTest (dOp oEq (dVar 1) (dLst dNil))) (dTest (dOp oNe (dOp oEq (dOp oIx (dVar 1) (dUn oNeg (dC (.int 1)))) (dC (.str ("s" : Str)))) (dOp oEq (dVar 2) (dC (.str ("s" : Str))))))) (dRet (dTup (dCons (dVar 0) (dCons (dOp oAdd (dVar 1) (dLst (dCons (dVar 2) dNil))) dNil)))) dNext) (dSeq (dIfS (dTest (dOp oEq (dVar 2) (dC (.str ("s" : Str))))) (dRet (dTup (dCons (dUn oNeg (dVar 0)) (dCons (dSl (dVar 1) dNoPart (dPart (dUn oNeg (dC (.int 1))))) dNil)))) dNext) (dSeq (dAsg (dOp oAdd (dDG [(("w" : Str), V.int 1, PyData.int 1), (("v" : Str), V.int 2, PyData.int 2)] (dOp oIx (dVar 1) (dUn oNeg (dC (.int 1))))) (dDG [(("w" : Str), V.int 1, PyData.int 1), (("v" : Str), V.int 2, PyData.int 2)] (dVar 2))) (dgName 3)) (dSeq (dIfS (dTest (dOp oEq (dVar 3) (dC (.int 2)))) (dRet (dTup (dCons (dVar 0) (dCons (dOp oAdd (dSl (dVar 1) dNoPart (dPart (dUn oNeg (dC (.int 1))))) (dLst (dCons (dC (.str ("v" : Str))) dNil))) dNil)))) dNext) (dRet (dTup (dCons (dUn oNeg (dVar 0)) (dCons (dOp oAdd (dSl (dVar 1) dNoPart (dPart (dUn oNeg (dC (.int 1))))) (dIf (dTest (dOp oEq (dVar 3) (dC (.int 4)))) (dLst (dCons (dC (.str ("w" : Str))) dNil)) (dLst dNil))) dNil))))))))
def f_put_behind : DF := dFn 4 b_put_behind
def t_put_behind (C : Cn) (A : Ga) : TS := (tSeq (tIfS (tOr (tTest (tOp (rEqU C.K) (tVar 1) (tLst tNil))) (tTest (tOp (rNeU C.K) (tOp (rEqU C.K) (tOp (rIx C.K) (tVar 1) (tUn rNegU (tC (.int 1)))) (tC (.str ("s" : Str)))) (tOp (rEqU C.K) (tVar 2) (tC (.str ("s" : Str))))))) (tRet (tTup (tCons (tVar 0) (tCons (tOp rAddU (tVar 1) (tLst (tCons (tVar 2) tNil))) tNil)))) tNext) (tSeq (tIfS (tTest (tOp (rEqU C.K) (tVar 2) (tC (.str ("s" : Str))))) (tRet (tTup (tCons (tUn rNegU (tVar 0)) (tCons (tSl (rSlU C.K) (tVar 1) tNoPart (tPart (tUn rNegU (tC (.int 1))))) tNil)))) tNext) (tSeq (tAsg (tOp rAddU (tDG [(("w" : Str), V.int 1, PyData.int 1), (("v" : Str), V.int 2, PyData.int 2)] (tOp (rIx C.K) (tVar 1) (tUn rNegU (tC (.int 1))))) (tDG [(("w" : Str), V.int 1, PyData.int 1), (("v" : Str), V.int 2, PyData.int 2)] (tVar 2))) (gName 3)) (tSeq (tIfS (tTest (tOp (rEqU C.K) (tVar 3) (tC (.int 2)))) (tRet (tTup (tCons (tVar 0) (tCons (tOp rAddU (tSl (rSlU C.K) (tVar 1) tNoPart (tPart (tUn rNegU (tC (.int 1))))) (tLst (tCons (tC (.str ("v" : Str))) tNil))) tNil)))) tNext) (tRet (tTup (tCons (tUn rNegU (tVar 0)) (tCons (tOp rAddU (tSl (rSlU C.K) (tVar 1) tNoPart (tPart (tUn rNegU (tC (.int 1))))) (tIf (tTest (tOp (rEqU C.K) (tVar 3) (tC (.int 4)))) (tLst (tCons (tC (.str ("w" : Str))) tNil)) (tLst tNil))) tNil))))))))
theorem sim_put_behind (C : Cn) (A : Ga) : SimS C (t_put_behind C A) b_put_behind := (s_seq (s_ifS (s_or (s_test (s_op s_eq (s_var 1) (s_lst s_nil))) (s_test (s_op s_ne (s_op s_eq (s_op s_ix (s_var 1) (s_un s_neg s_int)) s_str) (s_op s_eq (s_var 2) s_str)))) (s_ret (s_tup (s_cons (s_var 0) (s_cons (s_op s_add (s_var 1) (s_lst (s_cons (s_var 2) s_nil))) s_nil)))) s_next) (s_seq (s_ifS (s_test (s_op s_eq (s_var 2) s_str)) (s_ret (s_tup (s_cons (s_un s_neg (s_var 0)) (s_cons (s_sl (s_var 1) s_noPart (s_part (s_un s_neg s_int))) s_nil)))) s_next) (s_seq (s_asg (s_op s_add (s_dg [(("w" : Str), V.int 1, PyData.int 1), (("v" : Str), V.int 2, PyData.int 2)] (by decide +kernel) (s_op s_ix (s_var 1) (s_un s_neg s_int))) (s_dg [(("w" : Str), V.int 1, PyData.int 1), (("v" : Str), V.int 2, PyData.int 2)] (by decide +kernel) (s_var 2))) (g_name 3)) (s_seq (s_ifS (s_test (s_op s_eq (s_var 3) s_int)) (s_ret (s_tup (s_cons (s_var 0) (s_cons (s_op s_add (s_sl (s_var 1) s_noPart (s_part (s_un s_neg s_int))) (s_lst (s_cons s_str s_nil))) s_nil)))) s_next) (s_ret (s_tup (s_cons (s_un s_neg (s_var 0)) (s_cons (s_op s_add (s_sl (s_var 1) s_noPart (s_part (s_un s_neg s_int))) (s_if (s_test (s_op s_eq (s_var 3) s_int)) (s_lst (s_cons s_str s_nil)) (s_lst s_nil))) s_nil))))))))
def b_reduced : DS := (dSeq (dPar 1 2 (dCons (dC (.int 1)) (dCons (dLst dNil) dNil))) (dSeq (dFor (dOver (dVar 0)) (dgName 3) (dSeq (dIfS (dTest (dOp oNe (dVar 3) (dC (.str ("s" : Str))))) (dAsg (dUn oNeg (dVar 1)) (dgName 1)) dNext) (dFor (dOver (dDG [(("s" : Str), V.str ("s" : Str), PyData.str ("s" : Str)), (("t" : Str), V.str ("sw" : Str), PyData.str ("sw" : Str)), (("T" : Str), V.str ("vs" : Str), PyData.str ("vs" : Str))] (dVar 3))) (dgName 4) (dAsg (dCall 3 f_put_behind (dCons (dVar 1) (dCons (dVar 2) (dCons (dVar 4) dNil)))) (dgTup 2 (dgCons (dgName 1) (dgCons (dgName 2) dgNil))))))) (dRet (dTup (dCons (dVar 1) (dCons (dMs oJoin (dC (.str ("" : Str))) (dVar 2)) dNil))))))
def f_reduced : DF := dFn 5 b_reduced
def t_reduced (C : Cn) (A : Ga) : TS := (tSeq (tPar 1 2 (tCons (tC (.int 1)) (tCons (tLst tNil) tNil))) (tSeq (tFor (iAny C.K (tVar 0)) (gName 3) (tSeq (tIfS (tTest (tOp (rNeU C.K) (tVar 3) (tC (.str ("s" : Str))))) (tAsg (tUn rNegU (tVar 1)) (gName 1)) tNext) (tFor (iAny C.K (tDG [(("s" : Str), V.str ("s" : Str), PyData.str ("s" : Str)), (("t" : Str), V.str ("sw" : Str), PyData.str ("sw" : Str)), (("T" : Str), V.str ("vs" : Str), PyData.str ("vs" : Str))] (tVar 3))) (gName 4) (tAsg (tCallS (lift C.K C.ec GPany 3 f_put_behind) (fun _ => C.E0) (tCons (tVar 1) (tCons (tVar 2) (tCons (tVar 4) tNil)))) (gTup C.K 2 (gCons (gName 1) (gCons (gName 2) gNil))))))) (tRet (tTup (tCons (tVar 1) (tCons (tM1 (rJoinU C.K) (tC (.str ("" : Str))) (tVar 2)) tNil))))))
theorem sim_reduced (C : Cn) (A : Ga) : SimS C (t_reduced C A) b_reduced := (s_seq (s_par (s_cons s_int (s_cons (s_lst s_nil) s_nil))) (s_seq (s_for (i_over (s_var 0)) (g_name 3) (s_seq (s_ifS (s_test (s_op s_ne (s_var 3) s_str)) (s_asg (s_un s_neg (s_var 1)) (g_name 1)) s_next) (s_for (i_over (s_dg [(("s" : Str), V.str ("s" : Str), PyData.str ("s" : Str)), (("t" : Str), V.str ("sw" : Str), PyData.str ("sw" : Str)), (("T" : Str), V.str ("vs" : Str), PyData.str ("vs" : Str))] (by decide +kernel) (s_var 3))) (g_name 4) (s_asg (s_call (fun _ _ => trivial) (s_cons (s_var 1) (s_cons (s_var 2) (s_cons (s_var 4) s_nil)))) (g_tup (g_cons (g_name 1) (g_cons (g_name 2) g_nil))))))) (s_ret (s_tup (s_cons (s_var 1) (s_cons (s_ms s_join s_str (s_var 2)) s_nil))))))
def b_normal_of_word : DS := (dSeq (dDrop (dCall 1 f_need_word (dCons (dVar 0) dNil))) (dRet (dCall 1 f_reduced (dCons (dVar 0) dNil))))
def f_normal_of_word : DF := dFn 1 b_normal_of_word
def t_normal_of_word (C : Cn) (A : Ga) : TS := (tSeq (tDrop (tCallS (lift C.K C.ec GPany 1 f_need_word) (fun _ => C.E0) (tCons (tVar 0) tNil))) (tRet (tCallS (lift C.K C.ec GPany 1 f_reduced) (fun _ => C.E0) (tCons (tVar 0) tNil))))
theorem sim_normal_of_word (C : Cn) (A : Ga) : SimS C (t_normal_of_word C A) b_normal_of_word := (s_seq (s_drop (s_call (fun _ _ => trivial) (s_cons (s_var 0) s_nil))) (s_ret (s_call (fun _ _ => trivial) (s_cons (s_var 0) s_nil))))
def b_times : DS := (dSeq (dAsg (dVar 0) (dgTup 4 (dgCons (dgName 2) (dgCons (dgName 3) (dgCons (dgName 4) (dgCons (dgName 5) dgNil)))))) (dSeq (dAsg (dVar 1) (dgTup 4 (dgCons (dgName 6) (dgCons (dgName 7) (dgCons (dgName 8) (dgCons (dgName 9) dgNil)))))) (dRet (dTup (dCons (dOp oAdd (dOp oMul (dVar 2) (dVar 6)) (dOp oMul (dVar 3) (dVar 8))) (dCons (dOp oAdd (dOp oMul (dVar 2) (dVar 7)) (dOp oMul (dVar 3) (dVar 9))) (dCons (dOp oAdd (dOp oMul (dVar 4) (dVar 6)) (dOp oMul (dVar 5) (dVar 8))) (dCons (dOp oAdd (dOp oMul (dVar 4) (dVar 7)) (dOp oMul (dVar 5) (dVar 9))) dNil))))))))
def f_times : DF := dFn 10 b_times
def t_times (C : Cn) (A : Ga) : TS := (tSeq (tAsg (tVar 0) (gTup C.K 4 (gCons (gName 2) (gCons (gName 3) (gCons (gName 4) (gCons (gName 5) gNil)))))) (tSeq (tAsg (tVar 1) (gTup C.K 4 (gCons (gName 6) (gCons (gName 7) (gCons (gName 8) (gCons (gName 9) gNil)))))) (tRet (tTup (tCons (tOp rAddU (tOp rMulU (tVar 2) (tVar 6)) (tOp rMulU (tVar 3) (tVar 8))) (tCons (tOp rAddU (tOp rMulU (tVar 2) (tVar 7)) (tOp rMulU (tVar 3) (tVar 9))) (tCons (tOp rAddU (tOp rMulU (tVar 4) (tVar 6)) (tOp rMulU (tVar 5) (tVar 8))) (tCons (tOp rAddU (tOp rMulU (tVar 4) (tVar 7)) (tOp rMulU (tVar 5) (tVar 9))) tNil))))))))
theorem sim_times (C : Cn) (A : Ga) : SimS C (t_times C A) b_times := (s_seq (s_asg (s_var 0) (g_tup (g_cons (g_name 2) (g_cons (g_name 3) (g_cons (g_name 4) (g_cons (g_name 5) g_nil)))))) (s_seq (s_asg (s_var 1) (g_tup (g_cons (g_name 6) (g_cons (g_name 7) (g_cons (g_name 8) (g_cons (g_name 9) g_nil)))))) (s_ret (s_tup (s_cons (s_op s_add (s_op s_mul (s_var 2) (s_var 6)) (s_op s_mul (s_var 3) (s_var 8))) (s_cons (s_op s_add (s_op s_mul (s_var 2) (s_var 7)) (s_op s_mul (s_var 3) (s_var 9))) (s_cons (s_op s_add (s_op s_mul (s_var 4) (s_var 6)) (s_op s_mul (s_var 5) (s_var 8))) (s_cons (s_op s_add (s_op s_mul (s_var 4) (s_var 7)) (s_op s_mul (s_var 5) (s_var 9))) s_nil))))))))
def b_table_of : DS := (dSeq (dAsg (dC dUNIT) (dgName 1)) (dSeq (dFor (dOver (dVar 0)) (dgName 2) (dAsg (dCall 2 f_times (dCons (dVar 1) (dCons (dLet (dVar 2)) dNil))) (dgName 1))) (dRet (dVar 1))))
def f_table_of : DF := dFn 3 b_table_of
def t_table_of (C : Cn) (A : Ga) : TS := (tSeq (tAsg (tC (.ref A.un)) (gName 1)) (tSeq (tFor (iAny C.K (tVar 0)) (gName 2) (tAsg (tCallS (lift C.K C.ec GPany 2 f_times) (fun _ => C.E0) (tCons (tVar 1) (tCons (tOp (rIxD C.K A.w) (tC (.ref A.le)) (tVar 2)) tNil))) (gName 1))) (tRet (tVar 1))))
theorem sim_table_of (C : Cn) (A : Ga) (hA : GaOk C.K A) (hL : GaLe C.K A) : SimS C (t_table_of C A) b_table_of := (s_seq (s_asg (s_c fun H => hA.un H) (g_name 1)) (s_seq (s_for (i_over (s_var 0)) (g_name 2) (s_asg (s_call (fun _ _ => trivial) (s_cons (s_var 1) (s_cons (s_let hL (s_var 2)) s_nil))) (g_name 1))) (s_ret (s_var 1))))
def b_law_times : DS := (dSeq (dAsg (dTup (dCons (dVar 0) (dCons (dVar 1) dNil))) (dgTup 2 (dgCons (dgTup 4 (dgCons (dgName 2) (dgCons (dgName 3) (dgCons (dgName 4) (dgCons (dgName 5) dgNil))))) (dgCons (dgTup 4 (dgCons (dgName 6) (dgCons (dgName 7) (dgCons (dgName 8) (dgCons (dgName 9) dgNil))))) dgNil)))) (dRet (dTup (dCons (dOp oAdd (dOp oMul (dVar 2) (dVar 6)) (dOp oMul (dVar 3) (dVar 8))) (dCons (dOp oAdd (dOp oMul (dVar 2) (dVar 7)) (dOp oMul (dVar 3) (dVar 9))) (dCons (dOp oAdd (dOp oMul (dVar 4) (dVar 6)) (dOp oMul (dVar 5) (dVar 8))) (dCons (dOp oAdd (dOp oMul (dVar 4) (dVar 7)) (dOp oMul (dVar 5) (dVar 9))) dNil)))))))
def f_law_times : DF := dFn 10 b_law_times
def t_law_times (C : Cn) (A : Ga) : TS := (tSeq (tAsg (tTup (tCons (tVar 0) (tCons (tVar 1) tNil))) (gTup C.K 2 (gCons (gTup C.K 4 (gCons (gName 2) (gCons (gName 3) (gCons (gName 4) (gCons (gName 5) gNil))))) (gCons (gTup C.K 4 (gCons (gName 6) (gCons (gName 7) (gCons (gName 8) (gCons (gName 9) gNil))))) gNil)))) (tRet (tTup (tCons (tOp rAddU (tOp rMulU (tVar 2) (tVar 6)) (tOp rMulU (tVar 3) (tVar 8))) (tCons (tOp rAddU (tOp rMulU (tVar 2) (tVar 7)) (tOp rMulU (tVar 3) (tVar 9))) (tCons (tOp rAddU (tOp rMulU (tVar 4) (tVar 6)) (tOp rMulU (tVar 5) (tVar 8))) (tCons (tOp rAddU (tOp rMulU (tVar 4) (tVar 7)) (tOp rMulU (tVar 5) (tVar 9))) tNil)))))))
theorem sim_law_times (C : Cn) (A : Ga) : SimS C (t_law_times C A) b_law_times := (s_seq (s_asg (s_tup (s_cons (s_var 0) (s_cons (s_var 1) s_nil))) (g_tup (g_cons (g_tup (g_cons (g_name 2) (g_cons (g_name 3) (g_cons (g_name 4) (g_cons (g_name 5) g_nil))))) (g_cons (g_tup (g_cons (g_name 6) (g_cons (g_name 7) (g_cons (g_name 8) (g_cons (g_name 9) g_nil))))) g_nil)))) (s_ret (s_tup (s_cons (s_op s_add (s_op s_mul (s_var 2) (s_var 6)) (s_op s_mul (s_var 3) (s_var 8))) (s_cons (s_op s_add (s_op s_mul (s_var 2) (s_var 7)) (s_op s_mul (s_var 3) (s_var 9))) (s_cons (s_op s_add (s_op s_mul (s_var 4) (s_var 6)) (s_op s_mul (s_var 5) (s_var 8))) (s_cons (s_op s_add (s_op s_mul (s_var 4) (s_var 7)) (s_op s_mul (s_var 5) (s_var 9))) s_nil)))))))
def b_law_letter : DS := (dSeq (dAsg (dLst (dCons (dTup (dCons (dC (.int 0)) (dCons (dUn oNeg (dC (.int 1))) (dCons (dC (.int 1)) (dCons (dC (.int 0)) dNil))))) (dCons (dTup (dCons (dC (.int 1)) (dCons (dC (.int 1)) (dCons (dC (.int 0)) (dCons (dC (.int 1)) dNil))))) (dCons (dTup (dCons (dC (.int 1)) (dCons (dUn oNeg (dC (.int 1))) (dCons (dC (.int 0)) (dCons (dC (.int 1)) dNil))))) (dCons (dTup (dCons (dC (.int 0)) (dCons (dUn oNeg (dC (.int 1))) (dCons (dC (.int 1)) (dCons (dC (.int 1)) dNil))))) (dCons (dTup (dCons (dUn oNeg (dC (.int 1))) (dCons (dUn oNeg (dC (.int 1))) (dCons (dC (.int 1)) (dCons (dC (.int 0)) dNil))))) (dCons (dTup (dCons (dC (.int 1)) (dCons (dC (.int 0)) (dCons (dC (.int 1)) (dCons (dC (.int 1)) dNil))))) dNil))))))) (dgName 1)) (dRet (dOp oIx (dVar 1) (dMs oSindex (dC (.str ("stTwvl" : Str))) (dVar 0)))))
def f_law_letter : DF := dFn 2 b_law_letter
def t_law_letter (C : Cn) (A : Ga) : TS := (tSeq (tAsg (tLst (tCons (tTup (tCons (tC (.int 0)) (tCons (tUn rNegU (tC (.int 1))) (tCons (tC (.int 1)) (tCons (tC (.int 0)) tNil))))) (tCons (tTup (tCons (tC (.int 1)) (tCons (tC (.int 1)) (tCons (tC (.int 0)) (tCons (tC (.int 1)) tNil))))) (tCons (tTup (tCons (tC (.int 1)) (tCons (tUn rNegU (tC (.int 1))) (tCons (tC (.int 0)) (tCons (tC (.int 1)) tNil))))) (tCons (tTup (tCons (tC (.int 0)) (tCons (tUn rNegU (tC (.int 1))) (tCons (tC (.int 1)) (tCons (tC (.int 1)) tNil))))) (tCons (tTup (tCons (tUn rNegU (tC (.int 1))) (tCons (tUn rNegU (tC (.int 1))) (tCons (tC (.int 1)) (tCons (tC (.int 0)) tNil))))) (tCons (tTup (tCons (tC (.int 1)) (tCons (tC (.int 0)) (tCons (tC (.int 1)) (tCons (tC (.int 1)) tNil))))) tNil))))))) (gName 1)) (tRet (tOp (rIx C.K) (tVar 1) (tM1 rSindexU (tC (.str ("stTwvl" : Str))) (tVar 0)))))
theorem sim_law_letter (C : Cn) (A : Ga) : SimS C (t_law_letter C A) b_law_letter := (s_seq (s_asg (s_lst (s_cons (s_tup (s_cons s_int (s_cons (s_un s_neg s_int) (s_cons s_int (s_cons s_int s_nil))))) (s_cons (s_tup (s_cons s_int (s_cons s_int (s_cons s_int (s_cons s_int s_nil))))) (s_cons (s_tup (s_cons s_int (s_cons (s_un s_neg s_int) (s_cons s_int (s_cons s_int s_nil))))) (s_cons (s_tup (s_cons s_int (s_cons (s_un s_neg s_int) (s_cons s_int (s_cons s_int s_nil))))) (s_cons (s_tup (s_cons (s_un s_neg s_int) (s_cons (s_un s_neg s_int) (s_cons s_int (s_cons s_int s_nil))))) (s_cons (s_tup (s_cons s_int (s_cons s_int (s_cons s_int (s_cons s_int s_nil))))) s_nil))))))) (g_name 1)) (s_ret (s_op s_ix (s_var 1) (s_ms s_sindex s_str (s_var 0)))))
def b_law_product : DS := (dSeq (dAsg (dTup (dCons (dC (.int 1)) (dCons (dC (.int 0)) (dCons (dC (.int 0)) (dCons (dC (.int 1)) dNil))))) (dgName 1)) (dSeq (dFor (dOver (dVar 0)) (dgName 2) (dAsg (dCall 2 f_law_times (dCons (dVar 1) (dCons (dCall 1 f_law_letter (dCons (dVar 2) dNil)) dNil))) (dgName 1))) (dRet (dVar 1))))
def f_law_product : DF := dFn 3 b_law_product
def t_law_product (C : Cn) (A : Ga) : TS := (tSeq (tAsg (tTup (tCons (tC (.int 1)) (tCons (tC (.int 0)) (tCons (tC (.int 0)) (tCons (tC (.int 1)) tNil))))) (gName 1)) (tSeq (tFor (iAny C.K (tVar 0)) (gName 2) (tAsg (tCallS (lift C.K C.ec GPany 2 f_law_times) (fun _ => C.E0) (tCons (tVar 1) (tCons (tCallS (lift C.K C.ec GPany 1 f_law_letter) (fun _ => C.E0) (tCons (tVar 2) tNil)) tNil))) (gName 1))) (tRet (tVar 1))))
theorem sim_law_product (C : Cn) (A : Ga) : SimS C (t_law_product C A) b_law_product := (s_seq (s_asg (s_tup (s_cons s_int (s_cons s_int (s_cons s_int (s_cons s_int s_nil))))) (g_name 1)) (s_seq (s_for (i_over (s_var 0)) (g_name 2) (s_asg (s_call (fun _ _ => trivial) (s_cons (s_var 1) (s_cons (s_call (fun _ _ => trivial) (s_cons (s_var 2) s_nil)) s_nil))) (g_name 1))) (s_ret (s_var 1))))
def b_law_short : DS := (dSeq (dAsg (dC (.str ("" : Str))) (dgName 1)) (dSeq (dFor (dOver (dVar 0)) (dgName 2) (dSeq (dAsg (dOp oAdd (dVar 1) (dVar 2)) (dgName 1)) (dFor (dOver (dLst (dCons (dC (.str ("tT" : Str))) (dCons (dC (.str ("Tt" : Str))) (dCons (dC (.str ("ssss" : Str))) dNil))))) (dgName 3) (dIfS (dTest (dOp oEq (dSl (dVar 1) (dPart (dUn oNeg (dCB oLen (dCons (dVar 3) dNil)))) dNoPart) (dVar 3))) (dAsg (dSl (dVar 1) dNoPart (dPart (dUn oNeg (dCB oLen (dCons (dVar 3) dNil))))) (dgName 1)) dNext)))) (dRet (dVar 1))))
def f_law_short : DF := dFn 4 b_law_short
def t_law_short (C : Cn) (A : Ga) : TS := (tSeq (tAsg (tC (.str ("" : Str))) (gName 1)) (tSeq (tFor (iAny C.K (tVar 0)) (gName 2) (tSeq (tAsg (tOp rAddU (tVar 1) (tVar 2)) (gName 1)) (tFor (iAny C.K (tLst (tCons (tC (.str ("tT" : Str))) (tCons (tC (.str ("Tt" : Str))) (tCons (tC (.str ("ssss" : Str))) tNil))))) (gName 3) (tIfS (tTest (tOp (rEqU C.K) (tSl (rSlU C.K) (tVar 1) (tPart (tUn rNegU (tCB (rLenU C.K) (tCons (tVar 3) tNil)))) tNoPart) (tVar 3))) (tAsg (tSl (rSlU C.K) (tVar 1) tNoPart (tPart (tUn rNegU (tCB (rLenU C.K) (tCons (tVar 3) tNil))))) (gName 1)) tNext)))) (tRet (tVar 1))))
theorem sim_law_short (C : Cn) (A : Ga) : SimS C (t_law_short C A) b_law_short := (s_seq (s_asg s_str (g_name 1)) (s_seq (s_for (i_over (s_var 0)) (g_name 2) (s_seq (s_asg (s_op s_add (s_var 1) (s_var 2)) (g_name 1)) (s_for (i_over (s_lst (s_cons s_str (s_cons s_str (s_cons s_str s_nil))))) (g_name 3) (s_ifS (s_test (s_op s_eq (s_sl (s_var 1) (s_part (s_un s_neg (s_cb s_len (s_cons (s_var 3) s_nil)))) s_noPart) (s_var 3))) (s_asg (s_sl (s_var 1) s_noPart (s_part (s_un s_neg (s_cb s_len (s_cons (s_var 3) s_nil))))) (g_name 1)) s_next)))) (s_ret (s_var 1))))
def b_Desk_change : DZ := (zSeq (zSet 1 (fun s => (dVar 0)) (fun s => (dOp oAdd (dFld 1 (dVar 0) s) (dLst (dCons (dFld 0 (dVar 0) s) dNil))))) (zSeq (zSet 2 (fun s => (dVar 0)) (fun s => (dLst dNil))) (zSet 0 (fun s => (dVar 0)) (fun s => (dVar 1)))))
def f_Desk_change : DFz := zFn 2 b_Desk_change
def t_Desk_change (C : Cz) (A : Ga) (Cd : Addr) : TS := (tSeq (sFld C.K (tVar 0) (tOp rAddU (tFld C.K (tVar 0) "earlier") (tLst (tCons (tFld C.K (tVar 0) "now") tNil))) "earlier") (tSeq (sFld C.K (tVar 0) (tLst tNil) "undone") (sFld C.K (tVar 0) (tVar 1) "now")))
theorem sim_Desk_change (C : Cz) (A : Ga) (Cd : Addr) (hF : ∀ F, C.FP F → DeskF C.K Cd F) (DC : DeskC C.K Cd) : SimZ C (t_Desk_change C A Cd) b_Desk_change := (z_seq (z_set hF DC.cl DC.n1 pf1 (fun s => (s_var 0)) (fun s => (s_op s_add (s_fld hF DC.cl DC.n1 fl1 (s_var 0)) (s_lst (s_cons (s_fld hF DC.cl DC.n0 fl0 (s_var 0)) s_nil))))) (z_seq (z_set hF DC.cl DC.n2 pf2 (fun s => (s_var 0)) (fun s => (s_lst s_nil))) (z_set hF DC.cl DC.n0 pf0 (fun s => (s_var 0)) (fun s => (s_var 1)))))
def b_Desk_table : DZ := (zS (fun s => (dRet (dCall 1 f_table_of (dCons (dFld 0 (dVar 0) s) dNil)))))
def f_Desk_table : DFz := zFn 1 b_Desk_table
def t_Desk_table (C : Cz) (A : Ga) (Cd : Addr) : TS := (tRet (tCallS (lift C.K C.ec GPany 1 f_table_of) (fun _ => C.E0) (tCons (tFld C.K (tVar 0) "now") tNil)))
theorem sim_Desk_table (C : Cz) (A : Ga) (Cd : Addr) (hF : ∀ F, C.FP F → DeskF C.K Cd F) (DC : DeskC C.K Cd) : SimZ C (t_Desk_table C A Cd) b_Desk_table := (z_lift (fun s => (s_ret (s_call (fun _ _ => trivial) (s_cons (s_fld hF DC.cl DC.n0 fl0 (s_var 0)) s_nil)))))
def b_Desk_put : DZ := (zSeq (zS (fun s => (dIfS (dOr (dNot (dTest (dCall 2 f_is_made_of (dCons (dVar 1) (dCons (dC (.str ("stT" : Str))) dNil))))) (dTest (dOp oNe (dCB oLen (dCons (dVar 1) dNil)) (dC (.int 1))))) (dRaise 9) dNext))) (zSeq (zS (fun s => (dIfS (dTest (dOp oEq (dCB oLen (dCons (dFld 0 (dVar 0) s) dNil)) (dC (.int 200)))) (dRaise 14) dNext))) (zSeq (zDrop (zMeth 2 f_Desk_change (fun s => (dVar 0)) (fun s => (dCons (dOp oAdd (dFld 0 (dVar 0) s) (dVar 1)) dNil)))) (zS (fun s => (dRet (dK (zMeth 1 f_Desk_table (fun s => (dVar 0)) (fun s => dNil)) s)))))))
def f_Desk_put : DFz := zFn 2 b_Desk_put
def t_Desk_put (C : Cz) (A : Ga) (Cd : Addr) : TS := (tSeq (tIfS (tOr (tNot (tB (tCallS (lift C.K C.ec GPany 2 f_is_made_of) (fun _ => C.E0) (tCons (tVar 1) (tCons (tC (.str ("stT" : Str))) tNil))))) (tTest (tOp (rNeU C.K) (tCB (rLenU C.K) (tCons (tVar 1) tNil)) (tC (.int 1))))) (tRaise (C.at_ []) 9) tNext) (tSeq (tIfS (tTest (tOp (rEqU C.K) (tCB (rLenU C.K) (tCons (tFld C.K (tVar 0) "now") tNil)) (tC (.int 200)))) (tRaise (C.at_ []) 14) tNext) (tSeq (tDrop (tMeth Cd "change" (liftZ C.K C.ec (FPd C.K Cd) 2 f_Desk_change) [] C.E0 (tVar 0) (tCons (tOp rAddU (tFld C.K (tVar 0) "now") (tVar 1)) tNil))) (tRet (tMeth Cd "table" (liftZ C.K C.ec (FPd C.K Cd) 1 f_Desk_table) [] C.E0 (tVar 0) tNil)))))
theorem sim_Desk_put (C : Cz) (A : Ga) (Cd : Addr) (hF : ∀ F, C.FP F → DeskF C.K Cd F) (DC : DeskC C.K Cd) : SimZ C (t_Desk_put C A Cd) b_Desk_put := (z_seq (z_lift (fun s => (s_ifS (s_or (s_not (s_B (s_call (fun _ _ => trivial) (s_cons (s_var 1) (s_cons s_str s_nil))))) (s_test (s_op s_ne (s_cb s_len (s_cons (s_var 1) s_nil)) s_int))) (s_raise 9) s_next))) (z_seq (z_lift (fun s => (s_ifS (s_test (s_op s_eq (s_cb s_len (s_cons (s_fld hF DC.cl DC.n0 fl0 (s_var 0)) s_nil)) s_int)) (s_raise 14) s_next))) (z_seq (z_drop (ez_meth hF hF (nfl (by decide +kernel)) (fun s => (s_var 0)) (fun s => (s_cons (s_op s_add (s_fld hF DC.cl DC.n0 fl0 (s_var 0)) (s_var 1)) s_nil)))) (z_lift (fun s => (s_ret (s_K (ez_meth hF hF (nfl (by decide +kernel)) (fun s => (s_var 0)) (fun s => s_nil)) s)))))))
def b_Desk_word : DZ := (zS (fun s => (dRet (dFld 0 (dVar 0) s))))
def f_Desk_word : DFz := zFn 1 b_Desk_word
def t_Desk_word (C : Cz) (A : Ga) (Cd : Addr) : TS := (tRet (tFld C.K (tVar 0) "now"))
theorem sim_Desk_word (C : Cz) (A : Ga) (Cd : Addr) (hF : ∀ F, C.FP F → DeskF C.K Cd F) (DC : DeskC C.K Cd) : SimZ C (t_Desk_word C A Cd) b_Desk_word := (z_lift (fun s => (s_ret (s_fld hF DC.cl DC.n0 fl0 (s_var 0)))))
def b_Desk_normal : DZ := (zS (fun s => (dRet (dCall 1 f_reduced (dCons (dFld 0 (dVar 0) s) dNil)))))
def f_Desk_normal : DFz := zFn 1 b_Desk_normal
def t_Desk_normal (C : Cz) (A : Ga) (Cd : Addr) : TS := (tRet (tCallS (lift C.K C.ec GPany 1 f_reduced) (fun _ => C.E0) (tCons (tFld C.K (tVar 0) "now") tNil)))
theorem sim_Desk_normal (C : Cz) (A : Ga) (Cd : Addr) (hF : ∀ F, C.FP F → DeskF C.K Cd F) (DC : DeskC C.K Cd) : SimZ C (t_Desk_normal C A Cd) b_Desk_normal := (z_lift (fun s => (s_ret (s_call (fun _ _ => trivial) (s_cons (s_fld hF DC.cl DC.n0 fl0 (s_var 0)) s_nil)))))
def b_Desk___len__ : DZ := (zS (fun s => (dRet (dCB oLen (dCons (dFld 0 (dVar 0) s) dNil)))))
def f_Desk___len__ : DFz := zFn 1 b_Desk___len__
def t_Desk___len__ (C : Cz) (A : Ga) (Cd : Addr) : TS := (tRet (tCB (rLenU C.K) (tCons (tFld C.K (tVar 0) "now") tNil)))
theorem sim_Desk___len__ (C : Cz) (A : Ga) (Cd : Addr) (hF : ∀ F, C.FP F → DeskF C.K Cd F) (DC : DeskC C.K Cd) : SimZ C (t_Desk___len__ C A Cd) b_Desk___len__ := (z_lift (fun s => (s_ret (s_cb s_len (s_cons (s_fld hF DC.cl DC.n0 fl0 (s_var 0)) s_nil)))))
def b_Desk_shorten : DZ := (zSeq (zS (fun s => (dAsg (dC (.str ("" : Str))) (dgName 1)))) (zSeq (zS (fun s => (dFor (dOver (dFld 0 (dVar 0) s)) (dgName 2) (dSeq (dAsg (dOp oAdd (dVar 1) (dVar 2)) (dgName 1)) (dIfS (dTest (dOp oIn (dSl (dVar 1) (dPart (dUn oNeg (dC (.int 2)))) dNoPart) (dTup (dCons (dC (.str ("tT" : Str))) (dCons (dC (.str ("Tt" : Str))) dNil))))) (dAsg (dSl (dVar 1) dNoPart (dPart (dUn oNeg (dC (.int 2))))) (dgName 1)) (dIfS (dTest (dOp oEq (dSl (dVar 1) (dPart (dUn oNeg (dC (.int 4)))) dNoPart) (dC (.str ("ssss" : Str))))) (dAsg (dSl (dVar 1) dNoPart (dPart (dUn oNeg (dC (.int 4))))) (dgName 1)) dNext)))))) (zSeq (zDrop (zMeth 2 f_Desk_change (fun s => (dVar 0)) (fun s => (dCons (dVar 1) dNil)))) (zS (fun s => (dRet (dVar 1)))))))
def f_Desk_shorten : DFz := zFn 3 b_Desk_shorten
def t_Desk_shorten (C : Cz) (A : Ga) (Cd : Addr) : TS := (tSeq (tAsg (tC (.str ("" : Str))) (gName 1)) (tSeq (tFor (iAny C.K (tFld C.K (tVar 0) "now")) (gName 2) (tSeq (tAsg (tOp rAddU (tVar 1) (tVar 2)) (gName 1)) (tIfS (tTest (tOp (rInU C.K) (tSl (rSlU C.K) (tVar 1) (tPart (tUn rNegU (tC (.int 2)))) tNoPart) (tTup (tCons (tC (.str ("tT" : Str))) (tCons (tC (.str ("Tt" : Str))) tNil))))) (tAsg (tSl (rSlU C.K) (tVar 1) tNoPart (tPart (tUn rNegU (tC (.int 2))))) (gName 1)) (tIfS (tTest (tOp (rEqU C.K) (tSl (rSlU C.K) (tVar 1) (tPart (tUn rNegU (tC (.int 4)))) tNoPart) (tC (.str ("ssss" : Str))))) (tAsg (tSl (rSlU C.K) (tVar 1) tNoPart (tPart (tUn rNegU (tC (.int 4))))) (gName 1)) tNext)))) (tSeq (tDrop (tMeth Cd "change" (liftZ C.K C.ec (FPd C.K Cd) 2 f_Desk_change) [] C.E0 (tVar 0) (tCons (tVar 1) tNil))) (tRet (tVar 1)))))
theorem sim_Desk_shorten (C : Cz) (A : Ga) (Cd : Addr) (hF : ∀ F, C.FP F → DeskF C.K Cd F) (DC : DeskC C.K Cd) : SimZ C (t_Desk_shorten C A Cd) b_Desk_shorten := (z_seq (z_lift (fun s => (s_asg s_str (g_name 1)))) (z_seq (z_lift (fun s => (s_for (i_over (s_fld hF DC.cl DC.n0 fl0 (s_var 0))) (g_name 2) (s_seq (s_asg (s_op s_add (s_var 1) (s_var 2)) (g_name 1)) (s_ifS (s_test (s_op s_in (s_sl (s_var 1) (s_part (s_un s_neg s_int)) s_noPart) (s_tup (s_cons s_str (s_cons s_str s_nil))))) (s_asg (s_sl (s_var 1) s_noPart (s_part (s_un s_neg s_int))) (g_name 1)) (s_ifS (s_test (s_op s_eq (s_sl (s_var 1) (s_part (s_un s_neg s_int)) s_noPart) s_str)) (s_asg (s_sl (s_var 1) s_noPart (s_part (s_un s_neg s_int))) (g_name 1)) s_next)))))) (z_seq (z_drop (ez_meth hF hF (nfl (by decide +kernel)) (fun s => (s_var 0)) (fun s => (s_cons (s_var 1) s_nil)))) (z_lift (fun s => (s_ret (s_var 1)))))))
def b_Desk_undo : DZ := (zSeq (zS (fun s => (dIfS (dTest (dOp oEq (dFld 1 (dVar 0) s) (dLst dNil))) (dRaise 15) dNext))) (zSeq (zSet 2 (fun s => (dVar 0)) (fun s => (dOp oAdd (dFld 2 (dVar 0) s) (dLst (dCons (dFld 0 (dVar 0) s) dNil))))) (zSeq (zSet 0 (fun s => (dVar 0)) (fun s => (dOp oIx (dFld 1 (dVar 0) s) (dUn oNeg (dC (.int 1)))))) (zSeq (zSet 1 (fun s => (dVar 0)) (fun s => (dSl (dFld 1 (dVar 0) s) dNoPart (dPart (dUn oNeg (dC (.int 1))))))) (zS (fun s => (dRet (dFld 0 (dVar 0) s))))))))
def f_Desk_undo : DFz := zFn 1 b_Desk_undo
def t_Desk_undo (C : Cz) (A : Ga) (Cd : Addr) : TS := (tSeq (tIfS (tTest (tOp (rEqU C.K) (tFld C.K (tVar 0) "earlier") (tLst tNil))) (tRaise (C.at_ []) 15) tNext) (tSeq (sFld C.K (tVar 0) (tOp rAddU (tFld C.K (tVar 0) "undone") (tLst (tCons (tFld C.K (tVar 0) "now") tNil))) "undone") (tSeq (sFld C.K (tVar 0) (tOp (rIx C.K) (tFld C.K (tVar 0) "earlier") (tUn rNegU (tC (.int 1)))) "now") (tSeq (sFld C.K (tVar 0) (tSl (rSlU C.K) (tFld C.K (tVar 0) "earlier") tNoPart (tPart (tUn rNegU (tC (.int 1))))) "earlier") (tRet (tFld C.K (tVar 0) "now"))))))
theorem sim_Desk_undo (C : Cz) (A : Ga) (Cd : Addr) (hF : ∀ F, C.FP F → DeskF C.K Cd F) (DC : DeskC C.K Cd) : SimZ C (t_Desk_undo C A Cd) b_Desk_undo := (z_seq (z_lift (fun s => (s_ifS (s_test (s_op s_eq (s_fld hF DC.cl DC.n1 fl1 (s_var 0)) (s_lst s_nil))) (s_raise 15) s_next))) (z_seq (z_set hF DC.cl DC.n2 pf2 (fun s => (s_var 0)) (fun s => (s_op s_add (s_fld hF DC.cl DC.n2 fl2 (s_var 0)) (s_lst (s_cons (s_fld hF DC.cl DC.n0 fl0 (s_var 0)) s_nil))))) (z_seq (z_set hF DC.cl DC.n0 pf0 (fun s => (s_var 0)) (fun s => (s_op s_ix (s_fld hF DC.cl DC.n1 fl1 (s_var 0)) (s_un s_neg s_int)))) (z_seq (z_set hF DC.cl DC.n1 pf1 (fun s => (s_var 0)) (fun s => (s_sl (s_fld hF DC.cl DC.n1 fl1 (s_var 0)) s_noPart (s_part (s_un s_neg s_int))))) (z_lift (fun s => (s_ret (s_fld hF DC.cl DC.n0 fl0 (s_var 0)))))))))
def b_Desk_redo : DZ := (zSeq (zS (fun s => (dIfS (dTest (dOp oEq (dFld 2 (dVar 0) s) (dLst dNil))) (dRaise 15) dNext))) (zSeq (zSet 1 (fun s => (dVar 0)) (fun s => (dOp oAdd (dFld 1 (dVar 0) s) (dLst (dCons (dFld 0 (dVar 0) s) dNil))))) (zSeq (zSet 0 (fun s => (dVar 0)) (fun s => (dOp oIx (dFld 2 (dVar 0) s) (dUn oNeg (dC (.int 1)))))) (zSeq (zSet 2 (fun s => (dVar 0)) (fun s => (dSl (dFld 2 (dVar 0) s) dNoPart (dPart (dUn oNeg (dC (.int 1))))))) (zS (fun s => (dRet (dFld 0 (dVar 0) s))))))))
def f_Desk_redo : DFz := zFn 1 b_Desk_redo
def t_Desk_redo (C : Cz) (A : Ga) (Cd : Addr) : TS := (tSeq (tIfS (tTest (tOp (rEqU C.K) (tFld C.K (tVar 0) "undone") (tLst tNil))) (tRaise (C.at_ []) 15) tNext) (tSeq (sFld C.K (tVar 0) (tOp rAddU (tFld C.K (tVar 0) "earlier") (tLst (tCons (tFld C.K (tVar 0) "now") tNil))) "earlier") (tSeq (sFld C.K (tVar 0) (tOp (rIx C.K) (tFld C.K (tVar 0) "undone") (tUn rNegU (tC (.int 1)))) "now") (tSeq (sFld C.K (tVar 0) (tSl (rSlU C.K) (tFld C.K (tVar 0) "undone") tNoPart (tPart (tUn rNegU (tC (.int 1))))) "undone") (tRet (tFld C.K (tVar 0) "now"))))))
theorem sim_Desk_redo (C : Cz) (A : Ga) (Cd : Addr) (hF : ∀ F, C.FP F → DeskF C.K Cd F) (DC : DeskC C.K Cd) : SimZ C (t_Desk_redo C A Cd) b_Desk_redo := (z_seq (z_lift (fun s => (s_ifS (s_test (s_op s_eq (s_fld hF DC.cl DC.n2 fl2 (s_var 0)) (s_lst s_nil))) (s_raise 15) s_next))) (z_seq (z_set hF DC.cl DC.n1 pf1 (fun s => (s_var 0)) (fun s => (s_op s_add (s_fld hF DC.cl DC.n1 fl1 (s_var 0)) (s_lst (s_cons (s_fld hF DC.cl DC.n0 fl0 (s_var 0)) s_nil))))) (z_seq (z_set hF DC.cl DC.n0 pf0 (fun s => (s_var 0)) (fun s => (s_op s_ix (s_fld hF DC.cl DC.n2 fl2 (s_var 0)) (s_un s_neg s_int)))) (z_seq (z_set hF DC.cl DC.n2 pf2 (fun s => (s_var 0)) (fun s => (s_sl (s_fld hF DC.cl DC.n2 fl2 (s_var 0)) s_noPart (s_part (s_un s_neg s_int))))) (z_lift (fun s => (s_ret (s_fld hF DC.cl DC.n0 fl0 (s_var 0)))))))))
def b_law_done : DZ := (zSeq (zIfS (fun s => (dTest (dOp oEq (dVar 1) (dC (.str ("put" : Str)))))) (zRet (zTold (zMeth 2 f_Desk_put (fun s => (dVar 0)) (fun s => (dCons (dVar 2) dNil))))) zNext) (zSeq (zIfS (fun s => (dTest (dOp oEq (dVar 1) (dC (.str ("shorten" : Str)))))) (zRet (zTold (zMeth 1 f_Desk_shorten (fun s => (dVar 0)) (fun s => dNil)))) zNext) (zSeq (zIfS (fun s => (dTest (dOp oEq (dVar 1) (dC (.str ("undo" : Str)))))) (zRet (zTold (zMeth 1 f_Desk_undo (fun s => (dVar 0)) (fun s => dNil)))) zNext) (zRet (zTold (zMeth 1 f_Desk_redo (fun s => (dVar 0)) (fun s => dNil)))))))
def f_law_done : DFz := zFn 3 b_law_done
def t_law_done (C : Cz) (A : Ga) (Cd : Addr) (T : List (Addr × Str)) : TS := (tSeq (tIfS (tTest (tOp (rEqU C.K) (tVar 1) (tC (.str ("put" : Str))))) (tRet (tTold C.ec T (toldT C.K C.ec) (fun Ex => (tMeth Cd "put" (liftZ C.K C.ec (FPd C.K Cd) 2 f_Desk_put) [] Ex (tVar 0) (tCons (tVar 2) tNil))))) tNext) (tSeq (tIfS (tTest (tOp (rEqU C.K) (tVar 1) (tC (.str ("shorten" : Str))))) (tRet (tTold C.ec T (toldT C.K C.ec) (fun Ex => (tMeth Cd "shorten" (liftZ C.K C.ec (FPd C.K Cd) 1 f_Desk_shorten) [] Ex (tVar 0) tNil)))) tNext) (tSeq (tIfS (tTest (tOp (rEqU C.K) (tVar 1) (tC (.str ("undo" : Str))))) (tRet (tTold C.ec T (toldT C.K C.ec) (fun Ex => (tMeth Cd "undo" (liftZ C.K C.ec (FPd C.K Cd) 1 f_Desk_undo) [] Ex (tVar 0) tNil)))) tNext) (tRet (tTold C.ec T (toldT C.K C.ec) (fun Ex => (tMeth Cd "redo" (liftZ C.K C.ec (FPd C.K Cd) 1 f_Desk_redo) [] Ex (tVar 0) tNil)))))))
theorem sim_law_done (C : Cz) (A : Ga) (Cd : Addr) (T : List (Addr × Str)) (hL : ∀ F, C.FP F → FPl C.K Cd T F) (DC : DeskC C.K Cd) {TE' : Addr} (EO : ErrsOk C.K C.ec TE') : SimZ C (t_law_done C A Cd T) b_law_done :=
  have hF : ∀ F, C.FP F → DeskF C.K Cd F := fun F h => (hL F h).1
  have hR : ∀ s G, (C.at_ s).GP G → GPr G := fun s G h => by obtain ⟨F, f, e⟩ := h; rw [e]; exact ((hL F f).2 s).2
  have hT : ∀ F, C.FP F → ∀ s, (F.at_ s).T = T := fun F f s => ((hL F f).2 s).1
  (z_seq (z_ifS (fun s => (s_test (s_op s_eq (s_var 1) s_str))) (z_ret (ez_told hT (term_tells EO) (fun Ex => (ez_meth hF hF (nfl (by decide +kernel)) (fun s => (s_var 0)) (fun s => (s_cons (s_var 2) s_nil)))))) z_next) (z_seq (z_ifS (fun s => (s_test (s_op s_eq (s_var 1) s_str))) (z_ret (ez_told hT (term_tells EO) (fun Ex => (ez_meth hF hF (nfl (by decide +kernel)) (fun s => (s_var 0)) (fun s => s_nil))))) z_next) (z_seq (z_ifS (fun s => (s_test (s_op s_eq (s_var 1) s_str))) (z_ret (ez_told hT (term_tells EO) (fun Ex => (ez_meth hF hF (nfl (by decide +kernel)) (fun s => (s_var 0)) (fun s => s_nil))))) z_next) (z_ret (ez_told hT (term_tells EO) (fun Ex => (ez_meth hF hF (nfl (by decide +kernel)) (fun s => (s_var 0)) (fun s => s_nil))))))))
def b_law_turn : DZ := (zSeq (zS (fun s => (dPar 5 6 (dCons (dOp oIx (dLst (dCons (dC (.str ("put" : Str))) (dCons (dC (.str ("put" : Str))) (dCons (dC (.str ("put" : Str))) (dCons (dC (.str ("shorten" : Str))) (dCons (dC (.str ("undo" : Str))) (dCons (dC (.str ("redo" : Str))) dNil))))))) (dCall 2 f_law_roll (dCons (dVar 0) (dCons (dC (.int 6)) dNil)))) (dCons (dOp oIx (dC (.str ("sttTTs" : Str))) (dCall 2 f_law_roll (dCons (dVar 0) (dCons (dC (.int 6)) dNil)))) dNil))))) (zSeq (zAsg (zCall 3 f_law_done (fun s => (dCons (dVar 1) (dCons (dVar 5) (dCons (dVar 6) dNil))))) (dgName 7)) (zSeq (zS (fun s => (dIfS (dTest (dOp oEq (dVar 5) (dC (.str ("put" : Str))))) (dSeq (dAsg (dCall 1 f_law_product (dCons (dOp oAdd (dVar 2) (dVar 6)) dNil)) (dgName 9)) (dRet (dTup (dCons (dVar 7) (dCons (dVar 9) (dCons (dOp oAdd (dVar 2) (dVar 6)) (dCons (dOp oAdd (dVar 3) (dLst (dCons (dVar 2) dNil))) (dCons (dLst dNil) dNil)))))))) dNext))) (zSeq (zS (fun s => (dIfS (dTest (dOp oEq (dVar 5) (dC (.str ("shorten" : Str))))) (dRet (dTup (dCons (dVar 7) (dCons (dCall 1 f_law_short (dCons (dVar 2) dNil)) (dCons (dCall 1 f_law_short (dCons (dVar 2) dNil)) (dCons (dOp oAdd (dVar 3) (dLst (dCons (dVar 2) dNil))) (dCons (dLst dNil) dNil))))))) dNext))) (zSeq (zS (fun s => (dAsg (dIf (dTest (dOp oEq (dVar 5) (dC (.str ("undo" : Str))))) (dVar 3) (dVar 4)) (dgName 8)))) (zSeq (zS (fun s => (dIfS (dTest (dOp oEq (dVar 8) (dLst dNil))) (dRet (dTup (dCons (dVar 7) (dCons (dTup (dCons (dC (.str ("error" : Str))) (dCons (dC (.str ("NothingToUndo" : Str))) dNil))) (dCons (dVar 2) (dCons (dVar 3) (dCons (dVar 4) dNil))))))) dNext))) (zSeq (zS (fun s => (dIfS (dTest (dOp oEq (dVar 5) (dC (.str ("undo" : Str))))) (dRet (dTup (dCons (dVar 7) (dCons (dOp oIx (dVar 8) (dUn oNeg (dC (.int 1)))) (dCons (dOp oIx (dVar 8) (dUn oNeg (dC (.int 1)))) (dCons (dSl (dVar 3) dNoPart (dPart (dUn oNeg (dC (.int 1))))) (dCons (dOp oAdd (dVar 4) (dLst (dCons (dVar 2) dNil))) dNil))))))) dNext))) (zS (fun s => (dRet (dTup (dCons (dVar 7) (dCons (dOp oIx (dVar 8) (dUn oNeg (dC (.int 1)))) (dCons (dOp oIx (dVar 8) (dUn oNeg (dC (.int 1)))) (dCons (dOp oAdd (dVar 3) (dLst (dCons (dVar 2) dNil))) (dCons (dSl (dVar 4) dNoPart (dPart (dUn oNeg (dC (.int 1))))) dNil))))))))))))))))
def f_law_turn : DFz := zFn 10 b_law_turn
def t_law_turn (C : Cz) (A : Ga) (Cd : Addr) (T : List (Addr × Str)) : TS := (tSeq (tPar 5 6 (tCons (tOp (rIx C.K) (tLst (tCons (tC (.str ("put" : Str))) (tCons (tC (.str ("put" : Str))) (tCons (tC (.str ("put" : Str))) (tCons (tC (.str ("shorten" : Str))) (tCons (tC (.str ("undo" : Str))) (tCons (tC (.str ("redo" : Str))) tNil))))))) (tCallS (lift C.K C.ec GPr 2 f_law_roll) (fun _ => C.E0) (tCons (tVar 0) (tCons (tC (.int 6)) tNil)))) (tCons (tOp (rIx C.K) (tC (.str ("sttTTs" : Str))) (tCallS (lift C.K C.ec GPr 2 f_law_roll) (fun _ => C.E0) (tCons (tVar 0) (tCons (tC (.int 6)) tNil)))) tNil))) (tSeq (tAsg (tCallS (liftZ C.K C.ec (FPl C.K Cd T) 3 f_law_done) (fun _ => C.E0) (tCons (tVar 1) (tCons (tVar 5) (tCons (tVar 6) tNil)))) (gName 7)) (tSeq (tIfS (tTest (tOp (rEqU C.K) (tVar 5) (tC (.str ("put" : Str))))) (tSeq (tAsg (tCallS (lift C.K C.ec GPany 1 f_law_product) (fun _ => C.E0) (tCons (tOp rAddU (tVar 2) (tVar 6)) tNil)) (gName 9)) (tRet (tTup (tCons (tVar 7) (tCons (tVar 9) (tCons (tOp rAddU (tVar 2) (tVar 6)) (tCons (tOp rAddU (tVar 3) (tLst (tCons (tVar 2) tNil))) (tCons (tLst tNil) tNil)))))))) tNext) (tSeq (tIfS (tTest (tOp (rEqU C.K) (tVar 5) (tC (.str ("shorten" : Str))))) (tRet (tTup (tCons (tVar 7) (tCons (tCallS (lift C.K C.ec GPany 1 f_law_short) (fun _ => C.E0) (tCons (tVar 2) tNil)) (tCons (tCallS (lift C.K C.ec GPany 1 f_law_short) (fun _ => C.E0) (tCons (tVar 2) tNil)) (tCons (tOp rAddU (tVar 3) (tLst (tCons (tVar 2) tNil))) (tCons (tLst tNil) tNil))))))) tNext) (tSeq (tAsg (tIf (tTest (tOp (rEqU C.K) (tVar 5) (tC (.str ("undo" : Str))))) (tVar 3) (tVar 4)) (gName 8)) (tSeq (tIfS (tTest (tOp (rEqU C.K) (tVar 8) (tLst tNil))) (tRet (tTup (tCons (tVar 7) (tCons (tTup (tCons (tC (.str ("error" : Str))) (tCons (tC (.str ("NothingToUndo" : Str))) tNil))) (tCons (tVar 2) (tCons (tVar 3) (tCons (tVar 4) tNil))))))) tNext) (tSeq (tIfS (tTest (tOp (rEqU C.K) (tVar 5) (tC (.str ("undo" : Str))))) (tRet (tTup (tCons (tVar 7) (tCons (tOp (rIx C.K) (tVar 8) (tUn rNegU (tC (.int 1)))) (tCons (tOp (rIx C.K) (tVar 8) (tUn rNegU (tC (.int 1)))) (tCons (tSl (rSlU C.K) (tVar 3) tNoPart (tPart (tUn rNegU (tC (.int 1))))) (tCons (tOp rAddU (tVar 4) (tLst (tCons (tVar 2) tNil))) tNil))))))) tNext) (tRet (tTup (tCons (tVar 7) (tCons (tOp (rIx C.K) (tVar 8) (tUn rNegU (tC (.int 1)))) (tCons (tOp (rIx C.K) (tVar 8) (tUn rNegU (tC (.int 1)))) (tCons (tOp rAddU (tVar 3) (tLst (tCons (tVar 2) tNil))) (tCons (tSl (rSlU C.K) (tVar 4) tNoPart (tPart (tUn rNegU (tC (.int 1))))) tNil))))))))))))))
theorem sim_law_turn (C : Cz) (A : Ga) (Cd : Addr) (T : List (Addr × Str)) (hL : ∀ F, C.FP F → FPl C.K Cd T F) (DC : DeskC C.K Cd) : SimZ C (t_law_turn C A Cd T) b_law_turn :=
  have hF : ∀ F, C.FP F → DeskF C.K Cd F := fun F h => (hL F h).1
  have hR : ∀ s G, (C.at_ s).GP G → GPr G := fun s G h => by obtain ⟨F, f, e⟩ := h; rw [e]; exact ((hL F f).2 s).2
  have hT : ∀ F, C.FP F → ∀ s, (F.at_ s).T = T := fun F f s => ((hL F f).2 s).1
  (z_seq (z_lift (fun s => (s_par (s_cons (s_op s_ix (s_lst (s_cons s_str (s_cons s_str (s_cons s_str (s_cons s_str (s_cons s_str (s_cons s_str s_nil))))))) (s_call (hR s) (s_cons (s_var 0) (s_cons s_int s_nil)))) (s_cons (s_op s_ix s_str (s_call (hR s) (s_cons (s_var 0) (s_cons s_int s_nil)))) s_nil))))) (z_seq (z_asg (ez_call hL (fun s => (s_cons (s_var 1) (s_cons (s_var 5) (s_cons (s_var 6) s_nil))))) (fun s => (g_name 7))) (z_seq (z_lift (fun s => (s_ifS (s_test (s_op s_eq (s_var 5) s_str)) (s_seq (s_asg (s_call (fun _ _ => trivial) (s_cons (s_op s_add (s_var 2) (s_var 6)) s_nil)) (g_name 9)) (s_ret (s_tup (s_cons (s_var 7) (s_cons (s_var 9) (s_cons (s_op s_add (s_var 2) (s_var 6)) (s_cons (s_op s_add (s_var 3) (s_lst (s_cons (s_var 2) s_nil))) (s_cons (s_lst s_nil) s_nil)))))))) s_next))) (z_seq (z_lift (fun s => (s_ifS (s_test (s_op s_eq (s_var 5) s_str)) (s_ret (s_tup (s_cons (s_var 7) (s_cons (s_call (fun _ _ => trivial) (s_cons (s_var 2) s_nil)) (s_cons (s_call (fun _ _ => trivial) (s_cons (s_var 2) s_nil)) (s_cons (s_op s_add (s_var 3) (s_lst (s_cons (s_var 2) s_nil))) (s_cons (s_lst s_nil) s_nil))))))) s_next))) (z_seq (z_lift (fun s => (s_asg (s_if (s_test (s_op s_eq (s_var 5) s_str)) (s_var 3) (s_var 4)) (g_name 8)))) (z_seq (z_lift (fun s => (s_ifS (s_test (s_op s_eq (s_var 8) (s_lst s_nil))) (s_ret (s_tup (s_cons (s_var 7) (s_cons (s_tup (s_cons s_str (s_cons s_str s_nil))) (s_cons (s_var 2) (s_cons (s_var 3) (s_cons (s_var 4) s_nil))))))) s_next))) (z_seq (z_lift (fun s => (s_ifS (s_test (s_op s_eq (s_var 5) s_str)) (s_ret (s_tup (s_cons (s_var 7) (s_cons (s_op s_ix (s_var 8) (s_un s_neg s_int)) (s_cons (s_op s_ix (s_var 8) (s_un s_neg s_int)) (s_cons (s_sl (s_var 3) s_noPart (s_part (s_un s_neg s_int))) (s_cons (s_op s_add (s_var 4) (s_lst (s_cons (s_var 2) s_nil))) s_nil))))))) s_next))) (z_lift (fun s => (s_ret (s_tup (s_cons (s_var 7) (s_cons (s_op s_ix (s_var 8) (s_un s_neg s_int)) (s_cons (s_op s_ix (s_var 8) (s_un s_neg s_int)) (s_cons (s_op s_add (s_var 3) (s_lst (s_cons (s_var 2) s_nil))) (s_cons (s_sl (s_var 4) s_noPart (s_part (s_un s_neg s_int))) s_nil))))))))))))))))
def b_law_rest : DZ := (zSeq (zForR 16 (dgName 6) (zSeq (zAsg (zCall 5 f_law_turn (fun s => (dCons (dVar 1) (dCons (dVar 2) (dCons (dVar 3) (dCons (dVar 4) (dCons (dVar 5) dNil))))))) (dgTup 5 (dgCons (dgName 8) (dgCons (dgName 9) (dgCons (dgName 3) (dgCons (dgName 4) (dgCons (dgName 5) dgNil))))))) (zSeq (zS (fun s => (dIfS (dOr (dTest (dOp oNe (dVar 8) (dVar 9))) (dOr (dTest (dOp oNe (dK (zMeth 1 f_Desk_word (fun s => (dVar 2)) (fun s => dNil)) s) (dVar 3))) (dTest (dOp oNe (dK (zLen f_Desk___len__ (fun s => (dVar 2))) s) (dCB oLen (dCons (dVar 3) dNil)))))) (dRet (dC (.bool false))) dNext))) (zS (fun s => (dIfS (dTest (dOp oNe (dK (zMeth 1 f_Desk_table (fun s => (dVar 2)) (fun s => dNil)) s) (dCall 1 f_law_product (dCons (dVar 3) dNil)))) (dRet (dC (.bool false))) dNext)))))) (zSeq (zS (fun s => (dIfS (dTest (dOp oNe (dK (zMeth 1 f_Desk_normal (fun s => (dVar 2)) (fun s => dNil)) s) (dCall 1 f_normal_of_word (dCons (dVar 3) dNil)))) (dRet (dC (.bool false))) dNext))) (zSeq (zS (fun s => (dFor (dOver (dLst (dCons (dC (.str ("" : Str))) (dCons (dC (.str ("st" : Str))) (dCons (dC (.str ("w" : Str))) (dCons (dC .none) (dCons (dC (.int 1)) (dCons (dLst (dCons (dC (.str ("s" : Str))) dNil)) dNil)))))))) (dgName 7) (dIfS (dTest (dOp oNe (dK (zTold (zMeth 2 f_Desk_put (fun s => (dVar 2)) (fun s => (dCons (dVar 7) dNil)))) s) (dTup (dCons (dC (.str ("error" : Str))) (dCons (dC (.str ("InvalidLetter" : Str))) dNil))))) (dRet (dC (.bool false))) dNext)))) (zS (fun s => (dIfS (dTest (dOp oNe (dK (zMeth 1 f_Desk_word (fun s => (dVar 2)) (fun s => dNil)) s) (dVar 3))) (dRet (dC (.bool false))) dNext))))))
def b_law_body : DS := dNew 2 3 4 5 (dC (.str "")) (dLst dNil) (dLst dNil) b_law_rest
def t_law_rest (C : Cz) (A : Ga) (Cd : Addr) (T : List (Addr × Str)) : TS := (tSeq (tFor (iRng1 (tCons (tC (.int 16)) tNil)) (gName 6) (tSeq (tAsg (tCallS (liftZ C.K C.ec (FPl C.K Cd T) 5 f_law_turn) (fun _ => C.E0) (tCons (tVar 1) (tCons (tVar 2) (tCons (tVar 3) (tCons (tVar 4) (tCons (tVar 5) tNil)))))) (gTup C.K 5 (gCons (gName 8) (gCons (gName 9) (gCons (gName 3) (gCons (gName 4) (gCons (gName 5) gNil))))))) (tSeq (tIfS (tOr (tTest (tOp (rNeU C.K) (tVar 8) (tVar 9))) (tOr (tTest (tOp (rNeU C.K) (tMeth Cd "word" (liftZ C.K C.ec (FPd C.K Cd) 1 f_Desk_word) [] C.E0 (tVar 2) tNil) (tVar 3))) (tTest (tOp (rNeU C.K) (tCB (rLenO Cd (liftZ C.K C.ec (FPd C.K Cd) 1 f_Desk___len__) C.E0) (tCons (tVar 2) tNil)) (tCB (rLenU C.K) (tCons (tVar 3) tNil)))))) (tRet (tC (.bl false))) tNext) (tIfS (tTest (tOp (rNeU C.K) (tMeth Cd "table" (liftZ C.K C.ec (FPd C.K Cd) 1 f_Desk_table) [] C.E0 (tVar 2) tNil) (tCallS (lift C.K C.ec GPany 1 f_law_product) (fun _ => C.E0) (tCons (tVar 3) tNil)))) (tRet (tC (.bl false))) tNext)))) (tSeq (tIfS (tTest (tOp (rNeU C.K) (tMeth Cd "normal" (liftZ C.K C.ec (FPd C.K Cd) 1 f_Desk_normal) [] C.E0 (tVar 2) tNil) (tCallS (lift C.K C.ec GPany 1 f_normal_of_word) (fun _ => C.E0) (tCons (tVar 3) tNil)))) (tRet (tC (.bl false))) tNext) (tSeq (tFor (iAny C.K (tLst (tCons (tC (.str ("" : Str))) (tCons (tC (.str ("st" : Str))) (tCons (tC (.str ("w" : Str))) (tCons (tC .non) (tCons (tC (.int 1)) (tCons (tLst (tCons (tC (.str ("s" : Str))) tNil)) tNil)))))))) (gName 7) (tIfS (tTest (tOp (rNeU C.K) (tTold C.ec T (toldT C.K C.ec) (fun Ex => (tMeth Cd "put" (liftZ C.K C.ec (FPd C.K Cd) 2 f_Desk_put) [] Ex (tVar 2) (tCons (tVar 7) tNil)))) (tTup (tCons (tC (.str ("error" : Str))) (tCons (tC (.str ("InvalidLetter" : Str))) tNil))))) (tRet (tC (.bl false))) tNext)) (tIfS (tTest (tOp (rNeU C.K) (tMeth Cd "word" (liftZ C.K C.ec (FPd C.K Cd) 1 f_Desk_word) [] C.E0 (tVar 2) tNil) (tVar 3))) (tRet (tC (.bl false))) tNext))))
def t_law_body (K : PySem.W.Frag) (ec : Nat → Addr) (E : XK) (A : Ga) (Cd : Addr) (T : List (Addr × Str)) : TS := tSeq (tAsg (tTup (tCons (tMake Cd (spInit Cd) [] E tNil) (tCons (tC (.str "")) (tCons (tLst tNil) (tCons (tLst tNil) tNil))))) (gTup K 4 (gCons (gName 2) (gCons (gName 3) (gCons (gName 4) (gCons (gName 5) gNil)))))) (t_law_rest ⟨K, ec, FPl K Cd T, E, addFPl⟩ A Cd T)
theorem sim_law_rest (C : Cz) (A : Ga) (Cd : Addr) (T : List (Addr × Str)) (hL : ∀ F, C.FP F → FPl C.K Cd T F) (DC : DeskC C.K Cd) {TE' : Addr} (EO : ErrsOk C.K C.ec TE') : SimZ C (t_law_rest C A Cd T) b_law_rest :=
  have hF : ∀ F, C.FP F → DeskF C.K Cd F := fun F h => (hL F h).1
  have hR : ∀ s G, (C.at_ s).GP G → GPr G := fun s G h => by obtain ⟨F, f, e⟩ := h; rw [e]; exact ((hL F f).2 s).2
  have hT : ∀ F, C.FP F → ∀ s, (F.at_ s).T = T := fun F f s => ((hL F f).2 s).1
  (z_seq (z_forR (n := 16) (by decide) (fun s => (g_name 6)) (z_seq (z_asg (ez_call hL (fun s => (s_cons (s_var 1) (s_cons (s_var 2) (s_cons (s_var 3) (s_cons (s_var 4) (s_cons (s_var 5) s_nil))))))) (fun s => (g_tup (g_cons (g_name 8) (g_cons (g_name 9) (g_cons (g_name 3) (g_cons (g_name 4) (g_cons (g_name 5) g_nil)))))))) (z_seq (z_lift (fun s => (s_ifS (s_or (s_test (s_op s_ne (s_var 8) (s_var 9))) (s_or (s_test (s_op s_ne (s_K (ez_meth hF hF (nfl (by decide +kernel)) (fun s => (s_var 2)) (fun s => s_nil)) s) (s_var 3))) (s_test (s_op s_ne (s_K (ez_len hF hF (fun s => (s_var 2))) s) (s_cb s_len (s_cons (s_var 3) s_nil)))))) (s_ret s_bl) s_next))) (z_lift (fun s => (s_ifS (s_test (s_op s_ne (s_K (ez_meth hF hF (nfl (by decide +kernel)) (fun s => (s_var 2)) (fun s => s_nil)) s) (s_call (fun _ _ => trivial) (s_cons (s_var 3) s_nil)))) (s_ret s_bl) s_next)))))) (z_seq (z_lift (fun s => (s_ifS (s_test (s_op s_ne (s_K (ez_meth hF hF (nfl (by decide +kernel)) (fun s => (s_var 2)) (fun s => s_nil)) s) (s_call (fun _ _ => trivial) (s_cons (s_var 3) s_nil)))) (s_ret s_bl) s_next))) (z_seq (z_lift (fun s => (s_for (i_over (s_lst (s_cons s_str (s_cons s_str (s_cons s_str (s_cons s_non (s_cons s_int (s_cons (s_lst (s_cons s_str s_nil)) s_nil)))))))) (g_name 7) (s_ifS (s_test (s_op s_ne (s_K (ez_told hT (term_tells EO) (fun Ex => (ez_meth hF hF (nfl (by decide +kernel)) (fun s => (s_var 2)) (fun s => (s_cons (s_var 7) s_nil))))) s) (s_tup (s_cons s_str (s_cons s_str s_nil))))) (s_ret s_bl) s_next)))) (z_lift (fun s => (s_ifS (s_test (s_op s_ne (s_K (ez_meth hF hF (nfl (by decide +kernel)) (fun s => (s_var 2)) (fun s => s_nil)) s) (s_var 3))) (s_ret s_bl) s_next))))))
abbrev law_plain : Prop := b_law_body (put (List.replicate 10 none) 1 dice) (fun _ => True) (fun _ => False) (fun _ => False)
end Tz

namespace Tz
open PySem PySem.Spec PyProof.Rows L2
theorem inStr_one (s : Str) (c : Nat) : inStr ⟨#[c]⟩ s = decide (c ∈ s.cps.toList) := StrLaws.found_one s c
theorem oIn_ss {a b : Str} {Q : PyData → Prop} : oIn (.str a) (.str b) Q = Q (.bool (inStr a b)) := propext Iff.rfl
theorem all_in (s : Str) (w : List Nat) : ((w.map fun c => decide (c ∈ s.cps.toList)).all id) = decide (∀ c ∈ w, c ∈ s.cps.toList) := by
  induction w with
  | nil => rfl
  | cons c w ih =>
    rw [List.map_cons, List.all_cons, ih, id, ← Bool.decide_and, decide_eq_decide]
    simp
theorem is_made_of_ok {w : List Nat} {s : Str} {Q : PyData → Prop} {E : Nat → Prop} (hl : w.length ≤ 100000) (h : Q (.bool (decide (w.length ≤ 1000 ∧ ∀ c ∈ w, c ∈ s.cps.toList)))) : f_is_made_of [W w, .str s] Q E := by
  simp only [f_is_made_of, b_is_made_of, ↓onB_b, ↓onI_i, ↓onStr_s, ↓onSeq_l, ↓onSeq_t, ↓onSeq_s, ↓onS_s, ↓dFn_e, ↓dVar_e, ↓dC_e, ↓dOp_e, ↓dUn_e, ↓dNil_e, ↓dCons_e, ↓dTup_e, ↓dLst_e, ↓dTest_e, ↓dAnd_e, ↓dOr_e, ↓dNot_e, ↓dAndV_e, ↓dOrV_e, ↓dNotV_e, ↓dIf_e, ↓dChain_e, ↓dCall_e, ↓dCB_e, ↓dNext_e, ↓dSeq_e, ↓dRet_e, ↓dDrop_e, ↓dAsg_e, ↓dIfS_e, ↓dRaise_e, ↓dgName_e, ↓dgNil_e, ↓dgCons_e, ↓dgTup_e, ↓dPar_e, ↓dPar3_e, ↓dFor_e, ↓dLc_e, lcL_n, lcL_c, ↓dYes_e, ↓dOver_e, ↓dRng1_e, ↓dRng2_e, ↓dPart_e, ↓dNoPart_e, ↓dMs_e, ↓dIsi_e, ↓dToldC_e, oAdd_ii, oAdd_ss, oAdd_ll, oSub_ii, oMul_ii, oMul_si, oDiv_ii, oMod_ii, oPow_ii, oNeg_i, oEq_ii, oNe_ii, oLt_ii, oLe_ii, oGt_ii, oGe_ii, oIs_e, oIsN_e, oIx_l, oIx_t, oIx_s, oLen_t, oLen_l, oAbs_i, oMax_l, oMin_l, oMin_t, oMax_t, oMax2_ii, oMin2_ii, oAll_l, oSum_l, oTuple_l, oSindex_ss, roll_e, ↓if_t, ↓if_f, if_T, if_F, Bool.false_eq_true, oLen_s, oList_t, oList_l, ↓dSl_e, onSl_l, onSl_s, isi_tt, isi_lt, isi_nt, isi_it, isi_bt, isi_st, isi_ii, isi_ib, isi_bi, isi_bb, isi_si, isi_ni, isi_ti, isi_li, isi_ss, isi_is, isi_bs, isi_ns, isi_ts, isi_ls, pl4, atI4_0, atI4_1, atI4_2, atI4_3, asInts, asBools, asStrs, Option.map, look, put, drp, drps, startR, List.length_cons, List.length_nil, List.map_cons, List.map_nil, List.replicate, List.append, List.cons_append, List.nil_append, List.append_nil, plain, true_and, and_true, Bool.not_true, Bool.not_false, Nat.zero_add, Nat.reduceAdd, Nat.reduceSub, Nat.reduceLeDiff, Nat.reduceEqDiff, ten6]
  have e : (⟨w.toArray⟩ : Str).length = w.length := by simp [Str.length]
  refine ⟨by rw [e]; omega, ?_⟩
  rw [e]
  by_cases h1 : w.length ≤ 1000
  · rw [if_pos (decide_eq_true (by omega))]
    refine ⟨by rw [List.length_map]; exact hl, ?_⟩
    refine lc_map (fun x => match x with
      | .str z => .bool (inStr z s)
      | _ => .bool false) _ _ _ (fun x hx => ?_) ?_
    · obtain ⟨c, _, rfl⟩ := List.mem_map.mp hx
      refine ⟨rfl, fun k hk => ?_⟩
      simp only [oIn_ss, ↓onB_b, ↓onI_i, ↓onStr_s, ↓onSeq_l, ↓onSeq_t, ↓onSeq_s, ↓onS_s, ↓dFn_e, ↓dVar_e, ↓dC_e, ↓dOp_e, ↓dUn_e, ↓dNil_e, ↓dCons_e, ↓dTup_e, ↓dLst_e, ↓dTest_e, ↓dAnd_e, ↓dOr_e, ↓dNot_e, ↓dAndV_e, ↓dOrV_e, ↓dNotV_e, ↓dIf_e, ↓dChain_e, ↓dCall_e, ↓dCB_e, ↓dNext_e, ↓dSeq_e, ↓dRet_e, ↓dDrop_e, ↓dAsg_e, ↓dIfS_e, ↓dRaise_e, ↓dgName_e, ↓dgNil_e, ↓dgCons_e, ↓dgTup_e, ↓dPar_e, ↓dPar3_e, ↓dFor_e, ↓dLc_e, lcL_n, lcL_c, ↓dYes_e, ↓dOver_e, ↓dRng1_e, ↓dRng2_e, ↓dPart_e, ↓dNoPart_e, ↓dMs_e, ↓dIsi_e, ↓dToldC_e, oAdd_ii, oAdd_ss, oAdd_ll, oSub_ii, oMul_ii, oMul_si, oDiv_ii, oMod_ii, oPow_ii, oNeg_i, oEq_ii, oNe_ii, oLt_ii, oLe_ii, oGt_ii, oGe_ii, oIs_e, oIsN_e, oIx_l, oIx_t, oIx_s, oLen_t, oLen_l, oAbs_i, oMax_l, oMin_l, oMin_t, oMax_t, oMax2_ii, oMin2_ii, oAll_l, oSum_l, oTuple_l, oSindex_ss, roll_e, ↓if_t, ↓if_f, if_T, if_F, Bool.false_eq_true, oLen_s, oList_t, oList_l, ↓dSl_e, onSl_l, onSl_s, isi_tt, isi_lt, isi_nt, isi_it, isi_bt, isi_st, isi_ii, isi_ib, isi_bi, isi_bb, isi_si, isi_ni, isi_ti, isi_li, isi_ss, isi_is, isi_bs, isi_ns, isi_ts, isi_ls, pl4, atI4_0, atI4_1, atI4_2, atI4_3, asInts, asBools, asStrs, Option.map, look, put, drp, drps, startR, List.length_cons, List.length_nil, List.map_cons, List.map_nil, List.replicate, List.append, List.cons_append, List.nil_append, List.append_nil, plain, true_and, and_true, Bool.not_true, Bool.not_false, Nat.zero_add, Nat.reduceAdd, Nat.reduceSub, Nat.reduceLeDiff, Nat.reduceEqDiff, ten6]
      exact hk
    · have eb : asBools (w.map fun c => PyData.bool (decide (c ∈ s.cps.toList))) = some (w.map fun c => decide (c ∈ s.cps.toList)) := by
        clear hl h e h1
        induction w with
        | nil => rfl
        | cons c w ih =>
          show (asBools (w.map fun c => PyData.bool (decide (c ∈ s.cps.toList)))).map _ = _
          rw [ih]
          rfl
      rw [List.nil_append, List.map_map]
      have em : (w.map ((fun x => match x with
          | PyData.str z => PyData.bool (inStr z s)
          | _ => PyData.bool false) ∘ fun c => PyData.str ⟨#[c]⟩)) = w.map fun c => PyData.bool (decide (c ∈ s.cps.toList)) := by
        apply List.map_congr_left
        intro c _
        show PyData.bool (inStr ⟨#[c]⟩ s) = _
        rw [inStr_one]
      rw [em, eb, onS_s, all_in]
      have e2 : decide (w.length ≤ 1000 ∧ ∀ c ∈ w, c ∈ s.cps.toList) = decide (∀ c ∈ w, c ∈ s.cps.toList) := by
        rw [decide_eq_decide]
        exact ⟨fun z => z.2, fun z => ⟨h1, z⟩⟩
      rw [e2] at h
      exact h
  · rw [if_neg (by simp; omega)]
    rw [decide_eq_false (fun z => h1 z.1)] at h
    exact h
/-- all([letter in s for letter in w]) -/
theorem in_ok {i : Nat} {r : Rho} {s : Str} {w : List Nat} {QL : List Bool → Prop} (hi : i < r.length) (h : ∀ bs : List Bool, bs.all id = decide (∀ c ∈ w, c ∈ s.cps.toList) → QL bs) : lcL (dgName i) dYes (dOp oIn (dVar i) (dC (.str s))) r (fun ys => onS (asBools ys) QL) (w.map ch) [] := by
  refine lc_map (fun x => match x with
    | .str z => .bool (inStr z s)
    | _ => .bool false) _ _ _ (fun x hx => ?_) ?_
  · obtain ⟨c, _, rfl⟩ := List.mem_map.mp hx
    refine ⟨rfl, fun k hk => ?_⟩
    rw [dOp_e, dVar_e, look_put_eq hi, onS_s, dC_e, oIn_ss]
    exact hk
  · have eb : asBools (w.map fun c => PyData.bool (decide (c ∈ s.cps.toList))) = some (w.map fun c => decide (c ∈ s.cps.toList)) := asBools_at (fun c => decide (c ∈ s.cps.toList)) w
    rw [List.nil_append, List.map_map]
    have em : (w.map ((fun x => match x with
        | PyData.str z => PyData.bool (inStr z s)
        | _ => PyData.bool false) ∘ ch)) = w.map fun c => PyData.bool (decide (c ∈ s.cps.toList)) := by
      apply List.map_congr_left
      intro c _
      show PyData.bool (inStr ⟨#[c]⟩ s) = _
      rw [inStr_one]
    rw [em, eb, onS_s]
    exact h _ (all_in s w)

theorem stT_str : (Str.ofString "stT").cps.toList = [115, 116, 84] := by decide +kernel
theorem stT_mem {c : Nat} : c ∈ (Str.ofString "stT").cps.toList ↔ three c := by
  rw [stT_str]
  simp [three]
instance (c : Nat) : Decidable (three c) := by unfold three; infer_instance
theorem need_word_ok {w : List Nat} {Q : PyData → Prop} {E : Nat → Prop} (hl : w.length ≤ 1000) (hw : ∀ c ∈ w, three c) (h : Q .none) : f_need_word [W w] Q E := by
  simp only [f_need_word, b_need_word, ↓onB_b, ↓onI_i, ↓onStr_s, ↓onSeq_l, ↓onSeq_t, ↓onSeq_s, ↓onS_s, ↓dFn_e, ↓dVar_e, ↓dC_e, ↓dOp_e, ↓dUn_e, ↓dNil_e, ↓dCons_e, ↓dTup_e, ↓dLst_e, ↓dTest_e, ↓dAnd_e, ↓dOr_e, ↓dNot_e, ↓dAndV_e, ↓dOrV_e, ↓dNotV_e, ↓dIf_e, ↓dChain_e, ↓dCall_e, ↓dCB_e, ↓dNext_e, ↓dSeq_e, ↓dRet_e, ↓dDrop_e, ↓dAsg_e, ↓dIfS_e, ↓dRaise_e, ↓dgName_e, ↓dgNil_e, ↓dgCons_e, ↓dgTup_e, ↓dPar_e, ↓dPar3_e, ↓dFor_e, ↓dLc_e, lcL_n, lcL_c, ↓dYes_e, ↓dOver_e, ↓dRng1_e, ↓dRng2_e, ↓dPart_e, ↓dNoPart_e, ↓dMs_e, ↓dIsi_e, ↓dToldC_e, oAdd_ii, oAdd_ss, oAdd_ll, oSub_ii, oMul_ii, oMul_si, oDiv_ii, oMod_ii, oPow_ii, oNeg_i, oEq_ii, oNe_ii, oLt_ii, oLe_ii, oGt_ii, oGe_ii, oIs_e, oIsN_e, oIx_l, oIx_t, oIx_s, oLen_t, oLen_l, oAbs_i, oMax_l, oMin_l, oMin_t, oMax_t, oMax2_ii, oMin2_ii, oAll_l, oSum_l, oTuple_l, oSindex_ss, roll_e, ↓if_t, ↓if_f, if_T, if_F, Bool.false_eq_true, oLen_s, oList_t, oList_l, ↓dSl_e, onSl_l, onSl_s, isi_tt, isi_lt, isi_nt, isi_it, isi_bt, isi_st, isi_ii, isi_ib, isi_bi, isi_bb, isi_si, isi_ni, isi_ti, isi_li, isi_ss, isi_is, isi_bs, isi_ns, isi_ts, isi_ls, pl4, atI4_0, atI4_1, atI4_2, atI4_3, asInts, asBools, asStrs, Option.map, look, put, drp, drps, startR, List.length_cons, List.length_nil, List.map_cons, List.map_nil, List.replicate, List.append, List.cons_append, List.nil_append, List.append_nil, plain, true_and, and_true, Bool.not_true, Bool.not_false, Nat.zero_add, Nat.reduceAdd, Nat.reduceSub, Nat.reduceLeDiff, Nat.reduceEqDiff, ten6]
  refine is_made_of_ok (by omega) ?_
  rw [decide_eq_true ⟨hl, fun c hc => stT_mem.mpr (hw c hc)⟩, onB_b, Bool.not_true, if_f]
  exact h
theorem need_word_no {w : List Nat} {Q : PyData → Prop} {E : Nat → Prop} (hl : w.length ≤ 100000) (hw : ¬ (w.length ≤ 1000 ∧ ∀ c ∈ w, three c)) (h : E 1) : f_need_word [W w] Q E := by
  simp only [f_need_word, b_need_word, ↓onB_b, ↓onI_i, ↓onStr_s, ↓onSeq_l, ↓onSeq_t, ↓onSeq_s, ↓onS_s, ↓dFn_e, ↓dVar_e, ↓dC_e, ↓dOp_e, ↓dUn_e, ↓dNil_e, ↓dCons_e, ↓dTup_e, ↓dLst_e, ↓dTest_e, ↓dAnd_e, ↓dOr_e, ↓dNot_e, ↓dAndV_e, ↓dOrV_e, ↓dNotV_e, ↓dIf_e, ↓dChain_e, ↓dCall_e, ↓dCB_e, ↓dNext_e, ↓dSeq_e, ↓dRet_e, ↓dDrop_e, ↓dAsg_e, ↓dIfS_e, ↓dRaise_e, ↓dgName_e, ↓dgNil_e, ↓dgCons_e, ↓dgTup_e, ↓dPar_e, ↓dPar3_e, ↓dFor_e, ↓dLc_e, lcL_n, lcL_c, ↓dYes_e, ↓dOver_e, ↓dRng1_e, ↓dRng2_e, ↓dPart_e, ↓dNoPart_e, ↓dMs_e, ↓dIsi_e, ↓dToldC_e, oAdd_ii, oAdd_ss, oAdd_ll, oSub_ii, oMul_ii, oMul_si, oDiv_ii, oMod_ii, oPow_ii, oNeg_i, oEq_ii, oNe_ii, oLt_ii, oLe_ii, oGt_ii, oGe_ii, oIs_e, oIsN_e, oIx_l, oIx_t, oIx_s, oLen_t, oLen_l, oAbs_i, oMax_l, oMin_l, oMin_t, oMax_t, oMax2_ii, oMin2_ii, oAll_l, oSum_l, oTuple_l, oSindex_ss, roll_e, ↓if_t, ↓if_f, if_T, if_F, Bool.false_eq_true, oLen_s, oList_t, oList_l, ↓dSl_e, onSl_l, onSl_s, isi_tt, isi_lt, isi_nt, isi_it, isi_bt, isi_st, isi_ii, isi_ib, isi_bi, isi_bb, isi_si, isi_ni, isi_ti, isi_li, isi_ss, isi_is, isi_bs, isi_ns, isi_ts, isi_ls, pl4, atI4_0, atI4_1, atI4_2, atI4_3, asInts, asBools, asStrs, Option.map, look, put, drp, drps, startR, List.length_cons, List.length_nil, List.map_cons, List.map_nil, List.replicate, List.append, List.cons_append, List.nil_append, List.append_nil, plain, true_and, and_true, Bool.not_true, Bool.not_false, Nat.zero_add, Nat.reduceAdd, Nat.reduceSub, Nat.reduceLeDiff, Nat.reduceEqDiff, ten6]
  refine is_made_of_ok hl ?_
  rw [decide_eq_false (fun z => hw ⟨z.1, fun c hc => stT_mem.mp (z.2 c hc)⟩), onB_b, Bool.not_false, if_t]
  exact h
theorem need_word_bad {d : PyData} {Q : PyData → Prop} {E : Nat → Prop} (h1 : plain d = true) (h2 : isiB d "str" = some false) (h : E 1) : f_need_word [d] Q E := by
  simp only [f_need_word, b_need_word, f_is_made_of, b_is_made_of, h2, ↓onB_b, ↓onI_i, ↓onStr_s, ↓onSeq_l, ↓onSeq_t, ↓onSeq_s, ↓onS_s, ↓dFn_e, ↓dVar_e, ↓dC_e, ↓dOp_e, ↓dUn_e, ↓dNil_e, ↓dCons_e, ↓dTup_e, ↓dLst_e, ↓dTest_e, ↓dAnd_e, ↓dOr_e, ↓dNot_e, ↓dAndV_e, ↓dOrV_e, ↓dNotV_e, ↓dIf_e, ↓dChain_e, ↓dCall_e, ↓dCB_e, ↓dNext_e, ↓dSeq_e, ↓dRet_e, ↓dDrop_e, ↓dAsg_e, ↓dIfS_e, ↓dRaise_e, ↓dgName_e, ↓dgNil_e, ↓dgCons_e, ↓dgTup_e, ↓dPar_e, ↓dPar3_e, ↓dFor_e, ↓dLc_e, lcL_n, lcL_c, ↓dYes_e, ↓dOver_e, ↓dRng1_e, ↓dRng2_e, ↓dPart_e, ↓dNoPart_e, ↓dMs_e, ↓dIsi_e, ↓dToldC_e, oAdd_ii, oAdd_ss, oAdd_ll, oSub_ii, oMul_ii, oMul_si, oDiv_ii, oMod_ii, oPow_ii, oNeg_i, oEq_ii, oNe_ii, oLt_ii, oLe_ii, oGt_ii, oGe_ii, oIs_e, oIsN_e, oIx_l, oIx_t, oIx_s, oLen_t, oLen_l, oAbs_i, oMax_l, oMin_l, oMin_t, oMax_t, oMax2_ii, oMin2_ii, oAll_l, oSum_l, oTuple_l, oSindex_ss, roll_e, ↓if_t, ↓if_f, if_T, if_F, Bool.false_eq_true, oLen_s, oList_t, oList_l, ↓dSl_e, onSl_l, onSl_s, isi_tt, isi_lt, isi_nt, isi_it, isi_bt, isi_st, isi_ii, isi_ib, isi_bi, isi_bb, isi_si, isi_ni, isi_ti, isi_li, isi_ss, isi_is, isi_bs, isi_ns, isi_ts, isi_ls, pl4, atI4_0, atI4_1, atI4_2, atI4_3, asInts, asBools, asStrs, Option.map, look, put, drp, drps, startR, List.length_cons, List.length_nil, List.map_cons, List.map_nil, List.replicate, List.append, List.cons_append, List.nil_append, List.append_nil, plain, true_and, and_true, Bool.not_true, Bool.not_false, Nat.zero_add, Nat.reduceAdd, Nat.reduceSub, Nat.reduceLeDiff, Nat.reduceEqDiff, ten6]
  exact ⟨h1, h⟩

theorem canL : ∀ {w : List Nat}, asc w → PyData.canLayAll0 (w.map ch) = true
  | [], _ => rfl
  | c :: w, h => by
    show (PyData.strOk ⟨#[c]⟩ && PyData.canLayAll0 (w.map ch)) = true
    rw [canL (fun d hd => h d (List.mem_cons_of_mem _ hd)), Bool.and_true]
    exact strOk_W (w := [c]) fun d hd => by rw [List.mem_singleton.mp hd]; exact h c List.mem_cons_self
theorem depL : ∀ w : List Nat, PyData.depthAll (w.map ch) = 0
  | [] => rfl
  | c :: w => by
    show max 0 (PyData.depthAll (w.map ch)) = 0
    rw [depL w]
    rfl
theorem shL {w : List Nat} (h : asc w) : SeqAt.shaped (.list (w.map ch)) = true := by
  unfold SeqAt.shaped PyData.canLay0 PyData.depth
  rw [canL h, depL]
  rfl
theorem eq_nil_t {Q : PyData → Prop} (h : Q (.bool true)) : oEq (.list []) (.list []) Q := ⟨rfl, rfl, h⟩
theorem eq_nil_f {w : List Nat} {c : Nat} {Q : PyData → Prop} (h1 : asc (w ++ [c])) (h : Q (.bool false)) : oEq (.list ((w ++ [c]).map ch)) (.list []) Q := by
  refine ⟨shL h1, rfl, ?_⟩
  have e : PyData.eqv (.list ((w ++ [c]).map ch)) (.list []) = false := by
    cases w <;> rfl
  rw [e]
  exact h
theorem cut_last {S : List PyData} {x : PyData} : cutD (S ++ [x]) none (some (-1)) = S := by
  have e1 : HT.sIx (S ++ [x]).length 0 none = 0 := rfl
  have e2 : HT.sIx (S ++ [x]).length (S ++ [x]).length (some (-1)) = S.length := by
    show ((-1 : Int) + ((S ++ [x]).length : Int)).toNat = _
    rw [List.length_append, List.length_singleton]
    omega
  unfold cutD
  rw [e1, e2, List.drop_zero, Nat.sub_zero, List.take_left]
theorem dgw : dgFind [(("w" : Str), V.int 1, PyData.int 1), (("v" : Str), V.int 2, PyData.int 2)] ⟨#[119]⟩ = some (.int 1) := by
  rw [key_w, key_v]
  rfl
theorem dgv : dgFind [(("w" : Str), V.int 1, PyData.int 1), (("v" : Str), V.int 2, PyData.int 2)] ⟨#[118]⟩ = some (.int 2) := by
  rw [key_w, key_v]
  rfl
theorem put_behind_ok {s : Int} {r : List Nat} {c : Nat} {Q : PyData → Prop} {E : Nat → Prop} (hr : ∀ d ∈ r, swv d) (hc : swv c) (hl : r.length ≤ 99999) (h : Q (.tuple [.int (pb s r c).1, .list ((pb s r c).2.reverse.map ch)])) : f_put_behind [.int s, .list (r.reverse.map ch), ch c] Q E := by
  rw [f_put_behind, b_put_behind, dFn_e, dSeq_e]
  cases r with
  | nil =>
    simp only [List.reverse_nil, ↓onB_b, ↓onI_i, ↓onStr_s, ↓onSeq_l, ↓onSeq_t, ↓onSeq_s, ↓onS_s, ↓dFn_e, ↓dVar_e, ↓dC_e, ↓dOp_e, ↓dUn_e, ↓dNil_e, ↓dCons_e, ↓dTup_e, ↓dLst_e, ↓dTest_e, ↓dAnd_e, ↓dOr_e, ↓dNot_e, ↓dAndV_e, ↓dOrV_e, ↓dNotV_e, ↓dIf_e, ↓dChain_e, ↓dCall_e, ↓dCB_e, ↓dNext_e, ↓dRet_e, ↓dDrop_e, ↓dAsg_e, ↓dIfS_e, ↓dRaise_e, ↓dgName_e, ↓dgNil_e, ↓dgCons_e, ↓dgTup_e, ↓dPar_e, ↓dPar3_e, ↓dFor_e, ↓dLc_e, lcL_n, lcL_c, ↓dYes_e, ↓dOver_e, ↓dRng1_e, ↓dRng2_e, ↓dPart_e, ↓dNoPart_e, ↓dMs_e, ↓dIsi_e, ↓dToldC_e, oAdd_ii, oAdd_ss, oAdd_ll, oSub_ii, oMul_ii, oMul_si, oDiv_ii, oMod_ii, oPow_ii, oNeg_i, oEq_ii, oNe_ii, oLt_ii, oLe_ii, oGt_ii, oGe_ii, oIs_e, oIsN_e, oIx_l, oIx_t, oIx_s, oLen_t, oLen_l, oAbs_i, oMax_l, oMin_l, oMin_t, oMax_t, oMax2_ii, oMin2_ii, oAll_l, oSum_l, oTuple_l, oSindex_ss, roll_e, ↓if_t, ↓if_f, if_T, if_F, Bool.false_eq_true, oLen_s, oList_t, oList_l, ↓dSl_e, onSl_l, onSl_s, isi_tt, isi_lt, isi_nt, isi_it, isi_bt, isi_st, isi_ii, isi_ib, isi_bi, isi_bb, isi_si, isi_ni, isi_ti, isi_li, isi_ss, isi_is, isi_bs, isi_ns, isi_ts, isi_ls, pl4, atI4_0, atI4_1, atI4_2, atI4_3, asInts, asBools, asStrs, Option.map, look, put, drp, drps, startR, List.length_cons, List.length_nil, List.map_cons, List.map_nil, List.replicate, List.append, List.cons_append, List.nil_append, List.append_nil, true_and, and_true, Bool.not_true, Bool.not_false, Nat.zero_add, Nat.reduceAdd, Nat.reduceSub, Nat.reduceLeDiff, Nat.reduceEqDiff, ten6, plains_n, plains_c, plain_t, plain_l, plain_i, plain_s, plain_b, plain_no]
    exact eq_nil_t h
  | cons d q =>
    have ha : asc (q.reverse ++ [d]) := fun e he => by
      have : e ∈ d :: q := by
        rw [← List.mem_reverse, List.reverse_cons]
        exact he
      rcases hr e this with rfl | rfl | rfl <;> decide
    have hql : (q.reverse.map ch).length = q.length := by rw [List.length_map, List.length_reverse]
    have hl : q.length + 1 ≤ 99999 := hl
    have pn : plains [ch c] = true := rfl
    rw [List.reverse_cons]
    have sd := hr d List.mem_cons_self
    unfold pb at h
    simp only [↓onB_b, ↓onI_i, ↓onStr_s, ↓onSeq_l, ↓onSeq_t, ↓onSeq_s, ↓onS_s, ↓dFn_e, ↓dVar_e, ↓dC_e, ↓dOp_e, ↓dUn_e, ↓dNil_e, ↓dCons_e, ↓dTup_e, ↓dLst_e, ↓dTest_e, ↓dAnd_e, ↓dOr_e, ↓dNot_e, ↓dAndV_e, ↓dOrV_e, ↓dNotV_e, ↓dIf_e, ↓dChain_e, ↓dCall_e, ↓dCB_e, ↓dNext_e, ↓dRet_e, ↓dDrop_e, ↓dAsg_e, ↓dIfS_e, ↓dRaise_e, ↓dgName_e, ↓dgNil_e, ↓dgCons_e, ↓dgTup_e, ↓dPar_e, ↓dPar3_e, ↓dFor_e, ↓dLc_e, lcL_n, lcL_c, ↓dYes_e, ↓dOver_e, ↓dRng1_e, ↓dRng2_e, ↓dPart_e, ↓dNoPart_e, ↓dMs_e, ↓dIsi_e, ↓dToldC_e, oAdd_ii, oAdd_ss, oAdd_ll, oSub_ii, oMul_ii, oMul_si, oDiv_ii, oMod_ii, oPow_ii, oNeg_i, oEq_ii, oNe_ii, oLt_ii, oLe_ii, oGt_ii, oGe_ii, oIs_e, oIsN_e, oIx_l, oIx_t, oIx_s, oLen_t, oLen_l, oAbs_i, oMax_l, oMin_l, oMin_t, oMax_t, oMax2_ii, oMin2_ii, oAll_l, oSum_l, oTuple_l, oSindex_ss, roll_e, ↓if_t, ↓if_f, if_T, if_F, Bool.false_eq_true, oLen_s, oList_t, oList_l, ↓dSl_e, onSl_l, onSl_s, isi_tt, isi_lt, isi_nt, isi_it, isi_bt, isi_st, isi_ii, isi_ib, isi_bi, isi_bb, isi_si, isi_ni, isi_ti, isi_li, isi_ss, isi_is, isi_bs, isi_ns, isi_ts, isi_ls, pl4, atI4_0, atI4_1, atI4_2, atI4_3, asInts, asBools, asStrs, Option.map, look, put, drp, drps, startR, List.length_cons, List.length_nil, List.map_cons, List.map_nil, List.replicate, List.append, List.cons_append, List.nil_append, List.append_nil, true_and, and_true, Bool.not_true, Bool.not_false, Nat.zero_add, Nat.reduceAdd, Nat.reduceSub, Nat.reduceLeDiff, Nat.reduceEqDiff, ten6, plains_n, plains_c, plain_t, plain_l, plain_i, plain_s, plain_b, plain_no]
    refine eq_nil_f ha ?_
    rw [onB_b, if_f, List.map_append, List.map_cons, List.map_nil, atI_last, onS_s, oEq_s2, oEq_s2, is_s, is_s, oNe_bb, onB_b]
    by_cases h1 : (decide (d = 115) != decide (c = 115)) = true
    · simp only [h1, if_true] at h
      have e1 : (!decide (decide (d = 115) = decide (c = 115))) = true := by
        revert h1
        cases decide (d = 115) <;> cases decide (c = 115) <;> decide
      rw [e1, if_t]
      refine ⟨by rw [List.length_append, hql]; simp; omega, ?_⟩
      have e2 : (c :: d :: q).reverse.map ch = q.reverse.map ch ++ [ch d] ++ [ch c] := by simp
      rw [e2] at h
      exact h
    · simp only [h1, if_false] at h
      have e1 : (!decide (decide (d = 115) = decide (c = 115))) = false := by
        revert h1
        cases decide (d = 115) <;> cases decide (c = 115) <;> decide
      rw [e1, if_f, dSeq_e]
      simp only [↓onB_b, ↓onI_i, ↓onStr_s, ↓onSeq_l, ↓onSeq_t, ↓onSeq_s, ↓onS_s, ↓dFn_e, ↓dVar_e, ↓dC_e, ↓dOp_e, ↓dUn_e, ↓dNil_e, ↓dCons_e, ↓dTup_e, ↓dLst_e, ↓dTest_e, ↓dAnd_e, ↓dOr_e, ↓dNot_e, ↓dAndV_e, ↓dOrV_e, ↓dNotV_e, ↓dIf_e, ↓dChain_e, ↓dCall_e, ↓dCB_e, ↓dNext_e, ↓dRet_e, ↓dDrop_e, ↓dAsg_e, ↓dIfS_e, ↓dRaise_e, ↓dgName_e, ↓dgNil_e, ↓dgCons_e, ↓dgTup_e, ↓dPar_e, ↓dPar3_e, ↓dFor_e, ↓dLc_e, lcL_n, lcL_c, ↓dYes_e, ↓dOver_e, ↓dRng1_e, ↓dRng2_e, ↓dPart_e, ↓dNoPart_e, ↓dMs_e, ↓dIsi_e, ↓dToldC_e, oAdd_ii, oAdd_ss, oAdd_ll, oSub_ii, oMul_ii, oMul_si, oDiv_ii, oMod_ii, oPow_ii, oNeg_i, oEq_ii, oNe_ii, oLt_ii, oLe_ii, oGt_ii, oGe_ii, oIs_e, oIsN_e, oIx_l, oIx_t, oIx_s, oLen_t, oLen_l, oAbs_i, oMax_l, oMin_l, oMin_t, oMax_t, oMax2_ii, oMin2_ii, oAll_l, oSum_l, oTuple_l, oSindex_ss, roll_e, ↓if_t, ↓if_f, if_T, if_F, Bool.false_eq_true, oLen_s, oList_t, oList_l, ↓dSl_e, onSl_l, onSl_s, isi_tt, isi_lt, isi_nt, isi_it, isi_bt, isi_st, isi_ii, isi_ib, isi_bi, isi_bb, isi_si, isi_ni, isi_ti, isi_li, isi_ss, isi_is, isi_bs, isi_ns, isi_ts, isi_ls, pl4, atI4_0, atI4_1, atI4_2, atI4_3, asInts, asBools, asStrs, Option.map, look, put, drp, drps, startR, List.length_cons, List.length_nil, List.map_cons, List.map_nil, List.replicate, List.append, List.cons_append, List.nil_append, List.append_nil, true_and, and_true, Bool.not_true, Bool.not_false, Nat.zero_add, Nat.reduceAdd, Nat.reduceSub, Nat.reduceLeDiff, Nat.reduceEqDiff, ten6, plains_n, plains_c, plain_t, plain_l, plain_i, plain_s, plain_b, plain_no]
      rw [oEq_s2, is_s, onB_b]
      by_cases h2 : c = 115
      · rw [if_pos (decide_eq_true h2), cut_last]
        rw [if_pos h2] at h
        exact h
      · rw [if_neg (by simp [h2]), dSeq_e]
        rw [if_neg h2] at h
        have hd : ¬ d = 115 := fun z => h1 (by simp [z, h2])
        have sd' : d = 119 ∨ d = 118 := by unfold swv at sd; omega
        have sc' : c = 119 ∨ c = 118 := by unfold swv at hc; omega
        simp only [dDG_e, ↓onB_b, ↓onI_i, ↓onStr_s, ↓onSeq_l, ↓onSeq_t, ↓onSeq_s, ↓onS_s, ↓dFn_e, ↓dVar_e, ↓dC_e, ↓dOp_e, ↓dUn_e, ↓dNil_e, ↓dCons_e, ↓dTup_e, ↓dLst_e, ↓dTest_e, ↓dAnd_e, ↓dOr_e, ↓dNot_e, ↓dAndV_e, ↓dOrV_e, ↓dNotV_e, ↓dIf_e, ↓dChain_e, ↓dCall_e, ↓dCB_e, ↓dNext_e, ↓dRet_e, ↓dDrop_e, ↓dAsg_e, ↓dIfS_e, ↓dRaise_e, ↓dgName_e, ↓dgNil_e, ↓dgCons_e, ↓dgTup_e, ↓dPar_e, ↓dPar3_e, ↓dFor_e, ↓dLc_e, lcL_n, lcL_c, ↓dYes_e, ↓dOver_e, ↓dRng1_e, ↓dRng2_e, ↓dPart_e, ↓dNoPart_e, ↓dMs_e, ↓dIsi_e, ↓dToldC_e, oAdd_ii, oAdd_ss, oAdd_ll, oSub_ii, oMul_ii, oMul_si, oDiv_ii, oMod_ii, oPow_ii, oNeg_i, oEq_ii, oNe_ii, oLt_ii, oLe_ii, oGt_ii, oGe_ii, oIs_e, oIsN_e, oIx_l, oIx_t, oIx_s, oLen_t, oLen_l, oAbs_i, oMax_l, oMin_l, oMin_t, oMax_t, oMax2_ii, oMin2_ii, oAll_l, oSum_l, oTuple_l, oSindex_ss, roll_e, ↓if_t, ↓if_f, if_T, if_F, Bool.false_eq_true, oLen_s, oList_t, oList_l, ↓dSl_e, onSl_l, onSl_s, isi_tt, isi_lt, isi_nt, isi_it, isi_bt, isi_st, isi_ii, isi_ib, isi_bi, isi_bb, isi_si, isi_ni, isi_ti, isi_li, isi_ss, isi_is, isi_bs, isi_ns, isi_ts, isi_ls, pl4, atI4_0, atI4_1, atI4_2, atI4_3, asInts, asBools, asStrs, Option.map, look, put, drp, drps, startR, List.length_cons, List.length_nil, List.map_cons, List.map_nil, List.replicate, List.append, List.cons_append, List.nil_append, List.append_nil, true_and, and_true, Bool.not_true, Bool.not_false, Nat.zero_add, Nat.reduceAdd, Nat.reduceSub, Nat.reduceLeDiff, Nat.reduceEqDiff, ten6, plains_n, plains_c, plain_t, plain_l, plain_i, plain_s, plain_b, plain_no]
        rw [atI_last, onS_s, onStr_s]
        rcases sd' with rfl | rfl <;> rcases sc' with rfl | rfl
        · rw [dgw, onS_s, onS_s, oAdd_ii, dSeq_e]
          simp only [↓onB_b, ↓onI_i, ↓onStr_s, ↓onSeq_l, ↓onSeq_t, ↓onSeq_s, ↓onS_s, ↓dFn_e, ↓dVar_e, ↓dC_e, ↓dOp_e, ↓dUn_e, ↓dNil_e, ↓dCons_e, ↓dTup_e, ↓dLst_e, ↓dTest_e, ↓dAnd_e, ↓dOr_e, ↓dNot_e, ↓dAndV_e, ↓dOrV_e, ↓dNotV_e, ↓dIf_e, ↓dChain_e, ↓dCall_e, ↓dCB_e, ↓dNext_e, ↓dRet_e, ↓dDrop_e, ↓dAsg_e, ↓dIfS_e, ↓dRaise_e, ↓dgName_e, ↓dgNil_e, ↓dgCons_e, ↓dgTup_e, ↓dPar_e, ↓dPar3_e, ↓dFor_e, ↓dLc_e, lcL_n, lcL_c, ↓dYes_e, ↓dOver_e, ↓dRng1_e, ↓dRng2_e, ↓dPart_e, ↓dNoPart_e, ↓dMs_e, ↓dIsi_e, ↓dToldC_e, oAdd_ii, oAdd_ss, oAdd_ll, oSub_ii, oMul_ii, oMul_si, oDiv_ii, oMod_ii, oPow_ii, oNeg_i, oEq_ii, oNe_ii, oLt_ii, oLe_ii, oGt_ii, oGe_ii, oIs_e, oIsN_e, oIx_l, oIx_t, oIx_s, oLen_t, oLen_l, oAbs_i, oMax_l, oMin_l, oMin_t, oMax_t, oMax2_ii, oMin2_ii, oAll_l, oSum_l, oTuple_l, oSindex_ss, roll_e, ↓if_t, ↓if_f, if_T, if_F, Bool.false_eq_true, oLen_s, oList_t, oList_l, ↓dSl_e, onSl_l, onSl_s, isi_tt, isi_lt, isi_nt, isi_it, isi_bt, isi_st, isi_ii, isi_ib, isi_bi, isi_bb, isi_si, isi_ni, isi_ti, isi_li, isi_ss, isi_is, isi_bs, isi_ns, isi_ts, isi_ls, pl4, atI4_0, atI4_1, atI4_2, atI4_3, asInts, asBools, asStrs, Option.map, look, put, drp, drps, startR, List.length_cons, List.length_nil, List.map_cons, List.map_nil, List.replicate, List.append, List.cons_append, List.nil_append, List.append_nil, true_and, and_true, Bool.not_true, Bool.not_false, Nat.zero_add, Nat.reduceAdd, Nat.reduceSub, Nat.reduceLeDiff, Nat.reduceEqDiff, ten6, plains_n, plains_c, plain_t, plain_l, plain_i, plain_s, plain_b, plain_no]
          show (if true = true then _ else _)
          rw [if_t, cut_last]
          refine ⟨by rw [hql]; omega, ?_⟩
          have h : Q (.tuple [.int s, .list ((118 :: q).reverse.map ch)]) := h
          rw [List.reverse_cons, List.map_append] at h
          rw [key_v]
          exact h
        · rw [dgw, onS_s, dgv, onS_s, oAdd_ii, dSeq_e]
          simp only [↓onB_b, ↓onI_i, ↓onStr_s, ↓onSeq_l, ↓onSeq_t, ↓onSeq_s, ↓onS_s, ↓dFn_e, ↓dVar_e, ↓dC_e, ↓dOp_e, ↓dUn_e, ↓dNil_e, ↓dCons_e, ↓dTup_e, ↓dLst_e, ↓dTest_e, ↓dAnd_e, ↓dOr_e, ↓dNot_e, ↓dAndV_e, ↓dOrV_e, ↓dNotV_e, ↓dIf_e, ↓dChain_e, ↓dCall_e, ↓dCB_e, ↓dNext_e, ↓dRet_e, ↓dDrop_e, ↓dAsg_e, ↓dIfS_e, ↓dRaise_e, ↓dgName_e, ↓dgNil_e, ↓dgCons_e, ↓dgTup_e, ↓dPar_e, ↓dPar3_e, ↓dFor_e, ↓dLc_e, lcL_n, lcL_c, ↓dYes_e, ↓dOver_e, ↓dRng1_e, ↓dRng2_e, ↓dPart_e, ↓dNoPart_e, ↓dMs_e, ↓dIsi_e, ↓dToldC_e, oAdd_ii, oAdd_ss, oAdd_ll, oSub_ii, oMul_ii, oMul_si, oDiv_ii, oMod_ii, oPow_ii, oNeg_i, oEq_ii, oNe_ii, oLt_ii, oLe_ii, oGt_ii, oGe_ii, oIs_e, oIsN_e, oIx_l, oIx_t, oIx_s, oLen_t, oLen_l, oAbs_i, oMax_l, oMin_l, oMin_t, oMax_t, oMax2_ii, oMin2_ii, oAll_l, oSum_l, oTuple_l, oSindex_ss, roll_e, ↓if_t, ↓if_f, if_T, if_F, Bool.false_eq_true, oLen_s, oList_t, oList_l, ↓dSl_e, onSl_l, onSl_s, isi_tt, isi_lt, isi_nt, isi_it, isi_bt, isi_st, isi_ii, isi_ib, isi_bi, isi_bb, isi_si, isi_ni, isi_ti, isi_li, isi_ss, isi_is, isi_bs, isi_ns, isi_ts, isi_ls, pl4, atI4_0, atI4_1, atI4_2, atI4_3, asInts, asBools, asStrs, Option.map, look, put, drp, drps, startR, List.length_cons, List.length_nil, List.map_cons, List.map_nil, List.replicate, List.append, List.cons_append, List.nil_append, List.append_nil, true_and, and_true, Bool.not_true, Bool.not_false, Nat.zero_add, Nat.reduceAdd, Nat.reduceSub, Nat.reduceLeDiff, Nat.reduceEqDiff, ten6, plains_n, plains_c, plain_t, plain_l, plain_i, plain_s, plain_b, plain_no]
          show (if false = true then _ else _)
          rw [if_f, cut_last]
          show (if false = true then _ else _)
          rw [if_f]
          refine ⟨by rw [hql]; omega, ?_⟩
          exact h
        · rw [dgv, onS_s, dgw, onS_s, oAdd_ii, dSeq_e]
          simp only [↓onB_b, ↓onI_i, ↓onStr_s, ↓onSeq_l, ↓onSeq_t, ↓onSeq_s, ↓onS_s, ↓dFn_e, ↓dVar_e, ↓dC_e, ↓dOp_e, ↓dUn_e, ↓dNil_e, ↓dCons_e, ↓dTup_e, ↓dLst_e, ↓dTest_e, ↓dAnd_e, ↓dOr_e, ↓dNot_e, ↓dAndV_e, ↓dOrV_e, ↓dNotV_e, ↓dIf_e, ↓dChain_e, ↓dCall_e, ↓dCB_e, ↓dNext_e, ↓dRet_e, ↓dDrop_e, ↓dAsg_e, ↓dIfS_e, ↓dRaise_e, ↓dgName_e, ↓dgNil_e, ↓dgCons_e, ↓dgTup_e, ↓dPar_e, ↓dPar3_e, ↓dFor_e, ↓dLc_e, lcL_n, lcL_c, ↓dYes_e, ↓dOver_e, ↓dRng1_e, ↓dRng2_e, ↓dPart_e, ↓dNoPart_e, ↓dMs_e, ↓dIsi_e, ↓dToldC_e, oAdd_ii, oAdd_ss, oAdd_ll, oSub_ii, oMul_ii, oMul_si, oDiv_ii, oMod_ii, oPow_ii, oNeg_i, oEq_ii, oNe_ii, oLt_ii, oLe_ii, oGt_ii, oGe_ii, oIs_e, oIsN_e, oIx_l, oIx_t, oIx_s, oLen_t, oLen_l, oAbs_i, oMax_l, oMin_l, oMin_t, oMax_t, oMax2_ii, oMin2_ii, oAll_l, oSum_l, oTuple_l, oSindex_ss, roll_e, ↓if_t, ↓if_f, if_T, if_F, Bool.false_eq_true, oLen_s, oList_t, oList_l, ↓dSl_e, onSl_l, onSl_s, isi_tt, isi_lt, isi_nt, isi_it, isi_bt, isi_st, isi_ii, isi_ib, isi_bi, isi_bb, isi_si, isi_ni, isi_ti, isi_li, isi_ss, isi_is, isi_bs, isi_ns, isi_ts, isi_ls, pl4, atI4_0, atI4_1, atI4_2, atI4_3, asInts, asBools, asStrs, Option.map, look, put, drp, drps, startR, List.length_cons, List.length_nil, List.map_cons, List.map_nil, List.replicate, List.append, List.cons_append, List.nil_append, List.append_nil, true_and, and_true, Bool.not_true, Bool.not_false, Nat.zero_add, Nat.reduceAdd, Nat.reduceSub, Nat.reduceLeDiff, Nat.reduceEqDiff, ten6, plains_n, plains_c, plain_t, plain_l, plain_i, plain_s, plain_b, plain_no]
          show (if false = true then _ else _)
          rw [if_f, cut_last]
          show (if false = true then _ else _)
          rw [if_f]
          refine ⟨by rw [hql]; omega, ?_⟩
          exact h
        · rw [dgv, onS_s, onS_s, oAdd_ii, dSeq_e]
          simp only [↓onB_b, ↓onI_i, ↓onStr_s, ↓onSeq_l, ↓onSeq_t, ↓onSeq_s, ↓onS_s, ↓dFn_e, ↓dVar_e, ↓dC_e, ↓dOp_e, ↓dUn_e, ↓dNil_e, ↓dCons_e, ↓dTup_e, ↓dLst_e, ↓dTest_e, ↓dAnd_e, ↓dOr_e, ↓dNot_e, ↓dAndV_e, ↓dOrV_e, ↓dNotV_e, ↓dIf_e, ↓dChain_e, ↓dCall_e, ↓dCB_e, ↓dNext_e, ↓dRet_e, ↓dDrop_e, ↓dAsg_e, ↓dIfS_e, ↓dRaise_e, ↓dgName_e, ↓dgNil_e, ↓dgCons_e, ↓dgTup_e, ↓dPar_e, ↓dPar3_e, ↓dFor_e, ↓dLc_e, lcL_n, lcL_c, ↓dYes_e, ↓dOver_e, ↓dRng1_e, ↓dRng2_e, ↓dPart_e, ↓dNoPart_e, ↓dMs_e, ↓dIsi_e, ↓dToldC_e, oAdd_ii, oAdd_ss, oAdd_ll, oSub_ii, oMul_ii, oMul_si, oDiv_ii, oMod_ii, oPow_ii, oNeg_i, oEq_ii, oNe_ii, oLt_ii, oLe_ii, oGt_ii, oGe_ii, oIs_e, oIsN_e, oIx_l, oIx_t, oIx_s, oLen_t, oLen_l, oAbs_i, oMax_l, oMin_l, oMin_t, oMax_t, oMax2_ii, oMin2_ii, oAll_l, oSum_l, oTuple_l, oSindex_ss, roll_e, ↓if_t, ↓if_f, if_T, if_F, Bool.false_eq_true, oLen_s, oList_t, oList_l, ↓dSl_e, onSl_l, onSl_s, isi_tt, isi_lt, isi_nt, isi_it, isi_bt, isi_st, isi_ii, isi_ib, isi_bi, isi_bb, isi_si, isi_ni, isi_ti, isi_li, isi_ss, isi_is, isi_bs, isi_ns, isi_ts, isi_ls, pl4, atI4_0, atI4_1, atI4_2, atI4_3, asInts, asBools, asStrs, Option.map, look, put, drp, drps, startR, List.length_cons, List.length_nil, List.map_cons, List.map_nil, List.replicate, List.append, List.cons_append, List.nil_append, List.append_nil, true_and, and_true, Bool.not_true, Bool.not_false, Nat.zero_add, Nat.reduceAdd, Nat.reduceSub, Nat.reduceLeDiff, Nat.reduceEqDiff, ten6, plains_n, plains_c, plain_t, plain_l, plain_i, plain_s, plain_b, plain_no]
          show (if false = true then _ else _)
          rw [if_f, cut_last]
          show (if true = true then _ else _)
          rw [if_t]
          refine ⟨by rw [hql]; omega, ?_⟩
          have h : Q (.tuple [.int (-s), .list ((119 :: q).reverse.map ch)]) := h
          rw [List.reverse_cons, List.map_append] at h
          rw [key_w]
          exact h

abbrev dS3 : KVs := [(("s" : Str), V.str ("s" : Str), PyData.str ("s" : Str)), (("t" : Str), V.str ("sw" : Str), PyData.str ("sw" : Str)), (("T" : Str), V.str ("vs" : Str), PyData.str ("vs" : Str))]
theorem ksw : Str.ofString "sw" = ⟨[115, 119].toArray⟩ := by decide +kernel
theorem kvs : Str.ofString "vs" = ⟨[118, 115].toArray⟩ := by decide +kernel
theorem dg_s : dgFind dS3 ⟨#[115]⟩ = some (W [115]) := by
  delta dS3
  rw [key_s, key_t, key_T]
  rfl
theorem dg_t : dgFind dS3 ⟨#[116]⟩ = some (W [115, 119]) := by
  delta dS3
  rw [key_s, key_t, key_T, ksw]
  rfl
theorem dg_T : dgFind dS3 ⟨#[84]⟩ = some (W [118, 115]) := by
  delta dS3
  rw [key_s, key_t, key_T, kvs]
  rfl
/-- a letter of a word, by letters s, w, v -/
theorem red_t (m : M) (s : Int) (hs : s = 1 ∨ s = -1) : sg (-s) ((m.mul (L 115)).mul (L 119)) = sg s (m.mul (L 116)) := by
  have e : (m.mul (L 115)).mul (L 119) = (m.mul (L 116)).neg := by
    rw [M.mul_assoc, ← mul_neg]
    congr 1
  rw [e, sg_neg hs, sg_sg hs, neg_neg]
theorem red_T (m : M) (s : Int) (hs : s = 1 ∨ s = -1) : sg (-s) ((m.mul (L 118)).mul (L 115)) = sg s (m.mul (L 84)) := by
  have e : (m.mul (L 118)).mul (L 115) = (m.mul (L 84)).neg := by
    rw [M.mul_assoc, ← mul_neg]
    congr 1
  rw [e, sg_neg hs, sg_sg hs, neg_neg]
/-- the letters s, w, v that are put behind -/
theorem put_loop {W0 x3 : PyData} {nx : Rho → Prop} {rt : PyData → Prop} {E : Nat → Prop} : ∀ (u : List Nat) (s : Int) (r : List Nat) (x4 : Option PyData), (s = 1 ∨ s = -1) → Aw r → (∀ c ∈ u, swv c) → r.length + u.length ≤ 99999 →
    (∀ (s' : Int) (r' : List Nat) (y : Option PyData), (s' = 1 ∨ s' = -1) → Aw r' → sg s' (wr r') = sg s (wm (wr r) u) → r'.length ≤ r.length + u.length → nx [some W0, some (.int s'), some (.list (r'.reverse.map ch)), some x3, y]) →
    forL (dgName 4) (dAsg (dCall 3 f_put_behind (dCons (dVar 1) (dCons (dVar 2) (dCons (dVar 4) dNil)))) (dgTup 2 (dgCons (dgName 1) (dgCons (dgName 2) dgNil)))) nx rt E (u.map ch) [some W0, some (.int s), some (.list (r.reverse.map ch)), some x3, x4]
  | [], s, r, x4, hs, hr, _, _, h => by
    rw [List.map_nil, forL_n]
    exact h s r x4 hs hr rfl (Nat.le_refl _)
  | c :: u, s, r, x4, hs, hr, hu, hl, h => by
    have hl : r.length + (u.length + 1) ≤ 99999 := hl
    rw [List.map_cons, forL_c]
    simp only [↓onB_b, ↓onI_i, ↓onStr_s, ↓onSeq_l, ↓onSeq_t, ↓onSeq_s, ↓onS_s, ↓dFn_e, ↓dVar_e, ↓dC_e, ↓dOp_e, ↓dUn_e, ↓dNil_e, ↓dCons_e, ↓dTup_e, ↓dLst_e, ↓dTest_e, ↓dAnd_e, ↓dOr_e, ↓dNot_e, ↓dAndV_e, ↓dOrV_e, ↓dNotV_e, ↓dIf_e, ↓dChain_e, ↓dCall_e, ↓dCB_e, ↓dNext_e, ↓dRet_e, ↓dDrop_e, ↓dAsg_e, ↓dIfS_e, ↓dRaise_e, ↓dgName_e, ↓dgNil_e, ↓dgCons_e, ↓dgTup_e, ↓dPar_e, ↓dPar3_e, ↓dFor_e, ↓dLc_e, lcL_n, lcL_c, ↓dYes_e, ↓dOver_e, ↓dRng1_e, ↓dRng2_e, ↓dPart_e, ↓dNoPart_e, ↓dMs_e, ↓dIsi_e, ↓dToldC_e, oAdd_ii, oAdd_ss, oAdd_ll, oSub_ii, oMul_ii, oMul_si, oDiv_ii, oMod_ii, oPow_ii, oNeg_i, oEq_ii, oNe_ii, oLt_ii, oLe_ii, oGt_ii, oGe_ii, oIs_e, oIsN_e, oIx_l, oIx_t, oIx_s, oLen_t, oLen_l, oAbs_i, oMax_l, oMin_l, oMin_t, oMax_t, oMax2_ii, oMin2_ii, oAll_l, oSum_l, oTuple_l, oSindex_ss, roll_e, ↓if_t, ↓if_f, if_T, if_F, Bool.false_eq_true, oLen_s, oList_t, oList_l, ↓dSl_e, onSl_l, onSl_s, isi_tt, isi_lt, isi_nt, isi_it, isi_bt, isi_st, isi_ii, isi_ib, isi_bi, isi_bb, isi_si, isi_ni, isi_ti, isi_li, isi_ss, isi_is, isi_bs, isi_ns, isi_ts, isi_ls, pl4, atI4_0, atI4_1, atI4_2, atI4_3, asInts, asBools, asStrs, Option.map, look, put, drp, drps, startR, List.length_cons, List.length_nil, List.map_cons, List.map_nil, List.replicate, List.append, List.cons_append, List.nil_append, List.append_nil, true_and, and_true, Bool.not_true, Bool.not_false, Nat.zero_add, Nat.reduceAdd, Nat.reduceSub, Nat.reduceLeDiff, Nat.reduceEqDiff, ten6, plains_n, plains_c, plain_t, plain_l, plain_i, plain_s, plain_b, plain_no]
    refine put_behind_ok hr.1 (hu c List.mem_cons_self) (by omega) ?_
    obtain ⟨p1, p2, p3, p4⟩ := pb_ok (r := r) (c := c) hs hr (hu c List.mem_cons_self)
    simp only [↓onB_b, ↓onI_i, ↓onStr_s, ↓onSeq_l, ↓onSeq_t, ↓onSeq_s, ↓onS_s, ↓dFn_e, ↓dVar_e, ↓dC_e, ↓dOp_e, ↓dUn_e, ↓dNil_e, ↓dCons_e, ↓dTup_e, ↓dLst_e, ↓dTest_e, ↓dAnd_e, ↓dOr_e, ↓dNot_e, ↓dAndV_e, ↓dOrV_e, ↓dNotV_e, ↓dIf_e, ↓dChain_e, ↓dCall_e, ↓dCB_e, ↓dNext_e, ↓dRet_e, ↓dDrop_e, ↓dAsg_e, ↓dIfS_e, ↓dRaise_e, ↓dgName_e, ↓dgNil_e, ↓dgCons_e, ↓dgTup_e, ↓dPar_e, ↓dPar3_e, ↓dFor_e, ↓dLc_e, lcL_n, lcL_c, ↓dYes_e, ↓dOver_e, ↓dRng1_e, ↓dRng2_e, ↓dPart_e, ↓dNoPart_e, ↓dMs_e, ↓dIsi_e, ↓dToldC_e, oAdd_ii, oAdd_ss, oAdd_ll, oSub_ii, oMul_ii, oMul_si, oDiv_ii, oMod_ii, oPow_ii, oNeg_i, oEq_ii, oNe_ii, oLt_ii, oLe_ii, oGt_ii, oGe_ii, oIs_e, oIsN_e, oIx_l, oIx_t, oIx_s, oLen_t, oLen_l, oAbs_i, oMax_l, oMin_l, oMin_t, oMax_t, oMax2_ii, oMin2_ii, oAll_l, oSum_l, oTuple_l, oSindex_ss, roll_e, ↓if_t, ↓if_f, if_T, if_F, Bool.false_eq_true, oLen_s, oList_t, oList_l, ↓dSl_e, onSl_l, onSl_s, isi_tt, isi_lt, isi_nt, isi_it, isi_bt, isi_st, isi_ii, isi_ib, isi_bi, isi_bb, isi_si, isi_ni, isi_ti, isi_li, isi_ss, isi_is, isi_bs, isi_ns, isi_ts, isi_ls, pl4, atI4_0, atI4_1, atI4_2, atI4_3, asInts, asBools, asStrs, Option.map, look, put, drp, drps, startR, List.length_cons, List.length_nil, List.map_cons, List.map_nil, List.replicate, List.append, List.cons_append, List.nil_append, List.append_nil, true_and, and_true, Bool.not_true, Bool.not_false, Nat.zero_add, Nat.reduceAdd, Nat.reduceSub, Nat.reduceLeDiff, Nat.reduceEqDiff, ten6, plains_n, plains_c, plain_t, plain_l, plain_i, plain_s, plain_b, plain_no]
    refine put_loop u _ _ _ p1 p2 (fun d hd => hu d (List.mem_cons_of_mem _ hd)) (by omega) fun s' r' y h1 h2 h3 h4 => h s' r' y h1 h2 ?_ (by rw [List.length_cons]; omega)
    rw [h3]
    have e1 : sg (pb s r c).1 (wm (wr (pb s r c).2) u) = wm (sg (pb s r c).1 (wr (pb s r c).2)) u := by
      rw [wm_one, ← sg_mul, ← wm_one]
    have e2 : sg s (wm (wr r) (c :: u)) = wm (sg s ((wr r).mul (L c))) u := by
      show sg s (wm ((wr r).mul (L c)) u) = _
      rw [wm_one, ← sg_mul, ← wm_one]
    rw [e1, e2, p3]
theorem reduced_ok {w : List Nat} {Q : PyData → Prop} {E : Nat → Prop} (hw : ∀ c ∈ w, three c) (hl : w.length ≤ 10000) (h : ∀ (s : Int) (x : List Nat), (s = 1 ∨ s = -1) → Aw x → sg s (wm .one x) = wm .one w → x.length ≤ 2 * w.length → Q (SW s x)) : f_reduced [W w] Q E := by
  rw [f_reduced, b_reduced, dFn_e, dSeq_e]
  simp only [↓onB_b, ↓onI_i, ↓onStr_s, ↓onSeq_l, ↓onSeq_t, ↓onSeq_s, ↓onS_s, ↓dFn_e, ↓dVar_e, ↓dC_e, ↓dOp_e, ↓dUn_e, ↓dNil_e, ↓dCons_e, ↓dTup_e, ↓dLst_e, ↓dTest_e, ↓dAnd_e, ↓dOr_e, ↓dNot_e, ↓dAndV_e, ↓dOrV_e, ↓dNotV_e, ↓dIf_e, ↓dChain_e, ↓dCall_e, ↓dCB_e, ↓dNext_e, ↓dRet_e, ↓dDrop_e, ↓dAsg_e, ↓dIfS_e, ↓dRaise_e, ↓dgName_e, ↓dgNil_e, ↓dgCons_e, ↓dgTup_e, ↓dPar_e, ↓dPar3_e, ↓dFor_e, ↓dLc_e, lcL_n, lcL_c, ↓dYes_e, ↓dOver_e, ↓dRng1_e, ↓dRng2_e, ↓dPart_e, ↓dNoPart_e, ↓dMs_e, ↓dIsi_e, ↓dToldC_e, oAdd_ii, oAdd_ss, oAdd_ll, oSub_ii, oMul_ii, oMul_si, oDiv_ii, oMod_ii, oPow_ii, oNeg_i, oEq_ii, oNe_ii, oLt_ii, oLe_ii, oGt_ii, oGe_ii, oIs_e, oIsN_e, oIx_l, oIx_t, oIx_s, oLen_t, oLen_l, oAbs_i, oMax_l, oMin_l, oMin_t, oMax_t, oMax2_ii, oMin2_ii, oAll_l, oSum_l, oTuple_l, oSindex_ss, roll_e, ↓if_t, ↓if_f, if_T, if_F, Bool.false_eq_true, oLen_s, oList_t, oList_l, ↓dSl_e, onSl_l, onSl_s, isi_tt, isi_lt, isi_nt, isi_it, isi_bt, isi_st, isi_ii, isi_ib, isi_bi, isi_bb, isi_si, isi_ni, isi_ti, isi_li, isi_ss, isi_is, isi_bs, isi_ns, isi_ts, isi_ls, pl4, atI4_0, atI4_1, atI4_2, atI4_3, asInts, asBools, asStrs, Option.map, look, put, drp, drps, startR, List.length_cons, List.length_nil, List.map_cons, List.map_nil, List.replicate, List.append, List.cons_append, List.nil_append, List.append_nil, true_and, and_true, Bool.not_true, Bool.not_false, Nat.zero_add, Nat.reduceAdd, Nat.reduceSub, Nat.reduceLeDiff, Nat.reduceEqDiff, ten6, plains_n, plains_c, plain_t, plain_l, plain_i, plain_s, plain_b, plain_no]
  rw [dSeq_e]
  simp only [↓onB_b, ↓onI_i, ↓onStr_s, ↓onSeq_l, ↓onSeq_t, ↓onSeq_s, ↓onS_s, ↓dFn_e, ↓dVar_e, ↓dC_e, ↓dOp_e, ↓dUn_e, ↓dNil_e, ↓dCons_e, ↓dTup_e, ↓dLst_e, ↓dTest_e, ↓dAnd_e, ↓dOr_e, ↓dNot_e, ↓dAndV_e, ↓dOrV_e, ↓dNotV_e, ↓dIf_e, ↓dChain_e, ↓dCall_e, ↓dCB_e, ↓dNext_e, ↓dRet_e, ↓dDrop_e, ↓dAsg_e, ↓dIfS_e, ↓dRaise_e, ↓dgName_e, ↓dgNil_e, ↓dgCons_e, ↓dgTup_e, ↓dPar_e, ↓dPar3_e, ↓dFor_e, ↓dLc_e, lcL_n, lcL_c, ↓dYes_e, ↓dOver_e, ↓dRng1_e, ↓dRng2_e, ↓dPart_e, ↓dNoPart_e, ↓dMs_e, ↓dIsi_e, ↓dToldC_e, oAdd_ii, oAdd_ss, oAdd_ll, oSub_ii, oMul_ii, oMul_si, oDiv_ii, oMod_ii, oPow_ii, oNeg_i, oEq_ii, oNe_ii, oLt_ii, oLe_ii, oGt_ii, oGe_ii, oIs_e, oIsN_e, oIx_l, oIx_t, oIx_s, oLen_t, oLen_l, oAbs_i, oMax_l, oMin_l, oMin_t, oMax_t, oMax2_ii, oMin2_ii, oAll_l, oSum_l, oTuple_l, oSindex_ss, roll_e, ↓if_t, ↓if_f, if_T, if_F, Bool.false_eq_true, oLen_s, oList_t, oList_l, ↓dSl_e, onSl_l, onSl_s, isi_tt, isi_lt, isi_nt, isi_it, isi_bt, isi_st, isi_ii, isi_ib, isi_bi, isi_bb, isi_si, isi_ni, isi_ti, isi_li, isi_ss, isi_is, isi_bs, isi_ns, isi_ts, isi_ls, pl4, atI4_0, atI4_1, atI4_2, atI4_3, asInts, asBools, asStrs, Option.map, look, put, drp, drps, startR, List.length_cons, List.length_nil, List.map_cons, List.map_nil, List.replicate, List.append, List.cons_append, List.nil_append, List.append_nil, true_and, and_true, Bool.not_true, Bool.not_false, Nat.zero_add, Nat.reduceAdd, Nat.reduceSub, Nat.reduceLeDiff, Nat.reduceEqDiff, ten6, plains_n, plains_c, plain_t, plain_l, plain_i, plain_s, plain_b, plain_no]
  refine for_inv (fun xs r => ∃ (u : List Nat) (s : Int) (q : List Nat) (x3 x4 : Option PyData), xs = u.map ch ∧ (∀ c ∈ u, three c) ∧ (s = 1 ∨ s = -1) ∧ Aw q ∧ wm (sg s (wr q)) u = wm .one w ∧ q.length + 2 * u.length ≤ 2 * w.length ∧ r = [some (W w), some (.int s), some (.list (q.reverse.map ch)), x3, x4]) ?_ ?_ _ _ ⟨w, 1, [], _, _, rfl, hw, .inl rfl, Aw.nil, rfl, by simp, rfl⟩
  · rintro x xs r kk ⟨u, s, q, x3, x4, hx, u3, hs, hq, em, hlen, rfl⟩ hk
    cases u with
    | nil => cases hx
    | cons c u =>
      rw [List.map_cons] at hx
      cases hx
      have em : wm ((sg s (wr q)).mul (L c)) u = wm .one w := em
      rw [sg_mul] at em
      rw [List.length_cons] at hlen
      have u3' : ∀ d ∈ u, three d := fun d hd => u3 d (List.mem_cons_of_mem _ hd)
      simp only [↓onB_b, ↓onI_i, ↓onStr_s, ↓onSeq_l, ↓onSeq_t, ↓onSeq_s, ↓onS_s, ↓dFn_e, ↓dVar_e, ↓dC_e, ↓dOp_e, ↓dUn_e, ↓dNil_e, ↓dCons_e, ↓dTup_e, ↓dLst_e, ↓dTest_e, ↓dAnd_e, ↓dOr_e, ↓dNot_e, ↓dAndV_e, ↓dOrV_e, ↓dNotV_e, ↓dIf_e, ↓dChain_e, ↓dCall_e, ↓dCB_e, ↓dNext_e, ↓dRet_e, ↓dDrop_e, ↓dAsg_e, ↓dIfS_e, ↓dRaise_e, ↓dgName_e, ↓dgNil_e, ↓dgCons_e, ↓dgTup_e, ↓dPar_e, ↓dPar3_e, ↓dFor_e, ↓dLc_e, lcL_n, lcL_c, ↓dYes_e, ↓dOver_e, ↓dRng1_e, ↓dRng2_e, ↓dPart_e, ↓dNoPart_e, ↓dMs_e, ↓dIsi_e, ↓dToldC_e, oAdd_ii, oAdd_ss, oAdd_ll, oSub_ii, oMul_ii, oMul_si, oDiv_ii, oMod_ii, oPow_ii, oNeg_i, oEq_ii, oNe_ii, oLt_ii, oLe_ii, oGt_ii, oGe_ii, oIs_e, oIsN_e, oIx_l, oIx_t, oIx_s, oLen_t, oLen_l, oAbs_i, oMax_l, oMin_l, oMin_t, oMax_t, oMax2_ii, oMin2_ii, oAll_l, oSum_l, oTuple_l, oSindex_ss, roll_e, ↓if_t, ↓if_f, if_T, if_F, Bool.false_eq_true, oLen_s, oList_t, oList_l, ↓dSl_e, onSl_l, onSl_s, isi_tt, isi_lt, isi_nt, isi_it, isi_bt, isi_st, isi_ii, isi_ib, isi_bi, isi_bb, isi_si, isi_ni, isi_ti, isi_li, isi_ss, isi_is, isi_bs, isi_ns, isi_ts, isi_ls, pl4, atI4_0, atI4_1, atI4_2, atI4_3, asInts, asBools, asStrs, Option.map, look, put, drp, drps, startR, List.length_cons, List.length_nil, List.map_cons, List.map_nil, List.replicate, List.append, List.cons_append, List.nil_append, List.append_nil, true_and, and_true, Bool.not_true, Bool.not_false, Nat.zero_add, Nat.reduceAdd, Nat.reduceSub, Nat.reduceLeDiff, Nat.reduceEqDiff, ten6, plains_n, plains_c, plain_t, plain_l, plain_i, plain_s, plain_b, plain_no]
      rw [dSeq_e]
      rcases u3 c List.mem_cons_self with rfl | rfl | rfl
      · simp only [oNe_s2, dDG_e, ↓onB_b, ↓onI_i, ↓onStr_s, ↓onSeq_l, ↓onSeq_t, ↓onSeq_s, ↓onS_s, ↓dFn_e, ↓dVar_e, ↓dC_e, ↓dOp_e, ↓dUn_e, ↓dNil_e, ↓dCons_e, ↓dTup_e, ↓dLst_e, ↓dTest_e, ↓dAnd_e, ↓dOr_e, ↓dNot_e, ↓dAndV_e, ↓dOrV_e, ↓dNotV_e, ↓dIf_e, ↓dChain_e, ↓dCall_e, ↓dCB_e, ↓dNext_e, ↓dRet_e, ↓dDrop_e, ↓dAsg_e, ↓dIfS_e, ↓dRaise_e, ↓dgName_e, ↓dgNil_e, ↓dgCons_e, ↓dgTup_e, ↓dPar_e, ↓dPar3_e, ↓dFor_e, ↓dLc_e, lcL_n, lcL_c, ↓dYes_e, ↓dOver_e, ↓dRng1_e, ↓dRng2_e, ↓dPart_e, ↓dNoPart_e, ↓dMs_e, ↓dIsi_e, ↓dToldC_e, oAdd_ii, oAdd_ss, oAdd_ll, oSub_ii, oMul_ii, oMul_si, oDiv_ii, oMod_ii, oPow_ii, oNeg_i, oEq_ii, oNe_ii, oLt_ii, oLe_ii, oGt_ii, oGe_ii, oIs_e, oIsN_e, oIx_l, oIx_t, oIx_s, oLen_t, oLen_l, oAbs_i, oMax_l, oMin_l, oMin_t, oMax_t, oMax2_ii, oMin2_ii, oAll_l, oSum_l, oTuple_l, oSindex_ss, roll_e, ↓if_t, ↓if_f, if_T, if_F, Bool.false_eq_true, oLen_s, oList_t, oList_l, ↓dSl_e, onSl_l, onSl_s, isi_tt, isi_lt, isi_nt, isi_it, isi_bt, isi_st, isi_ii, isi_ib, isi_bi, isi_bb, isi_si, isi_ni, isi_ti, isi_li, isi_ss, isi_is, isi_bs, isi_ns, isi_ts, isi_ls, pl4, atI4_0, atI4_1, atI4_2, atI4_3, asInts, asBools, asStrs, Option.map, look, put, drp, drps, startR, List.length_cons, List.length_nil, List.map_cons, List.map_nil, List.replicate, List.append, List.cons_append, List.nil_append, List.append_nil, true_and, and_true, Bool.not_true, Bool.not_false, Nat.zero_add, Nat.reduceAdd, Nat.reduceSub, Nat.reduceLeDiff, Nat.reduceEqDiff, ten6, plains_n, plains_c, plain_t, plain_l, plain_i, plain_s, plain_b, plain_no]
        rw [show decide ((⟨#[115]⟩ : Str) = Str.ofString "s") = true from by rw [is_s]; rfl, Bool.not_true, if_f, dg_s, onS_s, onSeq_s]
        refine put_loop [115] s q _ hs hq (by decide) (by simp; omega) fun s' q' y h1 h2 h3 h4 => hk _ ⟨u, s', q', _, _, rfl, u3', h1, h2, ?_, ?_, rfl⟩
        · rw [h3]
          exact em
        · have h4 : q'.length ≤ q.length + 1 := h4
          omega
      · simp only [oNe_s2, dDG_e, ↓onB_b, ↓onI_i, ↓onStr_s, ↓onSeq_l, ↓onSeq_t, ↓onSeq_s, ↓onS_s, ↓dFn_e, ↓dVar_e, ↓dC_e, ↓dOp_e, ↓dUn_e, ↓dNil_e, ↓dCons_e, ↓dTup_e, ↓dLst_e, ↓dTest_e, ↓dAnd_e, ↓dOr_e, ↓dNot_e, ↓dAndV_e, ↓dOrV_e, ↓dNotV_e, ↓dIf_e, ↓dChain_e, ↓dCall_e, ↓dCB_e, ↓dNext_e, ↓dRet_e, ↓dDrop_e, ↓dAsg_e, ↓dIfS_e, ↓dRaise_e, ↓dgName_e, ↓dgNil_e, ↓dgCons_e, ↓dgTup_e, ↓dPar_e, ↓dPar3_e, ↓dFor_e, ↓dLc_e, lcL_n, lcL_c, ↓dYes_e, ↓dOver_e, ↓dRng1_e, ↓dRng2_e, ↓dPart_e, ↓dNoPart_e, ↓dMs_e, ↓dIsi_e, ↓dToldC_e, oAdd_ii, oAdd_ss, oAdd_ll, oSub_ii, oMul_ii, oMul_si, oDiv_ii, oMod_ii, oPow_ii, oNeg_i, oEq_ii, oNe_ii, oLt_ii, oLe_ii, oGt_ii, oGe_ii, oIs_e, oIsN_e, oIx_l, oIx_t, oIx_s, oLen_t, oLen_l, oAbs_i, oMax_l, oMin_l, oMin_t, oMax_t, oMax2_ii, oMin2_ii, oAll_l, oSum_l, oTuple_l, oSindex_ss, roll_e, ↓if_t, ↓if_f, if_T, if_F, Bool.false_eq_true, oLen_s, oList_t, oList_l, ↓dSl_e, onSl_l, onSl_s, isi_tt, isi_lt, isi_nt, isi_it, isi_bt, isi_st, isi_ii, isi_ib, isi_bi, isi_bb, isi_si, isi_ni, isi_ti, isi_li, isi_ss, isi_is, isi_bs, isi_ns, isi_ts, isi_ls, pl4, atI4_0, atI4_1, atI4_2, atI4_3, asInts, asBools, asStrs, Option.map, look, put, drp, drps, startR, List.length_cons, List.length_nil, List.map_cons, List.map_nil, List.replicate, List.append, List.cons_append, List.nil_append, List.append_nil, true_and, and_true, Bool.not_true, Bool.not_false, Nat.zero_add, Nat.reduceAdd, Nat.reduceSub, Nat.reduceLeDiff, Nat.reduceEqDiff, ten6, plains_n, plains_c, plain_t, plain_l, plain_i, plain_s, plain_b, plain_no]
        rw [show decide ((⟨#[116]⟩ : Str) = Str.ofString "s") = false from by rw [is_s]; rfl, Bool.not_false, if_t, dg_t, onS_s, onSeq_s]
        refine put_loop [115, 119] (-s) q _ (sgn_neg hs) hq (by decide) (by simp; omega) fun s' q' y h1 h2 h3 h4 => hk _ ⟨u, s', q', _, _, rfl, u3', h1, h2, ?_, ?_, rfl⟩
        · rw [h3]
          show wm (sg (-s) (((wr q).mul (L 115)).mul (L 119))) u = _
          rw [red_t _ _ hs]
          exact em
        · have h4 : q'.length ≤ q.length + 2 := h4
          omega
      · simp only [oNe_s2, dDG_e, ↓onB_b, ↓onI_i, ↓onStr_s, ↓onSeq_l, ↓onSeq_t, ↓onSeq_s, ↓onS_s, ↓dFn_e, ↓dVar_e, ↓dC_e, ↓dOp_e, ↓dUn_e, ↓dNil_e, ↓dCons_e, ↓dTup_e, ↓dLst_e, ↓dTest_e, ↓dAnd_e, ↓dOr_e, ↓dNot_e, ↓dAndV_e, ↓dOrV_e, ↓dNotV_e, ↓dIf_e, ↓dChain_e, ↓dCall_e, ↓dCB_e, ↓dNext_e, ↓dRet_e, ↓dDrop_e, ↓dAsg_e, ↓dIfS_e, ↓dRaise_e, ↓dgName_e, ↓dgNil_e, ↓dgCons_e, ↓dgTup_e, ↓dPar_e, ↓dPar3_e, ↓dFor_e, ↓dLc_e, lcL_n, lcL_c, ↓dYes_e, ↓dOver_e, ↓dRng1_e, ↓dRng2_e, ↓dPart_e, ↓dNoPart_e, ↓dMs_e, ↓dIsi_e, ↓dToldC_e, oAdd_ii, oAdd_ss, oAdd_ll, oSub_ii, oMul_ii, oMul_si, oDiv_ii, oMod_ii, oPow_ii, oNeg_i, oEq_ii, oNe_ii, oLt_ii, oLe_ii, oGt_ii, oGe_ii, oIs_e, oIsN_e, oIx_l, oIx_t, oIx_s, oLen_t, oLen_l, oAbs_i, oMax_l, oMin_l, oMin_t, oMax_t, oMax2_ii, oMin2_ii, oAll_l, oSum_l, oTuple_l, oSindex_ss, roll_e, ↓if_t, ↓if_f, if_T, if_F, Bool.false_eq_true, oLen_s, oList_t, oList_l, ↓dSl_e, onSl_l, onSl_s, isi_tt, isi_lt, isi_nt, isi_it, isi_bt, isi_st, isi_ii, isi_ib, isi_bi, isi_bb, isi_si, isi_ni, isi_ti, isi_li, isi_ss, isi_is, isi_bs, isi_ns, isi_ts, isi_ls, pl4, atI4_0, atI4_1, atI4_2, atI4_3, asInts, asBools, asStrs, Option.map, look, put, drp, drps, startR, List.length_cons, List.length_nil, List.map_cons, List.map_nil, List.replicate, List.append, List.cons_append, List.nil_append, List.append_nil, true_and, and_true, Bool.not_true, Bool.not_false, Nat.zero_add, Nat.reduceAdd, Nat.reduceSub, Nat.reduceLeDiff, Nat.reduceEqDiff, ten6, plains_n, plains_c, plain_t, plain_l, plain_i, plain_s, plain_b, plain_no]
        rw [show decide ((⟨#[84]⟩ : Str) = Str.ofString "s") = false from by rw [is_s]; rfl, Bool.not_false, if_t, dg_T, onS_s, onSeq_s]
        refine put_loop [118, 115] (-s) q _ (sgn_neg hs) hq (by decide) (by simp; omega) fun s' q' y h1 h2 h3 h4 => hk _ ⟨u, s', q', _, _, rfl, u3', h1, h2, ?_, ?_, rfl⟩
        · rw [h3]
          show wm (sg (-s) (((wr q).mul (L 118)).mul (L 115))) u = _
          rw [red_T _ _ hs]
          exact em
        · have h4 : q'.length ≤ q.length + 2 := h4
          omega
  · rintro r ⟨u, s, q, x3, x4, hx, u3, hs, hq, em, hlen, rfl⟩
    cases u with
    | cons c u => cases hx
    | nil =>
      simp only [↓onB_b, ↓onI_i, ↓onStr_s, ↓onSeq_l, ↓onSeq_t, ↓onSeq_s, ↓onS_s, ↓dFn_e, ↓dVar_e, ↓dC_e, ↓dOp_e, ↓dUn_e, ↓dNil_e, ↓dCons_e, ↓dTup_e, ↓dLst_e, ↓dTest_e, ↓dAnd_e, ↓dOr_e, ↓dNot_e, ↓dAndV_e, ↓dOrV_e, ↓dNotV_e, ↓dIf_e, ↓dChain_e, ↓dCall_e, ↓dCB_e, ↓dNext_e, ↓dRet_e, ↓dDrop_e, ↓dAsg_e, ↓dIfS_e, ↓dRaise_e, ↓dgName_e, ↓dgNil_e, ↓dgCons_e, ↓dgTup_e, ↓dPar_e, ↓dPar3_e, ↓dFor_e, ↓dLc_e, lcL_n, lcL_c, ↓dYes_e, ↓dOver_e, ↓dRng1_e, ↓dRng2_e, ↓dPart_e, ↓dNoPart_e, ↓dMs_e, ↓dIsi_e, ↓dToldC_e, oAdd_ii, oAdd_ss, oAdd_ll, oSub_ii, oMul_ii, oMul_si, oDiv_ii, oMod_ii, oPow_ii, oNeg_i, oEq_ii, oNe_ii, oLt_ii, oLe_ii, oGt_ii, oGe_ii, oIs_e, oIsN_e, oIx_l, oIx_t, oIx_s, oLen_t, oLen_l, oAbs_i, oMax_l, oMin_l, oMin_t, oMax_t, oMax2_ii, oMin2_ii, oAll_l, oSum_l, oTuple_l, oSindex_ss, roll_e, ↓if_t, ↓if_f, if_T, if_F, Bool.false_eq_true, oLen_s, oList_t, oList_l, ↓dSl_e, onSl_l, onSl_s, isi_tt, isi_lt, isi_nt, isi_it, isi_bt, isi_st, isi_ii, isi_ib, isi_bi, isi_bb, isi_si, isi_ni, isi_ti, isi_li, isi_ss, isi_is, isi_bs, isi_ns, isi_ts, isi_ls, pl4, atI4_0, atI4_1, atI4_2, atI4_3, asInts, asBools, asStrs, Option.map, look, put, drp, drps, startR, List.length_cons, List.length_nil, List.map_cons, List.map_nil, List.replicate, List.append, List.cons_append, List.nil_append, List.append_nil, true_and, and_true, Bool.not_true, Bool.not_false, Nat.zero_add, Nat.reduceAdd, Nat.reduceSub, Nat.reduceLeDiff, Nat.reduceEqDiff, ten6, plains_n, plains_c, plain_t, plain_l, plain_i, plain_s, plain_b, plain_no]
      refine join_ok (w := q.reverse) (by rw [List.length_reverse]; simp at hlen; omega) ?_
      have e : sg s (wr q) = wm .one w := em
      refine ⟨rfl, ?_⟩
      refine h s q.reverse hs hq.rev ?_ ?_
      · rw [← wr_rev, List.reverse_reverse]
        exact e
      · rw [List.length_reverse]
        simpa using hlen

theorem normal_of_word_ok {w : List Nat} {Q : PyData → Prop} {E : Nat → Prop} (hw : ∀ c ∈ w, three c) (hl : w.length ≤ 1000) (h : ∀ (s : Int) (x : List Nat), (s = 1 ∨ s = -1) → Aw x → sg s (wm .one x) = wm .one w → x.length ≤ 2 * w.length → Q (SW s x)) : f_normal_of_word [W w] Q E := by
  simp only [f_normal_of_word, b_normal_of_word, ↓onB_b, ↓onI_i, ↓onStr_s, ↓onSeq_l, ↓onSeq_t, ↓onSeq_s, ↓onS_s, ↓dFn_e, ↓dVar_e, ↓dC_e, ↓dOp_e, ↓dUn_e, ↓dNil_e, ↓dCons_e, ↓dTup_e, ↓dLst_e, ↓dTest_e, ↓dAnd_e, ↓dOr_e, ↓dNot_e, ↓dAndV_e, ↓dOrV_e, ↓dNotV_e, ↓dIf_e, ↓dChain_e, ↓dCall_e, ↓dCB_e, ↓dNext_e, ↓dSeq_e, ↓dRet_e, ↓dDrop_e, ↓dAsg_e, ↓dIfS_e, ↓dRaise_e, ↓dgName_e, ↓dgNil_e, ↓dgCons_e, ↓dgTup_e, ↓dPar_e, ↓dPar3_e, ↓dFor_e, ↓dLc_e, lcL_n, lcL_c, ↓dYes_e, ↓dOver_e, ↓dRng1_e, ↓dRng2_e, ↓dPart_e, ↓dNoPart_e, ↓dMs_e, ↓dIsi_e, ↓dToldC_e, oAdd_ii, oAdd_ss, oAdd_ll, oSub_ii, oMul_ii, oMul_si, oDiv_ii, oMod_ii, oPow_ii, oNeg_i, oEq_ii, oNe_ii, oLt_ii, oLe_ii, oGt_ii, oGe_ii, oIs_e, oIsN_e, oIx_l, oIx_t, oIx_s, oLen_t, oLen_l, oAbs_i, oMax_l, oMin_l, oMin_t, oMax_t, oMax2_ii, oMin2_ii, oAll_l, oSum_l, oTuple_l, oSindex_ss, roll_e, ↓if_t, ↓if_f, if_T, if_F, Bool.false_eq_true, oLen_s, oList_t, oList_l, ↓dSl_e, onSl_l, onSl_s, isi_tt, isi_lt, isi_nt, isi_it, isi_bt, isi_st, isi_ii, isi_ib, isi_bi, isi_bb, isi_si, isi_ni, isi_ti, isi_li, isi_ss, isi_is, isi_bs, isi_ns, isi_ts, isi_ls, pl4, atI4_0, atI4_1, atI4_2, atI4_3, asInts, asBools, asStrs, Option.map, look, put, drp, drps, startR, List.length_cons, List.length_nil, List.map_cons, List.map_nil, List.replicate, List.append, List.cons_append, List.nil_append, List.append_nil, plain, true_and, and_true, Bool.not_true, Bool.not_false, Nat.zero_add, Nat.reduceAdd, Nat.reduceSub, Nat.reduceLeDiff, Nat.reduceEqDiff, ten6]
  exact need_word_ok hl hw (reduced_ok hw (by omega) h)
theorem normal_of_word_no {w : List Nat} {Q : PyData → Prop} {E : Nat → Prop} (hl : w.length ≤ 100000) (hw : ¬ (w.length ≤ 1000 ∧ ∀ c ∈ w, three c)) (h : E 1) : f_normal_of_word [W w] Q E := by
  simp only [f_normal_of_word, b_normal_of_word, ↓onB_b, ↓onI_i, ↓onStr_s, ↓onSeq_l, ↓onSeq_t, ↓onSeq_s, ↓onS_s, ↓dFn_e, ↓dVar_e, ↓dC_e, ↓dOp_e, ↓dUn_e, ↓dNil_e, ↓dCons_e, ↓dTup_e, ↓dLst_e, ↓dTest_e, ↓dAnd_e, ↓dOr_e, ↓dNot_e, ↓dAndV_e, ↓dOrV_e, ↓dNotV_e, ↓dIf_e, ↓dChain_e, ↓dCall_e, ↓dCB_e, ↓dNext_e, ↓dSeq_e, ↓dRet_e, ↓dDrop_e, ↓dAsg_e, ↓dIfS_e, ↓dRaise_e, ↓dgName_e, ↓dgNil_e, ↓dgCons_e, ↓dgTup_e, ↓dPar_e, ↓dPar3_e, ↓dFor_e, ↓dLc_e, lcL_n, lcL_c, ↓dYes_e, ↓dOver_e, ↓dRng1_e, ↓dRng2_e, ↓dPart_e, ↓dNoPart_e, ↓dMs_e, ↓dIsi_e, ↓dToldC_e, oAdd_ii, oAdd_ss, oAdd_ll, oSub_ii, oMul_ii, oMul_si, oDiv_ii, oMod_ii, oPow_ii, oNeg_i, oEq_ii, oNe_ii, oLt_ii, oLe_ii, oGt_ii, oGe_ii, oIs_e, oIsN_e, oIx_l, oIx_t, oIx_s, oLen_t, oLen_l, oAbs_i, oMax_l, oMin_l, oMin_t, oMax_t, oMax2_ii, oMin2_ii, oAll_l, oSum_l, oTuple_l, oSindex_ss, roll_e, ↓if_t, ↓if_f, if_T, if_F, Bool.false_eq_true, oLen_s, oList_t, oList_l, ↓dSl_e, onSl_l, onSl_s, isi_tt, isi_lt, isi_nt, isi_it, isi_bt, isi_st, isi_ii, isi_ib, isi_bi, isi_bb, isi_si, isi_ni, isi_ti, isi_li, isi_ss, isi_is, isi_bs, isi_ns, isi_ts, isi_ls, pl4, atI4_0, atI4_1, atI4_2, atI4_3, asInts, asBools, asStrs, Option.map, look, put, drp, drps, startR, List.length_cons, List.length_nil, List.map_cons, List.map_nil, List.replicate, List.append, List.cons_append, List.nil_append, List.append_nil, plain, true_and, and_true, Bool.not_true, Bool.not_false, Nat.zero_add, Nat.reduceAdd, Nat.reduceSub, Nat.reduceLeDiff, Nat.reduceEqDiff, ten6]
  exact need_word_no hl hw h

abbrev st (n : List Nat) (e u : List (List Nat)) : GS := [W n, .list (e.map W), .list (u.map W)]
theorem Desk_change_ok {n w : List Nat} {e u : List (List Nat)} {Q : GS → PyData → Prop} {E : GS → Nat → Prop} (hl : e.length ≤ 10000) (h : Q (st w (e ++ [n]) []) .none) : f_Desk_change (st n e u) [deskD, W w] Q E := by
  simp only [f_Desk_change, b_Desk_change, zSeq_e, plains_n, plains_c, plain_s, plain_l, ↓onB_b, ↓onI_i, ↓onStr_s, ↓onSeq_l, ↓onSeq_t, ↓onSeq_s, ↓onS_s, ↓dFn_e, ↓dVar_e, ↓dC_e, ↓dOp_e, ↓dUn_e, ↓dNil_e, ↓dCons_e, ↓dTup_e, ↓dLst_e, ↓dTest_e, ↓dAnd_e, ↓dOr_e, ↓dNot_e, ↓dAndV_e, ↓dOrV_e, ↓dNotV_e, ↓dIf_e, ↓dChain_e, ↓dCall_e, ↓dCB_e, ↓dNext_e, ↓dRet_e, ↓dDrop_e, ↓dAsg_e, ↓dIfS_e, ↓dRaise_e, ↓dgName_e, ↓dgNil_e, ↓dgCons_e, ↓dgTup_e, ↓dPar_e, ↓dPar3_e, ↓dFor_e, ↓dLc_e, lcL_n, lcL_c, ↓dYes_e, ↓dOver_e, ↓dRng1_e, ↓dRng2_e, ↓dPart_e, ↓dNoPart_e, ↓dMs_e, ↓dIsi_e, ↓dToldC_e, oAdd_ii, oAdd_ss, oAdd_ll, oSub_ii, oMul_ii, oMul_si, oDiv_ii, oMod_ii, oPow_ii, oNeg_i, oEq_ii, oNe_ii, oLt_ii, oLe_ii, oGt_ii, oGe_ii, oIs_e, oIsN_e, oIx_l, oIx_t, oIx_s, oLen_t, oLen_l, oAbs_i, oMax_l, oMin_l, oMin_t, oMax_t, oMax2_ii, oMin2_ii, oAll_l, oSum_l, oTuple_l, oSindex_ss, roll_e, ↓if_t, ↓if_f, if_T, if_F, Bool.false_eq_true, oLen_s, oList_t, oList_l, ↓dSl_e, onSl_l, onSl_s, isi_tt, isi_lt, isi_nt, isi_it, isi_bt, isi_st, isi_ii, isi_ib, isi_bi, isi_bb, isi_si, isi_ni, isi_ti, isi_li, isi_ss, isi_is, isi_bs, isi_ns, isi_ts, isi_ls, pl4, atI4_0, atI4_1, atI4_2, atI4_3, asInts, asBools, asStrs, Option.map, look, put, drp, drps, startR, List.length_cons, List.length_nil, List.map_cons, List.map_nil, List.replicate, List.append, List.cons_append, List.nil_append, List.append_nil, plain, true_and, and_true, Bool.not_true, Bool.not_false, Nat.zero_add, Nat.reduceAdd, Nat.reduceSub, Nat.reduceLeDiff, Nat.reduceEqDiff, ten6, ↓zFn_e, ↓zE_e, ↓zS_e, ↓dK_e, ↓zCall_e, ↓zIfS_e, ↓zRet_e, ↓zDrop_e, ↓zAsg_e, ↓zNext_e, ↓zForR_e, ↓dFld_e, ↓zSet_e, ↓zMeth_e, ↓zLen_e, ↓zTold_e, g3_0, g3_1, g3_2, t3_0, t3_1, t3_2, desk_eq]
  refine ⟨by rw [List.length_map]; omega, ?_⟩
  rw [st, List.map_append] at h
  exact h

theorem times_ok {m n : M} {Q : PyData → Prop} {E : Nat → Prop} (hm : m.le 9223372036854775808) (h : Q (m.mul n).p) : f_times [m.p, n.p] Q E := by
  simp only [f_times, b_times, ↓onB_b, ↓onI_i, ↓onStr_s, ↓onSeq_l, ↓onSeq_t, ↓onSeq_s, ↓onS_s, ↓dFn_e, ↓dVar_e, ↓dC_e, ↓dOp_e, ↓dUn_e, ↓dNil_e, ↓dCons_e, ↓dTup_e, ↓dLst_e, ↓dTest_e, ↓dAnd_e, ↓dOr_e, ↓dNot_e, ↓dAndV_e, ↓dOrV_e, ↓dNotV_e, ↓dIf_e, ↓dChain_e, ↓dCall_e, ↓dCB_e, ↓dNext_e, ↓dSeq_e, ↓dRet_e, ↓dDrop_e, ↓dAsg_e, ↓dIfS_e, ↓dRaise_e, ↓dgName_e, ↓dgNil_e, ↓dgCons_e, ↓dgTup_e, ↓dPar_e, ↓dPar3_e, ↓dFor_e, ↓dLc_e, lcL_n, lcL_c, ↓dYes_e, ↓dOver_e, ↓dRng1_e, ↓dRng2_e, ↓dPart_e, ↓dNoPart_e, ↓dMs_e, ↓dIsi_e, ↓dToldC_e, oAdd_ii, oAdd_ss, oAdd_ll, oSub_ii, oMul_ii, oMul_si, oDiv_ii, oMod_ii, oPow_ii, oNeg_i, oEq_ii, oNe_ii, oLt_ii, oLe_ii, oGt_ii, oGe_ii, oIs_e, oIsN_e, oIx_l, oIx_t, oIx_s, oLen_t, oLen_l, oAbs_i, oMax_l, oMin_l, oMin_t, oMax_t, oMax2_ii, oMin2_ii, oAll_l, oSum_l, oTuple_l, oSindex_ss, roll_e, ↓if_t, ↓if_f, if_T, if_F, Bool.false_eq_true, oLen_s, oList_t, oList_l, ↓dSl_e, onSl_l, onSl_s, isi_tt, isi_lt, isi_nt, isi_it, isi_bt, isi_st, isi_ii, isi_ib, isi_bi, isi_bb, isi_si, isi_ni, isi_ti, isi_li, isi_ss, isi_is, isi_bs, isi_ns, isi_ts, isi_ls, pl4, atI4_0, atI4_1, atI4_2, atI4_3, asInts, asBools, asStrs, Option.map, look, put, drp, drps, startR, List.length_cons, List.length_nil, List.map_cons, List.map_nil, List.replicate, List.append, List.cons_append, List.nil_append, List.append_nil, plain, true_and, and_true, Bool.not_true, Bool.not_false, Nat.zero_add, Nat.reduceAdd, Nat.reduceSub, Nat.reduceLeDiff, Nat.reduceEqDiff, ten6]
  exact ⟨mok hm.1, mok hm.2.1, mok hm.1, mok hm.2.1, mok hm.2.2.1, mok hm.2.2.2, mok hm.2.2.1, mok hm.2.2.2, h⟩
theorem times_r {m n : M} {Q : PyData → Prop} {E : Nat → Prop} (hn : n.le 9223372036854775808) (h : Q (m.mul n).p) : f_times [m.p, n.p] Q E := by
  simp only [f_times, b_times, ↓onB_b, ↓onI_i, ↓onStr_s, ↓onSeq_l, ↓onSeq_t, ↓onSeq_s, ↓onS_s, ↓dFn_e, ↓dVar_e, ↓dC_e, ↓dOp_e, ↓dUn_e, ↓dNil_e, ↓dCons_e, ↓dTup_e, ↓dLst_e, ↓dTest_e, ↓dAnd_e, ↓dOr_e, ↓dNot_e, ↓dAndV_e, ↓dOrV_e, ↓dNotV_e, ↓dIf_e, ↓dChain_e, ↓dCall_e, ↓dCB_e, ↓dNext_e, ↓dSeq_e, ↓dRet_e, ↓dDrop_e, ↓dAsg_e, ↓dIfS_e, ↓dRaise_e, ↓dgName_e, ↓dgNil_e, ↓dgCons_e, ↓dgTup_e, ↓dPar_e, ↓dPar3_e, ↓dFor_e, ↓dLc_e, lcL_n, lcL_c, ↓dYes_e, ↓dOver_e, ↓dRng1_e, ↓dRng2_e, ↓dPart_e, ↓dNoPart_e, ↓dMs_e, ↓dIsi_e, ↓dToldC_e, oAdd_ii, oAdd_ss, oAdd_ll, oSub_ii, oMul_ii, oMul_si, oDiv_ii, oMod_ii, oPow_ii, oNeg_i, oEq_ii, oNe_ii, oLt_ii, oLe_ii, oGt_ii, oGe_ii, oIs_e, oIsN_e, oIx_l, oIx_t, oIx_s, oLen_t, oLen_l, oAbs_i, oMax_l, oMin_l, oMin_t, oMax_t, oMax2_ii, oMin2_ii, oAll_l, oSum_l, oTuple_l, oSindex_ss, roll_e, ↓if_t, ↓if_f, if_T, if_F, Bool.false_eq_true, oLen_s, oList_t, oList_l, ↓dSl_e, onSl_l, onSl_s, isi_tt, isi_lt, isi_nt, isi_it, isi_bt, isi_st, isi_ii, isi_ib, isi_bi, isi_bb, isi_si, isi_ni, isi_ti, isi_li, isi_ss, isi_is, isi_bs, isi_ns, isi_ts, isi_ls, pl4, atI4_0, atI4_1, atI4_2, atI4_3, asInts, asBools, asStrs, Option.map, look, put, drp, drps, startR, List.length_cons, List.length_nil, List.map_cons, List.map_nil, List.replicate, List.append, List.cons_append, List.nil_append, List.append_nil, plain, true_and, and_true, Bool.not_true, Bool.not_false, Nat.zero_add, Nat.reduceAdd, Nat.reduceSub, Nat.reduceLeDiff, Nat.reduceEqDiff, ten6]
  exact ⟨mokr hn.1, mokr hn.2.2.1, mokr hn.2.1, mokr hn.2.2.2, mokr hn.1, mokr hn.2.2.1, mokr hn.2.1, mokr hn.2.2.2, h⟩
theorem times_b {m n : M} {Q : PyData → Prop} {E : Nat → Prop} (hm : m.le (2 ^ 9000)) (hn : n.le (2 ^ 9000)) (h : Q (m.mul n).p) : f_times [m.p, n.p] Q E := by
  simp only [f_times, b_times, ↓onB_b, ↓onI_i, ↓onStr_s, ↓onSeq_l, ↓onSeq_t, ↓onSeq_s, ↓onS_s, ↓dFn_e, ↓dVar_e, ↓dC_e, ↓dOp_e, ↓dUn_e, ↓dNil_e, ↓dCons_e, ↓dTup_e, ↓dLst_e, ↓dTest_e, ↓dAnd_e, ↓dOr_e, ↓dNot_e, ↓dAndV_e, ↓dOrV_e, ↓dNotV_e, ↓dIf_e, ↓dChain_e, ↓dCall_e, ↓dCB_e, ↓dNext_e, ↓dSeq_e, ↓dRet_e, ↓dDrop_e, ↓dAsg_e, ↓dIfS_e, ↓dRaise_e, ↓dgName_e, ↓dgNil_e, ↓dgCons_e, ↓dgTup_e, ↓dPar_e, ↓dPar3_e, ↓dFor_e, ↓dLc_e, lcL_n, lcL_c, ↓dYes_e, ↓dOver_e, ↓dRng1_e, ↓dRng2_e, ↓dPart_e, ↓dNoPart_e, ↓dMs_e, ↓dIsi_e, ↓dToldC_e, oAdd_ii, oAdd_ss, oAdd_ll, oSub_ii, oMul_ii, oMul_si, oDiv_ii, oMod_ii, oPow_ii, oNeg_i, oEq_ii, oNe_ii, oLt_ii, oLe_ii, oGt_ii, oGe_ii, oIs_e, oIsN_e, oIx_l, oIx_t, oIx_s, oLen_t, oLen_l, oAbs_i, oMax_l, oMin_l, oMin_t, oMax_t, oMax2_ii, oMin2_ii, oAll_l, oSum_l, oTuple_l, oSindex_ss, roll_e, ↓if_t, ↓if_f, if_T, if_F, Bool.false_eq_true, oLen_s, oList_t, oList_l, ↓dSl_e, onSl_l, onSl_s, isi_tt, isi_lt, isi_nt, isi_it, isi_bt, isi_st, isi_ii, isi_ib, isi_bi, isi_bb, isi_si, isi_ni, isi_ti, isi_li, isi_ss, isi_is, isi_bs, isi_ns, isi_ts, isi_ls, pl4, atI4_0, atI4_1, atI4_2, atI4_3, asInts, asBools, asStrs, Option.map, look, put, drp, drps, startR, List.length_cons, List.length_nil, List.map_cons, List.map_nil, List.replicate, List.append, List.cons_append, List.nil_append, List.append_nil, plain, true_and, and_true, Bool.not_true, Bool.not_false, Nat.zero_add, Nat.reduceAdd, Nat.reduceSub, Nat.reduceLeDiff, Nat.reduceEqDiff, ten6]
  exact ⟨mokb hm.1 hn.1, mokb hm.2.1 hn.2.2.1, mokb hm.1 hn.2.1, mokb hm.2.1 hn.2.2.2, mokb hm.2.2.1 hn.1, mokb hm.2.2.2 hn.2.2.1, mokb hm.2.2.1 hn.2.1, mokb hm.2.2.2 hn.2.2.2, h⟩

theorem table_of_loop {Q : PyData → Prop} {E : Nat → Prop} {s : PyData} : ∀ (w : List Nat) (m : M) (x : Option PyData), (∀ c ∈ w, six c) → Q (wm m w).p →
    forL (dgName 2) (dAsg (dCall 2 f_times (dCons (dVar 1) (dCons (dLet (dVar 2)) dNil))) (dgName 1)) (fun r' => dRet (dVar 1) r' (fun _ => Q .none) Q E) Q E (w.map ch) [some s, some m.p, x]
  | [], m, x, _, h => by
    rw [List.map_nil, forL_n, dRet_e, dVar_e]
    exact h
  | c :: w, m, x, hw, h => by
    rw [List.map_cons, forL_c]
    simp only [dLet_c, letD_c (hw c List.mem_cons_self), ↓onB_b, ↓onI_i, ↓onStr_s, ↓onSeq_l, ↓onSeq_t, ↓onSeq_s, ↓onS_s, ↓dFn_e, ↓dVar_e, ↓dC_e, ↓dOp_e, ↓dUn_e, ↓dNil_e, ↓dCons_e, ↓dTup_e, ↓dLst_e, ↓dTest_e, ↓dAnd_e, ↓dOr_e, ↓dNot_e, ↓dAndV_e, ↓dOrV_e, ↓dNotV_e, ↓dIf_e, ↓dChain_e, ↓dCall_e, ↓dCB_e, ↓dNext_e, ↓dSeq_e, ↓dRet_e, ↓dDrop_e, ↓dAsg_e, ↓dIfS_e, ↓dRaise_e, ↓dgName_e, ↓dgNil_e, ↓dgCons_e, ↓dgTup_e, ↓dPar_e, ↓dPar3_e, ↓dFor_e, ↓dLc_e, lcL_n, lcL_c, ↓dYes_e, ↓dOver_e, ↓dRng1_e, ↓dRng2_e, ↓dPart_e, ↓dNoPart_e, ↓dMs_e, ↓dIsi_e, ↓dToldC_e, oAdd_ii, oAdd_ss, oAdd_ll, oSub_ii, oMul_ii, oMul_si, oDiv_ii, oMod_ii, oPow_ii, oNeg_i, oEq_ii, oNe_ii, oLt_ii, oLe_ii, oGt_ii, oGe_ii, oIs_e, oIsN_e, oIx_l, oIx_t, oIx_s, oLen_t, oLen_l, oAbs_i, oMax_l, oMin_l, oMin_t, oMax_t, oMax2_ii, oMin2_ii, oAll_l, oSum_l, oTuple_l, oSindex_ss, roll_e, ↓if_t, ↓if_f, if_T, if_F, Bool.false_eq_true, oLen_s, oList_t, oList_l, ↓dSl_e, onSl_l, onSl_s, isi_tt, isi_lt, isi_nt, isi_it, isi_bt, isi_st, isi_ii, isi_ib, isi_bi, isi_bb, isi_si, isi_ni, isi_ti, isi_li, isi_ss, isi_is, isi_bs, isi_ns, isi_ts, isi_ls, pl4, atI4_0, atI4_1, atI4_2, atI4_3, asInts, asBools, asStrs, Option.map, look, put, drp, drps, startR, List.length_cons, List.length_nil, List.map_cons, List.map_nil, List.replicate, List.append, List.cons_append, List.nil_append, List.append_nil, plain, true_and, and_true, Bool.not_true, Bool.not_false, Nat.zero_add, Nat.reduceAdd, Nat.reduceSub, Nat.reduceLeDiff, Nat.reduceEqDiff, ten6]
    refine times_r ((L_le c).mono (by decide)) ?_
    exact table_of_loop w (m.mul (L c)) (some (ch c)) (fun d hd => hw d (List.mem_cons_of_mem _ hd)) h
theorem table_of_ok {w : List Nat} {Q : PyData → Prop} {E : Nat → Prop} (hw : ∀ c ∈ w, six c) (h : Q (wm .one w).p) : f_table_of [W w] Q E := by
  have := table_of_loop (Q := Q) (E := E) (s := W w) w .one none hw h
  rw [f_table_of, b_table_of, dFn_e, dSeq_e, dAsg_e, dC_e, dgName_e, dSeq_e, dFor_e, dOver_e, dVar_e]
  exact this

theorem Desk_table_ok {n : List Nat} {e u : List (List Nat)} {Q : GS → PyData → Prop} {E : GS → Nat → Prop} (hn : ∀ c ∈ n, three c) (h : Q (st n e u) (wm .one n).p) : f_Desk_table (st n e u) [deskD] Q E := by
  simp only [f_Desk_table, b_Desk_table, zSeq_e, ↓onB_b, ↓onI_i, ↓onStr_s, ↓onSeq_l, ↓onSeq_t, ↓onSeq_s, ↓onS_s, ↓dFn_e, ↓dVar_e, ↓dC_e, ↓dOp_e, ↓dUn_e, ↓dNil_e, ↓dCons_e, ↓dTup_e, ↓dLst_e, ↓dTest_e, ↓dAnd_e, ↓dOr_e, ↓dNot_e, ↓dAndV_e, ↓dOrV_e, ↓dNotV_e, ↓dIf_e, ↓dChain_e, ↓dCall_e, ↓dCB_e, ↓dNext_e, ↓dRet_e, ↓dDrop_e, ↓dAsg_e, ↓dIfS_e, ↓dRaise_e, ↓dgName_e, ↓dgNil_e, ↓dgCons_e, ↓dgTup_e, ↓dPar_e, ↓dPar3_e, ↓dFor_e, ↓dLc_e, lcL_n, lcL_c, ↓dYes_e, ↓dOver_e, ↓dRng1_e, ↓dRng2_e, ↓dPart_e, ↓dNoPart_e, ↓dMs_e, ↓dIsi_e, ↓dToldC_e, oAdd_ii, oAdd_ss, oAdd_ll, oSub_ii, oMul_ii, oMul_si, oDiv_ii, oMod_ii, oPow_ii, oNeg_i, oEq_ii, oNe_ii, oLt_ii, oLe_ii, oGt_ii, oGe_ii, oIs_e, oIsN_e, oIx_l, oIx_t, oIx_s, oLen_t, oLen_l, oAbs_i, oMax_l, oMin_l, oMin_t, oMax_t, oMax2_ii, oMin2_ii, oAll_l, oSum_l, oTuple_l, oSindex_ss, roll_e, ↓if_t, ↓if_f, if_T, if_F, Bool.false_eq_true, oLen_s, oList_t, oList_l, ↓dSl_e, onSl_l, onSl_s, isi_tt, isi_lt, isi_nt, isi_it, isi_bt, isi_st, isi_ii, isi_ib, isi_bi, isi_bb, isi_si, isi_ni, isi_ti, isi_li, isi_ss, isi_is, isi_bs, isi_ns, isi_ts, isi_ls, pl4, atI4_0, atI4_1, atI4_2, atI4_3, asInts, asBools, asStrs, Option.map, look, put, drp, drps, startR, List.length_cons, List.length_nil, List.map_cons, List.map_nil, List.replicate, List.append, List.cons_append, List.nil_append, List.append_nil, plain, true_and, and_true, Bool.not_true, Bool.not_false, Nat.zero_add, Nat.reduceAdd, Nat.reduceSub, Nat.reduceLeDiff, Nat.reduceEqDiff, ten6, ↓zFn_e, ↓zE_e, ↓zS_e, ↓dK_e, ↓zCall_e, ↓zIfS_e, ↓zRet_e, ↓zDrop_e, ↓zAsg_e, ↓zNext_e, ↓zForR_e, ↓dFld_e, ↓zSet_e, ↓zMeth_e, ↓zLen_e, ↓zTold_e, g3_0, g3_1, g3_2, t3_0, t3_1, t3_2, desk_eq]
  exact table_of_ok (fun c hc => (hn c hc).six) h

theorem Desk_put_ok {n : List Nat} {c : Nat} {e u : List (List Nat)} {Q : GS → PyData → Prop} {E : GS → Nat → Prop} (hn : ∀ c ∈ n, three c) (hl : n.length < 200) (he : e.length ≤ 10000) (hc : three c) (h : Q (st (n ++ [c]) (e ++ [n]) []) (wm .one (n ++ [c])).p) : f_Desk_put (st n e u) [deskD, ch c] Q E := by
  rw [f_Desk_put, b_Desk_put, zFn_e, zSeq_e]
  simp only [↓onB_b, ↓onI_i, ↓onStr_s, ↓onSeq_l, ↓onSeq_t, ↓onSeq_s, ↓onS_s, ↓dFn_e, ↓dVar_e, ↓dC_e, ↓dOp_e, ↓dUn_e, ↓dNil_e, ↓dCons_e, ↓dTup_e, ↓dLst_e, ↓dTest_e, ↓dAnd_e, ↓dOr_e, ↓dNot_e, ↓dAndV_e, ↓dOrV_e, ↓dNotV_e, ↓dIf_e, ↓dChain_e, ↓dCall_e, ↓dCB_e, ↓dNext_e, ↓dRet_e, ↓dDrop_e, ↓dAsg_e, ↓dIfS_e, ↓dRaise_e, ↓dgName_e, ↓dgNil_e, ↓dgCons_e, ↓dgTup_e, ↓dPar_e, ↓dPar3_e, ↓dFor_e, ↓dLc_e, lcL_n, lcL_c, ↓dYes_e, ↓dOver_e, ↓dRng1_e, ↓dRng2_e, ↓dPart_e, ↓dNoPart_e, ↓dMs_e, ↓dIsi_e, ↓dToldC_e, oAdd_ii, oAdd_ss, oAdd_ll, oSub_ii, oMul_ii, oMul_si, oDiv_ii, oMod_ii, oPow_ii, oNeg_i, oEq_ii, oNe_ii, oLt_ii, oLe_ii, oGt_ii, oGe_ii, oIs_e, oIsN_e, oIx_l, oIx_t, oIx_s, oLen_t, oLen_l, oAbs_i, oMax_l, oMin_l, oMin_t, oMax_t, oMax2_ii, oMin2_ii, oAll_l, oSum_l, oTuple_l, oSindex_ss, roll_e, ↓if_t, ↓if_f, if_T, if_F, Bool.false_eq_true, oLen_s, oList_t, oList_l, ↓dSl_e, onSl_l, onSl_s, isi_tt, isi_lt, isi_nt, isi_it, isi_bt, isi_st, isi_ii, isi_ib, isi_bi, isi_bb, isi_si, isi_ni, isi_ti, isi_li, isi_ss, isi_is, isi_bs, isi_ns, isi_ts, isi_ls, pl4, atI4_0, atI4_1, atI4_2, atI4_3, asInts, asBools, asStrs, Option.map, look, put, drp, drps, startR, List.length_cons, List.length_nil, List.map_cons, List.map_nil, List.replicate, List.append, List.cons_append, List.nil_append, List.append_nil, plain, true_and, and_true, Bool.not_true, Bool.not_false, Nat.zero_add, Nat.reduceAdd, Nat.reduceSub, Nat.reduceLeDiff, Nat.reduceEqDiff, ten6, ↓zFn_e, ↓zE_e, ↓zS_e, ↓dK_e, ↓zCall_e, ↓zIfS_e, ↓zRet_e, ↓zDrop_e, ↓zAsg_e, ↓zNext_e, ↓zForR_e, ↓dFld_e, ↓zSet_e, ↓zMeth_e, ↓zLen_e, ↓zTold_e, g3_0, g3_1, g3_2, t3_0, t3_1, t3_2, desk_eq]
  refine is_made_of_ok (w := [c]) (by rw [List.length_singleton]; omega) ?_
  rw [decide_eq_true ⟨by rw [List.length_singleton]; omega, fun d hd => by rw [List.mem_singleton.mp hd]; exact stT_mem.mpr hc⟩]
  simp only [↓onB_b, ↓onI_i, ↓onStr_s, ↓onSeq_l, ↓onSeq_t, ↓onSeq_s, ↓onS_s, ↓dFn_e, ↓dVar_e, ↓dC_e, ↓dOp_e, ↓dUn_e, ↓dNil_e, ↓dCons_e, ↓dTup_e, ↓dLst_e, ↓dTest_e, ↓dAnd_e, ↓dOr_e, ↓dNot_e, ↓dAndV_e, ↓dOrV_e, ↓dNotV_e, ↓dIf_e, ↓dChain_e, ↓dCall_e, ↓dCB_e, ↓dNext_e, ↓dRet_e, ↓dDrop_e, ↓dAsg_e, ↓dIfS_e, ↓dRaise_e, ↓dgName_e, ↓dgNil_e, ↓dgCons_e, ↓dgTup_e, ↓dPar_e, ↓dPar3_e, ↓dFor_e, ↓dLc_e, lcL_n, lcL_c, ↓dYes_e, ↓dOver_e, ↓dRng1_e, ↓dRng2_e, ↓dPart_e, ↓dNoPart_e, ↓dMs_e, ↓dIsi_e, ↓dToldC_e, oAdd_ii, oAdd_ss, oAdd_ll, oSub_ii, oMul_ii, oMul_si, oDiv_ii, oMod_ii, oPow_ii, oNeg_i, oEq_ii, oNe_ii, oLt_ii, oLe_ii, oGt_ii, oGe_ii, oIs_e, oIsN_e, oIx_l, oIx_t, oIx_s, oLen_t, oLen_l, oAbs_i, oMax_l, oMin_l, oMin_t, oMax_t, oMax2_ii, oMin2_ii, oAll_l, oSum_l, oTuple_l, oSindex_ss, roll_e, ↓if_t, ↓if_f, if_T, if_F, Bool.false_eq_true, oLen_s, oList_t, oList_l, ↓dSl_e, onSl_l, onSl_s, isi_tt, isi_lt, isi_nt, isi_it, isi_bt, isi_st, isi_ii, isi_ib, isi_bi, isi_bb, isi_si, isi_ni, isi_ti, isi_li, isi_ss, isi_is, isi_bs, isi_ns, isi_ts, isi_ls, pl4, atI4_0, atI4_1, atI4_2, atI4_3, asInts, asBools, asStrs, Option.map, look, put, drp, drps, startR, List.length_cons, List.length_nil, List.map_cons, List.map_nil, List.replicate, List.append, List.cons_append, List.nil_append, List.append_nil, plain, true_and, and_true, Bool.not_true, Bool.not_false, Nat.zero_add, Nat.reduceAdd, Nat.reduceSub, Nat.reduceLeDiff, Nat.reduceEqDiff, ten6, ↓zFn_e, ↓zE_e, ↓zS_e, ↓dK_e, ↓zCall_e, ↓zIfS_e, ↓zRet_e, ↓zDrop_e, ↓zAsg_e, ↓zNext_e, ↓zForR_e, ↓dFld_e, ↓zSet_e, ↓zMeth_e, ↓zLen_e, ↓zTold_e, g3_0, g3_1, g3_2, t3_0, t3_1, t3_2, desk_eq]
  refine ⟨by show 1 ≤ 1000000; omega, ?_⟩
  have e1 : ((⟨#[c]⟩ : Str).length : Int) = 1 := by simp [Str.length]
  simp only [e1, decide_true, Bool.not_true, zSeq_e, ↓onB_b, ↓onI_i, ↓onStr_s, ↓onSeq_l, ↓onSeq_t, ↓onSeq_s, ↓onS_s, ↓dFn_e, ↓dVar_e, ↓dC_e, ↓dOp_e, ↓dUn_e, ↓dNil_e, ↓dCons_e, ↓dTup_e, ↓dLst_e, ↓dTest_e, ↓dAnd_e, ↓dOr_e, ↓dNot_e, ↓dAndV_e, ↓dOrV_e, ↓dNotV_e, ↓dIf_e, ↓dChain_e, ↓dCall_e, ↓dCB_e, ↓dNext_e, ↓dRet_e, ↓dDrop_e, ↓dAsg_e, ↓dIfS_e, ↓dRaise_e, ↓dgName_e, ↓dgNil_e, ↓dgCons_e, ↓dgTup_e, ↓dPar_e, ↓dPar3_e, ↓dFor_e, ↓dLc_e, lcL_n, lcL_c, ↓dYes_e, ↓dOver_e, ↓dRng1_e, ↓dRng2_e, ↓dPart_e, ↓dNoPart_e, ↓dMs_e, ↓dIsi_e, ↓dToldC_e, oAdd_ii, oAdd_ss, oAdd_ll, oSub_ii, oMul_ii, oMul_si, oDiv_ii, oMod_ii, oPow_ii, oNeg_i, oEq_ii, oNe_ii, oLt_ii, oLe_ii, oGt_ii, oGe_ii, oIs_e, oIsN_e, oIx_l, oIx_t, oIx_s, oLen_t, oLen_l, oAbs_i, oMax_l, oMin_l, oMin_t, oMax_t, oMax2_ii, oMin2_ii, oAll_l, oSum_l, oTuple_l, oSindex_ss, roll_e, ↓if_t, ↓if_f, if_T, if_F, Bool.false_eq_true, oLen_s, oList_t, oList_l, ↓dSl_e, onSl_l, onSl_s, isi_tt, isi_lt, isi_nt, isi_it, isi_bt, isi_st, isi_ii, isi_ib, isi_bi, isi_bb, isi_si, isi_ni, isi_ti, isi_li, isi_ss, isi_is, isi_bs, isi_ns, isi_ts, isi_ls, pl4, atI4_0, atI4_1, atI4_2, atI4_3, asInts, asBools, asStrs, Option.map, look, put, drp, drps, startR, List.length_cons, List.length_nil, List.map_cons, List.map_nil, List.replicate, List.append, List.cons_append, List.nil_append, List.append_nil, plain, true_and, and_true, Bool.not_true, Bool.not_false, Nat.zero_add, Nat.reduceAdd, Nat.reduceSub, Nat.reduceLeDiff, Nat.reduceEqDiff, ten6, ↓zFn_e, ↓zE_e, ↓zS_e, ↓dK_e, ↓zCall_e, ↓zIfS_e, ↓zRet_e, ↓zDrop_e, ↓zAsg_e, ↓zNext_e, ↓zForR_e, ↓dFld_e, ↓zSet_e, ↓zMeth_e, ↓zLen_e, ↓zTold_e, g3_0, g3_1, g3_2, t3_0, t3_1, t3_2, desk_eq]
  refine ⟨by rw [W_len]; omega, ?_⟩
  rw [W_len, decide_eq_false (by omega), if_f]
  refine ⟨by rw [W_len]; simp [Str.length]; omega, ?_⟩
  rw [show (#[c] : Array Nat) = [c].toArray from rfl, str_app]
  refine Desk_change_ok he ?_
  refine Desk_table_ok ?_ ⟨rfl, h⟩
  intro d hd
  rcases List.mem_append.mp hd with z | z
  · exact hn d z
  · rw [List.mem_singleton.mp z]
    exact hc

theorem Desk_word_ok {n : List Nat} {e u : List (List Nat)} {Q : GS → PyData → Prop} {E : GS → Nat → Prop} (h : Q (st n e u) (W n)) : f_Desk_word (st n e u) [deskD] Q E := by
  simp only [f_Desk_word, b_Desk_word, zSeq_e, ↓onB_b, ↓onI_i, ↓onStr_s, ↓onSeq_l, ↓onSeq_t, ↓onSeq_s, ↓onS_s, ↓dFn_e, ↓dVar_e, ↓dC_e, ↓dOp_e, ↓dUn_e, ↓dNil_e, ↓dCons_e, ↓dTup_e, ↓dLst_e, ↓dTest_e, ↓dAnd_e, ↓dOr_e, ↓dNot_e, ↓dAndV_e, ↓dOrV_e, ↓dNotV_e, ↓dIf_e, ↓dChain_e, ↓dCall_e, ↓dCB_e, ↓dNext_e, ↓dRet_e, ↓dDrop_e, ↓dAsg_e, ↓dIfS_e, ↓dRaise_e, ↓dgName_e, ↓dgNil_e, ↓dgCons_e, ↓dgTup_e, ↓dPar_e, ↓dPar3_e, ↓dFor_e, ↓dLc_e, lcL_n, lcL_c, ↓dYes_e, ↓dOver_e, ↓dRng1_e, ↓dRng2_e, ↓dPart_e, ↓dNoPart_e, ↓dMs_e, ↓dIsi_e, ↓dToldC_e, oAdd_ii, oAdd_ss, oAdd_ll, oSub_ii, oMul_ii, oMul_si, oDiv_ii, oMod_ii, oPow_ii, oNeg_i, oEq_ii, oNe_ii, oLt_ii, oLe_ii, oGt_ii, oGe_ii, oIs_e, oIsN_e, oIx_l, oIx_t, oIx_s, oLen_t, oLen_l, oAbs_i, oMax_l, oMin_l, oMin_t, oMax_t, oMax2_ii, oMin2_ii, oAll_l, oSum_l, oTuple_l, oSindex_ss, roll_e, ↓if_t, ↓if_f, if_T, if_F, Bool.false_eq_true, oLen_s, oList_t, oList_l, ↓dSl_e, onSl_l, onSl_s, isi_tt, isi_lt, isi_nt, isi_it, isi_bt, isi_st, isi_ii, isi_ib, isi_bi, isi_bb, isi_si, isi_ni, isi_ti, isi_li, isi_ss, isi_is, isi_bs, isi_ns, isi_ts, isi_ls, pl4, atI4_0, atI4_1, atI4_2, atI4_3, asInts, asBools, asStrs, Option.map, look, put, drp, drps, startR, List.length_cons, List.length_nil, List.map_cons, List.map_nil, List.replicate, List.append, List.cons_append, List.nil_append, List.append_nil, plain, true_and, and_true, Bool.not_true, Bool.not_false, Nat.zero_add, Nat.reduceAdd, Nat.reduceSub, Nat.reduceLeDiff, Nat.reduceEqDiff, ten6, ↓zFn_e, ↓zE_e, ↓zS_e, ↓dK_e, ↓zCall_e, ↓zIfS_e, ↓zRet_e, ↓zDrop_e, ↓zAsg_e, ↓zNext_e, ↓zForR_e, ↓dFld_e, ↓zSet_e, ↓zMeth_e, ↓zLen_e, ↓zTold_e, g3_0, g3_1, g3_2, t3_0, t3_1, t3_2, desk_eq]
  exact h

theorem Desk_normal_ok {n : List Nat} {e u : List (List Nat)} {Q : GS → PyData → Prop} {E : GS → Nat → Prop} (hw : ∀ c ∈ n, three c) (hl : n.length ≤ 10000) (h : ∀ (s : Int) (x : List Nat), (s = 1 ∨ s = -1) → Aw x → sg s (wm .one x) = wm .one n → x.length ≤ 2 * n.length → Q (st n e u) (SW s x)) : f_Desk_normal (st n e u) [deskD] Q E := by
  simp only [f_Desk_normal, b_Desk_normal, zSeq_e, ↓onB_b, ↓onI_i, ↓onStr_s, ↓onSeq_l, ↓onSeq_t, ↓onSeq_s, ↓onS_s, ↓dFn_e, ↓dVar_e, ↓dC_e, ↓dOp_e, ↓dUn_e, ↓dNil_e, ↓dCons_e, ↓dTup_e, ↓dLst_e, ↓dTest_e, ↓dAnd_e, ↓dOr_e, ↓dNot_e, ↓dAndV_e, ↓dOrV_e, ↓dNotV_e, ↓dIf_e, ↓dChain_e, ↓dCall_e, ↓dCB_e, ↓dNext_e, ↓dRet_e, ↓dDrop_e, ↓dAsg_e, ↓dIfS_e, ↓dRaise_e, ↓dgName_e, ↓dgNil_e, ↓dgCons_e, ↓dgTup_e, ↓dPar_e, ↓dPar3_e, ↓dFor_e, ↓dLc_e, lcL_n, lcL_c, ↓dYes_e, ↓dOver_e, ↓dRng1_e, ↓dRng2_e, ↓dPart_e, ↓dNoPart_e, ↓dMs_e, ↓dIsi_e, ↓dToldC_e, oAdd_ii, oAdd_ss, oAdd_ll, oSub_ii, oMul_ii, oMul_si, oDiv_ii, oMod_ii, oPow_ii, oNeg_i, oEq_ii, oNe_ii, oLt_ii, oLe_ii, oGt_ii, oGe_ii, oIs_e, oIsN_e, oIx_l, oIx_t, oIx_s, oLen_t, oLen_l, oAbs_i, oMax_l, oMin_l, oMin_t, oMax_t, oMax2_ii, oMin2_ii, oAll_l, oSum_l, oTuple_l, oSindex_ss, roll_e, ↓if_t, ↓if_f, if_T, if_F, Bool.false_eq_true, oLen_s, oList_t, oList_l, ↓dSl_e, onSl_l, onSl_s, isi_tt, isi_lt, isi_nt, isi_it, isi_bt, isi_st, isi_ii, isi_ib, isi_bi, isi_bb, isi_si, isi_ni, isi_ti, isi_li, isi_ss, isi_is, isi_bs, isi_ns, isi_ts, isi_ls, pl4, atI4_0, atI4_1, atI4_2, atI4_3, asInts, asBools, asStrs, Option.map, look, put, drp, drps, startR, List.length_cons, List.length_nil, List.map_cons, List.map_nil, List.replicate, List.append, List.cons_append, List.nil_append, List.append_nil, plain, true_and, and_true, Bool.not_true, Bool.not_false, Nat.zero_add, Nat.reduceAdd, Nat.reduceSub, Nat.reduceLeDiff, Nat.reduceEqDiff, ten6, ↓zFn_e, ↓zE_e, ↓zS_e, ↓dK_e, ↓zCall_e, ↓zIfS_e, ↓zRet_e, ↓zDrop_e, ↓zAsg_e, ↓zNext_e, ↓zForR_e, ↓dFld_e, ↓zSet_e, ↓zMeth_e, ↓zLen_e, ↓zTold_e, g3_0, g3_1, g3_2, t3_0, t3_1, t3_2, desk_eq]
  exact reduced_ok hw hl h

theorem Desk_len_ok {n : List Nat} {e u : List (List Nat)} {Q : GS → PyData → Prop} {E : GS → Nat → Prop} (hl : n.length ≤ 10000) (h : Q (st n e u) (.int n.length)) : f_Desk___len__ (st n e u) [deskD] Q E := by
  simp only [f_Desk___len__, b_Desk___len__, zSeq_e, ↓onB_b, ↓onI_i, ↓onStr_s, ↓onSeq_l, ↓onSeq_t, ↓onSeq_s, ↓onS_s, ↓dFn_e, ↓dVar_e, ↓dC_e, ↓dOp_e, ↓dUn_e, ↓dNil_e, ↓dCons_e, ↓dTup_e, ↓dLst_e, ↓dTest_e, ↓dAnd_e, ↓dOr_e, ↓dNot_e, ↓dAndV_e, ↓dOrV_e, ↓dNotV_e, ↓dIf_e, ↓dChain_e, ↓dCall_e, ↓dCB_e, ↓dNext_e, ↓dRet_e, ↓dDrop_e, ↓dAsg_e, ↓dIfS_e, ↓dRaise_e, ↓dgName_e, ↓dgNil_e, ↓dgCons_e, ↓dgTup_e, ↓dPar_e, ↓dPar3_e, ↓dFor_e, ↓dLc_e, lcL_n, lcL_c, ↓dYes_e, ↓dOver_e, ↓dRng1_e, ↓dRng2_e, ↓dPart_e, ↓dNoPart_e, ↓dMs_e, ↓dIsi_e, ↓dToldC_e, oAdd_ii, oAdd_ss, oAdd_ll, oSub_ii, oMul_ii, oMul_si, oDiv_ii, oMod_ii, oPow_ii, oNeg_i, oEq_ii, oNe_ii, oLt_ii, oLe_ii, oGt_ii, oGe_ii, oIs_e, oIsN_e, oIx_l, oIx_t, oIx_s, oLen_t, oLen_l, oAbs_i, oMax_l, oMin_l, oMin_t, oMax_t, oMax2_ii, oMin2_ii, oAll_l, oSum_l, oTuple_l, oSindex_ss, roll_e, ↓if_t, ↓if_f, if_T, if_F, Bool.false_eq_true, oLen_s, oList_t, oList_l, ↓dSl_e, onSl_l, onSl_s, isi_tt, isi_lt, isi_nt, isi_it, isi_bt, isi_st, isi_ii, isi_ib, isi_bi, isi_bb, isi_si, isi_ni, isi_ti, isi_li, isi_ss, isi_is, isi_bs, isi_ns, isi_ts, isi_ls, pl4, atI4_0, atI4_1, atI4_2, atI4_3, asInts, asBools, asStrs, Option.map, look, put, drp, drps, startR, List.length_cons, List.length_nil, List.map_cons, List.map_nil, List.replicate, List.append, List.cons_append, List.nil_append, List.append_nil, plain, true_and, and_true, Bool.not_true, Bool.not_false, Nat.zero_add, Nat.reduceAdd, Nat.reduceSub, Nat.reduceLeDiff, Nat.reduceEqDiff, ten6, ↓zFn_e, ↓zE_e, ↓zS_e, ↓dK_e, ↓zCall_e, ↓zIfS_e, ↓zRet_e, ↓zDrop_e, ↓zAsg_e, ↓zNext_e, ↓zForR_e, ↓dFld_e, ↓zSet_e, ↓zMeth_e, ↓zLen_e, ↓zTold_e, g3_0, g3_1, g3_2, t3_0, t3_1, t3_2, desk_eq]
  refine ⟨by rw [W_len]; omega, ?_⟩
  rw [W_len]
  exact h

theorem law_times_ok {m n : M} {Q : PyData → Prop} {E : Nat → Prop} (hm : m.le 9223372036854775808) (h : Q (m.mul n).p) : f_law_times [m.p, n.p] Q E := by
  simp only [f_law_times, b_law_times, ↓onB_b, ↓onI_i, ↓onStr_s, ↓onSeq_l, ↓onSeq_t, ↓onSeq_s, ↓onS_s, ↓dFn_e, ↓dVar_e, ↓dC_e, ↓dOp_e, ↓dUn_e, ↓dNil_e, ↓dCons_e, ↓dTup_e, ↓dLst_e, ↓dTest_e, ↓dAnd_e, ↓dOr_e, ↓dNot_e, ↓dAndV_e, ↓dOrV_e, ↓dNotV_e, ↓dIf_e, ↓dChain_e, ↓dCall_e, ↓dCB_e, ↓dNext_e, ↓dSeq_e, ↓dRet_e, ↓dDrop_e, ↓dAsg_e, ↓dIfS_e, ↓dRaise_e, ↓dgName_e, ↓dgNil_e, ↓dgCons_e, ↓dgTup_e, ↓dPar_e, ↓dPar3_e, ↓dFor_e, ↓dLc_e, lcL_n, lcL_c, ↓dYes_e, ↓dOver_e, ↓dRng1_e, ↓dRng2_e, ↓dPart_e, ↓dNoPart_e, ↓dMs_e, ↓dIsi_e, ↓dToldC_e, oAdd_ii, oAdd_ss, oAdd_ll, oSub_ii, oMul_ii, oMul_si, oDiv_ii, oMod_ii, oPow_ii, oNeg_i, oEq_ii, oNe_ii, oLt_ii, oLe_ii, oGt_ii, oGe_ii, oIs_e, oIsN_e, oIx_l, oIx_t, oIx_s, oLen_t, oLen_l, oAbs_i, oMax_l, oMin_l, oMin_t, oMax_t, oMax2_ii, oMin2_ii, oAll_l, oSum_l, oTuple_l, oSindex_ss, roll_e, ↓if_t, ↓if_f, if_T, if_F, Bool.false_eq_true, oLen_s, oList_t, oList_l, ↓dSl_e, onSl_l, onSl_s, isi_tt, isi_lt, isi_nt, isi_it, isi_bt, isi_st, isi_ii, isi_ib, isi_bi, isi_bb, isi_si, isi_ni, isi_ti, isi_li, isi_ss, isi_is, isi_bs, isi_ns, isi_ts, isi_ls, pl4, atI4_0, atI4_1, atI4_2, atI4_3, asInts, asBools, asStrs, Option.map, look, put, drp, drps, startR, List.length_cons, List.length_nil, List.map_cons, List.map_nil, List.replicate, List.append, List.cons_append, List.nil_append, List.append_nil, plain, true_and, and_true, Bool.not_true, Bool.not_false, Nat.zero_add, Nat.reduceAdd, Nat.reduceSub, Nat.reduceLeDiff, Nat.reduceEqDiff, ten6]
  exact ⟨rfl, mok hm.1, mok hm.2.1, mok hm.1, mok hm.2.1, mok hm.2.2.1, mok hm.2.2.2, mok hm.2.2.1, mok hm.2.2.2, h⟩
theorem law_times_r {m n : M} {Q : PyData → Prop} {E : Nat → Prop} (hn : n.le 9223372036854775808) (h : Q (m.mul n).p) : f_law_times [m.p, n.p] Q E := by
  simp only [f_law_times, b_law_times, ↓onB_b, ↓onI_i, ↓onStr_s, ↓onSeq_l, ↓onSeq_t, ↓onSeq_s, ↓onS_s, ↓dFn_e, ↓dVar_e, ↓dC_e, ↓dOp_e, ↓dUn_e, ↓dNil_e, ↓dCons_e, ↓dTup_e, ↓dLst_e, ↓dTest_e, ↓dAnd_e, ↓dOr_e, ↓dNot_e, ↓dAndV_e, ↓dOrV_e, ↓dNotV_e, ↓dIf_e, ↓dChain_e, ↓dCall_e, ↓dCB_e, ↓dNext_e, ↓dSeq_e, ↓dRet_e, ↓dDrop_e, ↓dAsg_e, ↓dIfS_e, ↓dRaise_e, ↓dgName_e, ↓dgNil_e, ↓dgCons_e, ↓dgTup_e, ↓dPar_e, ↓dPar3_e, ↓dFor_e, ↓dLc_e, lcL_n, lcL_c, ↓dYes_e, ↓dOver_e, ↓dRng1_e, ↓dRng2_e, ↓dPart_e, ↓dNoPart_e, ↓dMs_e, ↓dIsi_e, ↓dToldC_e, oAdd_ii, oAdd_ss, oAdd_ll, oSub_ii, oMul_ii, oMul_si, oDiv_ii, oMod_ii, oPow_ii, oNeg_i, oEq_ii, oNe_ii, oLt_ii, oLe_ii, oGt_ii, oGe_ii, oIs_e, oIsN_e, oIx_l, oIx_t, oIx_s, oLen_t, oLen_l, oAbs_i, oMax_l, oMin_l, oMin_t, oMax_t, oMax2_ii, oMin2_ii, oAll_l, oSum_l, oTuple_l, oSindex_ss, roll_e, ↓if_t, ↓if_f, if_T, if_F, Bool.false_eq_true, oLen_s, oList_t, oList_l, ↓dSl_e, onSl_l, onSl_s, isi_tt, isi_lt, isi_nt, isi_it, isi_bt, isi_st, isi_ii, isi_ib, isi_bi, isi_bb, isi_si, isi_ni, isi_ti, isi_li, isi_ss, isi_is, isi_bs, isi_ns, isi_ts, isi_ls, pl4, atI4_0, atI4_1, atI4_2, atI4_3, asInts, asBools, asStrs, Option.map, look, put, drp, drps, startR, List.length_cons, List.length_nil, List.map_cons, List.map_nil, List.replicate, List.append, List.cons_append, List.nil_append, List.append_nil, plain, true_and, and_true, Bool.not_true, Bool.not_false, Nat.zero_add, Nat.reduceAdd, Nat.reduceSub, Nat.reduceLeDiff, Nat.reduceEqDiff, ten6]
  exact ⟨rfl, mokr hn.1, mokr hn.2.2.1, mokr hn.2.1, mokr hn.2.2.2, mokr hn.1, mokr hn.2.2.1, mokr hn.2.1, mokr hn.2.2.2, h⟩
theorem law_times_b {m n : M} {Q : PyData → Prop} {E : Nat → Prop} (hm : m.le (2 ^ 9000)) (hn : n.le (2 ^ 9000)) (h : Q (m.mul n).p) : f_law_times [m.p, n.p] Q E := by
  simp only [f_law_times, b_law_times, ↓onB_b, ↓onI_i, ↓onStr_s, ↓onSeq_l, ↓onSeq_t, ↓onSeq_s, ↓onS_s, ↓dFn_e, ↓dVar_e, ↓dC_e, ↓dOp_e, ↓dUn_e, ↓dNil_e, ↓dCons_e, ↓dTup_e, ↓dLst_e, ↓dTest_e, ↓dAnd_e, ↓dOr_e, ↓dNot_e, ↓dAndV_e, ↓dOrV_e, ↓dNotV_e, ↓dIf_e, ↓dChain_e, ↓dCall_e, ↓dCB_e, ↓dNext_e, ↓dSeq_e, ↓dRet_e, ↓dDrop_e, ↓dAsg_e, ↓dIfS_e, ↓dRaise_e, ↓dgName_e, ↓dgNil_e, ↓dgCons_e, ↓dgTup_e, ↓dPar_e, ↓dPar3_e, ↓dFor_e, ↓dLc_e, lcL_n, lcL_c, ↓dYes_e, ↓dOver_e, ↓dRng1_e, ↓dRng2_e, ↓dPart_e, ↓dNoPart_e, ↓dMs_e, ↓dIsi_e, ↓dToldC_e, oAdd_ii, oAdd_ss, oAdd_ll, oSub_ii, oMul_ii, oMul_si, oDiv_ii, oMod_ii, oPow_ii, oNeg_i, oEq_ii, oNe_ii, oLt_ii, oLe_ii, oGt_ii, oGe_ii, oIs_e, oIsN_e, oIx_l, oIx_t, oIx_s, oLen_t, oLen_l, oAbs_i, oMax_l, oMin_l, oMin_t, oMax_t, oMax2_ii, oMin2_ii, oAll_l, oSum_l, oTuple_l, oSindex_ss, roll_e, ↓if_t, ↓if_f, if_T, if_F, Bool.false_eq_true, oLen_s, oList_t, oList_l, ↓dSl_e, onSl_l, onSl_s, isi_tt, isi_lt, isi_nt, isi_it, isi_bt, isi_st, isi_ii, isi_ib, isi_bi, isi_bb, isi_si, isi_ni, isi_ti, isi_li, isi_ss, isi_is, isi_bs, isi_ns, isi_ts, isi_ls, pl4, atI4_0, atI4_1, atI4_2, atI4_3, asInts, asBools, asStrs, Option.map, look, put, drp, drps, startR, List.length_cons, List.length_nil, List.map_cons, List.map_nil, List.replicate, List.append, List.cons_append, List.nil_append, List.append_nil, plain, true_and, and_true, Bool.not_true, Bool.not_false, Nat.zero_add, Nat.reduceAdd, Nat.reduceSub, Nat.reduceLeDiff, Nat.reduceEqDiff, ten6]
  exact ⟨rfl, mokb hm.1 hn.1, mokb hm.2.1 hn.2.2.1, mokb hm.1 hn.2.1, mokb hm.2.1 hn.2.2.2, mokb hm.2.2.1 hn.1, mokb hm.2.2.2 hn.2.2.1, mokb hm.2.2.1 hn.2.1, mokb hm.2.2.2 hn.2.2.2, h⟩

theorem occ6 : ∀ c, six c → ∃ k : Nat, (Builtin.Str.occurrences (Str.ofString "stTwvl") ⟨#[c]⟩ 0 (Str.ofString "stTwvl").length 1).head? = some k ∧ atI [PyData.tuple [.int 0, .int (-1), .int 1, .int 0], .tuple [.int 1, .int 1, .int 0, .int 1], .tuple [.int 1, .int (-1), .int 0, .int 1], .tuple [.int 0, .int (-1), .int 1, .int 1], .tuple [.int (-1), .int (-1), .int 1, .int 0], .tuple [.int 1, .int 0, .int 1, .int 1]] (k : Int) = some (L c).p := by
  rintro c (rfl | rfl | rfl | rfl | rfl | rfl)
  · exact ⟨0, by decide +kernel, rfl⟩
  · exact ⟨1, by decide +kernel, rfl⟩
  · exact ⟨2, by decide +kernel, rfl⟩
  · exact ⟨3, by decide +kernel, rfl⟩
  · exact ⟨4, by decide +kernel, rfl⟩
  · exact ⟨5, by decide +kernel, rfl⟩
theorem law_letter_ok {c : Nat} {Q : PyData → Prop} {E : Nat → Prop} (hc : six c) (h : Q (L c).p) : f_law_letter [ch c] Q E := by
  obtain ⟨k, h1, h2⟩ := occ6 c hc
  simp only [f_law_letter, b_law_letter, h1, h2, ↓onB_b, ↓onI_i, ↓onStr_s, ↓onSeq_l, ↓onSeq_t, ↓onSeq_s, ↓onS_s, ↓dFn_e, ↓dVar_e, ↓dC_e, ↓dOp_e, ↓dUn_e, ↓dNil_e, ↓dCons_e, ↓dTup_e, ↓dLst_e, ↓dTest_e, ↓dAnd_e, ↓dOr_e, ↓dNot_e, ↓dAndV_e, ↓dOrV_e, ↓dNotV_e, ↓dIf_e, ↓dChain_e, ↓dCall_e, ↓dCB_e, ↓dNext_e, ↓dSeq_e, ↓dRet_e, ↓dDrop_e, ↓dAsg_e, ↓dIfS_e, ↓dRaise_e, ↓dgName_e, ↓dgNil_e, ↓dgCons_e, ↓dgTup_e, ↓dPar_e, ↓dPar3_e, ↓dFor_e, ↓dLc_e, lcL_n, lcL_c, ↓dYes_e, ↓dOver_e, ↓dRng1_e, ↓dRng2_e, ↓dPart_e, ↓dNoPart_e, ↓dMs_e, ↓dIsi_e, ↓dToldC_e, oAdd_ii, oAdd_ss, oAdd_ll, oSub_ii, oMul_ii, oMul_si, oDiv_ii, oMod_ii, oPow_ii, oNeg_i, oEq_ii, oNe_ii, oLt_ii, oLe_ii, oGt_ii, oGe_ii, oIs_e, oIsN_e, oIx_l, oIx_t, oIx_s, oLen_t, oLen_l, oAbs_i, oMax_l, oMin_l, oMin_t, oMax_t, oMax2_ii, oMin2_ii, oAll_l, oSum_l, oTuple_l, oSindex_ss, roll_e, ↓if_t, ↓if_f, if_T, if_F, Bool.false_eq_true, oLen_s, oList_t, oList_l, ↓dSl_e, onSl_l, onSl_s, isi_tt, isi_lt, isi_nt, isi_it, isi_bt, isi_st, isi_ii, isi_ib, isi_bi, isi_bb, isi_si, isi_ni, isi_ti, isi_li, isi_ss, isi_is, isi_bs, isi_ns, isi_ts, isi_ls, pl4, atI4_0, atI4_1, atI4_2, atI4_3, asInts, asBools, asStrs, Option.map, look, put, drp, drps, startR, List.length_cons, List.length_nil, List.map_cons, List.map_nil, List.replicate, List.append, List.cons_append, List.nil_append, List.append_nil, plain, true_and, and_true, Bool.not_true, Bool.not_false, Nat.zero_add, Nat.reduceAdd, Nat.reduceSub, Nat.reduceLeDiff, Nat.reduceEqDiff, ten6]
  exact ⟨rfl, h⟩

theorem law_product_loop {Q : PyData → Prop} {E : Nat → Prop} {s : PyData} : ∀ (w : List Nat) (m : M) (x : Option PyData), (∀ c ∈ w, six c) → Q (wm m w).p →
    forL (dgName 2) (dAsg (dCall 2 f_law_times (dCons (dVar 1) (dCons (dCall 1 f_law_letter (dCons (dVar 2) dNil)) dNil))) (dgName 1)) (fun r' => dRet (dVar 1) r' (fun _ => Q .none) Q E) Q E (w.map ch) [some s, some m.p, x]
  | [], m, x, _, h => by
    rw [List.map_nil, forL_n, dRet_e, dVar_e]
    exact h
  | c :: w, m, x, hw, h => by
    rw [List.map_cons, forL_c]
    simp only [↓onB_b, ↓onI_i, ↓onStr_s, ↓onSeq_l, ↓onSeq_t, ↓onSeq_s, ↓onS_s, ↓dFn_e, ↓dVar_e, ↓dC_e, ↓dOp_e, ↓dUn_e, ↓dNil_e, ↓dCons_e, ↓dTup_e, ↓dLst_e, ↓dTest_e, ↓dAnd_e, ↓dOr_e, ↓dNot_e, ↓dAndV_e, ↓dOrV_e, ↓dNotV_e, ↓dIf_e, ↓dChain_e, ↓dCall_e, ↓dCB_e, ↓dNext_e, ↓dSeq_e, ↓dRet_e, ↓dDrop_e, ↓dAsg_e, ↓dIfS_e, ↓dRaise_e, ↓dgName_e, ↓dgNil_e, ↓dgCons_e, ↓dgTup_e, ↓dPar_e, ↓dPar3_e, ↓dFor_e, ↓dLc_e, lcL_n, lcL_c, ↓dYes_e, ↓dOver_e, ↓dRng1_e, ↓dRng2_e, ↓dPart_e, ↓dNoPart_e, ↓dMs_e, ↓dIsi_e, ↓dToldC_e, oAdd_ii, oAdd_ss, oAdd_ll, oSub_ii, oMul_ii, oMul_si, oDiv_ii, oMod_ii, oPow_ii, oNeg_i, oEq_ii, oNe_ii, oLt_ii, oLe_ii, oGt_ii, oGe_ii, oIs_e, oIsN_e, oIx_l, oIx_t, oIx_s, oLen_t, oLen_l, oAbs_i, oMax_l, oMin_l, oMin_t, oMax_t, oMax2_ii, oMin2_ii, oAll_l, oSum_l, oTuple_l, oSindex_ss, roll_e, ↓if_t, ↓if_f, if_T, if_F, Bool.false_eq_true, oLen_s, oList_t, oList_l, ↓dSl_e, onSl_l, onSl_s, isi_tt, isi_lt, isi_nt, isi_it, isi_bt, isi_st, isi_ii, isi_ib, isi_bi, isi_bb, isi_si, isi_ni, isi_ti, isi_li, isi_ss, isi_is, isi_bs, isi_ns, isi_ts, isi_ls, pl4, atI4_0, atI4_1, atI4_2, atI4_3, asInts, asBools, asStrs, Option.map, look, put, drp, drps, startR, List.length_cons, List.length_nil, List.map_cons, List.map_nil, List.replicate, List.append, List.cons_append, List.nil_append, List.append_nil, plain, true_and, and_true, Bool.not_true, Bool.not_false, Nat.zero_add, Nat.reduceAdd, Nat.reduceSub, Nat.reduceLeDiff, Nat.reduceEqDiff, ten6]
    refine law_letter_ok (hw c List.mem_cons_self) (law_times_r ((L_le c).mono (by decide)) ?_)
    exact law_product_loop w (m.mul (L c)) (some (ch c)) (fun d hd => hw d (List.mem_cons_of_mem _ hd)) h
theorem law_product_ok {w : List Nat} {Q : PyData → Prop} {E : Nat → Prop} (hw : ∀ c ∈ w, six c) (h : Q (wm .one w).p) : f_law_product [W w] Q E := by
  have := law_product_loop (Q := Q) (E := E) (s := W w) w .one none hw h
  rw [f_law_product, b_law_product, dFn_e, dSeq_e, dAsg_e]
  simp only [dTup_e, dCons_e, dC_e, dNil_e, pl4, List.length_cons, List.length_nil, true_and]
  refine ⟨by decide, ?_⟩
  rw [dgName_e, dSeq_e, dFor_e, dOver_e, dVar_e]
  exact this

/-- one letter more, what cancels taken out; the word from its end -/
def p1 (g : List Nat) (c : Nat) : List Nat := if (c :: g).take 2 = [84, 116] ∨ (c :: g).take 2 = [116, 84] then (c :: g).drop 2 else if (c :: g).take 4 = [115, 115, 115, 115] then (c :: g).drop 4 else c :: g
def Red (g : List Nat) : Prop := ∀ i, (g.drop i).take 2 ≠ [84, 116] ∧ (g.drop i).take 2 ≠ [116, 84] ∧ (g.drop i).take 4 ≠ [115, 115, 115, 115]
theorem Red.drop {g : List Nat} (h : Red g) (k : Nat) : Red (g.drop k) := fun i => by
  rw [List.drop_drop]
  exact h _
theorem red_nil : Red [] := fun i => by simp
theorem red_p1 {g : List Nat} {c : Nat} (h : Red g) : Red (p1 g c) := by
  unfold p1
  by_cases h1 : (c :: g).take 2 = [84, 116] ∨ (c :: g).take 2 = [116, 84]
  · rw [if_pos h1]
    exact h.drop 1
  · rw [if_neg h1]
    by_cases h2 : (c :: g).take 4 = [115, 115, 115, 115]
    · rw [if_pos h2]
      exact h.drop 3
    · rw [if_neg h2]
      intro i
      cases i with
      | zero => exact ⟨fun z => h1 (.inl z), fun z => h1 (.inr z), h2⟩
      | succ i => exact h i
theorem p1_sub {g : List Nat} {c x : Nat} (h : x ∈ p1 g c) : x = c ∨ x ∈ g := by
  unfold p1 at h
  split at h
  · exact .inr (List.mem_of_mem_drop (i := 1) h)
  · split at h
    · exact .inr (List.mem_of_mem_drop (i := 3) h)
    · exact List.mem_cons.mp h
theorem p1_len (g : List Nat) (c : Nat) : (p1 g c).length ≤ g.length + 1 := by
  unfold p1
  split
  · simp; omega
  · split
    · simp; omega
    · simp
theorem fold_three : ∀ (w g : List Nat), (∀ c ∈ w, three c) → (∀ c ∈ g, three c) → ∀ c ∈ w.foldl p1 g, three c
  | [], _, _, hg => hg
  | d :: w, g, hw, hg => fold_three w (p1 g d) (fun c hc => hw c (List.mem_cons_of_mem _ hc)) fun c hc => by
    rcases p1_sub hc with z | z
    · rw [z]
      exact hw d List.mem_cons_self
    · exact hg c z
theorem fold_len : ∀ (w g : List Nat), (w.foldl p1 g).length ≤ g.length + w.length
  | [], g => Nat.le_refl _
  | d :: w, g => by
    have := fold_len w (p1 g d)
    have := p1_len g d
    show (w.foldl p1 (p1 g d)).length ≤ _
    rw [List.length_cons]
    omega
abbrev shr (w : List Nat) : List Nat := (w.foldl p1 []).reverse
theorem shr_three {w : List Nat} (h : ∀ c ∈ w, three c) : ∀ c ∈ shr w, three c := fun c hc => fold_three w [] h (fun _ z => nomatch z) c (List.mem_reverse.mp hc)
theorem shr_len (w : List Nat) : (shr w).length ≤ w.length := by
  have := fold_len w []
  rw [List.length_reverse]
  simpa using this
theorem asc1 {c : Nat} (h : three c) : c < 128 := by rcases h with h | h | h <;> omega
theorem asc3 {w : List Nat} (h : ∀ c ∈ w, three c) : asc w := fun c hc => asc1 (h c hc)
theorem cut_end (l : List Nat) (k : Nat) (hk : 0 < k) : cutS ⟨l.reverse.toArray⟩ (some (-(k : Int))) none = ⟨(l.take k).reverse.toArray⟩ := by
  have e0 : (⟨l.reverse.toArray⟩ : Str).length = l.length := by rw [W_len, List.length_reverse]
  have e1 : HT.sIx l.length 0 (some (-(k : Int))) = l.length - k := by
    show (if (-(k : Int)) < 0 then (-(k : Int) + (l.length : Int)).toNat else _) = _
    rw [if_pos (by omega)]
    omega
  unfold cutS
  rw [e0, e1, HT.sIx_none, W_list, List.drop_reverse]
  congr 2
  rw [List.take_of_length_le (by rw [List.length_reverse, List.length_take]; omega)]
  congr 1
  by_cases h : k ≤ l.length
  · congr 1
    omega
  · rw [List.take_of_length_le (by omega), List.take_of_length_le (by omega)]
theorem cut_beg (l : List Nat) (k : Nat) (hk : 0 < k) : cutS ⟨l.reverse.toArray⟩ none (some (-(k : Int))) = ⟨(l.drop k).reverse.toArray⟩ := by
  have e0 : (⟨l.reverse.toArray⟩ : Str).length = l.length := by rw [W_len, List.length_reverse]
  have e1 : HT.sIx l.length l.length (some (-(k : Int))) = l.length - k := by
    show (if (-(k : Int)) < 0 then (-(k : Int) + (l.length : Int)).toNat else _) = _
    rw [if_pos (by omega)]
    omega
  unfold cutS
  rw [e0, e1, HT.sIx_none, W_list, List.drop_zero, Nat.sub_zero, List.take_reverse]
  congr 3
  by_cases h : k ≤ l.length
  · congr 1
    omega
  · rw [List.drop_eq_nil_of_le (by omega), List.drop_eq_nil_of_le (by omega)]
theorem s_tT : Str.ofString "tT" = ⟨[116, 84].toArray⟩ := by decide +kernel
theorem s_Tt : Str.ofString "Tt" = ⟨[84, 116].toArray⟩ := by decide +kernel
theorem s_s4 : Str.ofString "ssss" = ⟨[115, 115, 115, 115].toArray⟩ := by decide +kernel
theorem rev_eq {a b : List Nat} : decide ((⟨a.reverse.toArray⟩ : Str) = ⟨b.toArray⟩) = decide (a = b.reverse) := by
  rw [decide_eq_decide, str_inj]
  constructor
  · intro h
    rw [← h, List.reverse_reverse]
  · intro h
    rw [h, List.reverse_reverse]
theorem app_rev (g : List Nat) (c : Nat) : ((⟨g.reverse.toArray⟩ : Str) ++ (⟨#[c]⟩ : Str)) = ⟨(c :: g).reverse.toArray⟩ := by
  rw [show (#[c] : Array Nat) = [c].toArray from rfl, str_app, List.reverse_cons]
/-- a part taken from the end, if it stands there -/
def cutP (p : List Nat) (l : List Nat) : List Nat := if l.take p.length = p.reverse then l.drop p.length else l
theorem part_ok {p l : List Nat} {z : Str} {k : Rho → Prop} {E : Nat → Prop} {rt : PyData → Prop} {s x2 : Option PyData} (hz : z = ⟨p.toArray⟩) (hp : 0 < p.length) (hl : l.length ≤ 100000) (hp2 : p.length ≤ 100) (h : k [s, some (W (cutP p l).reverse), x2, some (.str z)]) :
    dIfS (dTest (dOp oEq (dSl (dVar 1) (dPart (dUn oNeg (dCB oLen (dCons (dVar 3) dNil)))) dNoPart) (dVar 3))) (dAsg (dSl (dVar 1) dNoPart (dPart (dUn oNeg (dCB oLen (dCons (dVar 3) dNil))))) (dgName 1)) dNext [s, some (W l.reverse), x2, some (.str z)] k rt E := by
  subst hz
  simp only [oEq_s2, W_len, ↓onB_b, ↓onI_i, ↓onStr_s, ↓onSeq_l, ↓onSeq_t, ↓onSeq_s, ↓onS_s, ↓dFn_e, ↓dVar_e, ↓dC_e, ↓dOp_e, ↓dUn_e, ↓dNil_e, ↓dCons_e, ↓dTup_e, ↓dLst_e, ↓dTest_e, ↓dAnd_e, ↓dOr_e, ↓dNot_e, ↓dAndV_e, ↓dOrV_e, ↓dNotV_e, ↓dIf_e, ↓dChain_e, ↓dCall_e, ↓dCB_e, ↓dNext_e, ↓dRet_e, ↓dDrop_e, ↓dAsg_e, ↓dIfS_e, ↓dRaise_e, ↓dgName_e, ↓dgNil_e, ↓dgCons_e, ↓dgTup_e, ↓dPar_e, ↓dPar3_e, ↓dFor_e, ↓dLc_e, lcL_n, lcL_c, ↓dYes_e, ↓dOver_e, ↓dRng1_e, ↓dRng2_e, ↓dPart_e, ↓dNoPart_e, ↓dMs_e, ↓dIsi_e, ↓dToldC_e, oAdd_ii, oAdd_ss, oAdd_ll, oSub_ii, oMul_ii, oMul_si, oDiv_ii, oMod_ii, oPow_ii, oNeg_i, oEq_ii, oNe_ii, oLt_ii, oLe_ii, oGt_ii, oGe_ii, oIs_e, oIsN_e, oIx_l, oIx_t, oIx_s, oLen_t, oLen_l, oAbs_i, oMax_l, oMin_l, oMin_t, oMax_t, oMax2_ii, oMin2_ii, oAll_l, oSum_l, oTuple_l, oSindex_ss, roll_e, ↓if_t, ↓if_f, if_T, if_F, Bool.false_eq_true, oLen_s, oList_t, oList_l, ↓dSl_e, onSl_l, onSl_s, isi_tt, isi_lt, isi_nt, isi_it, isi_bt, isi_st, isi_ii, isi_ib, isi_bi, isi_bb, isi_si, isi_ni, isi_ti, isi_li, isi_ss, isi_is, isi_bs, isi_ns, isi_ts, isi_ls, pl4, atI4_0, atI4_1, atI4_2, atI4_3, asInts, asBools, asStrs, Option.map, look, put, drp, drps, startR, List.length_cons, List.length_nil, List.map_cons, List.map_nil, List.replicate, List.append, List.cons_append, List.nil_append, List.append_nil, plain, true_and, and_true, Bool.not_true, Bool.not_false, Nat.zero_add, Nat.reduceAdd, Nat.reduceSub, Nat.reduceLeDiff, Nat.reduceEqDiff, ten6, ↓zFn_e, ↓zE_e, ↓zS_e, ↓dK_e, ↓zCall_e, ↓zIfS_e, ↓zRet_e, ↓zDrop_e, ↓zAsg_e, ↓zNext_e, ↓zForR_e, ↓dFld_e, ↓zSet_e, ↓zMeth_e, ↓zLen_e, ↓zTold_e, g3_0, g3_1, g3_2, t3_0, t3_1, t3_2, desk_eq]
  rw [List.length_reverse]
  refine ⟨by omega, by omega, ?_⟩
  rw [cut_end l p.length hp, rev_eq]
  unfold cutP at h
  by_cases c : l.take p.length = p.reverse
  · rw [decide_eq_true c, if_t]
    rw [if_pos c] at h
    refine ⟨by omega, by omega, ?_⟩
    rw [cut_beg l p.length hp]
    exact h
  · rw [decide_eq_false c, if_f]
    rw [if_neg c] at h
    exact h
theorem cut_all {g : List Nat} {c : Nat} (h : Red g) : cutP [115, 115, 115, 115] (cutP [84, 116] (cutP [116, 84] (c :: g))) = p1 g c := by
  have no : ∀ (j : Nat) (p : List Nat), p = [116, 84] ∨ p = [84, 116] ∨ p = [115, 115, 115, 115] → cutP p (g.drop j) = g.drop j := fun j p hp => by
    unfold cutP
    rcases hp with rfl | rfl | rfl
    · exact if_neg (h j).1
    · exact if_neg (h j).2.1
    · exact if_neg (h j).2.2
  unfold p1
  by_cases h1 : (c :: g).take 2 = [84, 116]
  · have e : cutP [116, 84] (c :: g) = g.drop 1 := if_pos h1
    rw [e, no 1 _ (.inr (.inl rfl)), no 1 _ (.inr (.inr rfl)), if_pos (.inl h1)]
    rfl
  · have e : cutP [116, 84] (c :: g) = c :: g := if_neg h1
    rw [e]
    by_cases h2 : (c :: g).take 2 = [116, 84]
    · have e : cutP [84, 116] (c :: g) = g.drop 1 := if_pos h2
      rw [e, no 1 _ (.inr (.inr rfl)), if_pos (.inr h2)]
      rfl
    · have e : cutP [84, 116] (c :: g) = c :: g := if_neg h2
      rw [e, if_neg (fun z => z.elim h1 h2)]
      rfl
theorem cutP_len (p l : List Nat) : (cutP p l).length ≤ l.length := by
  unfold cutP
  split
  · rw [List.length_drop]
    omega
  · exact Nat.le_refl _
theorem law_short_ok {w : List Nat} {Q : PyData → Prop} {E : Nat → Prop} (hw : ∀ c ∈ w, three c) (hl : w.length ≤ 10000) (h : Q (W (shr w))) : f_law_short [W w] Q E := by
  rw [f_law_short, b_law_short, dFn_e, dSeq_e]
  simp only [↓onB_b, ↓onI_i, ↓onStr_s, ↓onSeq_l, ↓onSeq_t, ↓onSeq_s, ↓onS_s, ↓dFn_e, ↓dVar_e, ↓dC_e, ↓dOp_e, ↓dUn_e, ↓dNil_e, ↓dCons_e, ↓dTup_e, ↓dLst_e, ↓dTest_e, ↓dAnd_e, ↓dOr_e, ↓dNot_e, ↓dAndV_e, ↓dOrV_e, ↓dNotV_e, ↓dIf_e, ↓dChain_e, ↓dCall_e, ↓dCB_e, ↓dNext_e, ↓dRet_e, ↓dDrop_e, ↓dAsg_e, ↓dIfS_e, ↓dRaise_e, ↓dgName_e, ↓dgNil_e, ↓dgCons_e, ↓dgTup_e, ↓dPar_e, ↓dPar3_e, ↓dFor_e, ↓dLc_e, lcL_n, lcL_c, ↓dYes_e, ↓dOver_e, ↓dRng1_e, ↓dRng2_e, ↓dPart_e, ↓dNoPart_e, ↓dMs_e, ↓dIsi_e, ↓dToldC_e, oAdd_ii, oAdd_ss, oAdd_ll, oSub_ii, oMul_ii, oMul_si, oDiv_ii, oMod_ii, oPow_ii, oNeg_i, oEq_ii, oNe_ii, oLt_ii, oLe_ii, oGt_ii, oGe_ii, oIs_e, oIsN_e, oIx_l, oIx_t, oIx_s, oLen_t, oLen_l, oAbs_i, oMax_l, oMin_l, oMin_t, oMax_t, oMax2_ii, oMin2_ii, oAll_l, oSum_l, oTuple_l, oSindex_ss, roll_e, ↓if_t, ↓if_f, if_T, if_F, Bool.false_eq_true, oLen_s, oList_t, oList_l, ↓dSl_e, onSl_l, onSl_s, isi_tt, isi_lt, isi_nt, isi_it, isi_bt, isi_st, isi_ii, isi_ib, isi_bi, isi_bb, isi_si, isi_ni, isi_ti, isi_li, isi_ss, isi_is, isi_bs, isi_ns, isi_ts, isi_ls, pl4, atI4_0, atI4_1, atI4_2, atI4_3, asInts, asBools, asStrs, Option.map, look, put, drp, drps, startR, List.length_cons, List.length_nil, List.map_cons, List.map_nil, List.replicate, List.append, List.cons_append, List.nil_append, List.append_nil, plain, true_and, and_true, Bool.not_true, Bool.not_false, Nat.zero_add, Nat.reduceAdd, Nat.reduceSub, Nat.reduceLeDiff, Nat.reduceEqDiff, ten6]
  rw [dSeq_e]
  simp only [↓onB_b, ↓onI_i, ↓onStr_s, ↓onSeq_l, ↓onSeq_t, ↓onSeq_s, ↓onS_s, ↓dFn_e, ↓dVar_e, ↓dC_e, ↓dOp_e, ↓dUn_e, ↓dNil_e, ↓dCons_e, ↓dTup_e, ↓dLst_e, ↓dTest_e, ↓dAnd_e, ↓dOr_e, ↓dNot_e, ↓dAndV_e, ↓dOrV_e, ↓dNotV_e, ↓dIf_e, ↓dChain_e, ↓dCall_e, ↓dCB_e, ↓dNext_e, ↓dRet_e, ↓dDrop_e, ↓dAsg_e, ↓dIfS_e, ↓dRaise_e, ↓dgName_e, ↓dgNil_e, ↓dgCons_e, ↓dgTup_e, ↓dPar_e, ↓dPar3_e, ↓dFor_e, ↓dLc_e, lcL_n, lcL_c, ↓dYes_e, ↓dOver_e, ↓dRng1_e, ↓dRng2_e, ↓dPart_e, ↓dNoPart_e, ↓dMs_e, ↓dIsi_e, ↓dToldC_e, oAdd_ii, oAdd_ss, oAdd_ll, oSub_ii, oMul_ii, oMul_si, oDiv_ii, oMod_ii, oPow_ii, oNeg_i, oEq_ii, oNe_ii, oLt_ii, oLe_ii, oGt_ii, oGe_ii, oIs_e, oIsN_e, oIx_l, oIx_t, oIx_s, oLen_t, oLen_l, oAbs_i, oMax_l, oMin_l, oMin_t, oMax_t, oMax2_ii, oMin2_ii, oAll_l, oSum_l, oTuple_l, oSindex_ss, roll_e, ↓if_t, ↓if_f, if_T, if_F, Bool.false_eq_true, oLen_s, oList_t, oList_l, ↓dSl_e, onSl_l, onSl_s, isi_tt, isi_lt, isi_nt, isi_it, isi_bt, isi_st, isi_ii, isi_ib, isi_bi, isi_bb, isi_si, isi_ni, isi_ti, isi_li, isi_ss, isi_is, isi_bs, isi_ns, isi_ts, isi_ls, pl4, atI4_0, atI4_1, atI4_2, atI4_3, asInts, asBools, asStrs, Option.map, look, put, drp, drps, startR, List.length_cons, List.length_nil, List.map_cons, List.map_nil, List.replicate, List.append, List.cons_append, List.nil_append, List.append_nil, plain, true_and, and_true, Bool.not_true, Bool.not_false, Nat.zero_add, Nat.reduceAdd, Nat.reduceSub, Nat.reduceLeDiff, Nat.reduceEqDiff, ten6]
  refine for_inv (fun xs r => ∃ (v g : List Nat) (x y : Option PyData), xs = v.map ch ∧ r = [some (W w), some (W g.reverse), x, y] ∧ Red g ∧ g.length + v.length ≤ 10000 ∧ (∀ c ∈ v, three c) ∧ v.foldl p1 g = w.foldl p1 []) ?_ ?_ _ _ ⟨w, [], none, none, rfl, by rw [empty_s]; rfl, red_nil, by simpa using hl, hw, rfl⟩
  · rintro x xs r k ⟨v, g, x2, x3, hx, rfl, hg, hlen, hv, hf⟩ hk
    cases v with
    | nil => cases hx
    | cons c v =>
      rw [List.map_cons] at hx
      obtain ⟨rfl, rfl⟩ := List.cons.inj hx
      rw [List.length_cons] at hlen
      rw [dgName_e, dSeq_e]
      simp only [↓onB_b, ↓onI_i, ↓onStr_s, ↓onSeq_l, ↓onSeq_t, ↓onSeq_s, ↓onS_s, ↓dFn_e, ↓dVar_e, ↓dC_e, ↓dOp_e, ↓dUn_e, ↓dNil_e, ↓dCons_e, ↓dTup_e, ↓dLst_e, ↓dTest_e, ↓dAnd_e, ↓dOr_e, ↓dNot_e, ↓dAndV_e, ↓dOrV_e, ↓dNotV_e, ↓dIf_e, ↓dChain_e, ↓dCall_e, ↓dCB_e, ↓dNext_e, ↓dRet_e, ↓dDrop_e, ↓dAsg_e, ↓dIfS_e, ↓dRaise_e, ↓dgName_e, ↓dgNil_e, ↓dgCons_e, ↓dgTup_e, ↓dPar_e, ↓dPar3_e, ↓dFor_e, ↓dLc_e, lcL_n, lcL_c, ↓dYes_e, ↓dOver_e, ↓dRng1_e, ↓dRng2_e, ↓dPart_e, ↓dNoPart_e, ↓dMs_e, ↓dIsi_e, ↓dToldC_e, oAdd_ii, oAdd_ss, oAdd_ll, oSub_ii, oMul_ii, oMul_si, oDiv_ii, oMod_ii, oPow_ii, oNeg_i, oEq_ii, oNe_ii, oLt_ii, oLe_ii, oGt_ii, oGe_ii, oIs_e, oIsN_e, oIx_l, oIx_t, oIx_s, oLen_t, oLen_l, oAbs_i, oMax_l, oMin_l, oMin_t, oMax_t, oMax2_ii, oMin2_ii, oAll_l, oSum_l, oTuple_l, oSindex_ss, roll_e, ↓if_t, ↓if_f, if_T, if_F, Bool.false_eq_true, oLen_s, oList_t, oList_l, ↓dSl_e, onSl_l, onSl_s, isi_tt, isi_lt, isi_nt, isi_it, isi_bt, isi_st, isi_ii, isi_ib, isi_bi, isi_bb, isi_si, isi_ni, isi_ti, isi_li, isi_ss, isi_is, isi_bs, isi_ns, isi_ts, isi_ls, pl4, atI4_0, atI4_1, atI4_2, atI4_3, asInts, asBools, asStrs, Option.map, look, put, drp, drps, startR, List.length_cons, List.length_nil, List.map_cons, List.map_nil, List.replicate, List.append, List.cons_append, List.nil_append, List.append_nil, plain, true_and, and_true, Bool.not_true, Bool.not_false, Nat.zero_add, Nat.reduceAdd, Nat.reduceSub, Nat.reduceLeDiff, Nat.reduceEqDiff, ten6]
      refine ⟨by rw [W_len, List.length_reverse]; show g.length + 1 ≤ _; omega, by decide, ?_⟩
      rw [app_rev, forL_c, dgName_e]
      refine part_ok (p := [116, 84]) s_tT (by decide) (by rw [List.length_cons]; omega) (by decide) ?_
      rw [forL_c, dgName_e]
      have l1 := cutP_len [116, 84] (c :: g)
      have l2 := cutP_len [84, 116] (cutP [116, 84] (c :: g))
      rw [List.length_cons] at l1
      refine part_ok (p := [84, 116]) s_Tt (by decide) (by omega) (by decide) ?_
      rw [forL_c, dgName_e]
      refine part_ok (p := [115, 115, 115, 115]) s_s4 (by decide) (by omega) (by decide) ?_
      rw [forL_n, cut_all hg]
      have l3 := p1_len g c
      exact hk _ ⟨v, p1 g c, _, _, rfl, rfl, red_p1 hg, by omega, fun d hd => hv d (List.mem_cons_of_mem _ hd), hf⟩
  · rintro r ⟨v, g, x2, x3, hx, rfl, hg, hlen, hv, hf⟩
    cases v with
    | cons c v => cases hx
    | nil =>
      simp only [↓onB_b, ↓onI_i, ↓onStr_s, ↓onSeq_l, ↓onSeq_t, ↓onSeq_s, ↓onS_s, ↓dFn_e, ↓dVar_e, ↓dC_e, ↓dOp_e, ↓dUn_e, ↓dNil_e, ↓dCons_e, ↓dTup_e, ↓dLst_e, ↓dTest_e, ↓dAnd_e, ↓dOr_e, ↓dNot_e, ↓dAndV_e, ↓dOrV_e, ↓dNotV_e, ↓dIf_e, ↓dChain_e, ↓dCall_e, ↓dCB_e, ↓dNext_e, ↓dRet_e, ↓dDrop_e, ↓dAsg_e, ↓dIfS_e, ↓dRaise_e, ↓dgName_e, ↓dgNil_e, ↓dgCons_e, ↓dgTup_e, ↓dPar_e, ↓dPar3_e, ↓dFor_e, ↓dLc_e, lcL_n, lcL_c, ↓dYes_e, ↓dOver_e, ↓dRng1_e, ↓dRng2_e, ↓dPart_e, ↓dNoPart_e, ↓dMs_e, ↓dIsi_e, ↓dToldC_e, oAdd_ii, oAdd_ss, oAdd_ll, oSub_ii, oMul_ii, oMul_si, oDiv_ii, oMod_ii, oPow_ii, oNeg_i, oEq_ii, oNe_ii, oLt_ii, oLe_ii, oGt_ii, oGe_ii, oIs_e, oIsN_e, oIx_l, oIx_t, oIx_s, oLen_t, oLen_l, oAbs_i, oMax_l, oMin_l, oMin_t, oMax_t, oMax2_ii, oMin2_ii, oAll_l, oSum_l, oTuple_l, oSindex_ss, roll_e, ↓if_t, ↓if_f, if_T, if_F, Bool.false_eq_true, oLen_s, oList_t, oList_l, ↓dSl_e, onSl_l, onSl_s, isi_tt, isi_lt, isi_nt, isi_it, isi_bt, isi_st, isi_ii, isi_ib, isi_bi, isi_bb, isi_si, isi_ni, isi_ti, isi_li, isi_ss, isi_is, isi_bs, isi_ns, isi_ts, isi_ls, pl4, atI4_0, atI4_1, atI4_2, atI4_3, asInts, asBools, asStrs, Option.map, look, put, drp, drps, startR, List.length_cons, List.length_nil, List.map_cons, List.map_nil, List.replicate, List.append, List.cons_append, List.nil_append, List.append_nil, plain, true_and, and_true, Bool.not_true, Bool.not_false, Nat.zero_add, Nat.reduceAdd, Nat.reduceSub, Nat.reduceLeDiff, Nat.reduceEqDiff, ten6]
      have e : g = w.foldl p1 [] := hf
      rw [e]
      exact h

theorem in_two {x : Str} {Q : PyData → Prop} (hs : SeqAt.shaped (.str x) = true) (h : Q (.bool (decide (x = Str.ofString "tT") || decide (x = Str.ofString "Tt")))) : oIn (.str x) (.tuple [.str (Str.ofString "tT"), .str (Str.ofString "Tt")]) Q := by
  refine ⟨hs, by decide +kernel, ?_⟩
  have e : ([PyData.str (Str.ofString "tT"), .str (Str.ofString "Tt")].any fun z => PyData.eqv z (.str x)) = (decide (Str.ofString "tT" = x) || (decide (Str.ofString "Tt" = x) || false)) := rfl
  rw [e, Bool.or_false]
  have e1 : decide (Str.ofString "tT" = x) = decide (x = Str.ofString "tT") := by rw [decide_eq_decide]; exact eq_comm
  have e2 : decide (Str.ofString "Tt" = x) = decide (x = Str.ofString "Tt") := by rw [decide_eq_decide]; exact eq_comm
  rw [e1, e2]
  exact h
theorem Desk_shorten_ok {n : List Nat} {e u : List (List Nat)} {Q : GS → PyData → Prop} {E : GS → Nat → Prop} (hn : ∀ c ∈ n, three c) (hl : n.length ≤ 10000) (he : e.length ≤ 10000) (h : Q (st (shr n) (e ++ [n]) []) (W (shr n))) : f_Desk_shorten (st n e u) [deskD] Q E := by
  rw [f_Desk_shorten, b_Desk_shorten, zFn_e, zSeq_e]
  simp only [↓onB_b, ↓onI_i, ↓onStr_s, ↓onSeq_l, ↓onSeq_t, ↓onSeq_s, ↓onS_s, ↓dFn_e, ↓dVar_e, ↓dC_e, ↓dOp_e, ↓dUn_e, ↓dNil_e, ↓dCons_e, ↓dTup_e, ↓dLst_e, ↓dTest_e, ↓dAnd_e, ↓dOr_e, ↓dNot_e, ↓dAndV_e, ↓dOrV_e, ↓dNotV_e, ↓dIf_e, ↓dChain_e, ↓dCall_e, ↓dCB_e, ↓dNext_e, ↓dRet_e, ↓dDrop_e, ↓dAsg_e, ↓dIfS_e, ↓dRaise_e, ↓dgName_e, ↓dgNil_e, ↓dgCons_e, ↓dgTup_e, ↓dPar_e, ↓dPar3_e, ↓dFor_e, ↓dLc_e, lcL_n, lcL_c, ↓dYes_e, ↓dOver_e, ↓dRng1_e, ↓dRng2_e, ↓dPart_e, ↓dNoPart_e, ↓dMs_e, ↓dIsi_e, ↓dToldC_e, oAdd_ii, oAdd_ss, oAdd_ll, oSub_ii, oMul_ii, oMul_si, oDiv_ii, oMod_ii, oPow_ii, oNeg_i, oEq_ii, oNe_ii, oLt_ii, oLe_ii, oGt_ii, oGe_ii, oIs_e, oIsN_e, oIx_l, oIx_t, oIx_s, oLen_t, oLen_l, oAbs_i, oMax_l, oMin_l, oMin_t, oMax_t, oMax2_ii, oMin2_ii, oAll_l, oSum_l, oTuple_l, oSindex_ss, roll_e, ↓if_t, ↓if_f, if_T, if_F, Bool.false_eq_true, oLen_s, oList_t, oList_l, ↓dSl_e, onSl_l, onSl_s, isi_tt, isi_lt, isi_nt, isi_it, isi_bt, isi_st, isi_ii, isi_ib, isi_bi, isi_bb, isi_si, isi_ni, isi_ti, isi_li, isi_ss, isi_is, isi_bs, isi_ns, isi_ts, isi_ls, pl4, atI4_0, atI4_1, atI4_2, atI4_3, asInts, asBools, asStrs, Option.map, look, put, drp, drps, startR, List.length_cons, List.length_nil, List.map_cons, List.map_nil, List.replicate, List.append, List.cons_append, List.nil_append, List.append_nil, plain, true_and, and_true, Bool.not_true, Bool.not_false, Nat.zero_add, Nat.reduceAdd, Nat.reduceSub, Nat.reduceLeDiff, Nat.reduceEqDiff, ten6, ↓zFn_e, ↓zE_e, ↓zS_e, ↓dK_e, ↓zCall_e, ↓zIfS_e, ↓zRet_e, ↓zDrop_e, ↓zAsg_e, ↓zNext_e, ↓zForR_e, ↓dFld_e, ↓zSet_e, ↓zMeth_e, ↓zLen_e, ↓zTold_e, g3_0, g3_1, g3_2, t3_0, t3_1, t3_2, desk_eq]
  rw [zSeq_e]
  simp only [↓onB_b, ↓onI_i, ↓onStr_s, ↓onSeq_l, ↓onSeq_t, ↓onSeq_s, ↓onS_s, ↓dFn_e, ↓dVar_e, ↓dC_e, ↓dOp_e, ↓dUn_e, ↓dNil_e, ↓dCons_e, ↓dTup_e, ↓dLst_e, ↓dTest_e, ↓dAnd_e, ↓dOr_e, ↓dNot_e, ↓dAndV_e, ↓dOrV_e, ↓dNotV_e, ↓dIf_e, ↓dChain_e, ↓dCall_e, ↓dCB_e, ↓dNext_e, ↓dRet_e, ↓dDrop_e, ↓dAsg_e, ↓dIfS_e, ↓dRaise_e, ↓dgName_e, ↓dgNil_e, ↓dgCons_e, ↓dgTup_e, ↓dPar_e, ↓dPar3_e, ↓dFor_e, ↓dLc_e, lcL_n, lcL_c, ↓dYes_e, ↓dOver_e, ↓dRng1_e, ↓dRng2_e, ↓dPart_e, ↓dNoPart_e, ↓dMs_e, ↓dIsi_e, ↓dToldC_e, oAdd_ii, oAdd_ss, oAdd_ll, oSub_ii, oMul_ii, oMul_si, oDiv_ii, oMod_ii, oPow_ii, oNeg_i, oEq_ii, oNe_ii, oLt_ii, oLe_ii, oGt_ii, oGe_ii, oIs_e, oIsN_e, oIx_l, oIx_t, oIx_s, oLen_t, oLen_l, oAbs_i, oMax_l, oMin_l, oMin_t, oMax_t, oMax2_ii, oMin2_ii, oAll_l, oSum_l, oTuple_l, oSindex_ss, roll_e, ↓if_t, ↓if_f, if_T, if_F, Bool.false_eq_true, oLen_s, oList_t, oList_l, ↓dSl_e, onSl_l, onSl_s, isi_tt, isi_lt, isi_nt, isi_it, isi_bt, isi_st, isi_ii, isi_ib, isi_bi, isi_bb, isi_si, isi_ni, isi_ti, isi_li, isi_ss, isi_is, isi_bs, isi_ns, isi_ts, isi_ls, pl4, atI4_0, atI4_1, atI4_2, atI4_3, asInts, asBools, asStrs, Option.map, look, put, drp, drps, startR, List.length_cons, List.length_nil, List.map_cons, List.map_nil, List.replicate, List.append, List.cons_append, List.nil_append, List.append_nil, plain, true_and, and_true, Bool.not_true, Bool.not_false, Nat.zero_add, Nat.reduceAdd, Nat.reduceSub, Nat.reduceLeDiff, Nat.reduceEqDiff, ten6, ↓zFn_e, ↓zE_e, ↓zS_e, ↓dK_e, ↓zCall_e, ↓zIfS_e, ↓zRet_e, ↓zDrop_e, ↓zAsg_e, ↓zNext_e, ↓zForR_e, ↓dFld_e, ↓zSet_e, ↓zMeth_e, ↓zLen_e, ↓zTold_e, g3_0, g3_1, g3_2, t3_0, t3_1, t3_2, desk_eq]
  refine for_inv (fun xs r => ∃ (v g : List Nat) (x : Option PyData), xs = v.map ch ∧ r = [some deskD, some (W g.reverse), x] ∧ g.length + v.length ≤ 10000 ∧ (∀ c ∈ v, three c) ∧ (∀ c ∈ g, three c) ∧ v.foldl p1 g = n.foldl p1 []) ?_ ?_ _ _ ⟨n, [], none, rfl, by rw [empty_s]; rfl, by simpa using hl, hn, fun c hc => absurd hc List.not_mem_nil, rfl⟩
  · rintro x xs r k ⟨v, g, x2, hx, rfl, hlen, hv, hg, hf⟩ hk
    cases v with
    | nil => cases hx
    | cons c v =>
      rw [List.map_cons] at hx
      obtain ⟨rfl, rfl⟩ := List.cons.inj hx
      rw [List.length_cons] at hlen
      rw [dgName_e, dSeq_e]
      simp only [↓onB_b, ↓onI_i, ↓onStr_s, ↓onSeq_l, ↓onSeq_t, ↓onSeq_s, ↓onS_s, ↓dFn_e, ↓dVar_e, ↓dC_e, ↓dOp_e, ↓dUn_e, ↓dNil_e, ↓dCons_e, ↓dTup_e, ↓dLst_e, ↓dTest_e, ↓dAnd_e, ↓dOr_e, ↓dNot_e, ↓dAndV_e, ↓dOrV_e, ↓dNotV_e, ↓dIf_e, ↓dChain_e, ↓dCall_e, ↓dCB_e, ↓dNext_e, ↓dRet_e, ↓dDrop_e, ↓dAsg_e, ↓dIfS_e, ↓dRaise_e, ↓dgName_e, ↓dgNil_e, ↓dgCons_e, ↓dgTup_e, ↓dPar_e, ↓dPar3_e, ↓dFor_e, ↓dLc_e, lcL_n, lcL_c, ↓dYes_e, ↓dOver_e, ↓dRng1_e, ↓dRng2_e, ↓dPart_e, ↓dNoPart_e, ↓dMs_e, ↓dIsi_e, ↓dToldC_e, oAdd_ii, oAdd_ss, oAdd_ll, oSub_ii, oMul_ii, oMul_si, oDiv_ii, oMod_ii, oPow_ii, oNeg_i, oEq_ii, oNe_ii, oLt_ii, oLe_ii, oGt_ii, oGe_ii, oIs_e, oIsN_e, oIx_l, oIx_t, oIx_s, oLen_t, oLen_l, oAbs_i, oMax_l, oMin_l, oMin_t, oMax_t, oMax2_ii, oMin2_ii, oAll_l, oSum_l, oTuple_l, oSindex_ss, roll_e, ↓if_t, ↓if_f, if_T, if_F, Bool.false_eq_true, oLen_s, oList_t, oList_l, ↓dSl_e, onSl_l, onSl_s, isi_tt, isi_lt, isi_nt, isi_it, isi_bt, isi_st, isi_ii, isi_ib, isi_bi, isi_bb, isi_si, isi_ni, isi_ti, isi_li, isi_ss, isi_is, isi_bs, isi_ns, isi_ts, isi_ls, pl4, atI4_0, atI4_1, atI4_2, atI4_3, asInts, asBools, asStrs, Option.map, look, put, drp, drps, startR, List.length_cons, List.length_nil, List.map_cons, List.map_nil, List.replicate, List.append, List.cons_append, List.nil_append, List.append_nil, plain, true_and, and_true, Bool.not_true, Bool.not_false, Nat.zero_add, Nat.reduceAdd, Nat.reduceSub, Nat.reduceLeDiff, Nat.reduceEqDiff, ten6, ↓zFn_e, ↓zE_e, ↓zS_e, ↓dK_e, ↓zCall_e, ↓zIfS_e, ↓zRet_e, ↓zDrop_e, ↓zAsg_e, ↓zNext_e, ↓zForR_e, ↓dFld_e, ↓zSet_e, ↓zMeth_e, ↓zLen_e, ↓zTold_e, g3_0, g3_1, g3_2, t3_0, t3_1, t3_2, desk_eq]
      have hcg : ∀ d ∈ c :: g, three d := fun d hd => by
        rcases List.mem_cons.mp hd with z | z
        · rw [z]
          exact hv c List.mem_cons_self
        · exact hg d z
      have l3 := p1_len g c
      have fin : ∀ y, k [some deskD, some (W (p1 g c).reverse), y] := fun y => hk _ ⟨v, p1 g c, y, rfl, rfl, by omega, fun d hd => hv d (List.mem_cons_of_mem _ hd), fun d hd => by
        rcases p1_sub hd with z | z
        · rw [z]
          exact hv c List.mem_cons_self
        · exact hg d z, hf⟩
      refine ⟨by rw [W_len, List.length_reverse]; show g.length + 1 ≤ _; omega, ?_⟩
      rw [app_rev, W_len, List.length_reverse, List.length_cons]
      have e2 := cut_end (c :: g) 2 (by decide)
      have e4 := cut_end (c :: g) 4 (by decide)
      have b2 := cut_beg (c :: g) 2 (by decide)
      have b4 := cut_beg (c :: g) 4 (by decide)
      refine ⟨by omega, ?_⟩
      rw [show (-2 : Int) = -((2 : Nat) : Int) from rfl, show (-4 : Int) = -((4 : Nat) : Int) from rfl, e2, e4, b2, b4]
      refine ⟨rfl, ?_⟩
      refine in_two (shW (asc3 fun d hd => hcg d (List.mem_of_mem_take (List.mem_reverse.mp hd)))) ?_
      rw [s_tT, s_Tt, rev_eq, rev_eq, onB_b]
      have ep : p1 g c = if (c :: g).take 2 = [84, 116] ∨ (c :: g).take 2 = [116, 84] then (c :: g).drop 2 else if (c :: g).take 4 = [115, 115, 115, 115] then (c :: g).drop 4 else c :: g := rfl
      by_cases h1 : (c :: g).take 2 = [84, 116] ∨ (c :: g).take 2 = [116, 84]
      · rw [if_pos h1] at ep
        have eb : (decide ((c :: g).take 2 = [116, 84].reverse) || decide ((c :: g).take 2 = [84, 116].reverse)) = true := by
          rw [Bool.or_eq_true, decide_eq_true_eq, decide_eq_true_eq]
          exact h1
        rw [eb, if_t, ← ep]
        exact ⟨by omega, fin _⟩
      · rw [if_neg h1] at ep
        have eb : (decide ((c :: g).take 2 = [116, 84].reverse) || decide ((c :: g).take 2 = [84, 116].reverse)) = false := by
          rw [Bool.or_eq_false_iff, decide_eq_false_iff_not, decide_eq_false_iff_not]
          exact ⟨fun z => h1 (.inl z), fun z => h1 (.inr z)⟩
        rw [eb, if_f]
        refine ⟨by omega, ?_⟩
        rw [oEq_s2, onB_b, s_s4, rev_eq]
        by_cases h2 : (c :: g).take 4 = [115, 115, 115, 115]
        · rw [if_pos h2] at ep
          rw [decide_eq_true (show (c :: g).take 4 = [115, 115, 115, 115].reverse from h2), if_t, ← ep]
          exact ⟨by omega, fin _⟩
        · rw [if_neg h2] at ep
          rw [decide_eq_false (show ¬ (c :: g).take 4 = [115, 115, 115, 115].reverse from h2), if_f, ← ep]
          exact fin _
  · rintro r ⟨v, g, x2, hx, rfl, hlen, hv, hg, hf⟩
    cases v with
    | cons c v => cases hx
    | nil =>
      have eg : g = n.foldl p1 [] := hf
      rw [zSeq_e]
      simp only [↓onB_b, ↓onI_i, ↓onStr_s, ↓onSeq_l, ↓onSeq_t, ↓onSeq_s, ↓onS_s, ↓dFn_e, ↓dVar_e, ↓dC_e, ↓dOp_e, ↓dUn_e, ↓dNil_e, ↓dCons_e, ↓dTup_e, ↓dLst_e, ↓dTest_e, ↓dAnd_e, ↓dOr_e, ↓dNot_e, ↓dAndV_e, ↓dOrV_e, ↓dNotV_e, ↓dIf_e, ↓dChain_e, ↓dCall_e, ↓dCB_e, ↓dNext_e, ↓dRet_e, ↓dDrop_e, ↓dAsg_e, ↓dIfS_e, ↓dRaise_e, ↓dgName_e, ↓dgNil_e, ↓dgCons_e, ↓dgTup_e, ↓dPar_e, ↓dPar3_e, ↓dFor_e, ↓dLc_e, lcL_n, lcL_c, ↓dYes_e, ↓dOver_e, ↓dRng1_e, ↓dRng2_e, ↓dPart_e, ↓dNoPart_e, ↓dMs_e, ↓dIsi_e, ↓dToldC_e, oAdd_ii, oAdd_ss, oAdd_ll, oSub_ii, oMul_ii, oMul_si, oDiv_ii, oMod_ii, oPow_ii, oNeg_i, oEq_ii, oNe_ii, oLt_ii, oLe_ii, oGt_ii, oGe_ii, oIs_e, oIsN_e, oIx_l, oIx_t, oIx_s, oLen_t, oLen_l, oAbs_i, oMax_l, oMin_l, oMin_t, oMax_t, oMax2_ii, oMin2_ii, oAll_l, oSum_l, oTuple_l, oSindex_ss, roll_e, ↓if_t, ↓if_f, if_T, if_F, Bool.false_eq_true, oLen_s, oList_t, oList_l, ↓dSl_e, onSl_l, onSl_s, isi_tt, isi_lt, isi_nt, isi_it, isi_bt, isi_st, isi_ii, isi_ib, isi_bi, isi_bb, isi_si, isi_ni, isi_ti, isi_li, isi_ss, isi_is, isi_bs, isi_ns, isi_ts, isi_ls, pl4, atI4_0, atI4_1, atI4_2, atI4_3, asInts, asBools, asStrs, Option.map, look, put, drp, drps, startR, List.length_cons, List.length_nil, List.map_cons, List.map_nil, List.replicate, List.append, List.cons_append, List.nil_append, List.append_nil, plain, true_and, and_true, Bool.not_true, Bool.not_false, Nat.zero_add, Nat.reduceAdd, Nat.reduceSub, Nat.reduceLeDiff, Nat.reduceEqDiff, ten6, ↓zFn_e, ↓zE_e, ↓zS_e, ↓dK_e, ↓zCall_e, ↓zIfS_e, ↓zRet_e, ↓zDrop_e, ↓zAsg_e, ↓zNext_e, ↓zForR_e, ↓dFld_e, ↓zSet_e, ↓zMeth_e, ↓zLen_e, ↓zTold_e, g3_0, g3_1, g3_2, t3_0, t3_1, t3_2, desk_eq]
      subst eg
      exact Desk_change_ok he h

theorem canWs : ∀ {ws : List (List Nat)}, (∀ w ∈ ws, ∀ c ∈ w, three c) → PyData.canLayAll0 (ws.map W) = true
  | [], _ => rfl
  | w :: ws, h => by
    show (PyData.strOk ⟨w.toArray⟩ && PyData.canLayAll0 (ws.map W)) = true
    rw [canWs (fun d hd => h d (List.mem_cons_of_mem _ hd)), Bool.and_true]
    exact strOk_W (asc3 (h w List.mem_cons_self))
theorem depWs : ∀ ws : List (List Nat), PyData.depthAll (ws.map W) = 0
  | [] => rfl
  | w :: ws => by
    show max 0 (PyData.depthAll (ws.map W)) = 0
    rw [depWs ws]
    rfl
theorem shWs {ws : List (List Nat)} (h : ∀ w ∈ ws, ∀ c ∈ w, three c) : SeqAt.shaped (.list (ws.map W)) = true := by
  unfold SeqAt.shaped PyData.canLay0 PyData.depth
  rw [canWs h, depWs]
  rfl
theorem nil_ws {ws : List (List Nat)} {Q : PyData → Prop} (h : ∀ w ∈ ws, ∀ c ∈ w, three c) (hq : Q (.bool ws.isEmpty)) : oEq (.list (ws.map W)) (.list []) Q := by
  refine ⟨shWs h, rfl, ?_⟩
  have e : PyData.eqv (.list (ws.map W)) (.list []) = ws.isEmpty := by cases ws <;> rfl
  rw [e]
  exact hq
theorem last_ws (e : List (List Nat)) (w : List Nat) : atI ((e ++ [w]).map W) (-1) = some (W w) := by
  rw [List.map_append]
  exact atI_last
theorem cut_ws (e : List (List Nat)) (w : List Nat) : cutD ((e ++ [w]).map W) none (some (-1)) = e.map W := by
  rw [List.map_append]
  exact cut_last
theorem Desk_undo_ok {n w : List Nat} {e u : List (List Nat)} {Q : GS → PyData → Prop} {E : GS → Nat → Prop} (he : ∀ w' ∈ e ++ [w], ∀ c ∈ w', three c) (hl : u.length ≤ 10000) (h : Q (st w e (u ++ [n])) (W w)) : f_Desk_undo (st n (e ++ [w]) u) [deskD] Q E := by
  rw [f_Desk_undo, b_Desk_undo, zFn_e, zSeq_e]
  simp only [↓onB_b, ↓onI_i, ↓onStr_s, ↓onSeq_l, ↓onSeq_t, ↓onSeq_s, ↓onS_s, ↓dFn_e, ↓dVar_e, ↓dC_e, ↓dOp_e, ↓dUn_e, ↓dNil_e, ↓dCons_e, ↓dTup_e, ↓dLst_e, ↓dTest_e, ↓dAnd_e, ↓dOr_e, ↓dNot_e, ↓dAndV_e, ↓dOrV_e, ↓dNotV_e, ↓dIf_e, ↓dChain_e, ↓dCall_e, ↓dCB_e, ↓dNext_e, ↓dRet_e, ↓dDrop_e, ↓dAsg_e, ↓dIfS_e, ↓dRaise_e, ↓dgName_e, ↓dgNil_e, ↓dgCons_e, ↓dgTup_e, ↓dPar_e, ↓dPar3_e, ↓dFor_e, ↓dLc_e, lcL_n, lcL_c, ↓dYes_e, ↓dOver_e, ↓dRng1_e, ↓dRng2_e, ↓dPart_e, ↓dNoPart_e, ↓dMs_e, ↓dIsi_e, ↓dToldC_e, oAdd_ii, oAdd_ss, oAdd_ll, oSub_ii, oMul_ii, oMul_si, oDiv_ii, oMod_ii, oPow_ii, oNeg_i, oEq_ii, oNe_ii, oLt_ii, oLe_ii, oGt_ii, oGe_ii, oIs_e, oIsN_e, oIx_l, oIx_t, oIx_s, oLen_t, oLen_l, oAbs_i, oMax_l, oMin_l, oMin_t, oMax_t, oMax2_ii, oMin2_ii, oAll_l, oSum_l, oTuple_l, oSindex_ss, roll_e, ↓if_t, ↓if_f, if_T, if_F, Bool.false_eq_true, oLen_s, oList_t, oList_l, ↓dSl_e, onSl_l, onSl_s, isi_tt, isi_lt, isi_nt, isi_it, isi_bt, isi_st, isi_ii, isi_ib, isi_bi, isi_bb, isi_si, isi_ni, isi_ti, isi_li, isi_ss, isi_is, isi_bs, isi_ns, isi_ts, isi_ls, pl4, atI4_0, atI4_1, atI4_2, atI4_3, asInts, asBools, asStrs, Option.map, look, put, drp, drps, startR, List.length_cons, List.length_nil, List.map_cons, List.map_nil, List.replicate, List.append, List.cons_append, List.nil_append, List.append_nil, plain, true_and, and_true, Bool.not_true, Bool.not_false, Nat.zero_add, Nat.reduceAdd, Nat.reduceSub, Nat.reduceLeDiff, Nat.reduceEqDiff, ten6, ↓zFn_e, ↓zE_e, ↓zS_e, ↓dK_e, ↓zCall_e, ↓zIfS_e, ↓zRet_e, ↓zDrop_e, ↓zAsg_e, ↓zNext_e, ↓zForR_e, ↓dFld_e, ↓zSet_e, ↓zMeth_e, ↓zLen_e, ↓zTold_e, g3_0, g3_1, g3_2, t3_0, t3_1, t3_2, desk_eq]
  refine ⟨rfl, ?_⟩
  refine nil_ws he ?_
  have e0 : (e ++ [w]).isEmpty = false := by cases e <;> rfl
  rw [onB_b, e0, if_f]
  simp only [zSeq_e, plains_c, plains_n, plain_s, plain_l, last_ws, cut_ws, ↓onB_b, ↓onI_i, ↓onStr_s, ↓onSeq_l, ↓onSeq_t, ↓onSeq_s, ↓onS_s, ↓dFn_e, ↓dVar_e, ↓dC_e, ↓dOp_e, ↓dUn_e, ↓dNil_e, ↓dCons_e, ↓dTup_e, ↓dLst_e, ↓dTest_e, ↓dAnd_e, ↓dOr_e, ↓dNot_e, ↓dAndV_e, ↓dOrV_e, ↓dNotV_e, ↓dIf_e, ↓dChain_e, ↓dCall_e, ↓dCB_e, ↓dNext_e, ↓dRet_e, ↓dDrop_e, ↓dAsg_e, ↓dIfS_e, ↓dRaise_e, ↓dgName_e, ↓dgNil_e, ↓dgCons_e, ↓dgTup_e, ↓dPar_e, ↓dPar3_e, ↓dFor_e, ↓dLc_e, lcL_n, lcL_c, ↓dYes_e, ↓dOver_e, ↓dRng1_e, ↓dRng2_e, ↓dPart_e, ↓dNoPart_e, ↓dMs_e, ↓dIsi_e, ↓dToldC_e, oAdd_ii, oAdd_ss, oAdd_ll, oSub_ii, oMul_ii, oMul_si, oDiv_ii, oMod_ii, oPow_ii, oNeg_i, oEq_ii, oNe_ii, oLt_ii, oLe_ii, oGt_ii, oGe_ii, oIs_e, oIsN_e, oIx_l, oIx_t, oIx_s, oLen_t, oLen_l, oAbs_i, oMax_l, oMin_l, oMin_t, oMax_t, oMax2_ii, oMin2_ii, oAll_l, oSum_l, oTuple_l, oSindex_ss, roll_e, ↓if_t, ↓if_f, if_T, if_F, Bool.false_eq_true, oLen_s, oList_t, oList_l, ↓dSl_e, onSl_l, onSl_s, isi_tt, isi_lt, isi_nt, isi_it, isi_bt, isi_st, isi_ii, isi_ib, isi_bi, isi_bb, isi_si, isi_ni, isi_ti, isi_li, isi_ss, isi_is, isi_bs, isi_ns, isi_ts, isi_ls, pl4, atI4_0, atI4_1, atI4_2, atI4_3, asInts, asBools, asStrs, Option.map, look, put, drp, drps, startR, List.length_cons, List.length_nil, List.map_cons, List.map_nil, List.replicate, List.append, List.cons_append, List.nil_append, List.append_nil, plain, true_and, and_true, Bool.not_true, Bool.not_false, Nat.zero_add, Nat.reduceAdd, Nat.reduceSub, Nat.reduceLeDiff, Nat.reduceEqDiff, ten6, ↓zFn_e, ↓zE_e, ↓zS_e, ↓dK_e, ↓zCall_e, ↓zIfS_e, ↓zRet_e, ↓zDrop_e, ↓zAsg_e, ↓zNext_e, ↓zForR_e, ↓dFld_e, ↓zSet_e, ↓zMeth_e, ↓zLen_e, ↓zTold_e, g3_0, g3_1, g3_2, t3_0, t3_1, t3_2, desk_eq]
  refine ⟨by rw [List.length_map]; omega, ?_⟩
  rw [st, List.map_append] at h
  exact h
theorem Desk_undo_no {n : List Nat} {u : List (List Nat)} {Q : GS → PyData → Prop} {E : GS → Nat → Prop} (h : E (st n [] u) 15) : f_Desk_undo (st n [] u) [deskD] Q E := by
  rw [f_Desk_undo, b_Desk_undo, zFn_e, zSeq_e]
  simp only [↓onB_b, ↓onI_i, ↓onStr_s, ↓onSeq_l, ↓onSeq_t, ↓onSeq_s, ↓onS_s, ↓dFn_e, ↓dVar_e, ↓dC_e, ↓dOp_e, ↓dUn_e, ↓dNil_e, ↓dCons_e, ↓dTup_e, ↓dLst_e, ↓dTest_e, ↓dAnd_e, ↓dOr_e, ↓dNot_e, ↓dAndV_e, ↓dOrV_e, ↓dNotV_e, ↓dIf_e, ↓dChain_e, ↓dCall_e, ↓dCB_e, ↓dNext_e, ↓dRet_e, ↓dDrop_e, ↓dAsg_e, ↓dIfS_e, ↓dRaise_e, ↓dgName_e, ↓dgNil_e, ↓dgCons_e, ↓dgTup_e, ↓dPar_e, ↓dPar3_e, ↓dFor_e, ↓dLc_e, lcL_n, lcL_c, ↓dYes_e, ↓dOver_e, ↓dRng1_e, ↓dRng2_e, ↓dPart_e, ↓dNoPart_e, ↓dMs_e, ↓dIsi_e, ↓dToldC_e, oAdd_ii, oAdd_ss, oAdd_ll, oSub_ii, oMul_ii, oMul_si, oDiv_ii, oMod_ii, oPow_ii, oNeg_i, oEq_ii, oNe_ii, oLt_ii, oLe_ii, oGt_ii, oGe_ii, oIs_e, oIsN_e, oIx_l, oIx_t, oIx_s, oLen_t, oLen_l, oAbs_i, oMax_l, oMin_l, oMin_t, oMax_t, oMax2_ii, oMin2_ii, oAll_l, oSum_l, oTuple_l, oSindex_ss, roll_e, ↓if_t, ↓if_f, if_T, if_F, Bool.false_eq_true, oLen_s, oList_t, oList_l, ↓dSl_e, onSl_l, onSl_s, isi_tt, isi_lt, isi_nt, isi_it, isi_bt, isi_st, isi_ii, isi_ib, isi_bi, isi_bb, isi_si, isi_ni, isi_ti, isi_li, isi_ss, isi_is, isi_bs, isi_ns, isi_ts, isi_ls, pl4, atI4_0, atI4_1, atI4_2, atI4_3, asInts, asBools, asStrs, Option.map, look, put, drp, drps, startR, List.length_cons, List.length_nil, List.map_cons, List.map_nil, List.replicate, List.append, List.cons_append, List.nil_append, List.append_nil, plain, true_and, and_true, Bool.not_true, Bool.not_false, Nat.zero_add, Nat.reduceAdd, Nat.reduceSub, Nat.reduceLeDiff, Nat.reduceEqDiff, ten6, ↓zFn_e, ↓zE_e, ↓zS_e, ↓dK_e, ↓zCall_e, ↓zIfS_e, ↓zRet_e, ↓zDrop_e, ↓zAsg_e, ↓zNext_e, ↓zForR_e, ↓dFld_e, ↓zSet_e, ↓zMeth_e, ↓zLen_e, ↓zTold_e, g3_0, g3_1, g3_2, t3_0, t3_1, t3_2, desk_eq]
  refine ⟨rfl, ?_⟩
  refine eq_nil_t ?_
  exact h

theorem Desk_redo_ok {n w : List Nat} {e u : List (List Nat)} {Q : GS → PyData → Prop} {E : GS → Nat → Prop} (he : ∀ w' ∈ u ++ [w], ∀ c ∈ w', three c) (hl : e.length ≤ 10000) (h : Q (st w (e ++ [n]) u) (W w)) : f_Desk_redo (st n e (u ++ [w])) [deskD] Q E := by
  rw [f_Desk_redo, b_Desk_redo, zFn_e, zSeq_e]
  simp only [↓onB_b, ↓onI_i, ↓onStr_s, ↓onSeq_l, ↓onSeq_t, ↓onSeq_s, ↓onS_s, ↓dFn_e, ↓dVar_e, ↓dC_e, ↓dOp_e, ↓dUn_e, ↓dNil_e, ↓dCons_e, ↓dTup_e, ↓dLst_e, ↓dTest_e, ↓dAnd_e, ↓dOr_e, ↓dNot_e, ↓dAndV_e, ↓dOrV_e, ↓dNotV_e, ↓dIf_e, ↓dChain_e, ↓dCall_e, ↓dCB_e, ↓dNext_e, ↓dRet_e, ↓dDrop_e, ↓dAsg_e, ↓dIfS_e, ↓dRaise_e, ↓dgName_e, ↓dgNil_e, ↓dgCons_e, ↓dgTup_e, ↓dPar_e, ↓dPar3_e, ↓dFor_e, ↓dLc_e, lcL_n, lcL_c, ↓dYes_e, ↓dOver_e, ↓dRng1_e, ↓dRng2_e, ↓dPart_e, ↓dNoPart_e, ↓dMs_e, ↓dIsi_e, ↓dToldC_e, oAdd_ii, oAdd_ss, oAdd_ll, oSub_ii, oMul_ii, oMul_si, oDiv_ii, oMod_ii, oPow_ii, oNeg_i, oEq_ii, oNe_ii, oLt_ii, oLe_ii, oGt_ii, oGe_ii, oIs_e, oIsN_e, oIx_l, oIx_t, oIx_s, oLen_t, oLen_l, oAbs_i, oMax_l, oMin_l, oMin_t, oMax_t, oMax2_ii, oMin2_ii, oAll_l, oSum_l, oTuple_l, oSindex_ss, roll_e, ↓if_t, ↓if_f, if_T, if_F, Bool.false_eq_true, oLen_s, oList_t, oList_l, ↓dSl_e, onSl_l, onSl_s, isi_tt, isi_lt, isi_nt, isi_it, isi_bt, isi_st, isi_ii, isi_ib, isi_bi, isi_bb, isi_si, isi_ni, isi_ti, isi_li, isi_ss, isi_is, isi_bs, isi_ns, isi_ts, isi_ls, pl4, atI4_0, atI4_1, atI4_2, atI4_3, asInts, asBools, asStrs, Option.map, look, put, drp, drps, startR, List.length_cons, List.length_nil, List.map_cons, List.map_nil, List.replicate, List.append, List.cons_append, List.nil_append, List.append_nil, plain, true_and, and_true, Bool.not_true, Bool.not_false, Nat.zero_add, Nat.reduceAdd, Nat.reduceSub, Nat.reduceLeDiff, Nat.reduceEqDiff, ten6, ↓zFn_e, ↓zE_e, ↓zS_e, ↓dK_e, ↓zCall_e, ↓zIfS_e, ↓zRet_e, ↓zDrop_e, ↓zAsg_e, ↓zNext_e, ↓zForR_e, ↓dFld_e, ↓zSet_e, ↓zMeth_e, ↓zLen_e, ↓zTold_e, g3_0, g3_1, g3_2, t3_0, t3_1, t3_2, desk_eq]
  refine ⟨rfl, ?_⟩
  refine nil_ws he ?_
  have e0 : (u ++ [w]).isEmpty = false := by cases u <;> rfl
  rw [onB_b, e0, if_f]
  simp only [zSeq_e, plains_c, plains_n, plain_s, plain_l, last_ws, cut_ws, ↓onB_b, ↓onI_i, ↓onStr_s, ↓onSeq_l, ↓onSeq_t, ↓onSeq_s, ↓onS_s, ↓dFn_e, ↓dVar_e, ↓dC_e, ↓dOp_e, ↓dUn_e, ↓dNil_e, ↓dCons_e, ↓dTup_e, ↓dLst_e, ↓dTest_e, ↓dAnd_e, ↓dOr_e, ↓dNot_e, ↓dAndV_e, ↓dOrV_e, ↓dNotV_e, ↓dIf_e, ↓dChain_e, ↓dCall_e, ↓dCB_e, ↓dNext_e, ↓dRet_e, ↓dDrop_e, ↓dAsg_e, ↓dIfS_e, ↓dRaise_e, ↓dgName_e, ↓dgNil_e, ↓dgCons_e, ↓dgTup_e, ↓dPar_e, ↓dPar3_e, ↓dFor_e, ↓dLc_e, lcL_n, lcL_c, ↓dYes_e, ↓dOver_e, ↓dRng1_e, ↓dRng2_e, ↓dPart_e, ↓dNoPart_e, ↓dMs_e, ↓dIsi_e, ↓dToldC_e, oAdd_ii, oAdd_ss, oAdd_ll, oSub_ii, oMul_ii, oMul_si, oDiv_ii, oMod_ii, oPow_ii, oNeg_i, oEq_ii, oNe_ii, oLt_ii, oLe_ii, oGt_ii, oGe_ii, oIs_e, oIsN_e, oIx_l, oIx_t, oIx_s, oLen_t, oLen_l, oAbs_i, oMax_l, oMin_l, oMin_t, oMax_t, oMax2_ii, oMin2_ii, oAll_l, oSum_l, oTuple_l, oSindex_ss, roll_e, ↓if_t, ↓if_f, if_T, if_F, Bool.false_eq_true, oLen_s, oList_t, oList_l, ↓dSl_e, onSl_l, onSl_s, isi_tt, isi_lt, isi_nt, isi_it, isi_bt, isi_st, isi_ii, isi_ib, isi_bi, isi_bb, isi_si, isi_ni, isi_ti, isi_li, isi_ss, isi_is, isi_bs, isi_ns, isi_ts, isi_ls, pl4, atI4_0, atI4_1, atI4_2, atI4_3, asInts, asBools, asStrs, Option.map, look, put, drp, drps, startR, List.length_cons, List.length_nil, List.map_cons, List.map_nil, List.replicate, List.append, List.cons_append, List.nil_append, List.append_nil, plain, true_and, and_true, Bool.not_true, Bool.not_false, Nat.zero_add, Nat.reduceAdd, Nat.reduceSub, Nat.reduceLeDiff, Nat.reduceEqDiff, ten6, ↓zFn_e, ↓zE_e, ↓zS_e, ↓dK_e, ↓zCall_e, ↓zIfS_e, ↓zRet_e, ↓zDrop_e, ↓zAsg_e, ↓zNext_e, ↓zForR_e, ↓dFld_e, ↓zSet_e, ↓zMeth_e, ↓zLen_e, ↓zTold_e, g3_0, g3_1, g3_2, t3_0, t3_1, t3_2, desk_eq]
  refine ⟨by rw [List.length_map]; omega, ?_⟩
  rw [st, List.map_append] at h
  exact h
theorem Desk_redo_no {n : List Nat} {e : List (List Nat)} {Q : GS → PyData → Prop} {E : GS → Nat → Prop} (h : E (st n e []) 15) : f_Desk_redo (st n e []) [deskD] Q E := by
  rw [f_Desk_redo, b_Desk_redo, zFn_e, zSeq_e]
  simp only [↓onB_b, ↓onI_i, ↓onStr_s, ↓onSeq_l, ↓onSeq_t, ↓onSeq_s, ↓onS_s, ↓dFn_e, ↓dVar_e, ↓dC_e, ↓dOp_e, ↓dUn_e, ↓dNil_e, ↓dCons_e, ↓dTup_e, ↓dLst_e, ↓dTest_e, ↓dAnd_e, ↓dOr_e, ↓dNot_e, ↓dAndV_e, ↓dOrV_e, ↓dNotV_e, ↓dIf_e, ↓dChain_e, ↓dCall_e, ↓dCB_e, ↓dNext_e, ↓dRet_e, ↓dDrop_e, ↓dAsg_e, ↓dIfS_e, ↓dRaise_e, ↓dgName_e, ↓dgNil_e, ↓dgCons_e, ↓dgTup_e, ↓dPar_e, ↓dPar3_e, ↓dFor_e, ↓dLc_e, lcL_n, lcL_c, ↓dYes_e, ↓dOver_e, ↓dRng1_e, ↓dRng2_e, ↓dPart_e, ↓dNoPart_e, ↓dMs_e, ↓dIsi_e, ↓dToldC_e, oAdd_ii, oAdd_ss, oAdd_ll, oSub_ii, oMul_ii, oMul_si, oDiv_ii, oMod_ii, oPow_ii, oNeg_i, oEq_ii, oNe_ii, oLt_ii, oLe_ii, oGt_ii, oGe_ii, oIs_e, oIsN_e, oIx_l, oIx_t, oIx_s, oLen_t, oLen_l, oAbs_i, oMax_l, oMin_l, oMin_t, oMax_t, oMax2_ii, oMin2_ii, oAll_l, oSum_l, oTuple_l, oSindex_ss, roll_e, ↓if_t, ↓if_f, if_T, if_F, Bool.false_eq_true, oLen_s, oList_t, oList_l, ↓dSl_e, onSl_l, onSl_s, isi_tt, isi_lt, isi_nt, isi_it, isi_bt, isi_st, isi_ii, isi_ib, isi_bi, isi_bb, isi_si, isi_ni, isi_ti, isi_li, isi_ss, isi_is, isi_bs, isi_ns, isi_ts, isi_ls, pl4, atI4_0, atI4_1, atI4_2, atI4_3, asInts, asBools, asStrs, Option.map, look, put, drp, drps, startR, List.length_cons, List.length_nil, List.map_cons, List.map_nil, List.replicate, List.append, List.cons_append, List.nil_append, List.append_nil, plain, true_and, and_true, Bool.not_true, Bool.not_false, Nat.zero_add, Nat.reduceAdd, Nat.reduceSub, Nat.reduceLeDiff, Nat.reduceEqDiff, ten6, ↓zFn_e, ↓zE_e, ↓zS_e, ↓dK_e, ↓zCall_e, ↓zIfS_e, ↓zRet_e, ↓zDrop_e, ↓zAsg_e, ↓zNext_e, ↓zForR_e, ↓dFld_e, ↓zSet_e, ↓zMeth_e, ↓zLen_e, ↓zTold_e, g3_0, g3_1, g3_2, t3_0, t3_1, t3_2, desk_eq]
  refine ⟨rfl, ?_⟩
  refine eq_nil_t ?_
  exact h

theorem q_sp : decide (Str.ofString "shorten" = Str.ofString "put") = false := by decide +kernel
theorem q_up : decide (Str.ofString "undo" = Str.ofString "put") = false := by decide +kernel
theorem q_rp : decide (Str.ofString "redo" = Str.ofString "put") = false := by decide +kernel
theorem q_us : decide (Str.ofString "undo" = Str.ofString "shorten") = false := by decide +kernel
theorem q_rs : decide (Str.ofString "redo" = Str.ofString "shorten") = false := by decide +kernel
theorem q_ru : decide (Str.ofString "redo" = Str.ofString "undo") = false := by decide +kernel
theorem q_pp (s : Str) : decide (s = s) = true := decide_eq_true rfl
theorem law_done_put {n : List Nat} {c : Nat} {e u : List (List Nat)} {Q : GS → PyData → Prop} {E : GS → Nat → Prop} (hn : ∀ c ∈ n, three c) (hl : n.length < 200) (he : e.length ≤ 10000) (hc : three c) (h : Q (st (n ++ [c]) (e ++ [n]) []) (wm .one (n ++ [c])).p) : f_law_done (st n e u) [deskD, .str (Str.ofString "put"), ch c] Q E := by
  rw [f_law_done, b_law_done, zFn_e, zSeq_e]
  simp only [oEq_s2, q_pp, ↓onB_b, ↓onI_i, ↓onStr_s, ↓onSeq_l, ↓onSeq_t, ↓onSeq_s, ↓onS_s, ↓dFn_e, ↓dVar_e, ↓dC_e, ↓dOp_e, ↓dUn_e, ↓dNil_e, ↓dCons_e, ↓dTup_e, ↓dLst_e, ↓dTest_e, ↓dAnd_e, ↓dOr_e, ↓dNot_e, ↓dAndV_e, ↓dOrV_e, ↓dNotV_e, ↓dIf_e, ↓dChain_e, ↓dCall_e, ↓dCB_e, ↓dNext_e, ↓dRet_e, ↓dDrop_e, ↓dAsg_e, ↓dIfS_e, ↓dRaise_e, ↓dgName_e, ↓dgNil_e, ↓dgCons_e, ↓dgTup_e, ↓dPar_e, ↓dPar3_e, ↓dFor_e, ↓dLc_e, lcL_n, lcL_c, ↓dYes_e, ↓dOver_e, ↓dRng1_e, ↓dRng2_e, ↓dPart_e, ↓dNoPart_e, ↓dMs_e, ↓dIsi_e, ↓dToldC_e, oAdd_ii, oAdd_ss, oAdd_ll, oSub_ii, oMul_ii, oMul_si, oDiv_ii, oMod_ii, oPow_ii, oNeg_i, oEq_ii, oNe_ii, oLt_ii, oLe_ii, oGt_ii, oGe_ii, oIs_e, oIsN_e, oIx_l, oIx_t, oIx_s, oLen_t, oLen_l, oAbs_i, oMax_l, oMin_l, oMin_t, oMax_t, oMax2_ii, oMin2_ii, oAll_l, oSum_l, oTuple_l, oSindex_ss, roll_e, ↓if_t, ↓if_f, if_T, if_F, Bool.false_eq_true, oLen_s, oList_t, oList_l, ↓dSl_e, onSl_l, onSl_s, isi_tt, isi_lt, isi_nt, isi_it, isi_bt, isi_st, isi_ii, isi_ib, isi_bi, isi_bb, isi_si, isi_ni, isi_ti, isi_li, isi_ss, isi_is, isi_bs, isi_ns, isi_ts, isi_ls, pl4, atI4_0, atI4_1, atI4_2, atI4_3, asInts, asBools, asStrs, Option.map, look, put, drp, drps, startR, List.length_cons, List.length_nil, List.map_cons, List.map_nil, List.replicate, List.append, List.cons_append, List.nil_append, List.append_nil, plain, true_and, and_true, Bool.not_true, Bool.not_false, Nat.zero_add, Nat.reduceAdd, Nat.reduceSub, Nat.reduceLeDiff, Nat.reduceEqDiff, ten6, ↓zFn_e, ↓zE_e, ↓zS_e, ↓dK_e, ↓zCall_e, ↓zIfS_e, ↓zRet_e, ↓zDrop_e, ↓zAsg_e, ↓zNext_e, ↓zForR_e, ↓dFld_e, ↓zSet_e, ↓zMeth_e, ↓zLen_e, ↓zTold_e, g3_0, g3_1, g3_2, t3_0, t3_1, t3_2, desk_eq]
  exact Desk_put_ok hn hl he hc h
theorem law_done_shorten {n : List Nat} {c : Nat} {e u : List (List Nat)} {Q : GS → PyData → Prop} {E : GS → Nat → Prop} (hn : ∀ c ∈ n, three c) (hl : n.length ≤ 10000) (he : e.length ≤ 10000) (h : Q (st (shr n) (e ++ [n]) []) (W (shr n))) : f_law_done (st n e u) [deskD, .str (Str.ofString "shorten"), ch c] Q E := by
  rw [f_law_done, b_law_done, zFn_e, zSeq_e]
  simp only [zSeq_e, oEq_s2, q_sp, q_pp, ↓onB_b, ↓onI_i, ↓onStr_s, ↓onSeq_l, ↓onSeq_t, ↓onSeq_s, ↓onS_s, ↓dFn_e, ↓dVar_e, ↓dC_e, ↓dOp_e, ↓dUn_e, ↓dNil_e, ↓dCons_e, ↓dTup_e, ↓dLst_e, ↓dTest_e, ↓dAnd_e, ↓dOr_e, ↓dNot_e, ↓dAndV_e, ↓dOrV_e, ↓dNotV_e, ↓dIf_e, ↓dChain_e, ↓dCall_e, ↓dCB_e, ↓dNext_e, ↓dRet_e, ↓dDrop_e, ↓dAsg_e, ↓dIfS_e, ↓dRaise_e, ↓dgName_e, ↓dgNil_e, ↓dgCons_e, ↓dgTup_e, ↓dPar_e, ↓dPar3_e, ↓dFor_e, ↓dLc_e, lcL_n, lcL_c, ↓dYes_e, ↓dOver_e, ↓dRng1_e, ↓dRng2_e, ↓dPart_e, ↓dNoPart_e, ↓dMs_e, ↓dIsi_e, ↓dToldC_e, oAdd_ii, oAdd_ss, oAdd_ll, oSub_ii, oMul_ii, oMul_si, oDiv_ii, oMod_ii, oPow_ii, oNeg_i, oEq_ii, oNe_ii, oLt_ii, oLe_ii, oGt_ii, oGe_ii, oIs_e, oIsN_e, oIx_l, oIx_t, oIx_s, oLen_t, oLen_l, oAbs_i, oMax_l, oMin_l, oMin_t, oMax_t, oMax2_ii, oMin2_ii, oAll_l, oSum_l, oTuple_l, oSindex_ss, roll_e, ↓if_t, ↓if_f, if_T, if_F, Bool.false_eq_true, oLen_s, oList_t, oList_l, ↓dSl_e, onSl_l, onSl_s, isi_tt, isi_lt, isi_nt, isi_it, isi_bt, isi_st, isi_ii, isi_ib, isi_bi, isi_bb, isi_si, isi_ni, isi_ti, isi_li, isi_ss, isi_is, isi_bs, isi_ns, isi_ts, isi_ls, pl4, atI4_0, atI4_1, atI4_2, atI4_3, asInts, asBools, asStrs, Option.map, look, put, drp, drps, startR, List.length_cons, List.length_nil, List.map_cons, List.map_nil, List.replicate, List.append, List.cons_append, List.nil_append, List.append_nil, plain, true_and, and_true, Bool.not_true, Bool.not_false, Nat.zero_add, Nat.reduceAdd, Nat.reduceSub, Nat.reduceLeDiff, Nat.reduceEqDiff, ten6, ↓zFn_e, ↓zE_e, ↓zS_e, ↓dK_e, ↓zCall_e, ↓zIfS_e, ↓zRet_e, ↓zDrop_e, ↓zAsg_e, ↓zNext_e, ↓zForR_e, ↓dFld_e, ↓zSet_e, ↓zMeth_e, ↓zLen_e, ↓zTold_e, g3_0, g3_1, g3_2, t3_0, t3_1, t3_2, desk_eq]
  exact Desk_shorten_ok hn hl he h
theorem law_done_undo {n w : List Nat} {c : Nat} {e u : List (List Nat)} {Q : GS → PyData → Prop} {E : GS → Nat → Prop} (he : ∀ w' ∈ e ++ [w], ∀ c ∈ w', three c) (hl : u.length ≤ 10000) (h : Q (st w e (u ++ [n])) (W w)) : f_law_done (st n (e ++ [w]) u) [deskD, .str (Str.ofString "undo"), ch c] Q E := by
  rw [f_law_done, b_law_done, zFn_e, zSeq_e]
  simp only [zSeq_e, oEq_s2, q_up, q_us, q_pp, ↓onB_b, ↓onI_i, ↓onStr_s, ↓onSeq_l, ↓onSeq_t, ↓onSeq_s, ↓onS_s, ↓dFn_e, ↓dVar_e, ↓dC_e, ↓dOp_e, ↓dUn_e, ↓dNil_e, ↓dCons_e, ↓dTup_e, ↓dLst_e, ↓dTest_e, ↓dAnd_e, ↓dOr_e, ↓dNot_e, ↓dAndV_e, ↓dOrV_e, ↓dNotV_e, ↓dIf_e, ↓dChain_e, ↓dCall_e, ↓dCB_e, ↓dNext_e, ↓dRet_e, ↓dDrop_e, ↓dAsg_e, ↓dIfS_e, ↓dRaise_e, ↓dgName_e, ↓dgNil_e, ↓dgCons_e, ↓dgTup_e, ↓dPar_e, ↓dPar3_e, ↓dFor_e, ↓dLc_e, lcL_n, lcL_c, ↓dYes_e, ↓dOver_e, ↓dRng1_e, ↓dRng2_e, ↓dPart_e, ↓dNoPart_e, ↓dMs_e, ↓dIsi_e, ↓dToldC_e, oAdd_ii, oAdd_ss, oAdd_ll, oSub_ii, oMul_ii, oMul_si, oDiv_ii, oMod_ii, oPow_ii, oNeg_i, oEq_ii, oNe_ii, oLt_ii, oLe_ii, oGt_ii, oGe_ii, oIs_e, oIsN_e, oIx_l, oIx_t, oIx_s, oLen_t, oLen_l, oAbs_i, oMax_l, oMin_l, oMin_t, oMax_t, oMax2_ii, oMin2_ii, oAll_l, oSum_l, oTuple_l, oSindex_ss, roll_e, ↓if_t, ↓if_f, if_T, if_F, Bool.false_eq_true, oLen_s, oList_t, oList_l, ↓dSl_e, onSl_l, onSl_s, isi_tt, isi_lt, isi_nt, isi_it, isi_bt, isi_st, isi_ii, isi_ib, isi_bi, isi_bb, isi_si, isi_ni, isi_ti, isi_li, isi_ss, isi_is, isi_bs, isi_ns, isi_ts, isi_ls, pl4, atI4_0, atI4_1, atI4_2, atI4_3, asInts, asBools, asStrs, Option.map, look, put, drp, drps, startR, List.length_cons, List.length_nil, List.map_cons, List.map_nil, List.replicate, List.append, List.cons_append, List.nil_append, List.append_nil, plain, true_and, and_true, Bool.not_true, Bool.not_false, Nat.zero_add, Nat.reduceAdd, Nat.reduceSub, Nat.reduceLeDiff, Nat.reduceEqDiff, ten6, ↓zFn_e, ↓zE_e, ↓zS_e, ↓dK_e, ↓zCall_e, ↓zIfS_e, ↓zRet_e, ↓zDrop_e, ↓zAsg_e, ↓zNext_e, ↓zForR_e, ↓dFld_e, ↓zSet_e, ↓zMeth_e, ↓zLen_e, ↓zTold_e, g3_0, g3_1, g3_2, t3_0, t3_1, t3_2, desk_eq]
  exact Desk_undo_ok he hl h
theorem law_done_undo0 {n : List Nat} {c : Nat} {u : List (List Nat)} {Q : GS → PyData → Prop} {E : GS → Nat → Prop} (h : Q (st n [] u) (errD 15)) : f_law_done (st n [] u) [deskD, .str (Str.ofString "undo"), ch c] Q E := by
  rw [f_law_done, b_law_done, zFn_e, zSeq_e]
  simp only [zSeq_e, oEq_s2, q_up, q_us, q_pp, ↓onB_b, ↓onI_i, ↓onStr_s, ↓onSeq_l, ↓onSeq_t, ↓onSeq_s, ↓onS_s, ↓dFn_e, ↓dVar_e, ↓dC_e, ↓dOp_e, ↓dUn_e, ↓dNil_e, ↓dCons_e, ↓dTup_e, ↓dLst_e, ↓dTest_e, ↓dAnd_e, ↓dOr_e, ↓dNot_e, ↓dAndV_e, ↓dOrV_e, ↓dNotV_e, ↓dIf_e, ↓dChain_e, ↓dCall_e, ↓dCB_e, ↓dNext_e, ↓dRet_e, ↓dDrop_e, ↓dAsg_e, ↓dIfS_e, ↓dRaise_e, ↓dgName_e, ↓dgNil_e, ↓dgCons_e, ↓dgTup_e, ↓dPar_e, ↓dPar3_e, ↓dFor_e, ↓dLc_e, lcL_n, lcL_c, ↓dYes_e, ↓dOver_e, ↓dRng1_e, ↓dRng2_e, ↓dPart_e, ↓dNoPart_e, ↓dMs_e, ↓dIsi_e, ↓dToldC_e, oAdd_ii, oAdd_ss, oAdd_ll, oSub_ii, oMul_ii, oMul_si, oDiv_ii, oMod_ii, oPow_ii, oNeg_i, oEq_ii, oNe_ii, oLt_ii, oLe_ii, oGt_ii, oGe_ii, oIs_e, oIsN_e, oIx_l, oIx_t, oIx_s, oLen_t, oLen_l, oAbs_i, oMax_l, oMin_l, oMin_t, oMax_t, oMax2_ii, oMin2_ii, oAll_l, oSum_l, oTuple_l, oSindex_ss, roll_e, ↓if_t, ↓if_f, if_T, if_F, Bool.false_eq_true, oLen_s, oList_t, oList_l, ↓dSl_e, onSl_l, onSl_s, isi_tt, isi_lt, isi_nt, isi_it, isi_bt, isi_st, isi_ii, isi_ib, isi_bi, isi_bb, isi_si, isi_ni, isi_ti, isi_li, isi_ss, isi_is, isi_bs, isi_ns, isi_ts, isi_ls, pl4, atI4_0, atI4_1, atI4_2, atI4_3, asInts, asBools, asStrs, Option.map, look, put, drp, drps, startR, List.length_cons, List.length_nil, List.map_cons, List.map_nil, List.replicate, List.append, List.cons_append, List.nil_append, List.append_nil, plain, true_and, and_true, Bool.not_true, Bool.not_false, Nat.zero_add, Nat.reduceAdd, Nat.reduceSub, Nat.reduceLeDiff, Nat.reduceEqDiff, ten6, ↓zFn_e, ↓zE_e, ↓zS_e, ↓dK_e, ↓zCall_e, ↓zIfS_e, ↓zRet_e, ↓zDrop_e, ↓zAsg_e, ↓zNext_e, ↓zForR_e, ↓dFld_e, ↓zSet_e, ↓zMeth_e, ↓zLen_e, ↓zTold_e, g3_0, g3_1, g3_2, t3_0, t3_1, t3_2, desk_eq]
  exact Desk_undo_no ⟨by decide, h⟩
theorem law_done_redo {n w : List Nat} {c : Nat} {e u : List (List Nat)} {Q : GS → PyData → Prop} {E : GS → Nat → Prop} (he : ∀ w' ∈ u ++ [w], ∀ c ∈ w', three c) (hl : e.length ≤ 10000) (h : Q (st w (e ++ [n]) u) (W w)) : f_law_done (st n e (u ++ [w])) [deskD, .str (Str.ofString "redo"), ch c] Q E := by
  rw [f_law_done, b_law_done, zFn_e, zSeq_e]
  simp only [zSeq_e, oEq_s2, q_rp, q_rs, q_ru, ↓onB_b, ↓onI_i, ↓onStr_s, ↓onSeq_l, ↓onSeq_t, ↓onSeq_s, ↓onS_s, ↓dFn_e, ↓dVar_e, ↓dC_e, ↓dOp_e, ↓dUn_e, ↓dNil_e, ↓dCons_e, ↓dTup_e, ↓dLst_e, ↓dTest_e, ↓dAnd_e, ↓dOr_e, ↓dNot_e, ↓dAndV_e, ↓dOrV_e, ↓dNotV_e, ↓dIf_e, ↓dChain_e, ↓dCall_e, ↓dCB_e, ↓dNext_e, ↓dRet_e, ↓dDrop_e, ↓dAsg_e, ↓dIfS_e, ↓dRaise_e, ↓dgName_e, ↓dgNil_e, ↓dgCons_e, ↓dgTup_e, ↓dPar_e, ↓dPar3_e, ↓dFor_e, ↓dLc_e, lcL_n, lcL_c, ↓dYes_e, ↓dOver_e, ↓dRng1_e, ↓dRng2_e, ↓dPart_e, ↓dNoPart_e, ↓dMs_e, ↓dIsi_e, ↓dToldC_e, oAdd_ii, oAdd_ss, oAdd_ll, oSub_ii, oMul_ii, oMul_si, oDiv_ii, oMod_ii, oPow_ii, oNeg_i, oEq_ii, oNe_ii, oLt_ii, oLe_ii, oGt_ii, oGe_ii, oIs_e, oIsN_e, oIx_l, oIx_t, oIx_s, oLen_t, oLen_l, oAbs_i, oMax_l, oMin_l, oMin_t, oMax_t, oMax2_ii, oMin2_ii, oAll_l, oSum_l, oTuple_l, oSindex_ss, roll_e, ↓if_t, ↓if_f, if_T, if_F, Bool.false_eq_true, oLen_s, oList_t, oList_l, ↓dSl_e, onSl_l, onSl_s, isi_tt, isi_lt, isi_nt, isi_it, isi_bt, isi_st, isi_ii, isi_ib, isi_bi, isi_bb, isi_si, isi_ni, isi_ti, isi_li, isi_ss, isi_is, isi_bs, isi_ns, isi_ts, isi_ls, pl4, atI4_0, atI4_1, atI4_2, atI4_3, asInts, asBools, asStrs, Option.map, look, put, drp, drps, startR, List.length_cons, List.length_nil, List.map_cons, List.map_nil, List.replicate, List.append, List.cons_append, List.nil_append, List.append_nil, plain, true_and, and_true, Bool.not_true, Bool.not_false, Nat.zero_add, Nat.reduceAdd, Nat.reduceSub, Nat.reduceLeDiff, Nat.reduceEqDiff, ten6, ↓zFn_e, ↓zE_e, ↓zS_e, ↓dK_e, ↓zCall_e, ↓zIfS_e, ↓zRet_e, ↓zDrop_e, ↓zAsg_e, ↓zNext_e, ↓zForR_e, ↓dFld_e, ↓zSet_e, ↓zMeth_e, ↓zLen_e, ↓zTold_e, g3_0, g3_1, g3_2, t3_0, t3_1, t3_2, desk_eq]
  exact Desk_redo_ok he hl h
theorem law_done_redo0 {n : List Nat} {c : Nat} {e : List (List Nat)} {Q : GS → PyData → Prop} {E : GS → Nat → Prop} (h : Q (st n e []) (errD 15)) : f_law_done (st n e []) [deskD, .str (Str.ofString "redo"), ch c] Q E := by
  rw [f_law_done, b_law_done, zFn_e, zSeq_e]
  simp only [zSeq_e, oEq_s2, q_rp, q_rs, q_ru, ↓onB_b, ↓onI_i, ↓onStr_s, ↓onSeq_l, ↓onSeq_t, ↓onSeq_s, ↓onS_s, ↓dFn_e, ↓dVar_e, ↓dC_e, ↓dOp_e, ↓dUn_e, ↓dNil_e, ↓dCons_e, ↓dTup_e, ↓dLst_e, ↓dTest_e, ↓dAnd_e, ↓dOr_e, ↓dNot_e, ↓dAndV_e, ↓dOrV_e, ↓dNotV_e, ↓dIf_e, ↓dChain_e, ↓dCall_e, ↓dCB_e, ↓dNext_e, ↓dRet_e, ↓dDrop_e, ↓dAsg_e, ↓dIfS_e, ↓dRaise_e, ↓dgName_e, ↓dgNil_e, ↓dgCons_e, ↓dgTup_e, ↓dPar_e, ↓dPar3_e, ↓dFor_e, ↓dLc_e, lcL_n, lcL_c, ↓dYes_e, ↓dOver_e, ↓dRng1_e, ↓dRng2_e, ↓dPart_e, ↓dNoPart_e, ↓dMs_e, ↓dIsi_e, ↓dToldC_e, oAdd_ii, oAdd_ss, oAdd_ll, oSub_ii, oMul_ii, oMul_si, oDiv_ii, oMod_ii, oPow_ii, oNeg_i, oEq_ii, oNe_ii, oLt_ii, oLe_ii, oGt_ii, oGe_ii, oIs_e, oIsN_e, oIx_l, oIx_t, oIx_s, oLen_t, oLen_l, oAbs_i, oMax_l, oMin_l, oMin_t, oMax_t, oMax2_ii, oMin2_ii, oAll_l, oSum_l, oTuple_l, oSindex_ss, roll_e, ↓if_t, ↓if_f, if_T, if_F, Bool.false_eq_true, oLen_s, oList_t, oList_l, ↓dSl_e, onSl_l, onSl_s, isi_tt, isi_lt, isi_nt, isi_it, isi_bt, isi_st, isi_ii, isi_ib, isi_bi, isi_bb, isi_si, isi_ni, isi_ti, isi_li, isi_ss, isi_is, isi_bs, isi_ns, isi_ts, isi_ls, pl4, atI4_0, atI4_1, atI4_2, atI4_3, asInts, asBools, asStrs, Option.map, look, put, drp, drps, startR, List.length_cons, List.length_nil, List.map_cons, List.map_nil, List.replicate, List.append, List.cons_append, List.nil_append, List.append_nil, plain, true_and, and_true, Bool.not_true, Bool.not_false, Nat.zero_add, Nat.reduceAdd, Nat.reduceSub, Nat.reduceLeDiff, Nat.reduceEqDiff, ten6, ↓zFn_e, ↓zE_e, ↓zS_e, ↓dK_e, ↓zCall_e, ↓zIfS_e, ↓zRet_e, ↓zDrop_e, ↓zAsg_e, ↓zNext_e, ↓zForR_e, ↓dFld_e, ↓zSet_e, ↓zMeth_e, ↓zLen_e, ↓zTold_e, g3_0, g3_1, g3_2, t3_0, t3_1, t3_2, desk_eq]
  exact Desk_redo_no ⟨by decide, h⟩

structure Good (B : Nat) (n : List Nat) (e u : List (List Nat)) : Prop where
  n3 : ∀ c ∈ n, three c
  nl : n.length ≤ B
  e3 : ∀ w ∈ e, (∀ c ∈ w, three c) ∧ w.length ≤ B
  u3 : ∀ w ∈ u, (∀ c ∈ w, three c) ∧ w.length ≤ B
  el : e.length ≤ B
  ul : u.length ≤ B
/-- what is told is what is due -/
def Same2 (x y : PyData) : Prop := plain x = true ∧ plain y = true ∧ ∀ Q : PyData → Prop, Q (.bool false) → oNe x y Q
theorem at6 {α : Type} {x0 x1 x2 x3 x4 x5 : α} {P : α → Prop} (h0 : P x0) (h1 : P x1) (h2 : P x2) (h3 : P x3) (h4 : P x4) (h5 : P x5) (i : Int) (i0 : 0 ≤ i) (i1 : i < 6) : ∃ x, atI [x0, x1, x2, x3, x4, x5] i = some x ∧ P x := by
  obtain ⟨k, rfl⟩ := Int.eq_ofNat_of_zero_le i0
  match k, i1 with
  | 0, _ => exact ⟨x0, rfl, h0⟩
  | 1, _ => exact ⟨x1, rfl, h1⟩
  | 2, _ => exact ⟨x2, rfl, h2⟩
  | 3, _ => exact ⟨x3, rfl, h3⟩
  | 4, _ => exact ⟨x4, rfl, h4⟩
  | 5, _ => exact ⟨x5, rfl, h5⟩
  | n + 6, h => omega
theorem s_six : (Str.ofString "sttTTs").cps.toList = [115, 116, 116, 84, 84, 115] := by decide +kernel
theorem same_m (m : M) : Same2 m.p m.p := ⟨rfl, rfl, fun Q h => ne_mm (by rw [decide_eq_true rfl]; exact h)⟩
theorem same_w (w : List Nat) : Same2 (W w) (W w) := ⟨rfl, rfl, fun Q h => by
  rw [oNe_s2, decide_eq_true rfl]
  exact h⟩
theorem same_e : Same2 (errD 15) (.tuple [.str (Str.ofString "error"), .str (Str.ofString "NothingToUndo")]) := ⟨rfl, rfl, fun Q h => ne_err rfl h⟩
theorem lst_cases (l : List (List Nat)) : l = [] ∨ ∃ e w, l = e ++ [w] := by
  rcases List.eq_nil_or_concat l with h | ⟨e, w, h⟩
  · exact .inl h
  · exact .inr ⟨e, w, by rw [h]; simp⟩
theorem law_turn_ok {B : Nat} {n : List Nat} {e u : List (List Nat)} {Q : GS → PyData → Prop} {E : GS → Nat → Prop} (hB : B < 100) (g : Good B n e u)
    (h : ∀ (made due : PyData) (n' : List Nat) (e' u' : List (List Nat)), Same2 made due → Good (B + 1) n' e' u' → Q (st n' e' u') (.tuple [made, due, W n', .list (e'.map W), .list (u'.map W)])) :
    f_law_turn (st n e u) [dice, deskD, W n, .list (e.map W), .list (u.map W)] Q E := by
  rw [f_law_turn, b_law_turn, zFn_e, zSeq_e]
  simp only [↓onB_b, ↓onI_i, ↓onStr_s, ↓onSeq_l, ↓onSeq_t, ↓onSeq_s, ↓onS_s, ↓dFn_e, ↓dVar_e, ↓dC_e, ↓dOp_e, ↓dUn_e, ↓dNil_e, ↓dCons_e, ↓dTup_e, ↓dLst_e, ↓dTest_e, ↓dAnd_e, ↓dOr_e, ↓dNot_e, ↓dAndV_e, ↓dOrV_e, ↓dNotV_e, ↓dIf_e, ↓dChain_e, ↓dCall_e, ↓dCB_e, ↓dNext_e, ↓dRet_e, ↓dDrop_e, ↓dAsg_e, ↓dIfS_e, ↓dRaise_e, ↓dgName_e, ↓dgNil_e, ↓dgCons_e, ↓dgTup_e, ↓dPar_e, ↓dPar3_e, ↓dFor_e, ↓dLc_e, lcL_n, lcL_c, ↓dYes_e, ↓dOver_e, ↓dRng1_e, ↓dRng2_e, ↓dPart_e, ↓dNoPart_e, ↓dMs_e, ↓dIsi_e, ↓dToldC_e, oAdd_ii, oAdd_ss, oAdd_ll, oSub_ii, oMul_ii, oMul_si, oDiv_ii, oMod_ii, oPow_ii, oNeg_i, oEq_ii, oNe_ii, oLt_ii, oLe_ii, oGt_ii, oGe_ii, oIs_e, oIsN_e, oIx_l, oIx_t, oIx_s, oLen_t, oLen_l, oAbs_i, oMax_l, oMin_l, oMin_t, oMax_t, oMax2_ii, oMin2_ii, oAll_l, oSum_l, oTuple_l, oSindex_ss, roll_e, ↓if_t, ↓if_f, if_T, if_F, Bool.false_eq_true, oLen_s, oList_t, oList_l, ↓dSl_e, onSl_l, onSl_s, isi_tt, isi_lt, isi_nt, isi_it, isi_bt, isi_st, isi_ii, isi_ib, isi_bi, isi_bb, isi_si, isi_ni, isi_ti, isi_li, isi_ss, isi_is, isi_bs, isi_ns, isi_ts, isi_ls, pl4, atI4_0, atI4_1, atI4_2, atI4_3, asInts, asBools, asStrs, Option.map, look, put, drp, drps, startR, List.length_cons, List.length_nil, List.map_cons, List.map_nil, List.replicate, List.append, List.cons_append, List.nil_append, List.append_nil, plain, true_and, and_true, Bool.not_true, Bool.not_false, Nat.zero_add, Nat.reduceAdd, Nat.reduceSub, Nat.reduceLeDiff, Nat.reduceEqDiff, ten6, ↓zFn_e, ↓zE_e, ↓zS_e, ↓dK_e, ↓zCall_e, ↓zIfS_e, ↓zRet_e, ↓zDrop_e, ↓zAsg_e, ↓zNext_e, ↓zForR_e, ↓dFld_e, ↓zSet_e, ↓zMeth_e, ↓zLen_e, ↓zTold_e, g3_0, g3_1, g3_2, t3_0, t3_1, t3_2, desk_eq]
  refine ⟨rfl, by decide, by decide, fun i i0 i1 => ?_⟩
  obtain ⟨nm, hat, hnm⟩ := at6 (x0 := PyData.str (Str.ofString "put")) (x1 := .str (Str.ofString "put")) (x2 := .str (Str.ofString "put")) (x3 := .str (Str.ofString "shorten")) (x4 := .str (Str.ofString "undo")) (x5 := .str (Str.ofString "redo"))
    (P := fun d => d = .str (Str.ofString "put") ∨ d = .str (Str.ofString "shorten") ∨ d = .str (Str.ofString "undo") ∨ d = .str (Str.ofString "redo")) (.inl rfl) (.inl rfl) (.inl rfl) (.inr (.inl rfl)) (.inr (.inr (.inl rfl))) (.inr (.inr (.inr rfl))) i i0 i1
  rw [hat, onS_s]
  refine ⟨by decide, by decide, fun j j0 j1 => ⟨by decide +kernel, ?_⟩⟩
  obtain ⟨c, hct, hc⟩ := at6 (x0 := 115) (x1 := 116) (x2 := 116) (x3 := 84) (x4 := 84) (x5 := 115) (P := three) (.inl rfl) (.inr (.inl rfl)) (.inr (.inl rfl)) (.inr (.inr rfl)) (.inr (.inr rfl)) (.inl rfl) j j0 j1
  rw [s_six, hct, onS_s, zSeq_e]
  have nc : ∀ d ∈ n ++ [c], three d := fun d hd => by
    rcases List.mem_append.mp hd with z | z
    · exact g.n3 d z
    · rw [List.mem_singleton.mp z]
      exact hc
  have bn := g.nl
  have be := g.el
  have bu := g.ul
  have ncl : (n ++ [c]).length ≤ B + 1 := by
    rw [List.length_append, List.length_singleton]
    omega
  have eB : ∀ w ∈ e, (∀ c ∈ w, three c) ∧ w.length ≤ B + 1 := fun w hw => ⟨(g.e3 w hw).1, Nat.le_succ_of_le (g.e3 w hw).2⟩
  have uB : ∀ w ∈ u, (∀ c ∈ w, three c) ∧ w.length ≤ B + 1 := fun w hw => ⟨(g.u3 w hw).1, Nat.le_succ_of_le (g.u3 w hw).2⟩
  have nB : (∀ c ∈ n, three c) ∧ n.length ≤ B + 1 := ⟨g.n3, by omega⟩
  have snoc : ∀ {l : List (List Nat)}, (∀ w ∈ l, (∀ c ∈ w, three c) ∧ w.length ≤ B + 1) → ∀ w ∈ l ++ [n], (∀ c ∈ w, three c) ∧ w.length ≤ B + 1 := fun hl w hw => by
    rcases List.mem_append.mp hw with z | z
    · exact hl w z
    · rw [List.mem_singleton.mp z]
      exact nB
  have snl : ∀ {l : List (List Nat)}, l.length ≤ B → (l ++ [n]).length ≤ B + 1 := fun hl => by
    rw [List.length_append, List.length_singleton]
    omega
  have nlB : ([] : List (List Nat)).length ≤ B + 1 := Nat.zero_le _
  have map1 : ∀ l : List (List Nat), l.map W ++ [W n] = (l ++ [n]).map W := fun l => by rw [List.map_append] <;> rfl
  rcases hnm with rfl | rfl | rfl | rfl
  · simp only [↓onB_b, ↓onI_i, ↓onStr_s, ↓onSeq_l, ↓onSeq_t, ↓onSeq_s, ↓onS_s, ↓dFn_e, ↓dVar_e, ↓dC_e, ↓dOp_e, ↓dUn_e, ↓dNil_e, ↓dCons_e, ↓dTup_e, ↓dLst_e, ↓dTest_e, ↓dAnd_e, ↓dOr_e, ↓dNot_e, ↓dAndV_e, ↓dOrV_e, ↓dNotV_e, ↓dIf_e, ↓dChain_e, ↓dCall_e, ↓dCB_e, ↓dNext_e, ↓dRet_e, ↓dDrop_e, ↓dAsg_e, ↓dIfS_e, ↓dRaise_e, ↓dgName_e, ↓dgNil_e, ↓dgCons_e, ↓dgTup_e, ↓dPar_e, ↓dPar3_e, ↓dFor_e, ↓dLc_e, lcL_n, lcL_c, ↓dYes_e, ↓dOver_e, ↓dRng1_e, ↓dRng2_e, ↓dPart_e, ↓dNoPart_e, ↓dMs_e, ↓dIsi_e, ↓dToldC_e, oAdd_ii, oAdd_ss, oAdd_ll, oSub_ii, oMul_ii, oMul_si, oDiv_ii, oMod_ii, oPow_ii, oNeg_i, oEq_ii, oNe_ii, oLt_ii, oLe_ii, oGt_ii, oGe_ii, oIs_e, oIsN_e, oIx_l, oIx_t, oIx_s, oLen_t, oLen_l, oAbs_i, oMax_l, oMin_l, oMin_t, oMax_t, oMax2_ii, oMin2_ii, oAll_l, oSum_l, oTuple_l, oSindex_ss, roll_e, ↓if_t, ↓if_f, if_T, if_F, Bool.false_eq_true, oLen_s, oList_t, oList_l, ↓dSl_e, onSl_l, onSl_s, isi_tt, isi_lt, isi_nt, isi_it, isi_bt, isi_st, isi_ii, isi_ib, isi_bi, isi_bb, isi_si, isi_ni, isi_ti, isi_li, isi_ss, isi_is, isi_bs, isi_ns, isi_ts, isi_ls, pl4, atI4_0, atI4_1, atI4_2, atI4_3, asInts, asBools, asStrs, Option.map, look, put, drp, drps, startR, List.length_cons, List.length_nil, List.map_cons, List.map_nil, List.replicate, List.append, List.cons_append, List.nil_append, List.append_nil, plain, true_and, and_true, Bool.not_true, Bool.not_false, Nat.zero_add, Nat.reduceAdd, Nat.reduceSub, Nat.reduceLeDiff, Nat.reduceEqDiff, ten6, ↓zFn_e, ↓zE_e, ↓zS_e, ↓dK_e, ↓zCall_e, ↓zIfS_e, ↓zRet_e, ↓zDrop_e, ↓zAsg_e, ↓zNext_e, ↓zForR_e, ↓dFld_e, ↓zSet_e, ↓zMeth_e, ↓zLen_e, ↓zTold_e, g3_0, g3_1, g3_2, t3_0, t3_1, t3_2, desk_eq]
    refine law_done_put g.n3 (by omega) (by omega) hc ?_
    rw [zSeq_e]
    simp only [oEq_s2, q_pp, decide_true, plains_n, ↓onB_b, ↓onI_i, ↓onStr_s, ↓onSeq_l, ↓onSeq_t, ↓onSeq_s, ↓onS_s, ↓dFn_e, ↓dVar_e, ↓dC_e, ↓dOp_e, ↓dUn_e, ↓dNil_e, ↓dCons_e, ↓dTup_e, ↓dLst_e, ↓dTest_e, ↓dAnd_e, ↓dOr_e, ↓dNot_e, ↓dAndV_e, ↓dOrV_e, ↓dNotV_e, ↓dIf_e, ↓dChain_e, ↓dCall_e, ↓dCB_e, ↓dNext_e, ↓dRet_e, ↓dDrop_e, ↓dAsg_e, ↓dIfS_e, ↓dRaise_e, ↓dgName_e, ↓dgNil_e, ↓dgCons_e, ↓dgTup_e, ↓dPar_e, ↓dPar3_e, ↓dFor_e, ↓dLc_e, lcL_n, lcL_c, ↓dYes_e, ↓dOver_e, ↓dRng1_e, ↓dRng2_e, ↓dPart_e, ↓dNoPart_e, ↓dMs_e, ↓dIsi_e, ↓dToldC_e, oAdd_ii, oAdd_ss, oAdd_ll, oSub_ii, oMul_ii, oMul_si, oDiv_ii, oMod_ii, oPow_ii, oNeg_i, oEq_ii, oNe_ii, oLt_ii, oLe_ii, oGt_ii, oGe_ii, oIs_e, oIsN_e, oIx_l, oIx_t, oIx_s, oLen_t, oLen_l, oAbs_i, oMax_l, oMin_l, oMin_t, oMax_t, oMax2_ii, oMin2_ii, oAll_l, oSum_l, oTuple_l, oSindex_ss, roll_e, ↓if_t, ↓if_f, if_T, if_F, Bool.false_eq_true, oLen_s, oList_t, oList_l, ↓dSl_e, onSl_l, onSl_s, isi_tt, isi_lt, isi_nt, isi_it, isi_bt, isi_st, isi_ii, isi_ib, isi_bi, isi_bb, isi_si, isi_ni, isi_ti, isi_li, isi_ss, isi_is, isi_bs, isi_ns, isi_ts, isi_ls, pl4, atI4_0, atI4_1, atI4_2, atI4_3, asInts, asBools, asStrs, Option.map, look, put, drp, drps, startR, List.length_cons, List.length_nil, List.map_cons, List.map_nil, List.replicate, List.append, List.cons_append, List.nil_append, List.append_nil, plain, true_and, and_true, Bool.not_true, Bool.not_false, Nat.zero_add, Nat.reduceAdd, Nat.reduceSub, Nat.reduceLeDiff, Nat.reduceEqDiff, ten6, ↓zFn_e, ↓zE_e, ↓zS_e, ↓dK_e, ↓zCall_e, ↓zIfS_e, ↓zRet_e, ↓zDrop_e, ↓zAsg_e, ↓zNext_e, ↓zForR_e, ↓dFld_e, ↓zSet_e, ↓zMeth_e, ↓zLen_e, ↓zTold_e, g3_0, g3_1, g3_2, t3_0, t3_1, t3_2, desk_eq]
    rw [dSeq_e]
    simp only [↓onB_b, ↓onI_i, ↓onStr_s, ↓onSeq_l, ↓onSeq_t, ↓onSeq_s, ↓onS_s, ↓dFn_e, ↓dVar_e, ↓dC_e, ↓dOp_e, ↓dUn_e, ↓dNil_e, ↓dCons_e, ↓dTup_e, ↓dLst_e, ↓dTest_e, ↓dAnd_e, ↓dOr_e, ↓dNot_e, ↓dAndV_e, ↓dOrV_e, ↓dNotV_e, ↓dIf_e, ↓dChain_e, ↓dCall_e, ↓dCB_e, ↓dNext_e, ↓dRet_e, ↓dDrop_e, ↓dAsg_e, ↓dIfS_e, ↓dRaise_e, ↓dgName_e, ↓dgNil_e, ↓dgCons_e, ↓dgTup_e, ↓dPar_e, ↓dPar3_e, ↓dFor_e, ↓dLc_e, lcL_n, lcL_c, ↓dYes_e, ↓dOver_e, ↓dRng1_e, ↓dRng2_e, ↓dPart_e, ↓dNoPart_e, ↓dMs_e, ↓dIsi_e, ↓dToldC_e, oAdd_ii, oAdd_ss, oAdd_ll, oSub_ii, oMul_ii, oMul_si, oDiv_ii, oMod_ii, oPow_ii, oNeg_i, oEq_ii, oNe_ii, oLt_ii, oLe_ii, oGt_ii, oGe_ii, oIs_e, oIsN_e, oIx_l, oIx_t, oIx_s, oLen_t, oLen_l, oAbs_i, oMax_l, oMin_l, oMin_t, oMax_t, oMax2_ii, oMin2_ii, oAll_l, oSum_l, oTuple_l, oSindex_ss, roll_e, ↓if_t, ↓if_f, if_T, if_F, Bool.false_eq_true, oLen_s, oList_t, oList_l, ↓dSl_e, onSl_l, onSl_s, isi_tt, isi_lt, isi_nt, isi_it, isi_bt, isi_st, isi_ii, isi_ib, isi_bi, isi_bb, isi_si, isi_ni, isi_ti, isi_li, isi_ss, isi_is, isi_bs, isi_ns, isi_ts, isi_ls, pl4, atI4_0, atI4_1, atI4_2, atI4_3, asInts, asBools, asStrs, Option.map, look, put, drp, drps, startR, List.length_cons, List.length_nil, List.map_cons, List.map_nil, List.replicate, List.append, List.cons_append, List.nil_append, List.append_nil, plain, true_and, and_true, Bool.not_true, Bool.not_false, Nat.zero_add, Nat.reduceAdd, Nat.reduceSub, Nat.reduceLeDiff, Nat.reduceEqDiff, ten6, ↓zFn_e, ↓zE_e, ↓zS_e, ↓dK_e, ↓zCall_e, ↓zIfS_e, ↓zRet_e, ↓zDrop_e, ↓zAsg_e, ↓zNext_e, ↓zForR_e, ↓dFld_e, ↓zSet_e, ↓zMeth_e, ↓zLen_e, ↓zTold_e, g3_0, g3_1, g3_2, t3_0, t3_1, t3_2, desk_eq]
    rw [show (#[c] : Array Nat) = [c].toArray from rfl, str_app, W_len, W_len, List.length_map]
    refine ⟨by rw [List.length_singleton]; omega, law_product_ok (fun d hd => (nc d hd).six) ?_⟩
    simp only [plains_c, plains_n, plain_s, plain_l, plain_t, ↓onB_b, ↓onI_i, ↓onStr_s, ↓onSeq_l, ↓onSeq_t, ↓onSeq_s, ↓onS_s, ↓dFn_e, ↓dVar_e, ↓dC_e, ↓dOp_e, ↓dUn_e, ↓dNil_e, ↓dCons_e, ↓dTup_e, ↓dLst_e, ↓dTest_e, ↓dAnd_e, ↓dOr_e, ↓dNot_e, ↓dAndV_e, ↓dOrV_e, ↓dNotV_e, ↓dIf_e, ↓dChain_e, ↓dCall_e, ↓dCB_e, ↓dNext_e, ↓dRet_e, ↓dDrop_e, ↓dAsg_e, ↓dIfS_e, ↓dRaise_e, ↓dgName_e, ↓dgNil_e, ↓dgCons_e, ↓dgTup_e, ↓dPar_e, ↓dPar3_e, ↓dFor_e, ↓dLc_e, lcL_n, lcL_c, ↓dYes_e, ↓dOver_e, ↓dRng1_e, ↓dRng2_e, ↓dPart_e, ↓dNoPart_e, ↓dMs_e, ↓dIsi_e, ↓dToldC_e, oAdd_ii, oAdd_ss, oAdd_ll, oSub_ii, oMul_ii, oMul_si, oDiv_ii, oMod_ii, oPow_ii, oNeg_i, oEq_ii, oNe_ii, oLt_ii, oLe_ii, oGt_ii, oGe_ii, oIs_e, oIsN_e, oIx_l, oIx_t, oIx_s, oLen_t, oLen_l, oAbs_i, oMax_l, oMin_l, oMin_t, oMax_t, oMax2_ii, oMin2_ii, oAll_l, oSum_l, oTuple_l, oSindex_ss, roll_e, ↓if_t, ↓if_f, if_T, if_F, Bool.false_eq_true, oLen_s, oList_t, oList_l, ↓dSl_e, onSl_l, onSl_s, isi_tt, isi_lt, isi_nt, isi_it, isi_bt, isi_st, isi_ii, isi_ib, isi_bi, isi_bb, isi_si, isi_ni, isi_ti, isi_li, isi_ss, isi_is, isi_bs, isi_ns, isi_ts, isi_ls, pl4, atI4_0, atI4_1, atI4_2, atI4_3, asInts, asBools, asStrs, Option.map, look, put, drp, drps, startR, List.length_cons, List.length_nil, List.map_cons, List.map_nil, List.replicate, List.append, List.cons_append, List.nil_append, List.append_nil, plain, true_and, and_true, Bool.not_true, Bool.not_false, Nat.zero_add, Nat.reduceAdd, Nat.reduceSub, Nat.reduceLeDiff, Nat.reduceEqDiff, ten6, ↓zFn_e, ↓zE_e, ↓zS_e, ↓dK_e, ↓zCall_e, ↓zIfS_e, ↓zRet_e, ↓zDrop_e, ↓zAsg_e, ↓zNext_e, ↓zForR_e, ↓dFld_e, ↓zSet_e, ↓zMeth_e, ↓zLen_e, ↓zTold_e, g3_0, g3_1, g3_2, t3_0, t3_1, t3_2, desk_eq]
    rw [map1]
    refine ⟨by omega, by omega, ?_⟩
    exact h _ _ (n ++ [c]) (e ++ [n]) [] (same_m _) ⟨nc, ncl, snoc eB, fun _ z => absurd z List.not_mem_nil, snl be, nlB⟩
  · simp only [↓onB_b, ↓onI_i, ↓onStr_s, ↓onSeq_l, ↓onSeq_t, ↓onSeq_s, ↓onS_s, ↓dFn_e, ↓dVar_e, ↓dC_e, ↓dOp_e, ↓dUn_e, ↓dNil_e, ↓dCons_e, ↓dTup_e, ↓dLst_e, ↓dTest_e, ↓dAnd_e, ↓dOr_e, ↓dNot_e, ↓dAndV_e, ↓dOrV_e, ↓dNotV_e, ↓dIf_e, ↓dChain_e, ↓dCall_e, ↓dCB_e, ↓dNext_e, ↓dRet_e, ↓dDrop_e, ↓dAsg_e, ↓dIfS_e, ↓dRaise_e, ↓dgName_e, ↓dgNil_e, ↓dgCons_e, ↓dgTup_e, ↓dPar_e, ↓dPar3_e, ↓dFor_e, ↓dLc_e, lcL_n, lcL_c, ↓dYes_e, ↓dOver_e, ↓dRng1_e, ↓dRng2_e, ↓dPart_e, ↓dNoPart_e, ↓dMs_e, ↓dIsi_e, ↓dToldC_e, oAdd_ii, oAdd_ss, oAdd_ll, oSub_ii, oMul_ii, oMul_si, oDiv_ii, oMod_ii, oPow_ii, oNeg_i, oEq_ii, oNe_ii, oLt_ii, oLe_ii, oGt_ii, oGe_ii, oIs_e, oIsN_e, oIx_l, oIx_t, oIx_s, oLen_t, oLen_l, oAbs_i, oMax_l, oMin_l, oMin_t, oMax_t, oMax2_ii, oMin2_ii, oAll_l, oSum_l, oTuple_l, oSindex_ss, roll_e, ↓if_t, ↓if_f, if_T, if_F, Bool.false_eq_true, oLen_s, oList_t, oList_l, ↓dSl_e, onSl_l, onSl_s, isi_tt, isi_lt, isi_nt, isi_it, isi_bt, isi_st, isi_ii, isi_ib, isi_bi, isi_bb, isi_si, isi_ni, isi_ti, isi_li, isi_ss, isi_is, isi_bs, isi_ns, isi_ts, isi_ls, pl4, atI4_0, atI4_1, atI4_2, atI4_3, asInts, asBools, asStrs, Option.map, look, put, drp, drps, startR, List.length_cons, List.length_nil, List.map_cons, List.map_nil, List.replicate, List.append, List.cons_append, List.nil_append, List.append_nil, plain, true_and, and_true, Bool.not_true, Bool.not_false, Nat.zero_add, Nat.reduceAdd, Nat.reduceSub, Nat.reduceLeDiff, Nat.reduceEqDiff, ten6, ↓zFn_e, ↓zE_e, ↓zS_e, ↓dK_e, ↓zCall_e, ↓zIfS_e, ↓zRet_e, ↓zDrop_e, ↓zAsg_e, ↓zNext_e, ↓zForR_e, ↓dFld_e, ↓zSet_e, ↓zMeth_e, ↓zLen_e, ↓zTold_e, g3_0, g3_1, g3_2, t3_0, t3_1, t3_2, desk_eq]
    refine law_done_shorten g.n3 (by omega) (by omega) ?_
    rw [zSeq_e]
    simp only [oEq_s2, q_sp, ↓onB_b, ↓onI_i, ↓onStr_s, ↓onSeq_l, ↓onSeq_t, ↓onSeq_s, ↓onS_s, ↓dFn_e, ↓dVar_e, ↓dC_e, ↓dOp_e, ↓dUn_e, ↓dNil_e, ↓dCons_e, ↓dTup_e, ↓dLst_e, ↓dTest_e, ↓dAnd_e, ↓dOr_e, ↓dNot_e, ↓dAndV_e, ↓dOrV_e, ↓dNotV_e, ↓dIf_e, ↓dChain_e, ↓dCall_e, ↓dCB_e, ↓dNext_e, ↓dRet_e, ↓dDrop_e, ↓dAsg_e, ↓dIfS_e, ↓dRaise_e, ↓dgName_e, ↓dgNil_e, ↓dgCons_e, ↓dgTup_e, ↓dPar_e, ↓dPar3_e, ↓dFor_e, ↓dLc_e, lcL_n, lcL_c, ↓dYes_e, ↓dOver_e, ↓dRng1_e, ↓dRng2_e, ↓dPart_e, ↓dNoPart_e, ↓dMs_e, ↓dIsi_e, ↓dToldC_e, oAdd_ii, oAdd_ss, oAdd_ll, oSub_ii, oMul_ii, oMul_si, oDiv_ii, oMod_ii, oPow_ii, oNeg_i, oEq_ii, oNe_ii, oLt_ii, oLe_ii, oGt_ii, oGe_ii, oIs_e, oIsN_e, oIx_l, oIx_t, oIx_s, oLen_t, oLen_l, oAbs_i, oMax_l, oMin_l, oMin_t, oMax_t, oMax2_ii, oMin2_ii, oAll_l, oSum_l, oTuple_l, oSindex_ss, roll_e, ↓if_t, ↓if_f, if_T, if_F, Bool.false_eq_true, oLen_s, oList_t, oList_l, ↓dSl_e, onSl_l, onSl_s, isi_tt, isi_lt, isi_nt, isi_it, isi_bt, isi_st, isi_ii, isi_ib, isi_bi, isi_bb, isi_si, isi_ni, isi_ti, isi_li, isi_ss, isi_is, isi_bs, isi_ns, isi_ts, isi_ls, pl4, atI4_0, atI4_1, atI4_2, atI4_3, asInts, asBools, asStrs, Option.map, look, put, drp, drps, startR, List.length_cons, List.length_nil, List.map_cons, List.map_nil, List.replicate, List.append, List.cons_append, List.nil_append, List.append_nil, plain, true_and, and_true, Bool.not_true, Bool.not_false, Nat.zero_add, Nat.reduceAdd, Nat.reduceSub, Nat.reduceLeDiff, Nat.reduceEqDiff, ten6, ↓zFn_e, ↓zE_e, ↓zS_e, ↓dK_e, ↓zCall_e, ↓zIfS_e, ↓zRet_e, ↓zDrop_e, ↓zAsg_e, ↓zNext_e, ↓zForR_e, ↓dFld_e, ↓zSet_e, ↓zMeth_e, ↓zLen_e, ↓zTold_e, g3_0, g3_1, g3_2, t3_0, t3_1, t3_2, desk_eq]
    rw [zSeq_e]
    simp only [oEq_s2, q_pp, decide_true, plains_n, ↓onB_b, ↓onI_i, ↓onStr_s, ↓onSeq_l, ↓onSeq_t, ↓onSeq_s, ↓onS_s, ↓dFn_e, ↓dVar_e, ↓dC_e, ↓dOp_e, ↓dUn_e, ↓dNil_e, ↓dCons_e, ↓dTup_e, ↓dLst_e, ↓dTest_e, ↓dAnd_e, ↓dOr_e, ↓dNot_e, ↓dAndV_e, ↓dOrV_e, ↓dNotV_e, ↓dIf_e, ↓dChain_e, ↓dCall_e, ↓dCB_e, ↓dNext_e, ↓dRet_e, ↓dDrop_e, ↓dAsg_e, ↓dIfS_e, ↓dRaise_e, ↓dgName_e, ↓dgNil_e, ↓dgCons_e, ↓dgTup_e, ↓dPar_e, ↓dPar3_e, ↓dFor_e, ↓dLc_e, lcL_n, lcL_c, ↓dYes_e, ↓dOver_e, ↓dRng1_e, ↓dRng2_e, ↓dPart_e, ↓dNoPart_e, ↓dMs_e, ↓dIsi_e, ↓dToldC_e, oAdd_ii, oAdd_ss, oAdd_ll, oSub_ii, oMul_ii, oMul_si, oDiv_ii, oMod_ii, oPow_ii, oNeg_i, oEq_ii, oNe_ii, oLt_ii, oLe_ii, oGt_ii, oGe_ii, oIs_e, oIsN_e, oIx_l, oIx_t, oIx_s, oLen_t, oLen_l, oAbs_i, oMax_l, oMin_l, oMin_t, oMax_t, oMax2_ii, oMin2_ii, oAll_l, oSum_l, oTuple_l, oSindex_ss, roll_e, ↓if_t, ↓if_f, if_T, if_F, Bool.false_eq_true, oLen_s, oList_t, oList_l, ↓dSl_e, onSl_l, onSl_s, isi_tt, isi_lt, isi_nt, isi_it, isi_bt, isi_st, isi_ii, isi_ib, isi_bi, isi_bb, isi_si, isi_ni, isi_ti, isi_li, isi_ss, isi_is, isi_bs, isi_ns, isi_ts, isi_ls, pl4, atI4_0, atI4_1, atI4_2, atI4_3, asInts, asBools, asStrs, Option.map, look, put, drp, drps, startR, List.length_cons, List.length_nil, List.map_cons, List.map_nil, List.replicate, List.append, List.cons_append, List.nil_append, List.append_nil, plain, true_and, and_true, Bool.not_true, Bool.not_false, Nat.zero_add, Nat.reduceAdd, Nat.reduceSub, Nat.reduceLeDiff, Nat.reduceEqDiff, ten6, ↓zFn_e, ↓zE_e, ↓zS_e, ↓dK_e, ↓zCall_e, ↓zIfS_e, ↓zRet_e, ↓zDrop_e, ↓zAsg_e, ↓zNext_e, ↓zForR_e, ↓dFld_e, ↓zSet_e, ↓zMeth_e, ↓zLen_e, ↓zTold_e, g3_0, g3_1, g3_2, t3_0, t3_1, t3_2, desk_eq]
    refine law_short_ok g.n3 (by omega) (law_short_ok g.n3 (by omega) ?_)
    simp only [plains_c, plains_n, plain_s, plain_l, plain_t, ↓onB_b, ↓onI_i, ↓onStr_s, ↓onSeq_l, ↓onSeq_t, ↓onSeq_s, ↓onS_s, ↓dFn_e, ↓dVar_e, ↓dC_e, ↓dOp_e, ↓dUn_e, ↓dNil_e, ↓dCons_e, ↓dTup_e, ↓dLst_e, ↓dTest_e, ↓dAnd_e, ↓dOr_e, ↓dNot_e, ↓dAndV_e, ↓dOrV_e, ↓dNotV_e, ↓dIf_e, ↓dChain_e, ↓dCall_e, ↓dCB_e, ↓dNext_e, ↓dRet_e, ↓dDrop_e, ↓dAsg_e, ↓dIfS_e, ↓dRaise_e, ↓dgName_e, ↓dgNil_e, ↓dgCons_e, ↓dgTup_e, ↓dPar_e, ↓dPar3_e, ↓dFor_e, ↓dLc_e, lcL_n, lcL_c, ↓dYes_e, ↓dOver_e, ↓dRng1_e, ↓dRng2_e, ↓dPart_e, ↓dNoPart_e, ↓dMs_e, ↓dIsi_e, ↓dToldC_e, oAdd_ii, oAdd_ss, oAdd_ll, oSub_ii, oMul_ii, oMul_si, oDiv_ii, oMod_ii, oPow_ii, oNeg_i, oEq_ii, oNe_ii, oLt_ii, oLe_ii, oGt_ii, oGe_ii, oIs_e, oIsN_e, oIx_l, oIx_t, oIx_s, oLen_t, oLen_l, oAbs_i, oMax_l, oMin_l, oMin_t, oMax_t, oMax2_ii, oMin2_ii, oAll_l, oSum_l, oTuple_l, oSindex_ss, roll_e, ↓if_t, ↓if_f, if_T, if_F, Bool.false_eq_true, oLen_s, oList_t, oList_l, ↓dSl_e, onSl_l, onSl_s, isi_tt, isi_lt, isi_nt, isi_it, isi_bt, isi_st, isi_ii, isi_ib, isi_bi, isi_bb, isi_si, isi_ni, isi_ti, isi_li, isi_ss, isi_is, isi_bs, isi_ns, isi_ts, isi_ls, pl4, atI4_0, atI4_1, atI4_2, atI4_3, asInts, asBools, asStrs, Option.map, look, put, drp, drps, startR, List.length_cons, List.length_nil, List.map_cons, List.map_nil, List.replicate, List.append, List.cons_append, List.nil_append, List.append_nil, plain, true_and, and_true, Bool.not_true, Bool.not_false, Nat.zero_add, Nat.reduceAdd, Nat.reduceSub, Nat.reduceLeDiff, Nat.reduceEqDiff, ten6, ↓zFn_e, ↓zE_e, ↓zS_e, ↓dK_e, ↓zCall_e, ↓zIfS_e, ↓zRet_e, ↓zDrop_e, ↓zAsg_e, ↓zNext_e, ↓zForR_e, ↓dFld_e, ↓zSet_e, ↓zMeth_e, ↓zLen_e, ↓zTold_e, g3_0, g3_1, g3_2, t3_0, t3_1, t3_2, desk_eq]
    rw [List.length_map, map1]
    refine ⟨by omega, ?_⟩
    have sl := shr_len n
    exact h _ _ (shr n) (e ++ [n]) [] (same_w _) ⟨shr_three g.n3, by omega, snoc eB, fun _ z => absurd z List.not_mem_nil, snl be, nlB⟩
  · rcases lst_cases e with rfl | ⟨e', w, rfl⟩
    · simp only [↓onB_b, ↓onI_i, ↓onStr_s, ↓onSeq_l, ↓onSeq_t, ↓onSeq_s, ↓onS_s, ↓dFn_e, ↓dVar_e, ↓dC_e, ↓dOp_e, ↓dUn_e, ↓dNil_e, ↓dCons_e, ↓dTup_e, ↓dLst_e, ↓dTest_e, ↓dAnd_e, ↓dOr_e, ↓dNot_e, ↓dAndV_e, ↓dOrV_e, ↓dNotV_e, ↓dIf_e, ↓dChain_e, ↓dCall_e, ↓dCB_e, ↓dNext_e, ↓dRet_e, ↓dDrop_e, ↓dAsg_e, ↓dIfS_e, ↓dRaise_e, ↓dgName_e, ↓dgNil_e, ↓dgCons_e, ↓dgTup_e, ↓dPar_e, ↓dPar3_e, ↓dFor_e, ↓dLc_e, lcL_n, lcL_c, ↓dYes_e, ↓dOver_e, ↓dRng1_e, ↓dRng2_e, ↓dPart_e, ↓dNoPart_e, ↓dMs_e, ↓dIsi_e, ↓dToldC_e, oAdd_ii, oAdd_ss, oAdd_ll, oSub_ii, oMul_ii, oMul_si, oDiv_ii, oMod_ii, oPow_ii, oNeg_i, oEq_ii, oNe_ii, oLt_ii, oLe_ii, oGt_ii, oGe_ii, oIs_e, oIsN_e, oIx_l, oIx_t, oIx_s, oLen_t, oLen_l, oAbs_i, oMax_l, oMin_l, oMin_t, oMax_t, oMax2_ii, oMin2_ii, oAll_l, oSum_l, oTuple_l, oSindex_ss, roll_e, ↓if_t, ↓if_f, if_T, if_F, Bool.false_eq_true, oLen_s, oList_t, oList_l, ↓dSl_e, onSl_l, onSl_s, isi_tt, isi_lt, isi_nt, isi_it, isi_bt, isi_st, isi_ii, isi_ib, isi_bi, isi_bb, isi_si, isi_ni, isi_ti, isi_li, isi_ss, isi_is, isi_bs, isi_ns, isi_ts, isi_ls, pl4, atI4_0, atI4_1, atI4_2, atI4_3, asInts, asBools, asStrs, Option.map, look, put, drp, drps, startR, List.length_cons, List.length_nil, List.map_cons, List.map_nil, List.replicate, List.append, List.cons_append, List.nil_append, List.append_nil, plain, true_and, and_true, Bool.not_true, Bool.not_false, Nat.zero_add, Nat.reduceAdd, Nat.reduceSub, Nat.reduceLeDiff, Nat.reduceEqDiff, ten6, ↓zFn_e, ↓zE_e, ↓zS_e, ↓dK_e, ↓zCall_e, ↓zIfS_e, ↓zRet_e, ↓zDrop_e, ↓zAsg_e, ↓zNext_e, ↓zForR_e, ↓dFld_e, ↓zSet_e, ↓zMeth_e, ↓zLen_e, ↓zTold_e, g3_0, g3_1, g3_2, t3_0, t3_1, t3_2, desk_eq]
      refine law_done_undo0 ?_
      simp only [zSeq_e, oEq_s2, q_up, q_us, q_pp, decide_true, plains_n, ↓onB_b, ↓onI_i, ↓onStr_s, ↓onSeq_l, ↓onSeq_t, ↓onSeq_s, ↓onS_s, ↓dFn_e, ↓dVar_e, ↓dC_e, ↓dOp_e, ↓dUn_e, ↓dNil_e, ↓dCons_e, ↓dTup_e, ↓dLst_e, ↓dTest_e, ↓dAnd_e, ↓dOr_e, ↓dNot_e, ↓dAndV_e, ↓dOrV_e, ↓dNotV_e, ↓dIf_e, ↓dChain_e, ↓dCall_e, ↓dCB_e, ↓dNext_e, ↓dRet_e, ↓dDrop_e, ↓dAsg_e, ↓dIfS_e, ↓dRaise_e, ↓dgName_e, ↓dgNil_e, ↓dgCons_e, ↓dgTup_e, ↓dPar_e, ↓dPar3_e, ↓dFor_e, ↓dLc_e, lcL_n, lcL_c, ↓dYes_e, ↓dOver_e, ↓dRng1_e, ↓dRng2_e, ↓dPart_e, ↓dNoPart_e, ↓dMs_e, ↓dIsi_e, ↓dToldC_e, oAdd_ii, oAdd_ss, oAdd_ll, oSub_ii, oMul_ii, oMul_si, oDiv_ii, oMod_ii, oPow_ii, oNeg_i, oEq_ii, oNe_ii, oLt_ii, oLe_ii, oGt_ii, oGe_ii, oIs_e, oIsN_e, oIx_l, oIx_t, oIx_s, oLen_t, oLen_l, oAbs_i, oMax_l, oMin_l, oMin_t, oMax_t, oMax2_ii, oMin2_ii, oAll_l, oSum_l, oTuple_l, oSindex_ss, roll_e, ↓if_t, ↓if_f, if_T, if_F, Bool.false_eq_true, oLen_s, oList_t, oList_l, ↓dSl_e, onSl_l, onSl_s, isi_tt, isi_lt, isi_nt, isi_it, isi_bt, isi_st, isi_ii, isi_ib, isi_bi, isi_bb, isi_si, isi_ni, isi_ti, isi_li, isi_ss, isi_is, isi_bs, isi_ns, isi_ts, isi_ls, pl4, atI4_0, atI4_1, atI4_2, atI4_3, asInts, asBools, asStrs, Option.map, look, put, drp, drps, startR, List.length_cons, List.length_nil, List.map_cons, List.map_nil, List.replicate, List.append, List.cons_append, List.nil_append, List.append_nil, plain, true_and, and_true, Bool.not_true, Bool.not_false, Nat.zero_add, Nat.reduceAdd, Nat.reduceSub, Nat.reduceLeDiff, Nat.reduceEqDiff, ten6, ↓zFn_e, ↓zE_e, ↓zS_e, ↓dK_e, ↓zCall_e, ↓zIfS_e, ↓zRet_e, ↓zDrop_e, ↓zAsg_e, ↓zNext_e, ↓zForR_e, ↓dFld_e, ↓zSet_e, ↓zMeth_e, ↓zLen_e, ↓zTold_e, g3_0, g3_1, g3_2, t3_0, t3_1, t3_2, desk_eq]
      refine eq_nil_t ?_
      simp only [plains_c, plains_n, plain_s, plain_l, plain_t, ↓onB_b, ↓onI_i, ↓onStr_s, ↓onSeq_l, ↓onSeq_t, ↓onSeq_s, ↓onS_s, ↓dFn_e, ↓dVar_e, ↓dC_e, ↓dOp_e, ↓dUn_e, ↓dNil_e, ↓dCons_e, ↓dTup_e, ↓dLst_e, ↓dTest_e, ↓dAnd_e, ↓dOr_e, ↓dNot_e, ↓dAndV_e, ↓dOrV_e, ↓dNotV_e, ↓dIf_e, ↓dChain_e, ↓dCall_e, ↓dCB_e, ↓dNext_e, ↓dRet_e, ↓dDrop_e, ↓dAsg_e, ↓dIfS_e, ↓dRaise_e, ↓dgName_e, ↓dgNil_e, ↓dgCons_e, ↓dgTup_e, ↓dPar_e, ↓dPar3_e, ↓dFor_e, ↓dLc_e, lcL_n, lcL_c, ↓dYes_e, ↓dOver_e, ↓dRng1_e, ↓dRng2_e, ↓dPart_e, ↓dNoPart_e, ↓dMs_e, ↓dIsi_e, ↓dToldC_e, oAdd_ii, oAdd_ss, oAdd_ll, oSub_ii, oMul_ii, oMul_si, oDiv_ii, oMod_ii, oPow_ii, oNeg_i, oEq_ii, oNe_ii, oLt_ii, oLe_ii, oGt_ii, oGe_ii, oIs_e, oIsN_e, oIx_l, oIx_t, oIx_s, oLen_t, oLen_l, oAbs_i, oMax_l, oMin_l, oMin_t, oMax_t, oMax2_ii, oMin2_ii, oAll_l, oSum_l, oTuple_l, oSindex_ss, roll_e, ↓if_t, ↓if_f, if_T, if_F, Bool.false_eq_true, oLen_s, oList_t, oList_l, ↓dSl_e, onSl_l, onSl_s, isi_tt, isi_lt, isi_nt, isi_it, isi_bt, isi_st, isi_ii, isi_ib, isi_bi, isi_bb, isi_si, isi_ni, isi_ti, isi_li, isi_ss, isi_is, isi_bs, isi_ns, isi_ts, isi_ls, pl4, atI4_0, atI4_1, atI4_2, atI4_3, asInts, asBools, asStrs, Option.map, look, put, drp, drps, startR, List.length_cons, List.length_nil, List.map_cons, List.map_nil, List.replicate, List.append, List.cons_append, List.nil_append, List.append_nil, plain, true_and, and_true, Bool.not_true, Bool.not_false, Nat.zero_add, Nat.reduceAdd, Nat.reduceSub, Nat.reduceLeDiff, Nat.reduceEqDiff, ten6, ↓zFn_e, ↓zE_e, ↓zS_e, ↓dK_e, ↓zCall_e, ↓zIfS_e, ↓zRet_e, ↓zDrop_e, ↓zAsg_e, ↓zNext_e, ↓zForR_e, ↓dFld_e, ↓zSet_e, ↓zMeth_e, ↓zLen_e, ↓zTold_e, g3_0, g3_1, g3_2, t3_0, t3_1, t3_2, desk_eq]
      refine ⟨rfl, ?_⟩
      exact h (errD 15) _ n [] u same_e ⟨nB.1, nB.2, eB, uB, nlB, by omega⟩
    · simp only [↓onB_b, ↓onI_i, ↓onStr_s, ↓onSeq_l, ↓onSeq_t, ↓onSeq_s, ↓onS_s, ↓dFn_e, ↓dVar_e, ↓dC_e, ↓dOp_e, ↓dUn_e, ↓dNil_e, ↓dCons_e, ↓dTup_e, ↓dLst_e, ↓dTest_e, ↓dAnd_e, ↓dOr_e, ↓dNot_e, ↓dAndV_e, ↓dOrV_e, ↓dNotV_e, ↓dIf_e, ↓dChain_e, ↓dCall_e, ↓dCB_e, ↓dNext_e, ↓dRet_e, ↓dDrop_e, ↓dAsg_e, ↓dIfS_e, ↓dRaise_e, ↓dgName_e, ↓dgNil_e, ↓dgCons_e, ↓dgTup_e, ↓dPar_e, ↓dPar3_e, ↓dFor_e, ↓dLc_e, lcL_n, lcL_c, ↓dYes_e, ↓dOver_e, ↓dRng1_e, ↓dRng2_e, ↓dPart_e, ↓dNoPart_e, ↓dMs_e, ↓dIsi_e, ↓dToldC_e, oAdd_ii, oAdd_ss, oAdd_ll, oSub_ii, oMul_ii, oMul_si, oDiv_ii, oMod_ii, oPow_ii, oNeg_i, oEq_ii, oNe_ii, oLt_ii, oLe_ii, oGt_ii, oGe_ii, oIs_e, oIsN_e, oIx_l, oIx_t, oIx_s, oLen_t, oLen_l, oAbs_i, oMax_l, oMin_l, oMin_t, oMax_t, oMax2_ii, oMin2_ii, oAll_l, oSum_l, oTuple_l, oSindex_ss, roll_e, ↓if_t, ↓if_f, if_T, if_F, Bool.false_eq_true, oLen_s, oList_t, oList_l, ↓dSl_e, onSl_l, onSl_s, isi_tt, isi_lt, isi_nt, isi_it, isi_bt, isi_st, isi_ii, isi_ib, isi_bi, isi_bb, isi_si, isi_ni, isi_ti, isi_li, isi_ss, isi_is, isi_bs, isi_ns, isi_ts, isi_ls, pl4, atI4_0, atI4_1, atI4_2, atI4_3, asInts, asBools, asStrs, Option.map, look, put, drp, drps, startR, List.length_cons, List.length_nil, List.map_cons, List.map_nil, List.replicate, List.append, List.cons_append, List.nil_append, List.append_nil, plain, true_and, and_true, Bool.not_true, Bool.not_false, Nat.zero_add, Nat.reduceAdd, Nat.reduceSub, Nat.reduceLeDiff, Nat.reduceEqDiff, ten6, ↓zFn_e, ↓zE_e, ↓zS_e, ↓dK_e, ↓zCall_e, ↓zIfS_e, ↓zRet_e, ↓zDrop_e, ↓zAsg_e, ↓zNext_e, ↓zForR_e, ↓dFld_e, ↓zSet_e, ↓zMeth_e, ↓zLen_e, ↓zTold_e, g3_0, g3_1, g3_2, t3_0, t3_1, t3_2, desk_eq]
      have e3 : ∀ w' ∈ e' ++ [w], ∀ c ∈ w', three c := fun w' hw => (g.e3 w' hw).1
      refine law_done_undo e3 (by omega) ?_
      simp only [zSeq_e, oEq_s2, q_up, q_us, q_pp, decide_true, plains_n, ↓onB_b, ↓onI_i, ↓onStr_s, ↓onSeq_l, ↓onSeq_t, ↓onSeq_s, ↓onS_s, ↓dFn_e, ↓dVar_e, ↓dC_e, ↓dOp_e, ↓dUn_e, ↓dNil_e, ↓dCons_e, ↓dTup_e, ↓dLst_e, ↓dTest_e, ↓dAnd_e, ↓dOr_e, ↓dNot_e, ↓dAndV_e, ↓dOrV_e, ↓dNotV_e, ↓dIf_e, ↓dChain_e, ↓dCall_e, ↓dCB_e, ↓dNext_e, ↓dRet_e, ↓dDrop_e, ↓dAsg_e, ↓dIfS_e, ↓dRaise_e, ↓dgName_e, ↓dgNil_e, ↓dgCons_e, ↓dgTup_e, ↓dPar_e, ↓dPar3_e, ↓dFor_e, ↓dLc_e, lcL_n, lcL_c, ↓dYes_e, ↓dOver_e, ↓dRng1_e, ↓dRng2_e, ↓dPart_e, ↓dNoPart_e, ↓dMs_e, ↓dIsi_e, ↓dToldC_e, oAdd_ii, oAdd_ss, oAdd_ll, oSub_ii, oMul_ii, oMul_si, oDiv_ii, oMod_ii, oPow_ii, oNeg_i, oEq_ii, oNe_ii, oLt_ii, oLe_ii, oGt_ii, oGe_ii, oIs_e, oIsN_e, oIx_l, oIx_t, oIx_s, oLen_t, oLen_l, oAbs_i, oMax_l, oMin_l, oMin_t, oMax_t, oMax2_ii, oMin2_ii, oAll_l, oSum_l, oTuple_l, oSindex_ss, roll_e, ↓if_t, ↓if_f, if_T, if_F, Bool.false_eq_true, oLen_s, oList_t, oList_l, ↓dSl_e, onSl_l, onSl_s, isi_tt, isi_lt, isi_nt, isi_it, isi_bt, isi_st, isi_ii, isi_ib, isi_bi, isi_bb, isi_si, isi_ni, isi_ti, isi_li, isi_ss, isi_is, isi_bs, isi_ns, isi_ts, isi_ls, pl4, atI4_0, atI4_1, atI4_2, atI4_3, asInts, asBools, asStrs, Option.map, look, put, drp, drps, startR, List.length_cons, List.length_nil, List.map_cons, List.map_nil, List.replicate, List.append, List.cons_append, List.nil_append, List.append_nil, plain, true_and, and_true, Bool.not_true, Bool.not_false, Nat.zero_add, Nat.reduceAdd, Nat.reduceSub, Nat.reduceLeDiff, Nat.reduceEqDiff, ten6, ↓zFn_e, ↓zE_e, ↓zS_e, ↓dK_e, ↓zCall_e, ↓zIfS_e, ↓zRet_e, ↓zDrop_e, ↓zAsg_e, ↓zNext_e, ↓zForR_e, ↓dFld_e, ↓zSet_e, ↓zMeth_e, ↓zLen_e, ↓zTold_e, g3_0, g3_1, g3_2, t3_0, t3_1, t3_2, desk_eq]
      refine nil_ws e3 ?_
      have e0 : (e' ++ [w]).isEmpty = false := by cases e' <;> rfl
      rw [onB_b, e0, if_f]
      simp only [last_ws, cut_ws, plains_c, plains_n, plain_s, plain_l, plain_t, ↓onB_b, ↓onI_i, ↓onStr_s, ↓onSeq_l, ↓onSeq_t, ↓onSeq_s, ↓onS_s, ↓dFn_e, ↓dVar_e, ↓dC_e, ↓dOp_e, ↓dUn_e, ↓dNil_e, ↓dCons_e, ↓dTup_e, ↓dLst_e, ↓dTest_e, ↓dAnd_e, ↓dOr_e, ↓dNot_e, ↓dAndV_e, ↓dOrV_e, ↓dNotV_e, ↓dIf_e, ↓dChain_e, ↓dCall_e, ↓dCB_e, ↓dNext_e, ↓dRet_e, ↓dDrop_e, ↓dAsg_e, ↓dIfS_e, ↓dRaise_e, ↓dgName_e, ↓dgNil_e, ↓dgCons_e, ↓dgTup_e, ↓dPar_e, ↓dPar3_e, ↓dFor_e, ↓dLc_e, lcL_n, lcL_c, ↓dYes_e, ↓dOver_e, ↓dRng1_e, ↓dRng2_e, ↓dPart_e, ↓dNoPart_e, ↓dMs_e, ↓dIsi_e, ↓dToldC_e, oAdd_ii, oAdd_ss, oAdd_ll, oSub_ii, oMul_ii, oMul_si, oDiv_ii, oMod_ii, oPow_ii, oNeg_i, oEq_ii, oNe_ii, oLt_ii, oLe_ii, oGt_ii, oGe_ii, oIs_e, oIsN_e, oIx_l, oIx_t, oIx_s, oLen_t, oLen_l, oAbs_i, oMax_l, oMin_l, oMin_t, oMax_t, oMax2_ii, oMin2_ii, oAll_l, oSum_l, oTuple_l, oSindex_ss, roll_e, ↓if_t, ↓if_f, if_T, if_F, Bool.false_eq_true, oLen_s, oList_t, oList_l, ↓dSl_e, onSl_l, onSl_s, isi_tt, isi_lt, isi_nt, isi_it, isi_bt, isi_st, isi_ii, isi_ib, isi_bi, isi_bb, isi_si, isi_ni, isi_ti, isi_li, isi_ss, isi_is, isi_bs, isi_ns, isi_ts, isi_ls, pl4, atI4_0, atI4_1, atI4_2, atI4_3, asInts, asBools, asStrs, Option.map, look, put, drp, drps, startR, List.length_cons, List.length_nil, List.map_cons, List.map_nil, List.replicate, List.append, List.cons_append, List.nil_append, List.append_nil, plain, true_and, and_true, Bool.not_true, Bool.not_false, Nat.zero_add, Nat.reduceAdd, Nat.reduceSub, Nat.reduceLeDiff, Nat.reduceEqDiff, ten6, ↓zFn_e, ↓zE_e, ↓zS_e, ↓dK_e, ↓zCall_e, ↓zIfS_e, ↓zRet_e, ↓zDrop_e, ↓zAsg_e, ↓zNext_e, ↓zForR_e, ↓dFld_e, ↓zSet_e, ↓zMeth_e, ↓zLen_e, ↓zTold_e, g3_0, g3_1, g3_2, t3_0, t3_1, t3_2, desk_eq]
      rw [List.length_map, map1]
      refine ⟨by omega, ?_⟩
      have we := eB w (List.mem_append.mpr (.inr List.mem_cons_self))
      have le : e'.length ≤ B + 1 := by
        rw [List.length_append] at be
        omega
      exact h _ _ w e' (u ++ [n]) (same_w _) ⟨we.1, we.2, fun x hx => eB x (List.mem_append.mpr (.inl hx)), snoc uB, le, snl bu⟩
  · rcases lst_cases u with rfl | ⟨u', w, rfl⟩
    · simp only [↓onB_b, ↓onI_i, ↓onStr_s, ↓onSeq_l, ↓onSeq_t, ↓onSeq_s, ↓onS_s, ↓dFn_e, ↓dVar_e, ↓dC_e, ↓dOp_e, ↓dUn_e, ↓dNil_e, ↓dCons_e, ↓dTup_e, ↓dLst_e, ↓dTest_e, ↓dAnd_e, ↓dOr_e, ↓dNot_e, ↓dAndV_e, ↓dOrV_e, ↓dNotV_e, ↓dIf_e, ↓dChain_e, ↓dCall_e, ↓dCB_e, ↓dNext_e, ↓dRet_e, ↓dDrop_e, ↓dAsg_e, ↓dIfS_e, ↓dRaise_e, ↓dgName_e, ↓dgNil_e, ↓dgCons_e, ↓dgTup_e, ↓dPar_e, ↓dPar3_e, ↓dFor_e, ↓dLc_e, lcL_n, lcL_c, ↓dYes_e, ↓dOver_e, ↓dRng1_e, ↓dRng2_e, ↓dPart_e, ↓dNoPart_e, ↓dMs_e, ↓dIsi_e, ↓dToldC_e, oAdd_ii, oAdd_ss, oAdd_ll, oSub_ii, oMul_ii, oMul_si, oDiv_ii, oMod_ii, oPow_ii, oNeg_i, oEq_ii, oNe_ii, oLt_ii, oLe_ii, oGt_ii, oGe_ii, oIs_e, oIsN_e, oIx_l, oIx_t, oIx_s, oLen_t, oLen_l, oAbs_i, oMax_l, oMin_l, oMin_t, oMax_t, oMax2_ii, oMin2_ii, oAll_l, oSum_l, oTuple_l, oSindex_ss, roll_e, ↓if_t, ↓if_f, if_T, if_F, Bool.false_eq_true, oLen_s, oList_t, oList_l, ↓dSl_e, onSl_l, onSl_s, isi_tt, isi_lt, isi_nt, isi_it, isi_bt, isi_st, isi_ii, isi_ib, isi_bi, isi_bb, isi_si, isi_ni, isi_ti, isi_li, isi_ss, isi_is, isi_bs, isi_ns, isi_ts, isi_ls, pl4, atI4_0, atI4_1, atI4_2, atI4_3, asInts, asBools, asStrs, Option.map, look, put, drp, drps, startR, List.length_cons, List.length_nil, List.map_cons, List.map_nil, List.replicate, List.append, List.cons_append, List.nil_append, List.append_nil, plain, true_and, and_true, Bool.not_true, Bool.not_false, Nat.zero_add, Nat.reduceAdd, Nat.reduceSub, Nat.reduceLeDiff, Nat.reduceEqDiff, ten6, ↓zFn_e, ↓zE_e, ↓zS_e, ↓dK_e, ↓zCall_e, ↓zIfS_e, ↓zRet_e, ↓zDrop_e, ↓zAsg_e, ↓zNext_e, ↓zForR_e, ↓dFld_e, ↓zSet_e, ↓zMeth_e, ↓zLen_e, ↓zTold_e, g3_0, g3_1, g3_2, t3_0, t3_1, t3_2, desk_eq]
      refine law_done_redo0 ?_
      simp only [zSeq_e, oEq_s2, q_rp, q_rs, q_ru, q_pp, decide_true, plains_n, ↓onB_b, ↓onI_i, ↓onStr_s, ↓onSeq_l, ↓onSeq_t, ↓onSeq_s, ↓onS_s, ↓dFn_e, ↓dVar_e, ↓dC_e, ↓dOp_e, ↓dUn_e, ↓dNil_e, ↓dCons_e, ↓dTup_e, ↓dLst_e, ↓dTest_e, ↓dAnd_e, ↓dOr_e, ↓dNot_e, ↓dAndV_e, ↓dOrV_e, ↓dNotV_e, ↓dIf_e, ↓dChain_e, ↓dCall_e, ↓dCB_e, ↓dNext_e, ↓dRet_e, ↓dDrop_e, ↓dAsg_e, ↓dIfS_e, ↓dRaise_e, ↓dgName_e, ↓dgNil_e, ↓dgCons_e, ↓dgTup_e, ↓dPar_e, ↓dPar3_e, ↓dFor_e, ↓dLc_e, lcL_n, lcL_c, ↓dYes_e, ↓dOver_e, ↓dRng1_e, ↓dRng2_e, ↓dPart_e, ↓dNoPart_e, ↓dMs_e, ↓dIsi_e, ↓dToldC_e, oAdd_ii, oAdd_ss, oAdd_ll, oSub_ii, oMul_ii, oMul_si, oDiv_ii, oMod_ii, oPow_ii, oNeg_i, oEq_ii, oNe_ii, oLt_ii, oLe_ii, oGt_ii, oGe_ii, oIs_e, oIsN_e, oIx_l, oIx_t, oIx_s, oLen_t, oLen_l, oAbs_i, oMax_l, oMin_l, oMin_t, oMax_t, oMax2_ii, oMin2_ii, oAll_l, oSum_l, oTuple_l, oSindex_ss, roll_e, ↓if_t, ↓if_f, if_T, if_F, Bool.false_eq_true, oLen_s, oList_t, oList_l, ↓dSl_e, onSl_l, onSl_s, isi_tt, isi_lt, isi_nt, isi_it, isi_bt, isi_st, isi_ii, isi_ib, isi_bi, isi_bb, isi_si, isi_ni, isi_ti, isi_li, isi_ss, isi_is, isi_bs, isi_ns, isi_ts, isi_ls, pl4, atI4_0, atI4_1, atI4_2, atI4_3, asInts, asBools, asStrs, Option.map, look, put, drp, drps, startR, List.length_cons, List.length_nil, List.map_cons, List.map_nil, List.replicate, List.append, List.cons_append, List.nil_append, List.append_nil, plain, true_and, and_true, Bool.not_true, Bool.not_false, Nat.zero_add, Nat.reduceAdd, Nat.reduceSub, Nat.reduceLeDiff, Nat.reduceEqDiff, ten6, ↓zFn_e, ↓zE_e, ↓zS_e, ↓dK_e, ↓zCall_e, ↓zIfS_e, ↓zRet_e, ↓zDrop_e, ↓zAsg_e, ↓zNext_e, ↓zForR_e, ↓dFld_e, ↓zSet_e, ↓zMeth_e, ↓zLen_e, ↓zTold_e, g3_0, g3_1, g3_2, t3_0, t3_1, t3_2, desk_eq]
      refine eq_nil_t ?_
      simp only [plains_c, plains_n, plain_s, plain_l, plain_t, ↓onB_b, ↓onI_i, ↓onStr_s, ↓onSeq_l, ↓onSeq_t, ↓onSeq_s, ↓onS_s, ↓dFn_e, ↓dVar_e, ↓dC_e, ↓dOp_e, ↓dUn_e, ↓dNil_e, ↓dCons_e, ↓dTup_e, ↓dLst_e, ↓dTest_e, ↓dAnd_e, ↓dOr_e, ↓dNot_e, ↓dAndV_e, ↓dOrV_e, ↓dNotV_e, ↓dIf_e, ↓dChain_e, ↓dCall_e, ↓dCB_e, ↓dNext_e, ↓dRet_e, ↓dDrop_e, ↓dAsg_e, ↓dIfS_e, ↓dRaise_e, ↓dgName_e, ↓dgNil_e, ↓dgCons_e, ↓dgTup_e, ↓dPar_e, ↓dPar3_e, ↓dFor_e, ↓dLc_e, lcL_n, lcL_c, ↓dYes_e, ↓dOver_e, ↓dRng1_e, ↓dRng2_e, ↓dPart_e, ↓dNoPart_e, ↓dMs_e, ↓dIsi_e, ↓dToldC_e, oAdd_ii, oAdd_ss, oAdd_ll, oSub_ii, oMul_ii, oMul_si, oDiv_ii, oMod_ii, oPow_ii, oNeg_i, oEq_ii, oNe_ii, oLt_ii, oLe_ii, oGt_ii, oGe_ii, oIs_e, oIsN_e, oIx_l, oIx_t, oIx_s, oLen_t, oLen_l, oAbs_i, oMax_l, oMin_l, oMin_t, oMax_t, oMax2_ii, oMin2_ii, oAll_l, oSum_l, oTuple_l, oSindex_ss, roll_e, ↓if_t, ↓if_f, if_T, if_F, Bool.false_eq_true, oLen_s, oList_t, oList_l, ↓dSl_e, onSl_l, onSl_s, isi_tt, isi_lt, isi_nt, isi_it, isi_bt, isi_st, isi_ii, isi_ib, isi_bi, isi_bb, isi_si, isi_ni, isi_ti, isi_li, isi_ss, isi_is, isi_bs, isi_ns, isi_ts, isi_ls, pl4, atI4_0, atI4_1, atI4_2, atI4_3, asInts, asBools, asStrs, Option.map, look, put, drp, drps, startR, List.length_cons, List.length_nil, List.map_cons, List.map_nil, List.replicate, List.append, List.cons_append, List.nil_append, List.append_nil, plain, true_and, and_true, Bool.not_true, Bool.not_false, Nat.zero_add, Nat.reduceAdd, Nat.reduceSub, Nat.reduceLeDiff, Nat.reduceEqDiff, ten6, ↓zFn_e, ↓zE_e, ↓zS_e, ↓dK_e, ↓zCall_e, ↓zIfS_e, ↓zRet_e, ↓zDrop_e, ↓zAsg_e, ↓zNext_e, ↓zForR_e, ↓dFld_e, ↓zSet_e, ↓zMeth_e, ↓zLen_e, ↓zTold_e, g3_0, g3_1, g3_2, t3_0, t3_1, t3_2, desk_eq]
      refine ⟨rfl, ?_⟩
      exact h (errD 15) _ n e [] same_e ⟨nB.1, nB.2, eB, uB, by omega, nlB⟩
    · simp only [↓onB_b, ↓onI_i, ↓onStr_s, ↓onSeq_l, ↓onSeq_t, ↓onSeq_s, ↓onS_s, ↓dFn_e, ↓dVar_e, ↓dC_e, ↓dOp_e, ↓dUn_e, ↓dNil_e, ↓dCons_e, ↓dTup_e, ↓dLst_e, ↓dTest_e, ↓dAnd_e, ↓dOr_e, ↓dNot_e, ↓dAndV_e, ↓dOrV_e, ↓dNotV_e, ↓dIf_e, ↓dChain_e, ↓dCall_e, ↓dCB_e, ↓dNext_e, ↓dRet_e, ↓dDrop_e, ↓dAsg_e, ↓dIfS_e, ↓dRaise_e, ↓dgName_e, ↓dgNil_e, ↓dgCons_e, ↓dgTup_e, ↓dPar_e, ↓dPar3_e, ↓dFor_e, ↓dLc_e, lcL_n, lcL_c, ↓dYes_e, ↓dOver_e, ↓dRng1_e, ↓dRng2_e, ↓dPart_e, ↓dNoPart_e, ↓dMs_e, ↓dIsi_e, ↓dToldC_e, oAdd_ii, oAdd_ss, oAdd_ll, oSub_ii, oMul_ii, oMul_si, oDiv_ii, oMod_ii, oPow_ii, oNeg_i, oEq_ii, oNe_ii, oLt_ii, oLe_ii, oGt_ii, oGe_ii, oIs_e, oIsN_e, oIx_l, oIx_t, oIx_s, oLen_t, oLen_l, oAbs_i, oMax_l, oMin_l, oMin_t, oMax_t, oMax2_ii, oMin2_ii, oAll_l, oSum_l, oTuple_l, oSindex_ss, roll_e, ↓if_t, ↓if_f, if_T, if_F, Bool.false_eq_true, oLen_s, oList_t, oList_l, ↓dSl_e, onSl_l, onSl_s, isi_tt, isi_lt, isi_nt, isi_it, isi_bt, isi_st, isi_ii, isi_ib, isi_bi, isi_bb, isi_si, isi_ni, isi_ti, isi_li, isi_ss, isi_is, isi_bs, isi_ns, isi_ts, isi_ls, pl4, atI4_0, atI4_1, atI4_2, atI4_3, asInts, asBools, asStrs, Option.map, look, put, drp, drps, startR, List.length_cons, List.length_nil, List.map_cons, List.map_nil, List.replicate, List.append, List.cons_append, List.nil_append, List.append_nil, plain, true_and, and_true, Bool.not_true, Bool.not_false, Nat.zero_add, Nat.reduceAdd, Nat.reduceSub, Nat.reduceLeDiff, Nat.reduceEqDiff, ten6, ↓zFn_e, ↓zE_e, ↓zS_e, ↓dK_e, ↓zCall_e, ↓zIfS_e, ↓zRet_e, ↓zDrop_e, ↓zAsg_e, ↓zNext_e, ↓zForR_e, ↓dFld_e, ↓zSet_e, ↓zMeth_e, ↓zLen_e, ↓zTold_e, g3_0, g3_1, g3_2, t3_0, t3_1, t3_2, desk_eq]
      have e3 : ∀ w' ∈ u' ++ [w], ∀ c ∈ w', three c := fun w' hw => (g.u3 w' hw).1
      refine law_done_redo e3 (by omega) ?_
      simp only [zSeq_e, oEq_s2, q_rp, q_rs, q_ru, q_pp, decide_true, plains_n, ↓onB_b, ↓onI_i, ↓onStr_s, ↓onSeq_l, ↓onSeq_t, ↓onSeq_s, ↓onS_s, ↓dFn_e, ↓dVar_e, ↓dC_e, ↓dOp_e, ↓dUn_e, ↓dNil_e, ↓dCons_e, ↓dTup_e, ↓dLst_e, ↓dTest_e, ↓dAnd_e, ↓dOr_e, ↓dNot_e, ↓dAndV_e, ↓dOrV_e, ↓dNotV_e, ↓dIf_e, ↓dChain_e, ↓dCall_e, ↓dCB_e, ↓dNext_e, ↓dRet_e, ↓dDrop_e, ↓dAsg_e, ↓dIfS_e, ↓dRaise_e, ↓dgName_e, ↓dgNil_e, ↓dgCons_e, ↓dgTup_e, ↓dPar_e, ↓dPar3_e, ↓dFor_e, ↓dLc_e, lcL_n, lcL_c, ↓dYes_e, ↓dOver_e, ↓dRng1_e, ↓dRng2_e, ↓dPart_e, ↓dNoPart_e, ↓dMs_e, ↓dIsi_e, ↓dToldC_e, oAdd_ii, oAdd_ss, oAdd_ll, oSub_ii, oMul_ii, oMul_si, oDiv_ii, oMod_ii, oPow_ii, oNeg_i, oEq_ii, oNe_ii, oLt_ii, oLe_ii, oGt_ii, oGe_ii, oIs_e, oIsN_e, oIx_l, oIx_t, oIx_s, oLen_t, oLen_l, oAbs_i, oMax_l, oMin_l, oMin_t, oMax_t, oMax2_ii, oMin2_ii, oAll_l, oSum_l, oTuple_l, oSindex_ss, roll_e, ↓if_t, ↓if_f, if_T, if_F, Bool.false_eq_true, oLen_s, oList_t, oList_l, ↓dSl_e, onSl_l, onSl_s, isi_tt, isi_lt, isi_nt, isi_it, isi_bt, isi_st, isi_ii, isi_ib, isi_bi, isi_bb, isi_si, isi_ni, isi_ti, isi_li, isi_ss, isi_is, isi_bs, isi_ns, isi_ts, isi_ls, pl4, atI4_0, atI4_1, atI4_2, atI4_3, asInts, asBools, asStrs, Option.map, look, put, drp, drps, startR, List.length_cons, List.length_nil, List.map_cons, List.map_nil, List.replicate, List.append, List.cons_append, List.nil_append, List.append_nil, plain, true_and, and_true, Bool.not_true, Bool.not_false, Nat.zero_add, Nat.reduceAdd, Nat.reduceSub, Nat.reduceLeDiff, Nat.reduceEqDiff, ten6, ↓zFn_e, ↓zE_e, ↓zS_e, ↓dK_e, ↓zCall_e, ↓zIfS_e, ↓zRet_e, ↓zDrop_e, ↓zAsg_e, ↓zNext_e, ↓zForR_e, ↓dFld_e, ↓zSet_e, ↓zMeth_e, ↓zLen_e, ↓zTold_e, g3_0, g3_1, g3_2, t3_0, t3_1, t3_2, desk_eq]
      refine nil_ws e3 ?_
      have e0 : (u' ++ [w]).isEmpty = false := by cases u' <;> rfl
      rw [onB_b, e0, if_f]
      simp only [oEq_s2, q_ru, last_ws, cut_ws, plains_c, plains_n, plain_s, plain_l, plain_t, ↓onB_b, ↓onI_i, ↓onStr_s, ↓onSeq_l, ↓onSeq_t, ↓onSeq_s, ↓onS_s, ↓dFn_e, ↓dVar_e, ↓dC_e, ↓dOp_e, ↓dUn_e, ↓dNil_e, ↓dCons_e, ↓dTup_e, ↓dLst_e, ↓dTest_e, ↓dAnd_e, ↓dOr_e, ↓dNot_e, ↓dAndV_e, ↓dOrV_e, ↓dNotV_e, ↓dIf_e, ↓dChain_e, ↓dCall_e, ↓dCB_e, ↓dNext_e, ↓dRet_e, ↓dDrop_e, ↓dAsg_e, ↓dIfS_e, ↓dRaise_e, ↓dgName_e, ↓dgNil_e, ↓dgCons_e, ↓dgTup_e, ↓dPar_e, ↓dPar3_e, ↓dFor_e, ↓dLc_e, lcL_n, lcL_c, ↓dYes_e, ↓dOver_e, ↓dRng1_e, ↓dRng2_e, ↓dPart_e, ↓dNoPart_e, ↓dMs_e, ↓dIsi_e, ↓dToldC_e, oAdd_ii, oAdd_ss, oAdd_ll, oSub_ii, oMul_ii, oMul_si, oDiv_ii, oMod_ii, oPow_ii, oNeg_i, oEq_ii, oNe_ii, oLt_ii, oLe_ii, oGt_ii, oGe_ii, oIs_e, oIsN_e, oIx_l, oIx_t, oIx_s, oLen_t, oLen_l, oAbs_i, oMax_l, oMin_l, oMin_t, oMax_t, oMax2_ii, oMin2_ii, oAll_l, oSum_l, oTuple_l, oSindex_ss, roll_e, ↓if_t, ↓if_f, if_T, if_F, Bool.false_eq_true, oLen_s, oList_t, oList_l, ↓dSl_e, onSl_l, onSl_s, isi_tt, isi_lt, isi_nt, isi_it, isi_bt, isi_st, isi_ii, isi_ib, isi_bi, isi_bb, isi_si, isi_ni, isi_ti, isi_li, isi_ss, isi_is, isi_bs, isi_ns, isi_ts, isi_ls, pl4, atI4_0, atI4_1, atI4_2, atI4_3, asInts, asBools, asStrs, Option.map, look, put, drp, drps, startR, List.length_cons, List.length_nil, List.map_cons, List.map_nil, List.replicate, List.append, List.cons_append, List.nil_append, List.append_nil, plain, true_and, and_true, Bool.not_true, Bool.not_false, Nat.zero_add, Nat.reduceAdd, Nat.reduceSub, Nat.reduceLeDiff, Nat.reduceEqDiff, ten6, ↓zFn_e, ↓zE_e, ↓zS_e, ↓dK_e, ↓zCall_e, ↓zIfS_e, ↓zRet_e, ↓zDrop_e, ↓zAsg_e, ↓zNext_e, ↓zForR_e, ↓dFld_e, ↓zSet_e, ↓zMeth_e, ↓zLen_e, ↓zTold_e, g3_0, g3_1, g3_2, t3_0, t3_1, t3_2, desk_eq]
      rw [List.length_map, map1]
      refine ⟨by omega, ?_⟩
      have we := uB w (List.mem_append.mpr (.inr List.mem_cons_self))
      have le : u'.length ≤ B + 1 := by
        rw [List.length_append] at bu
        omega
      exact h _ _ w (e ++ [n]) u' (same_w _) ⟨we.1, we.2, snoc eB, fun x hx => uB x (List.mem_append.mpr (.inl hx)), snl be, le⟩

theorem put_bad {n : List Nat} {e u : List (List Nat)} {d : PyData} {Q : GS → PyData → Prop} {E : GS → Nat → Prop} (hd : ∀ (Q : PyData → Prop) (E : Nat → Prop), (∀ b : Bool, (b = true → ∃ z : Str, d = .str z ∧ z.length ≤ 1000000 ∧ z.length ≠ 1) → Q (.bool b)) → f_is_made_of [d, .str (Str.ofString "stT")] Q E) (h : E (st n e u) 9) : f_Desk_put (st n e u) [deskD, d] Q E := by
  rw [f_Desk_put, b_Desk_put, zFn_e, zSeq_e]
  simp only [↓onB_b, ↓onI_i, ↓onStr_s, ↓onSeq_l, ↓onSeq_t, ↓onSeq_s, ↓onS_s, ↓dFn_e, ↓dVar_e, ↓dC_e, ↓dOp_e, ↓dUn_e, ↓dNil_e, ↓dCons_e, ↓dTup_e, ↓dLst_e, ↓dTest_e, ↓dAnd_e, ↓dOr_e, ↓dNot_e, ↓dAndV_e, ↓dOrV_e, ↓dNotV_e, ↓dIf_e, ↓dChain_e, ↓dCall_e, ↓dCB_e, ↓dNext_e, ↓dRet_e, ↓dDrop_e, ↓dAsg_e, ↓dIfS_e, ↓dRaise_e, ↓dgName_e, ↓dgNil_e, ↓dgCons_e, ↓dgTup_e, ↓dPar_e, ↓dPar3_e, ↓dFor_e, ↓dLc_e, lcL_n, lcL_c, ↓dYes_e, ↓dOver_e, ↓dRng1_e, ↓dRng2_e, ↓dPart_e, ↓dNoPart_e, ↓dMs_e, ↓dIsi_e, ↓dToldC_e, oAdd_ii, oAdd_ss, oAdd_ll, oSub_ii, oMul_ii, oMul_si, oDiv_ii, oMod_ii, oPow_ii, oNeg_i, oEq_ii, oNe_ii, oLt_ii, oLe_ii, oGt_ii, oGe_ii, oIs_e, oIsN_e, oIx_l, oIx_t, oIx_s, oLen_t, oLen_l, oAbs_i, oMax_l, oMin_l, oMin_t, oMax_t, oMax2_ii, oMin2_ii, oAll_l, oSum_l, oTuple_l, oSindex_ss, roll_e, ↓if_t, ↓if_f, if_T, if_F, Bool.false_eq_true, oLen_s, oList_t, oList_l, ↓dSl_e, onSl_l, onSl_s, isi_tt, isi_lt, isi_nt, isi_it, isi_bt, isi_st, isi_ii, isi_ib, isi_bi, isi_bb, isi_si, isi_ni, isi_ti, isi_li, isi_ss, isi_is, isi_bs, isi_ns, isi_ts, isi_ls, pl4, atI4_0, atI4_1, atI4_2, atI4_3, asInts, asBools, asStrs, Option.map, look, put, drp, drps, startR, List.length_cons, List.length_nil, List.map_cons, List.map_nil, List.replicate, List.append, List.cons_append, List.nil_append, List.append_nil, plain, true_and, and_true, Bool.not_true, Bool.not_false, Nat.zero_add, Nat.reduceAdd, Nat.reduceSub, Nat.reduceLeDiff, Nat.reduceEqDiff, ten6, ↓zFn_e, ↓zE_e, ↓zS_e, ↓dK_e, ↓zCall_e, ↓zIfS_e, ↓zRet_e, ↓zDrop_e, ↓zAsg_e, ↓zNext_e, ↓zForR_e, ↓dFld_e, ↓zSet_e, ↓zMeth_e, ↓zLen_e, ↓zTold_e, g3_0, g3_1, g3_2, t3_0, t3_1, t3_2, desk_eq]
  refine hd _ _ fun b hb => ?_
  cases b with
  | false =>
    simp only [↓onB_b, ↓onI_i, ↓onStr_s, ↓onSeq_l, ↓onSeq_t, ↓onSeq_s, ↓onS_s, ↓dFn_e, ↓dVar_e, ↓dC_e, ↓dOp_e, ↓dUn_e, ↓dNil_e, ↓dCons_e, ↓dTup_e, ↓dLst_e, ↓dTest_e, ↓dAnd_e, ↓dOr_e, ↓dNot_e, ↓dAndV_e, ↓dOrV_e, ↓dNotV_e, ↓dIf_e, ↓dChain_e, ↓dCall_e, ↓dCB_e, ↓dNext_e, ↓dRet_e, ↓dDrop_e, ↓dAsg_e, ↓dIfS_e, ↓dRaise_e, ↓dgName_e, ↓dgNil_e, ↓dgCons_e, ↓dgTup_e, ↓dPar_e, ↓dPar3_e, ↓dFor_e, ↓dLc_e, lcL_n, lcL_c, ↓dYes_e, ↓dOver_e, ↓dRng1_e, ↓dRng2_e, ↓dPart_e, ↓dNoPart_e, ↓dMs_e, ↓dIsi_e, ↓dToldC_e, oAdd_ii, oAdd_ss, oAdd_ll, oSub_ii, oMul_ii, oMul_si, oDiv_ii, oMod_ii, oPow_ii, oNeg_i, oEq_ii, oNe_ii, oLt_ii, oLe_ii, oGt_ii, oGe_ii, oIs_e, oIsN_e, oIx_l, oIx_t, oIx_s, oLen_t, oLen_l, oAbs_i, oMax_l, oMin_l, oMin_t, oMax_t, oMax2_ii, oMin2_ii, oAll_l, oSum_l, oTuple_l, oSindex_ss, roll_e, ↓if_t, ↓if_f, if_T, if_F, Bool.false_eq_true, oLen_s, oList_t, oList_l, ↓dSl_e, onSl_l, onSl_s, isi_tt, isi_lt, isi_nt, isi_it, isi_bt, isi_st, isi_ii, isi_ib, isi_bi, isi_bb, isi_si, isi_ni, isi_ti, isi_li, isi_ss, isi_is, isi_bs, isi_ns, isi_ts, isi_ls, pl4, atI4_0, atI4_1, atI4_2, atI4_3, asInts, asBools, asStrs, Option.map, look, put, drp, drps, startR, List.length_cons, List.length_nil, List.map_cons, List.map_nil, List.replicate, List.append, List.cons_append, List.nil_append, List.append_nil, plain, true_and, and_true, Bool.not_true, Bool.not_false, Nat.zero_add, Nat.reduceAdd, Nat.reduceSub, Nat.reduceLeDiff, Nat.reduceEqDiff, ten6, ↓zFn_e, ↓zE_e, ↓zS_e, ↓dK_e, ↓zCall_e, ↓zIfS_e, ↓zRet_e, ↓zDrop_e, ↓zAsg_e, ↓zNext_e, ↓zForR_e, ↓dFld_e, ↓zSet_e, ↓zMeth_e, ↓zLen_e, ↓zTold_e, g3_0, g3_1, g3_2, t3_0, t3_1, t3_2, desk_eq]
    exact h
  | true =>
    obtain ⟨z, rfl, hz, hz1⟩ := hb rfl
    simp only [↓onB_b, ↓onI_i, ↓onStr_s, ↓onSeq_l, ↓onSeq_t, ↓onSeq_s, ↓onS_s, ↓dFn_e, ↓dVar_e, ↓dC_e, ↓dOp_e, ↓dUn_e, ↓dNil_e, ↓dCons_e, ↓dTup_e, ↓dLst_e, ↓dTest_e, ↓dAnd_e, ↓dOr_e, ↓dNot_e, ↓dAndV_e, ↓dOrV_e, ↓dNotV_e, ↓dIf_e, ↓dChain_e, ↓dCall_e, ↓dCB_e, ↓dNext_e, ↓dRet_e, ↓dDrop_e, ↓dAsg_e, ↓dIfS_e, ↓dRaise_e, ↓dgName_e, ↓dgNil_e, ↓dgCons_e, ↓dgTup_e, ↓dPar_e, ↓dPar3_e, ↓dFor_e, ↓dLc_e, lcL_n, lcL_c, ↓dYes_e, ↓dOver_e, ↓dRng1_e, ↓dRng2_e, ↓dPart_e, ↓dNoPart_e, ↓dMs_e, ↓dIsi_e, ↓dToldC_e, oAdd_ii, oAdd_ss, oAdd_ll, oSub_ii, oMul_ii, oMul_si, oDiv_ii, oMod_ii, oPow_ii, oNeg_i, oEq_ii, oNe_ii, oLt_ii, oLe_ii, oGt_ii, oGe_ii, oIs_e, oIsN_e, oIx_l, oIx_t, oIx_s, oLen_t, oLen_l, oAbs_i, oMax_l, oMin_l, oMin_t, oMax_t, oMax2_ii, oMin2_ii, oAll_l, oSum_l, oTuple_l, oSindex_ss, roll_e, ↓if_t, ↓if_f, if_T, if_F, Bool.false_eq_true, oLen_s, oList_t, oList_l, ↓dSl_e, onSl_l, onSl_s, isi_tt, isi_lt, isi_nt, isi_it, isi_bt, isi_st, isi_ii, isi_ib, isi_bi, isi_bb, isi_si, isi_ni, isi_ti, isi_li, isi_ss, isi_is, isi_bs, isi_ns, isi_ts, isi_ls, pl4, atI4_0, atI4_1, atI4_2, atI4_3, asInts, asBools, asStrs, Option.map, look, put, drp, drps, startR, List.length_cons, List.length_nil, List.map_cons, List.map_nil, List.replicate, List.append, List.cons_append, List.nil_append, List.append_nil, plain, true_and, and_true, Bool.not_true, Bool.not_false, Nat.zero_add, Nat.reduceAdd, Nat.reduceSub, Nat.reduceLeDiff, Nat.reduceEqDiff, ten6, ↓zFn_e, ↓zE_e, ↓zS_e, ↓dK_e, ↓zCall_e, ↓zIfS_e, ↓zRet_e, ↓zDrop_e, ↓zAsg_e, ↓zNext_e, ↓zForR_e, ↓dFld_e, ↓zSet_e, ↓zMeth_e, ↓zLen_e, ↓zTold_e, g3_0, g3_1, g3_2, t3_0, t3_1, t3_2, desk_eq]
    refine ⟨hz, ?_⟩
    have e1 : decide ((z.length : Int) = 1) = false := decide_eq_false (by omega)
    rw [e1]
    simp only [↓onB_b, ↓onI_i, ↓onStr_s, ↓onSeq_l, ↓onSeq_t, ↓onSeq_s, ↓onS_s, ↓dFn_e, ↓dVar_e, ↓dC_e, ↓dOp_e, ↓dUn_e, ↓dNil_e, ↓dCons_e, ↓dTup_e, ↓dLst_e, ↓dTest_e, ↓dAnd_e, ↓dOr_e, ↓dNot_e, ↓dAndV_e, ↓dOrV_e, ↓dNotV_e, ↓dIf_e, ↓dChain_e, ↓dCall_e, ↓dCB_e, ↓dNext_e, ↓dRet_e, ↓dDrop_e, ↓dAsg_e, ↓dIfS_e, ↓dRaise_e, ↓dgName_e, ↓dgNil_e, ↓dgCons_e, ↓dgTup_e, ↓dPar_e, ↓dPar3_e, ↓dFor_e, ↓dLc_e, lcL_n, lcL_c, ↓dYes_e, ↓dOver_e, ↓dRng1_e, ↓dRng2_e, ↓dPart_e, ↓dNoPart_e, ↓dMs_e, ↓dIsi_e, ↓dToldC_e, oAdd_ii, oAdd_ss, oAdd_ll, oSub_ii, oMul_ii, oMul_si, oDiv_ii, oMod_ii, oPow_ii, oNeg_i, oEq_ii, oNe_ii, oLt_ii, oLe_ii, oGt_ii, oGe_ii, oIs_e, oIsN_e, oIx_l, oIx_t, oIx_s, oLen_t, oLen_l, oAbs_i, oMax_l, oMin_l, oMin_t, oMax_t, oMax2_ii, oMin2_ii, oAll_l, oSum_l, oTuple_l, oSindex_ss, roll_e, ↓if_t, ↓if_f, if_T, if_F, Bool.false_eq_true, oLen_s, oList_t, oList_l, ↓dSl_e, onSl_l, onSl_s, isi_tt, isi_lt, isi_nt, isi_it, isi_bt, isi_st, isi_ii, isi_ib, isi_bi, isi_bb, isi_si, isi_ni, isi_ti, isi_li, isi_ss, isi_is, isi_bs, isi_ns, isi_ts, isi_ls, pl4, atI4_0, atI4_1, atI4_2, atI4_3, asInts, asBools, asStrs, Option.map, look, put, drp, drps, startR, List.length_cons, List.length_nil, List.map_cons, List.map_nil, List.replicate, List.append, List.cons_append, List.nil_append, List.append_nil, plain, true_and, and_true, Bool.not_true, Bool.not_false, Nat.zero_add, Nat.reduceAdd, Nat.reduceSub, Nat.reduceLeDiff, Nat.reduceEqDiff, ten6, ↓zFn_e, ↓zE_e, ↓zS_e, ↓dK_e, ↓zCall_e, ↓zIfS_e, ↓zRet_e, ↓zDrop_e, ↓zAsg_e, ↓zNext_e, ↓zForR_e, ↓dFld_e, ↓zSet_e, ↓zMeth_e, ↓zLen_e, ↓zTold_e, g3_0, g3_1, g3_2, t3_0, t3_1, t3_2, desk_eq]
    exact h
theorem made_w {w : List Nat} (hl : w.length ≤ 1000) (h1 : w.length ≠ 1) (Q : PyData → Prop) (E : Nat → Prop) (h : ∀ b : Bool, (b = true → ∃ z : Str, W w = .str z ∧ z.length ≤ 1000000 ∧ z.length ≠ 1) → Q (.bool b)) : f_is_made_of [W w, .str (Str.ofString "stT")] Q E :=
  is_made_of_ok (by omega) (h _ fun _ => ⟨_, rfl, by rw [W_len]; omega, by rw [W_len]; exact h1⟩)
theorem made_f {w : List Nat} (hl : w.length ≤ 1000) (h1 : ¬ ∀ c ∈ w, three c) (Q : PyData → Prop) (E : Nat → Prop) (h : ∀ b : Bool, (b = true → ∃ z : Str, W w = .str z ∧ z.length ≤ 1000000 ∧ z.length ≠ 1) → Q (.bool b)) : f_is_made_of [W w, .str (Str.ofString "stT")] Q E := by
  refine is_made_of_ok (by omega) (h _ fun z => ?_)
  exact absurd (fun c hc => stT_mem.mp ((of_decide_eq_true z).2 c hc)) h1
theorem made_o {d : PyData} (h1 : plain d = true) (h2 : isiB d "str" = some false) (Q : PyData → Prop) (E : Nat → Prop) (h : ∀ b : Bool, (b = true → ∃ z : Str, d = .str z ∧ z.length ≤ 1000000 ∧ z.length ≠ 1) → Q (.bool b)) : f_is_made_of [d, .str (Str.ofString "stT")] Q E := by
  simp only [f_is_made_of, b_is_made_of, h2, ↓onB_b, ↓onI_i, ↓onStr_s, ↓onSeq_l, ↓onSeq_t, ↓onSeq_s, ↓onS_s, ↓dFn_e, ↓dVar_e, ↓dC_e, ↓dOp_e, ↓dUn_e, ↓dNil_e, ↓dCons_e, ↓dTup_e, ↓dLst_e, ↓dTest_e, ↓dAnd_e, ↓dOr_e, ↓dNot_e, ↓dAndV_e, ↓dOrV_e, ↓dNotV_e, ↓dIf_e, ↓dChain_e, ↓dCall_e, ↓dCB_e, ↓dNext_e, ↓dSeq_e, ↓dRet_e, ↓dDrop_e, ↓dAsg_e, ↓dIfS_e, ↓dRaise_e, ↓dgName_e, ↓dgNil_e, ↓dgCons_e, ↓dgTup_e, ↓dPar_e, ↓dPar3_e, ↓dFor_e, ↓dLc_e, lcL_n, lcL_c, ↓dYes_e, ↓dOver_e, ↓dRng1_e, ↓dRng2_e, ↓dPart_e, ↓dNoPart_e, ↓dMs_e, ↓dIsi_e, ↓dToldC_e, oAdd_ii, oAdd_ss, oAdd_ll, oSub_ii, oMul_ii, oMul_si, oDiv_ii, oMod_ii, oPow_ii, oNeg_i, oEq_ii, oNe_ii, oLt_ii, oLe_ii, oGt_ii, oGe_ii, oIs_e, oIsN_e, oIx_l, oIx_t, oIx_s, oLen_t, oLen_l, oAbs_i, oMax_l, oMin_l, oMin_t, oMax_t, oMax2_ii, oMin2_ii, oAll_l, oSum_l, oTuple_l, oSindex_ss, roll_e, ↓if_t, ↓if_f, if_T, if_F, Bool.false_eq_true, oLen_s, oList_t, oList_l, ↓dSl_e, onSl_l, onSl_s, isi_tt, isi_lt, isi_nt, isi_it, isi_bt, isi_st, isi_ii, isi_ib, isi_bi, isi_bb, isi_si, isi_ni, isi_ti, isi_li, isi_ss, isi_is, isi_bs, isi_ns, isi_ts, isi_ls, pl4, atI4_0, atI4_1, atI4_2, atI4_3, asInts, asBools, asStrs, Option.map, look, put, drp, drps, startR, List.length_cons, List.length_nil, List.map_cons, List.map_nil, List.replicate, List.append, List.cons_append, List.nil_append, List.append_nil, plain, true_and, and_true, Bool.not_true, Bool.not_false, Nat.zero_add, Nat.reduceAdd, Nat.reduceSub, Nat.reduceLeDiff, Nat.reduceEqDiff, ten6]
  exact ⟨h1, h false nofun⟩
theorem s_st2 : Str.ofString "st" = ⟨[115, 116].toArray⟩ := by decide +kernel
theorem forZ_inv {g : DG} {b : DZ} {nx : GS → Rho → Prop} {rt : GS → PyData → Prop} {E : GS → Nat → Prop} (I : Nat → GS → Rho → Prop) (m : Nat) (step : ∀ (k : Nat) (x : PyData) (s : GS) (r : Rho) (K : GS → Rho → Prop), k < m → I k s r → (∀ s' r', I (k + 1) s' r' → K s' r') → g x r (fun r' => b s r' K rt E)) : ∀ (xs : List PyData) (k : Nat) (s : GS) (r : Rho), k + xs.length = m → (∀ s r, I m s r → nx s r) → I k s r → forZ g b nx rt E xs s r
  | [], k, s, r, hm, fin, h => by
    rw [forZ_n]
    have : k = m := hm
    exact fin s r (by rw [← this]; exact h)
  | x :: xs, k, s, r, hm, fin, h => by
    rw [forZ_c]
    rw [List.length_cons] at hm
    exact step k x s r _ (by omega) h fun s' r' h' => forZ_inv I m step xs (k + 1) s' r' (by omega) fin h'
theorem rest_ok {n : List Nat} {e u : List (List Nat)} {a x6 x8 x9 : Option PyData} {nx : GS → Rho → Prop} {rt : GS → PyData → Prop} {E : GS → Nat → Prop} (g : Good 16 n e u) (h : ∀ s r, nx s r) :
    (zSeq (zS (fun s => (dIfS (dTest (dOp oNe (dK (zMeth 1 f_Desk_normal (fun s => (dVar 2)) (fun s => dNil)) s) (dCall 1 f_normal_of_word (dCons (dVar 3) dNil)))) (dRet (dC (.bool false))) dNext))) (zSeq (zS (fun s => (dFor (dOver (dLst (dCons (dC (.str ("" : Str))) (dCons (dC (.str ("st" : Str))) (dCons (dC (.str ("w" : Str))) (dCons (dC .none) (dCons (dC (.int 1)) (dCons (dLst (dCons (dC (.str ("s" : Str))) dNil)) dNil)))))))) (dgName 7) (dIfS (dTest (dOp oNe (dK (zTold (zMeth 2 f_Desk_put (fun s => (dVar 2)) (fun s => (dCons (dVar 7) dNil)))) s) (dTup (dCons (dC (.str ("error" : Str))) (dCons (dC (.str ("InvalidLetter" : Str))) dNil))))) (dRet (dC (.bool false))) dNext)))) (zS (fun s => (dIfS (dTest (dOp oNe (dK (zMeth 1 f_Desk_word (fun s => (dVar 2)) (fun s => dNil)) s) (dVar 3))) (dRet (dC (.bool false))) dNext)))))
    (st n e u) [a, some dice, some deskD, some (W n), some (.list (e.map W)), some (.list (u.map W)), x6, none, x8, x9] nx rt E := by
  have bn := g.nl
  rw [zSeq_e]
  simp only [↓onB_b, ↓onI_i, ↓onStr_s, ↓onSeq_l, ↓onSeq_t, ↓onSeq_s, ↓onS_s, ↓dFn_e, ↓dVar_e, ↓dC_e, ↓dOp_e, ↓dUn_e, ↓dNil_e, ↓dCons_e, ↓dTup_e, ↓dLst_e, ↓dTest_e, ↓dAnd_e, ↓dOr_e, ↓dNot_e, ↓dAndV_e, ↓dOrV_e, ↓dNotV_e, ↓dIf_e, ↓dChain_e, ↓dCall_e, ↓dCB_e, ↓dNext_e, ↓dRet_e, ↓dDrop_e, ↓dAsg_e, ↓dIfS_e, ↓dRaise_e, ↓dgName_e, ↓dgNil_e, ↓dgCons_e, ↓dgTup_e, ↓dPar_e, ↓dPar3_e, ↓dFor_e, ↓dLc_e, lcL_n, lcL_c, ↓dYes_e, ↓dOver_e, ↓dRng1_e, ↓dRng2_e, ↓dPart_e, ↓dNoPart_e, ↓dMs_e, ↓dIsi_e, ↓dToldC_e, oAdd_ii, oAdd_ss, oAdd_ll, oSub_ii, oMul_ii, oMul_si, oDiv_ii, oMod_ii, oPow_ii, oNeg_i, oEq_ii, oNe_ii, oLt_ii, oLe_ii, oGt_ii, oGe_ii, oIs_e, oIsN_e, oIx_l, oIx_t, oIx_s, oLen_t, oLen_l, oAbs_i, oMax_l, oMin_l, oMin_t, oMax_t, oMax2_ii, oMin2_ii, oAll_l, oSum_l, oTuple_l, oSindex_ss, roll_e, ↓if_t, ↓if_f, if_T, if_F, Bool.false_eq_true, oLen_s, oList_t, oList_l, ↓dSl_e, onSl_l, onSl_s, isi_tt, isi_lt, isi_nt, isi_it, isi_bt, isi_st, isi_ii, isi_ib, isi_bi, isi_bb, isi_si, isi_ni, isi_ti, isi_li, isi_ss, isi_is, isi_bs, isi_ns, isi_ts, isi_ls, pl4, atI4_0, atI4_1, atI4_2, atI4_3, asInts, asBools, asStrs, Option.map, look, put, drp, drps, startR, List.length_cons, List.length_nil, List.map_cons, List.map_nil, List.replicate, List.append, List.cons_append, List.nil_append, List.append_nil, plain, true_and, and_true, Bool.not_true, Bool.not_false, Nat.zero_add, Nat.reduceAdd, Nat.reduceSub, Nat.reduceLeDiff, Nat.reduceEqDiff, ten6, ↓zFn_e, ↓zE_e, ↓zS_e, ↓dK_e, ↓zCall_e, ↓zIfS_e, ↓zRet_e, ↓zDrop_e, ↓zAsg_e, ↓zNext_e, ↓zForR_e, ↓dFld_e, ↓zSet_e, ↓zMeth_e, ↓zLen_e, ↓zTold_e, g3_0, g3_1, g3_2, t3_0, t3_1, t3_2, desk_eq]
  refine Desk_normal_ok g.n3 (by omega) fun s x hs hx e1 l1 => ?_
  refine ⟨rfl, normal_of_word_ok g.n3 (by omega) fun s' x' hs' hx' e2 l2 => ?_⟩
  obtain ⟨rfl, rfl⟩ := nf_uniqW hs hs' hx hx' (e1.trans e2.symm)
  refine ne_sw (swv.asc hx.1) (swv.asc hx.1) ?_
  rw [decide_eq_true ⟨rfl, rfl⟩]
  simp only [↓onB_b, ↓onI_i, ↓onStr_s, ↓onSeq_l, ↓onSeq_t, ↓onSeq_s, ↓onS_s, ↓dFn_e, ↓dVar_e, ↓dC_e, ↓dOp_e, ↓dUn_e, ↓dNil_e, ↓dCons_e, ↓dTup_e, ↓dLst_e, ↓dTest_e, ↓dAnd_e, ↓dOr_e, ↓dNot_e, ↓dAndV_e, ↓dOrV_e, ↓dNotV_e, ↓dIf_e, ↓dChain_e, ↓dCall_e, ↓dCB_e, ↓dNext_e, ↓dRet_e, ↓dDrop_e, ↓dAsg_e, ↓dIfS_e, ↓dRaise_e, ↓dgName_e, ↓dgNil_e, ↓dgCons_e, ↓dgTup_e, ↓dPar_e, ↓dPar3_e, ↓dFor_e, ↓dLc_e, lcL_n, lcL_c, ↓dYes_e, ↓dOver_e, ↓dRng1_e, ↓dRng2_e, ↓dPart_e, ↓dNoPart_e, ↓dMs_e, ↓dIsi_e, ↓dToldC_e, oAdd_ii, oAdd_ss, oAdd_ll, oSub_ii, oMul_ii, oMul_si, oDiv_ii, oMod_ii, oPow_ii, oNeg_i, oEq_ii, oNe_ii, oLt_ii, oLe_ii, oGt_ii, oGe_ii, oIs_e, oIsN_e, oIx_l, oIx_t, oIx_s, oLen_t, oLen_l, oAbs_i, oMax_l, oMin_l, oMin_t, oMax_t, oMax2_ii, oMin2_ii, oAll_l, oSum_l, oTuple_l, oSindex_ss, roll_e, ↓if_t, ↓if_f, if_T, if_F, Bool.false_eq_true, oLen_s, oList_t, oList_l, ↓dSl_e, onSl_l, onSl_s, isi_tt, isi_lt, isi_nt, isi_it, isi_bt, isi_st, isi_ii, isi_ib, isi_bi, isi_bb, isi_si, isi_ni, isi_ti, isi_li, isi_ss, isi_is, isi_bs, isi_ns, isi_ts, isi_ls, pl4, atI4_0, atI4_1, atI4_2, atI4_3, asInts, asBools, asStrs, Option.map, look, put, drp, drps, startR, List.length_cons, List.length_nil, List.map_cons, List.map_nil, List.replicate, List.append, List.cons_append, List.nil_append, List.append_nil, plain, true_and, and_true, Bool.not_true, Bool.not_false, Nat.zero_add, Nat.reduceAdd, Nat.reduceSub, Nat.reduceLeDiff, Nat.reduceEqDiff, ten6, ↓zFn_e, ↓zE_e, ↓zS_e, ↓dK_e, ↓zCall_e, ↓zIfS_e, ↓zRet_e, ↓zDrop_e, ↓zAsg_e, ↓zNext_e, ↓zForR_e, ↓dFld_e, ↓zSet_e, ↓zMeth_e, ↓zLen_e, ↓zTold_e, g3_0, g3_1, g3_2, t3_0, t3_1, t3_2, desk_eq]
  rw [zSeq_e]
  simp only [plains_c, plains_n, plain_s, plain_l, plain_i, plain_no, ↓onB_b, ↓onI_i, ↓onStr_s, ↓onSeq_l, ↓onSeq_t, ↓onSeq_s, ↓onS_s, ↓dFn_e, ↓dVar_e, ↓dC_e, ↓dOp_e, ↓dUn_e, ↓dNil_e, ↓dCons_e, ↓dTup_e, ↓dLst_e, ↓dTest_e, ↓dAnd_e, ↓dOr_e, ↓dNot_e, ↓dAndV_e, ↓dOrV_e, ↓dNotV_e, ↓dIf_e, ↓dChain_e, ↓dCall_e, ↓dCB_e, ↓dNext_e, ↓dRet_e, ↓dDrop_e, ↓dAsg_e, ↓dIfS_e, ↓dRaise_e, ↓dgName_e, ↓dgNil_e, ↓dgCons_e, ↓dgTup_e, ↓dPar_e, ↓dPar3_e, ↓dFor_e, ↓dLc_e, lcL_n, lcL_c, ↓dYes_e, ↓dOver_e, ↓dRng1_e, ↓dRng2_e, ↓dPart_e, ↓dNoPart_e, ↓dMs_e, ↓dIsi_e, ↓dToldC_e, oAdd_ii, oAdd_ss, oAdd_ll, oSub_ii, oMul_ii, oMul_si, oDiv_ii, oMod_ii, oPow_ii, oNeg_i, oEq_ii, oNe_ii, oLt_ii, oLe_ii, oGt_ii, oGe_ii, oIs_e, oIsN_e, oIx_l, oIx_t, oIx_s, oLen_t, oLen_l, oAbs_i, oMax_l, oMin_l, oMin_t, oMax_t, oMax2_ii, oMin2_ii, oAll_l, oSum_l, oTuple_l, oSindex_ss, roll_e, ↓if_t, ↓if_f, if_T, if_F, Bool.false_eq_true, oLen_s, oList_t, oList_l, ↓dSl_e, onSl_l, onSl_s, isi_tt, isi_lt, isi_nt, isi_it, isi_bt, isi_st, isi_ii, isi_ib, isi_bi, isi_bb, isi_si, isi_ni, isi_ti, isi_li, isi_ss, isi_is, isi_bs, isi_ns, isi_ts, isi_ls, pl4, atI4_0, atI4_1, atI4_2, atI4_3, asInts, asBools, asStrs, Option.map, look, put, drp, drps, startR, List.length_cons, List.length_nil, List.map_cons, List.map_nil, List.replicate, List.append, List.cons_append, List.nil_append, List.append_nil, plain, true_and, and_true, Bool.not_true, Bool.not_false, Nat.zero_add, Nat.reduceAdd, Nat.reduceSub, Nat.reduceLeDiff, Nat.reduceEqDiff, ten6, ↓zFn_e, ↓zE_e, ↓zS_e, ↓dK_e, ↓zCall_e, ↓zIfS_e, ↓zRet_e, ↓zDrop_e, ↓zAsg_e, ↓zNext_e, ↓zForR_e, ↓dFld_e, ↓zSet_e, ↓zMeth_e, ↓zLen_e, ↓zTold_e, g3_0, g3_1, g3_2, t3_0, t3_1, t3_2, desk_eq]
  refine for_inv (fun xs r => (∀ d ∈ xs, ∀ (Q : PyData → Prop) (E : Nat → Prop), (∀ b : Bool, (b = true → ∃ z : Str, d = .str z ∧ z.length ≤ 1000000 ∧ z.length ≠ 1) → Q (.bool b)) → f_is_made_of [d, .str (Str.ofString "stT")] Q E) ∧ ∃ x7, r = [a, some dice, some deskD, some (W n), some (.list (e.map W)), some (.list (u.map W)), x6, x7, x8, x9]) ?_ ?_ _ _ ⟨?_, none, rfl⟩
  · rintro d ds r k ⟨hd, x7, rfl⟩ hk
    rw [dgName_e]
    simp only [↓onB_b, ↓onI_i, ↓onStr_s, ↓onSeq_l, ↓onSeq_t, ↓onSeq_s, ↓onS_s, ↓dFn_e, ↓dVar_e, ↓dC_e, ↓dOp_e, ↓dUn_e, ↓dNil_e, ↓dCons_e, ↓dTup_e, ↓dLst_e, ↓dTest_e, ↓dAnd_e, ↓dOr_e, ↓dNot_e, ↓dAndV_e, ↓dOrV_e, ↓dNotV_e, ↓dIf_e, ↓dChain_e, ↓dCall_e, ↓dCB_e, ↓dNext_e, ↓dRet_e, ↓dDrop_e, ↓dAsg_e, ↓dIfS_e, ↓dRaise_e, ↓dgName_e, ↓dgNil_e, ↓dgCons_e, ↓dgTup_e, ↓dPar_e, ↓dPar3_e, ↓dFor_e, ↓dLc_e, lcL_n, lcL_c, ↓dYes_e, ↓dOver_e, ↓dRng1_e, ↓dRng2_e, ↓dPart_e, ↓dNoPart_e, ↓dMs_e, ↓dIsi_e, ↓dToldC_e, oAdd_ii, oAdd_ss, oAdd_ll, oSub_ii, oMul_ii, oMul_si, oDiv_ii, oMod_ii, oPow_ii, oNeg_i, oEq_ii, oNe_ii, oLt_ii, oLe_ii, oGt_ii, oGe_ii, oIs_e, oIsN_e, oIx_l, oIx_t, oIx_s, oLen_t, oLen_l, oAbs_i, oMax_l, oMin_l, oMin_t, oMax_t, oMax2_ii, oMin2_ii, oAll_l, oSum_l, oTuple_l, oSindex_ss, roll_e, ↓if_t, ↓if_f, if_T, if_F, Bool.false_eq_true, oLen_s, oList_t, oList_l, ↓dSl_e, onSl_l, onSl_s, isi_tt, isi_lt, isi_nt, isi_it, isi_bt, isi_st, isi_ii, isi_ib, isi_bi, isi_bb, isi_si, isi_ni, isi_ti, isi_li, isi_ss, isi_is, isi_bs, isi_ns, isi_ts, isi_ls, pl4, atI4_0, atI4_1, atI4_2, atI4_3, asInts, asBools, asStrs, Option.map, look, put, drp, drps, startR, List.length_cons, List.length_nil, List.map_cons, List.map_nil, List.replicate, List.append, List.cons_append, List.nil_append, List.append_nil, plain, true_and, and_true, Bool.not_true, Bool.not_false, Nat.zero_add, Nat.reduceAdd, Nat.reduceSub, Nat.reduceLeDiff, Nat.reduceEqDiff, ten6, ↓zFn_e, ↓zE_e, ↓zS_e, ↓dK_e, ↓zCall_e, ↓zIfS_e, ↓zRet_e, ↓zDrop_e, ↓zAsg_e, ↓zNext_e, ↓zForR_e, ↓dFld_e, ↓zSet_e, ↓zMeth_e, ↓zLen_e, ↓zTold_e, g3_0, g3_1, g3_2, t3_0, t3_1, t3_2, desk_eq]
    refine put_bad (hd d List.mem_cons_self) ⟨by decide, rfl, ?_⟩
    refine ⟨rfl, ne_errB rfl ?_⟩
    simp only [↓onB_b, ↓onI_i, ↓onStr_s, ↓onSeq_l, ↓onSeq_t, ↓onSeq_s, ↓onS_s, ↓dFn_e, ↓dVar_e, ↓dC_e, ↓dOp_e, ↓dUn_e, ↓dNil_e, ↓dCons_e, ↓dTup_e, ↓dLst_e, ↓dTest_e, ↓dAnd_e, ↓dOr_e, ↓dNot_e, ↓dAndV_e, ↓dOrV_e, ↓dNotV_e, ↓dIf_e, ↓dChain_e, ↓dCall_e, ↓dCB_e, ↓dNext_e, ↓dRet_e, ↓dDrop_e, ↓dAsg_e, ↓dIfS_e, ↓dRaise_e, ↓dgName_e, ↓dgNil_e, ↓dgCons_e, ↓dgTup_e, ↓dPar_e, ↓dPar3_e, ↓dFor_e, ↓dLc_e, lcL_n, lcL_c, ↓dYes_e, ↓dOver_e, ↓dRng1_e, ↓dRng2_e, ↓dPart_e, ↓dNoPart_e, ↓dMs_e, ↓dIsi_e, ↓dToldC_e, oAdd_ii, oAdd_ss, oAdd_ll, oSub_ii, oMul_ii, oMul_si, oDiv_ii, oMod_ii, oPow_ii, oNeg_i, oEq_ii, oNe_ii, oLt_ii, oLe_ii, oGt_ii, oGe_ii, oIs_e, oIsN_e, oIx_l, oIx_t, oIx_s, oLen_t, oLen_l, oAbs_i, oMax_l, oMin_l, oMin_t, oMax_t, oMax2_ii, oMin2_ii, oAll_l, oSum_l, oTuple_l, oSindex_ss, roll_e, ↓if_t, ↓if_f, if_T, if_F, Bool.false_eq_true, oLen_s, oList_t, oList_l, ↓dSl_e, onSl_l, onSl_s, isi_tt, isi_lt, isi_nt, isi_it, isi_bt, isi_st, isi_ii, isi_ib, isi_bi, isi_bb, isi_si, isi_ni, isi_ti, isi_li, isi_ss, isi_is, isi_bs, isi_ns, isi_ts, isi_ls, pl4, atI4_0, atI4_1, atI4_2, atI4_3, asInts, asBools, asStrs, Option.map, look, put, drp, drps, startR, List.length_cons, List.length_nil, List.map_cons, List.map_nil, List.replicate, List.append, List.cons_append, List.nil_append, List.append_nil, plain, true_and, and_true, Bool.not_true, Bool.not_false, Nat.zero_add, Nat.reduceAdd, Nat.reduceSub, Nat.reduceLeDiff, Nat.reduceEqDiff, ten6, ↓zFn_e, ↓zE_e, ↓zS_e, ↓dK_e, ↓zCall_e, ↓zIfS_e, ↓zRet_e, ↓zDrop_e, ↓zAsg_e, ↓zNext_e, ↓zForR_e, ↓dFld_e, ↓zSet_e, ↓zMeth_e, ↓zLen_e, ↓zTold_e, g3_0, g3_1, g3_2, t3_0, t3_1, t3_2, desk_eq]
    exact hk _ ⟨fun d' hd' => hd d' (List.mem_cons_of_mem _ hd'), _, rfl⟩
  · rintro r ⟨_, x7, rfl⟩
    simp only [↓onB_b, ↓onI_i, ↓onStr_s, ↓onSeq_l, ↓onSeq_t, ↓onSeq_s, ↓onS_s, ↓dFn_e, ↓dVar_e, ↓dC_e, ↓dOp_e, ↓dUn_e, ↓dNil_e, ↓dCons_e, ↓dTup_e, ↓dLst_e, ↓dTest_e, ↓dAnd_e, ↓dOr_e, ↓dNot_e, ↓dAndV_e, ↓dOrV_e, ↓dNotV_e, ↓dIf_e, ↓dChain_e, ↓dCall_e, ↓dCB_e, ↓dNext_e, ↓dRet_e, ↓dDrop_e, ↓dAsg_e, ↓dIfS_e, ↓dRaise_e, ↓dgName_e, ↓dgNil_e, ↓dgCons_e, ↓dgTup_e, ↓dPar_e, ↓dPar3_e, ↓dFor_e, ↓dLc_e, lcL_n, lcL_c, ↓dYes_e, ↓dOver_e, ↓dRng1_e, ↓dRng2_e, ↓dPart_e, ↓dNoPart_e, ↓dMs_e, ↓dIsi_e, ↓dToldC_e, oAdd_ii, oAdd_ss, oAdd_ll, oSub_ii, oMul_ii, oMul_si, oDiv_ii, oMod_ii, oPow_ii, oNeg_i, oEq_ii, oNe_ii, oLt_ii, oLe_ii, oGt_ii, oGe_ii, oIs_e, oIsN_e, oIx_l, oIx_t, oIx_s, oLen_t, oLen_l, oAbs_i, oMax_l, oMin_l, oMin_t, oMax_t, oMax2_ii, oMin2_ii, oAll_l, oSum_l, oTuple_l, oSindex_ss, roll_e, ↓if_t, ↓if_f, if_T, if_F, Bool.false_eq_true, oLen_s, oList_t, oList_l, ↓dSl_e, onSl_l, onSl_s, isi_tt, isi_lt, isi_nt, isi_it, isi_bt, isi_st, isi_ii, isi_ib, isi_bi, isi_bb, isi_si, isi_ni, isi_ti, isi_li, isi_ss, isi_is, isi_bs, isi_ns, isi_ts, isi_ls, pl4, atI4_0, atI4_1, atI4_2, atI4_3, asInts, asBools, asStrs, Option.map, look, put, drp, drps, startR, List.length_cons, List.length_nil, List.map_cons, List.map_nil, List.replicate, List.append, List.cons_append, List.nil_append, List.append_nil, plain, true_and, and_true, Bool.not_true, Bool.not_false, Nat.zero_add, Nat.reduceAdd, Nat.reduceSub, Nat.reduceLeDiff, Nat.reduceEqDiff, ten6, ↓zFn_e, ↓zE_e, ↓zS_e, ↓dK_e, ↓zCall_e, ↓zIfS_e, ↓zRet_e, ↓zDrop_e, ↓zAsg_e, ↓zNext_e, ↓zForR_e, ↓dFld_e, ↓zSet_e, ↓zMeth_e, ↓zLen_e, ↓zTold_e, g3_0, g3_1, g3_2, t3_0, t3_1, t3_2, desk_eq]
    refine Desk_word_ok ⟨rfl, ?_⟩
    rw [oNe_s2, decide_eq_true rfl]
    simp only [↓onB_b, ↓onI_i, ↓onStr_s, ↓onSeq_l, ↓onSeq_t, ↓onSeq_s, ↓onS_s, ↓dFn_e, ↓dVar_e, ↓dC_e, ↓dOp_e, ↓dUn_e, ↓dNil_e, ↓dCons_e, ↓dTup_e, ↓dLst_e, ↓dTest_e, ↓dAnd_e, ↓dOr_e, ↓dNot_e, ↓dAndV_e, ↓dOrV_e, ↓dNotV_e, ↓dIf_e, ↓dChain_e, ↓dCall_e, ↓dCB_e, ↓dNext_e, ↓dRet_e, ↓dDrop_e, ↓dAsg_e, ↓dIfS_e, ↓dRaise_e, ↓dgName_e, ↓dgNil_e, ↓dgCons_e, ↓dgTup_e, ↓dPar_e, ↓dPar3_e, ↓dFor_e, ↓dLc_e, lcL_n, lcL_c, ↓dYes_e, ↓dOver_e, ↓dRng1_e, ↓dRng2_e, ↓dPart_e, ↓dNoPart_e, ↓dMs_e, ↓dIsi_e, ↓dToldC_e, oAdd_ii, oAdd_ss, oAdd_ll, oSub_ii, oMul_ii, oMul_si, oDiv_ii, oMod_ii, oPow_ii, oNeg_i, oEq_ii, oNe_ii, oLt_ii, oLe_ii, oGt_ii, oGe_ii, oIs_e, oIsN_e, oIx_l, oIx_t, oIx_s, oLen_t, oLen_l, oAbs_i, oMax_l, oMin_l, oMin_t, oMax_t, oMax2_ii, oMin2_ii, oAll_l, oSum_l, oTuple_l, oSindex_ss, roll_e, ↓if_t, ↓if_f, if_T, if_F, Bool.false_eq_true, oLen_s, oList_t, oList_l, ↓dSl_e, onSl_l, onSl_s, isi_tt, isi_lt, isi_nt, isi_it, isi_bt, isi_st, isi_ii, isi_ib, isi_bi, isi_bb, isi_si, isi_ni, isi_ti, isi_li, isi_ss, isi_is, isi_bs, isi_ns, isi_ts, isi_ls, pl4, atI4_0, atI4_1, atI4_2, atI4_3, asInts, asBools, asStrs, Option.map, look, put, drp, drps, startR, List.length_cons, List.length_nil, List.map_cons, List.map_nil, List.replicate, List.append, List.cons_append, List.nil_append, List.append_nil, plain, true_and, and_true, Bool.not_true, Bool.not_false, Nat.zero_add, Nat.reduceAdd, Nat.reduceSub, Nat.reduceLeDiff, Nat.reduceEqDiff, ten6, ↓zFn_e, ↓zE_e, ↓zS_e, ↓dK_e, ↓zCall_e, ↓zIfS_e, ↓zRet_e, ↓zDrop_e, ↓zAsg_e, ↓zNext_e, ↓zForR_e, ↓dFld_e, ↓zSet_e, ↓zMeth_e, ↓zLen_e, ↓zTold_e, g3_0, g3_1, g3_2, t3_0, t3_1, t3_2, desk_eq]
    exact h _ _
  · intro d hd
    simp only [List.mem_cons, List.not_mem_nil, or_false] at hd
    rcases hd with rfl | rfl | rfl | rfl | rfl | rfl
    · rw [empty_s]
      exact made_w (w := []) (by decide) (by decide)
    · rw [s_st2]
      exact made_w (w := [115, 116]) (by decide) (by decide)
    · rw [key_w]
      exact made_f (w := [119]) (by decide) (by decide)
    · exact made_o rfl isi_ns
    · exact made_o rfl (isi_is 1)
    · exact made_o rfl (isi_ls _)
theorem plain_law : law_plain := by
  show b_law_body [none, some dice, none, none, none, none, none, none, none, none] _ _ _
  rw [b_law_body, dNew]
  refine ⟨rfl, ?_⟩
  simp only [plains_n, ↓onB_b, ↓onI_i, ↓onStr_s, ↓onSeq_l, ↓onSeq_t, ↓onSeq_s, ↓onS_s, ↓dFn_e, ↓dVar_e, ↓dC_e, ↓dOp_e, ↓dUn_e, ↓dNil_e, ↓dCons_e, ↓dTup_e, ↓dLst_e, ↓dTest_e, ↓dAnd_e, ↓dOr_e, ↓dNot_e, ↓dAndV_e, ↓dOrV_e, ↓dNotV_e, ↓dIf_e, ↓dChain_e, ↓dCall_e, ↓dCB_e, ↓dNext_e, ↓dRet_e, ↓dDrop_e, ↓dAsg_e, ↓dIfS_e, ↓dRaise_e, ↓dgName_e, ↓dgNil_e, ↓dgCons_e, ↓dgTup_e, ↓dPar_e, ↓dPar3_e, ↓dFor_e, ↓dLc_e, lcL_n, lcL_c, ↓dYes_e, ↓dOver_e, ↓dRng1_e, ↓dRng2_e, ↓dPart_e, ↓dNoPart_e, ↓dMs_e, ↓dIsi_e, ↓dToldC_e, oAdd_ii, oAdd_ss, oAdd_ll, oSub_ii, oMul_ii, oMul_si, oDiv_ii, oMod_ii, oPow_ii, oNeg_i, oEq_ii, oNe_ii, oLt_ii, oLe_ii, oGt_ii, oGe_ii, oIs_e, oIsN_e, oIx_l, oIx_t, oIx_s, oLen_t, oLen_l, oAbs_i, oMax_l, oMin_l, oMin_t, oMax_t, oMax2_ii, oMin2_ii, oAll_l, oSum_l, oTuple_l, oSindex_ss, roll_e, ↓if_t, ↓if_f, if_T, if_F, Bool.false_eq_true, oLen_s, oList_t, oList_l, ↓dSl_e, onSl_l, onSl_s, isi_tt, isi_lt, isi_nt, isi_it, isi_bt, isi_st, isi_ii, isi_ib, isi_bi, isi_bb, isi_si, isi_ni, isi_ti, isi_li, isi_ss, isi_is, isi_bs, isi_ns, isi_ts, isi_ls, pl4, atI4_0, atI4_1, atI4_2, atI4_3, asInts, asBools, asStrs, Option.map, look, put, drp, drps, startR, List.length_cons, List.length_nil, List.map_cons, List.map_nil, List.replicate, List.append, List.cons_append, List.nil_append, List.append_nil, plain, true_and, and_true, Bool.not_true, Bool.not_false, Nat.zero_add, Nat.reduceAdd, Nat.reduceSub, Nat.reduceLeDiff, Nat.reduceEqDiff, ten6, ↓zFn_e, ↓zE_e, ↓zS_e, ↓dK_e, ↓zCall_e, ↓zIfS_e, ↓zRet_e, ↓zDrop_e, ↓zAsg_e, ↓zNext_e, ↓zForR_e, ↓dFld_e, ↓zSet_e, ↓zMeth_e, ↓zLen_e, ↓zTold_e, g3_0, g3_1, g3_2, t3_0, t3_1, t3_2, desk_eq]
  rw [b_law_rest, zSeq_e]
  simp only [↓onB_b, ↓onI_i, ↓onStr_s, ↓onSeq_l, ↓onSeq_t, ↓onSeq_s, ↓onS_s, ↓dFn_e, ↓dVar_e, ↓dC_e, ↓dOp_e, ↓dUn_e, ↓dNil_e, ↓dCons_e, ↓dTup_e, ↓dLst_e, ↓dTest_e, ↓dAnd_e, ↓dOr_e, ↓dNot_e, ↓dAndV_e, ↓dOrV_e, ↓dNotV_e, ↓dIf_e, ↓dChain_e, ↓dCall_e, ↓dCB_e, ↓dNext_e, ↓dRet_e, ↓dDrop_e, ↓dAsg_e, ↓dIfS_e, ↓dRaise_e, ↓dgName_e, ↓dgNil_e, ↓dgCons_e, ↓dgTup_e, ↓dPar_e, ↓dPar3_e, ↓dFor_e, ↓dLc_e, lcL_n, lcL_c, ↓dYes_e, ↓dOver_e, ↓dRng1_e, ↓dRng2_e, ↓dPart_e, ↓dNoPart_e, ↓dMs_e, ↓dIsi_e, ↓dToldC_e, oAdd_ii, oAdd_ss, oAdd_ll, oSub_ii, oMul_ii, oMul_si, oDiv_ii, oMod_ii, oPow_ii, oNeg_i, oEq_ii, oNe_ii, oLt_ii, oLe_ii, oGt_ii, oGe_ii, oIs_e, oIsN_e, oIx_l, oIx_t, oIx_s, oLen_t, oLen_l, oAbs_i, oMax_l, oMin_l, oMin_t, oMax_t, oMax2_ii, oMin2_ii, oAll_l, oSum_l, oTuple_l, oSindex_ss, roll_e, ↓if_t, ↓if_f, if_T, if_F, Bool.false_eq_true, oLen_s, oList_t, oList_l, ↓dSl_e, onSl_l, onSl_s, isi_tt, isi_lt, isi_nt, isi_it, isi_bt, isi_st, isi_ii, isi_ib, isi_bi, isi_bb, isi_si, isi_ni, isi_ti, isi_li, isi_ss, isi_is, isi_bs, isi_ns, isi_ts, isi_ls, pl4, atI4_0, atI4_1, atI4_2, atI4_3, asInts, asBools, asStrs, Option.map, look, put, drp, drps, startR, List.length_cons, List.length_nil, List.map_cons, List.map_nil, List.replicate, List.append, List.cons_append, List.nil_append, List.append_nil, plain, true_and, and_true, Bool.not_true, Bool.not_false, Nat.zero_add, Nat.reduceAdd, Nat.reduceSub, Nat.reduceLeDiff, Nat.reduceEqDiff, ten6, ↓zFn_e, ↓zE_e, ↓zS_e, ↓dK_e, ↓zCall_e, ↓zIfS_e, ↓zRet_e, ↓zDrop_e, ↓zAsg_e, ↓zNext_e, ↓zForR_e, ↓dFld_e, ↓zSet_e, ↓zMeth_e, ↓zLen_e, ↓zTold_e, g3_0, g3_1, g3_2, t3_0, t3_1, t3_2, desk_eq]
  refine forZ_inv (fun k s r => ∃ (n : List Nat) (e u : List (List Nat)) (x6 x8 x9 : Option PyData), Good k n e u ∧ s = st n e u ∧ k ≤ 16 ∧ r = [none, some dice, some deskD, some (W n), some (.list (e.map W)), some (.list (u.map W)), x6, none, x8, x9]) 16 ?_ _ 0 _ _ rfl ?_ ?_
  · rintro k x s r K hk16 ⟨n, e, u, x6, x8, x9, g, rfl, hk, rfl⟩ hK
    rw [dgName_e, zSeq_e]
    simp only [↓onB_b, ↓onI_i, ↓onStr_s, ↓onSeq_l, ↓onSeq_t, ↓onSeq_s, ↓onS_s, ↓dFn_e, ↓dVar_e, ↓dC_e, ↓dOp_e, ↓dUn_e, ↓dNil_e, ↓dCons_e, ↓dTup_e, ↓dLst_e, ↓dTest_e, ↓dAnd_e, ↓dOr_e, ↓dNot_e, ↓dAndV_e, ↓dOrV_e, ↓dNotV_e, ↓dIf_e, ↓dChain_e, ↓dCall_e, ↓dCB_e, ↓dNext_e, ↓dRet_e, ↓dDrop_e, ↓dAsg_e, ↓dIfS_e, ↓dRaise_e, ↓dgName_e, ↓dgNil_e, ↓dgCons_e, ↓dgTup_e, ↓dPar_e, ↓dPar3_e, ↓dFor_e, ↓dLc_e, lcL_n, lcL_c, ↓dYes_e, ↓dOver_e, ↓dRng1_e, ↓dRng2_e, ↓dPart_e, ↓dNoPart_e, ↓dMs_e, ↓dIsi_e, ↓dToldC_e, oAdd_ii, oAdd_ss, oAdd_ll, oSub_ii, oMul_ii, oMul_si, oDiv_ii, oMod_ii, oPow_ii, oNeg_i, oEq_ii, oNe_ii, oLt_ii, oLe_ii, oGt_ii, oGe_ii, oIs_e, oIsN_e, oIx_l, oIx_t, oIx_s, oLen_t, oLen_l, oAbs_i, oMax_l, oMin_l, oMin_t, oMax_t, oMax2_ii, oMin2_ii, oAll_l, oSum_l, oTuple_l, oSindex_ss, roll_e, ↓if_t, ↓if_f, if_T, if_F, Bool.false_eq_true, oLen_s, oList_t, oList_l, ↓dSl_e, onSl_l, onSl_s, isi_tt, isi_lt, isi_nt, isi_it, isi_bt, isi_st, isi_ii, isi_ib, isi_bi, isi_bb, isi_si, isi_ni, isi_ti, isi_li, isi_ss, isi_is, isi_bs, isi_ns, isi_ts, isi_ls, pl4, atI4_0, atI4_1, atI4_2, atI4_3, asInts, asBools, asStrs, Option.map, look, put, drp, drps, startR, List.length_cons, List.length_nil, List.map_cons, List.map_nil, List.replicate, List.append, List.cons_append, List.nil_append, List.append_nil, plain, true_and, and_true, Bool.not_true, Bool.not_false, Nat.zero_add, Nat.reduceAdd, Nat.reduceSub, Nat.reduceLeDiff, Nat.reduceEqDiff, ten6, ↓zFn_e, ↓zE_e, ↓zS_e, ↓dK_e, ↓zCall_e, ↓zIfS_e, ↓zRet_e, ↓zDrop_e, ↓zAsg_e, ↓zNext_e, ↓zForR_e, ↓dFld_e, ↓zSet_e, ↓zMeth_e, ↓zLen_e, ↓zTold_e, g3_0, g3_1, g3_2, t3_0, t3_1, t3_2, desk_eq]
    · refine law_turn_ok (B := k) (by omega) g fun made due n' e' u' hs g' => ?_
      have bn := g'.nl
      simp only [↓onB_b, ↓onI_i, ↓onStr_s, ↓onSeq_l, ↓onSeq_t, ↓onSeq_s, ↓onS_s, ↓dFn_e, ↓dVar_e, ↓dC_e, ↓dOp_e, ↓dUn_e, ↓dNil_e, ↓dCons_e, ↓dTup_e, ↓dLst_e, ↓dTest_e, ↓dAnd_e, ↓dOr_e, ↓dNot_e, ↓dAndV_e, ↓dOrV_e, ↓dNotV_e, ↓dIf_e, ↓dChain_e, ↓dCall_e, ↓dCB_e, ↓dNext_e, ↓dRet_e, ↓dDrop_e, ↓dAsg_e, ↓dIfS_e, ↓dRaise_e, ↓dgName_e, ↓dgNil_e, ↓dgCons_e, ↓dgTup_e, ↓dPar_e, ↓dPar3_e, ↓dFor_e, ↓dLc_e, lcL_n, lcL_c, ↓dYes_e, ↓dOver_e, ↓dRng1_e, ↓dRng2_e, ↓dPart_e, ↓dNoPart_e, ↓dMs_e, ↓dIsi_e, ↓dToldC_e, oAdd_ii, oAdd_ss, oAdd_ll, oSub_ii, oMul_ii, oMul_si, oDiv_ii, oMod_ii, oPow_ii, oNeg_i, oEq_ii, oNe_ii, oLt_ii, oLe_ii, oGt_ii, oGe_ii, oIs_e, oIsN_e, oIx_l, oIx_t, oIx_s, oLen_t, oLen_l, oAbs_i, oMax_l, oMin_l, oMin_t, oMax_t, oMax2_ii, oMin2_ii, oAll_l, oSum_l, oTuple_l, oSindex_ss, roll_e, ↓if_t, ↓if_f, if_T, if_F, Bool.false_eq_true, oLen_s, oList_t, oList_l, ↓dSl_e, onSl_l, onSl_s, isi_tt, isi_lt, isi_nt, isi_it, isi_bt, isi_st, isi_ii, isi_ib, isi_bi, isi_bb, isi_si, isi_ni, isi_ti, isi_li, isi_ss, isi_is, isi_bs, isi_ns, isi_ts, isi_ls, pl4, atI4_0, atI4_1, atI4_2, atI4_3, asInts, asBools, asStrs, Option.map, look, put, drp, drps, startR, List.length_cons, List.length_nil, List.map_cons, List.map_nil, List.replicate, List.append, List.cons_append, List.nil_append, List.append_nil, plain, true_and, and_true, Bool.not_true, Bool.not_false, Nat.zero_add, Nat.reduceAdd, Nat.reduceSub, Nat.reduceLeDiff, Nat.reduceEqDiff, ten6, ↓zFn_e, ↓zE_e, ↓zS_e, ↓dK_e, ↓zCall_e, ↓zIfS_e, ↓zRet_e, ↓zDrop_e, ↓zAsg_e, ↓zNext_e, ↓zForR_e, ↓dFld_e, ↓zSet_e, ↓zMeth_e, ↓zLen_e, ↓zTold_e, g3_0, g3_1, g3_2, t3_0, t3_1, t3_2, desk_eq]
      rw [zSeq_e]
      simp only [↓onB_b, ↓onI_i, ↓onStr_s, ↓onSeq_l, ↓onSeq_t, ↓onSeq_s, ↓onS_s, ↓dFn_e, ↓dVar_e, ↓dC_e, ↓dOp_e, ↓dUn_e, ↓dNil_e, ↓dCons_e, ↓dTup_e, ↓dLst_e, ↓dTest_e, ↓dAnd_e, ↓dOr_e, ↓dNot_e, ↓dAndV_e, ↓dOrV_e, ↓dNotV_e, ↓dIf_e, ↓dChain_e, ↓dCall_e, ↓dCB_e, ↓dNext_e, ↓dRet_e, ↓dDrop_e, ↓dAsg_e, ↓dIfS_e, ↓dRaise_e, ↓dgName_e, ↓dgNil_e, ↓dgCons_e, ↓dgTup_e, ↓dPar_e, ↓dPar3_e, ↓dFor_e, ↓dLc_e, lcL_n, lcL_c, ↓dYes_e, ↓dOver_e, ↓dRng1_e, ↓dRng2_e, ↓dPart_e, ↓dNoPart_e, ↓dMs_e, ↓dIsi_e, ↓dToldC_e, oAdd_ii, oAdd_ss, oAdd_ll, oSub_ii, oMul_ii, oMul_si, oDiv_ii, oMod_ii, oPow_ii, oNeg_i, oEq_ii, oNe_ii, oLt_ii, oLe_ii, oGt_ii, oGe_ii, oIs_e, oIsN_e, oIx_l, oIx_t, oIx_s, oLen_t, oLen_l, oAbs_i, oMax_l, oMin_l, oMin_t, oMax_t, oMax2_ii, oMin2_ii, oAll_l, oSum_l, oTuple_l, oSindex_ss, roll_e, ↓if_t, ↓if_f, if_T, if_F, Bool.false_eq_true, oLen_s, oList_t, oList_l, ↓dSl_e, onSl_l, onSl_s, isi_tt, isi_lt, isi_nt, isi_it, isi_bt, isi_st, isi_ii, isi_ib, isi_bi, isi_bb, isi_si, isi_ni, isi_ti, isi_li, isi_ss, isi_is, isi_bs, isi_ns, isi_ts, isi_ls, pl4, atI4_0, atI4_1, atI4_2, atI4_3, asInts, asBools, asStrs, Option.map, look, put, drp, drps, startR, List.length_cons, List.length_nil, List.map_cons, List.map_nil, List.replicate, List.append, List.cons_append, List.nil_append, List.append_nil, plain, true_and, and_true, Bool.not_true, Bool.not_false, Nat.zero_add, Nat.reduceAdd, Nat.reduceSub, Nat.reduceLeDiff, Nat.reduceEqDiff, ten6, ↓zFn_e, ↓zE_e, ↓zS_e, ↓dK_e, ↓zCall_e, ↓zIfS_e, ↓zRet_e, ↓zDrop_e, ↓zAsg_e, ↓zNext_e, ↓zForR_e, ↓dFld_e, ↓zSet_e, ↓zMeth_e, ↓zLen_e, ↓zTold_e, g3_0, g3_1, g3_2, t3_0, t3_1, t3_2, desk_eq]
      refine hs.2.2 _ ?_
      simp only [↓onB_b, ↓onI_i, ↓onStr_s, ↓onSeq_l, ↓onSeq_t, ↓onSeq_s, ↓onS_s, ↓dFn_e, ↓dVar_e, ↓dC_e, ↓dOp_e, ↓dUn_e, ↓dNil_e, ↓dCons_e, ↓dTup_e, ↓dLst_e, ↓dTest_e, ↓dAnd_e, ↓dOr_e, ↓dNot_e, ↓dAndV_e, ↓dOrV_e, ↓dNotV_e, ↓dIf_e, ↓dChain_e, ↓dCall_e, ↓dCB_e, ↓dNext_e, ↓dRet_e, ↓dDrop_e, ↓dAsg_e, ↓dIfS_e, ↓dRaise_e, ↓dgName_e, ↓dgNil_e, ↓dgCons_e, ↓dgTup_e, ↓dPar_e, ↓dPar3_e, ↓dFor_e, ↓dLc_e, lcL_n, lcL_c, ↓dYes_e, ↓dOver_e, ↓dRng1_e, ↓dRng2_e, ↓dPart_e, ↓dNoPart_e, ↓dMs_e, ↓dIsi_e, ↓dToldC_e, oAdd_ii, oAdd_ss, oAdd_ll, oSub_ii, oMul_ii, oMul_si, oDiv_ii, oMod_ii, oPow_ii, oNeg_i, oEq_ii, oNe_ii, oLt_ii, oLe_ii, oGt_ii, oGe_ii, oIs_e, oIsN_e, oIx_l, oIx_t, oIx_s, oLen_t, oLen_l, oAbs_i, oMax_l, oMin_l, oMin_t, oMax_t, oMax2_ii, oMin2_ii, oAll_l, oSum_l, oTuple_l, oSindex_ss, roll_e, ↓if_t, ↓if_f, if_T, if_F, Bool.false_eq_true, oLen_s, oList_t, oList_l, ↓dSl_e, onSl_l, onSl_s, isi_tt, isi_lt, isi_nt, isi_it, isi_bt, isi_st, isi_ii, isi_ib, isi_bi, isi_bb, isi_si, isi_ni, isi_ti, isi_li, isi_ss, isi_is, isi_bs, isi_ns, isi_ts, isi_ls, pl4, atI4_0, atI4_1, atI4_2, atI4_3, asInts, asBools, asStrs, Option.map, look, put, drp, drps, startR, List.length_cons, List.length_nil, List.map_cons, List.map_nil, List.replicate, List.append, List.cons_append, List.nil_append, List.append_nil, plain, true_and, and_true, Bool.not_true, Bool.not_false, Nat.zero_add, Nat.reduceAdd, Nat.reduceSub, Nat.reduceLeDiff, Nat.reduceEqDiff, ten6, ↓zFn_e, ↓zE_e, ↓zS_e, ↓dK_e, ↓zCall_e, ↓zIfS_e, ↓zRet_e, ↓zDrop_e, ↓zAsg_e, ↓zNext_e, ↓zForR_e, ↓dFld_e, ↓zSet_e, ↓zMeth_e, ↓zLen_e, ↓zTold_e, g3_0, g3_1, g3_2, t3_0, t3_1, t3_2, desk_eq]
      refine Desk_word_ok ⟨rfl, ?_⟩
      rw [oNe_s2, decide_eq_true rfl]
      simp only [↓onB_b, ↓onI_i, ↓onStr_s, ↓onSeq_l, ↓onSeq_t, ↓onSeq_s, ↓onS_s, ↓dFn_e, ↓dVar_e, ↓dC_e, ↓dOp_e, ↓dUn_e, ↓dNil_e, ↓dCons_e, ↓dTup_e, ↓dLst_e, ↓dTest_e, ↓dAnd_e, ↓dOr_e, ↓dNot_e, ↓dAndV_e, ↓dOrV_e, ↓dNotV_e, ↓dIf_e, ↓dChain_e, ↓dCall_e, ↓dCB_e, ↓dNext_e, ↓dRet_e, ↓dDrop_e, ↓dAsg_e, ↓dIfS_e, ↓dRaise_e, ↓dgName_e, ↓dgNil_e, ↓dgCons_e, ↓dgTup_e, ↓dPar_e, ↓dPar3_e, ↓dFor_e, ↓dLc_e, lcL_n, lcL_c, ↓dYes_e, ↓dOver_e, ↓dRng1_e, ↓dRng2_e, ↓dPart_e, ↓dNoPart_e, ↓dMs_e, ↓dIsi_e, ↓dToldC_e, oAdd_ii, oAdd_ss, oAdd_ll, oSub_ii, oMul_ii, oMul_si, oDiv_ii, oMod_ii, oPow_ii, oNeg_i, oEq_ii, oNe_ii, oLt_ii, oLe_ii, oGt_ii, oGe_ii, oIs_e, oIsN_e, oIx_l, oIx_t, oIx_s, oLen_t, oLen_l, oAbs_i, oMax_l, oMin_l, oMin_t, oMax_t, oMax2_ii, oMin2_ii, oAll_l, oSum_l, oTuple_l, oSindex_ss, roll_e, ↓if_t, ↓if_f, if_T, if_F, Bool.false_eq_true, oLen_s, oList_t, oList_l, ↓dSl_e, onSl_l, onSl_s, isi_tt, isi_lt, isi_nt, isi_it, isi_bt, isi_st, isi_ii, isi_ib, isi_bi, isi_bb, isi_si, isi_ni, isi_ti, isi_li, isi_ss, isi_is, isi_bs, isi_ns, isi_ts, isi_ls, pl4, atI4_0, atI4_1, atI4_2, atI4_3, asInts, asBools, asStrs, Option.map, look, put, drp, drps, startR, List.length_cons, List.length_nil, List.map_cons, List.map_nil, List.replicate, List.append, List.cons_append, List.nil_append, List.append_nil, plain, true_and, and_true, Bool.not_true, Bool.not_false, Nat.zero_add, Nat.reduceAdd, Nat.reduceSub, Nat.reduceLeDiff, Nat.reduceEqDiff, ten6, ↓zFn_e, ↓zE_e, ↓zS_e, ↓dK_e, ↓zCall_e, ↓zIfS_e, ↓zRet_e, ↓zDrop_e, ↓zAsg_e, ↓zNext_e, ↓zForR_e, ↓dFld_e, ↓zSet_e, ↓zMeth_e, ↓zLen_e, ↓zTold_e, g3_0, g3_1, g3_2, t3_0, t3_1, t3_2, desk_eq]
      refine Desk_len_ok (by omega) ?_
      simp only [↓onB_b, ↓onI_i, ↓onStr_s, ↓onSeq_l, ↓onSeq_t, ↓onSeq_s, ↓onS_s, ↓dFn_e, ↓dVar_e, ↓dC_e, ↓dOp_e, ↓dUn_e, ↓dNil_e, ↓dCons_e, ↓dTup_e, ↓dLst_e, ↓dTest_e, ↓dAnd_e, ↓dOr_e, ↓dNot_e, ↓dAndV_e, ↓dOrV_e, ↓dNotV_e, ↓dIf_e, ↓dChain_e, ↓dCall_e, ↓dCB_e, ↓dNext_e, ↓dRet_e, ↓dDrop_e, ↓dAsg_e, ↓dIfS_e, ↓dRaise_e, ↓dgName_e, ↓dgNil_e, ↓dgCons_e, ↓dgTup_e, ↓dPar_e, ↓dPar3_e, ↓dFor_e, ↓dLc_e, lcL_n, lcL_c, ↓dYes_e, ↓dOver_e, ↓dRng1_e, ↓dRng2_e, ↓dPart_e, ↓dNoPart_e, ↓dMs_e, ↓dIsi_e, ↓dToldC_e, oAdd_ii, oAdd_ss, oAdd_ll, oSub_ii, oMul_ii, oMul_si, oDiv_ii, oMod_ii, oPow_ii, oNeg_i, oEq_ii, oNe_ii, oLt_ii, oLe_ii, oGt_ii, oGe_ii, oIs_e, oIsN_e, oIx_l, oIx_t, oIx_s, oLen_t, oLen_l, oAbs_i, oMax_l, oMin_l, oMin_t, oMax_t, oMax2_ii, oMin2_ii, oAll_l, oSum_l, oTuple_l, oSindex_ss, roll_e, ↓if_t, ↓if_f, if_T, if_F, Bool.false_eq_true, oLen_s, oList_t, oList_l, ↓dSl_e, onSl_l, onSl_s, isi_tt, isi_lt, isi_nt, isi_it, isi_bt, isi_st, isi_ii, isi_ib, isi_bi, isi_bb, isi_si, isi_ni, isi_ti, isi_li, isi_ss, isi_is, isi_bs, isi_ns, isi_ts, isi_ls, pl4, atI4_0, atI4_1, atI4_2, atI4_3, asInts, asBools, asStrs, Option.map, look, put, drp, drps, startR, List.length_cons, List.length_nil, List.map_cons, List.map_nil, List.replicate, List.append, List.cons_append, List.nil_append, List.append_nil, plain, true_and, and_true, Bool.not_true, Bool.not_false, Nat.zero_add, Nat.reduceAdd, Nat.reduceSub, Nat.reduceLeDiff, Nat.reduceEqDiff, ten6, ↓zFn_e, ↓zE_e, ↓zS_e, ↓dK_e, ↓zCall_e, ↓zIfS_e, ↓zRet_e, ↓zDrop_e, ↓zAsg_e, ↓zNext_e, ↓zForR_e, ↓dFld_e, ↓zSet_e, ↓zMeth_e, ↓zLen_e, ↓zTold_e, g3_0, g3_1, g3_2, t3_0, t3_1, t3_2, desk_eq]
      rw [W_len]
      refine ⟨⟨by omega, by omega⟩, by omega, ?_⟩
      rw [decide_eq_true rfl]
      simp only [↓onB_b, ↓onI_i, ↓onStr_s, ↓onSeq_l, ↓onSeq_t, ↓onSeq_s, ↓onS_s, ↓dFn_e, ↓dVar_e, ↓dC_e, ↓dOp_e, ↓dUn_e, ↓dNil_e, ↓dCons_e, ↓dTup_e, ↓dLst_e, ↓dTest_e, ↓dAnd_e, ↓dOr_e, ↓dNot_e, ↓dAndV_e, ↓dOrV_e, ↓dNotV_e, ↓dIf_e, ↓dChain_e, ↓dCall_e, ↓dCB_e, ↓dNext_e, ↓dRet_e, ↓dDrop_e, ↓dAsg_e, ↓dIfS_e, ↓dRaise_e, ↓dgName_e, ↓dgNil_e, ↓dgCons_e, ↓dgTup_e, ↓dPar_e, ↓dPar3_e, ↓dFor_e, ↓dLc_e, lcL_n, lcL_c, ↓dYes_e, ↓dOver_e, ↓dRng1_e, ↓dRng2_e, ↓dPart_e, ↓dNoPart_e, ↓dMs_e, ↓dIsi_e, ↓dToldC_e, oAdd_ii, oAdd_ss, oAdd_ll, oSub_ii, oMul_ii, oMul_si, oDiv_ii, oMod_ii, oPow_ii, oNeg_i, oEq_ii, oNe_ii, oLt_ii, oLe_ii, oGt_ii, oGe_ii, oIs_e, oIsN_e, oIx_l, oIx_t, oIx_s, oLen_t, oLen_l, oAbs_i, oMax_l, oMin_l, oMin_t, oMax_t, oMax2_ii, oMin2_ii, oAll_l, oSum_l, oTuple_l, oSindex_ss, roll_e, ↓if_t, ↓if_f, if_T, if_F, Bool.false_eq_true, oLen_s, oList_t, oList_l, ↓dSl_e, onSl_l, onSl_s, isi_tt, isi_lt, isi_nt, isi_it, isi_bt, isi_st, isi_ii, isi_ib, isi_bi, isi_bb, isi_si, isi_ni, isi_ti, isi_li, isi_ss, isi_is, isi_bs, isi_ns, isi_ts, isi_ls, pl4, atI4_0, atI4_1, atI4_2, atI4_3, asInts, asBools, asStrs, Option.map, look, put, drp, drps, startR, List.length_cons, List.length_nil, List.map_cons, List.map_nil, List.replicate, List.append, List.cons_append, List.nil_append, List.append_nil, plain, true_and, and_true, Bool.not_true, Bool.not_false, Nat.zero_add, Nat.reduceAdd, Nat.reduceSub, Nat.reduceLeDiff, Nat.reduceEqDiff, ten6, ↓zFn_e, ↓zE_e, ↓zS_e, ↓dK_e, ↓zCall_e, ↓zIfS_e, ↓zRet_e, ↓zDrop_e, ↓zAsg_e, ↓zNext_e, ↓zForR_e, ↓dFld_e, ↓zSet_e, ↓zMeth_e, ↓zLen_e, ↓zTold_e, g3_0, g3_1, g3_2, t3_0, t3_1, t3_2, desk_eq]
      refine Desk_table_ok g'.n3 ⟨rfl, ?_⟩
      refine law_product_ok (fun c hc => (g'.n3 c hc).six) ?_
      refine ne_same rfl ?_
      simp only [↓onB_b, ↓onI_i, ↓onStr_s, ↓onSeq_l, ↓onSeq_t, ↓onSeq_s, ↓onS_s, ↓dFn_e, ↓dVar_e, ↓dC_e, ↓dOp_e, ↓dUn_e, ↓dNil_e, ↓dCons_e, ↓dTup_e, ↓dLst_e, ↓dTest_e, ↓dAnd_e, ↓dOr_e, ↓dNot_e, ↓dAndV_e, ↓dOrV_e, ↓dNotV_e, ↓dIf_e, ↓dChain_e, ↓dCall_e, ↓dCB_e, ↓dNext_e, ↓dRet_e, ↓dDrop_e, ↓dAsg_e, ↓dIfS_e, ↓dRaise_e, ↓dgName_e, ↓dgNil_e, ↓dgCons_e, ↓dgTup_e, ↓dPar_e, ↓dPar3_e, ↓dFor_e, ↓dLc_e, lcL_n, lcL_c, ↓dYes_e, ↓dOver_e, ↓dRng1_e, ↓dRng2_e, ↓dPart_e, ↓dNoPart_e, ↓dMs_e, ↓dIsi_e, ↓dToldC_e, oAdd_ii, oAdd_ss, oAdd_ll, oSub_ii, oMul_ii, oMul_si, oDiv_ii, oMod_ii, oPow_ii, oNeg_i, oEq_ii, oNe_ii, oLt_ii, oLe_ii, oGt_ii, oGe_ii, oIs_e, oIsN_e, oIx_l, oIx_t, oIx_s, oLen_t, oLen_l, oAbs_i, oMax_l, oMin_l, oMin_t, oMax_t, oMax2_ii, oMin2_ii, oAll_l, oSum_l, oTuple_l, oSindex_ss, roll_e, ↓if_t, ↓if_f, if_T, if_F, Bool.false_eq_true, oLen_s, oList_t, oList_l, ↓dSl_e, onSl_l, onSl_s, isi_tt, isi_lt, isi_nt, isi_it, isi_bt, isi_st, isi_ii, isi_ib, isi_bi, isi_bb, isi_si, isi_ni, isi_ti, isi_li, isi_ss, isi_is, isi_bs, isi_ns, isi_ts, isi_ls, pl4, atI4_0, atI4_1, atI4_2, atI4_3, asInts, asBools, asStrs, Option.map, look, put, drp, drps, startR, List.length_cons, List.length_nil, List.map_cons, List.map_nil, List.replicate, List.append, List.cons_append, List.nil_append, List.append_nil, plain, true_and, and_true, Bool.not_true, Bool.not_false, Nat.zero_add, Nat.reduceAdd, Nat.reduceSub, Nat.reduceLeDiff, Nat.reduceEqDiff, ten6, ↓zFn_e, ↓zE_e, ↓zS_e, ↓dK_e, ↓zCall_e, ↓zIfS_e, ↓zRet_e, ↓zDrop_e, ↓zAsg_e, ↓zNext_e, ↓zForR_e, ↓dFld_e, ↓zSet_e, ↓zMeth_e, ↓zLen_e, ↓zTold_e, g3_0, g3_1, g3_2, t3_0, t3_1, t3_2, desk_eq]
      exact hK _ _ ⟨n', e', u', _, _, _, g', rfl, by omega, rfl⟩
  · rintro s r ⟨n, e, u, x6, x8, x9, g, rfl, hk, rfl⟩
    exact rest_ok g fun _ _ => trivial
  · exact ⟨[], [], [], none, none, none, ⟨fun _ z => absurd z List.not_mem_nil, Nat.le_refl _, fun _ z => absurd z List.not_mem_nil, fun _ z => absurd z List.not_mem_nil, Nat.le_refl _, Nat.le_refl _⟩, by show [PyData.str (Str.ofString ""), .list [], .list []] = _; rw [empty_s]; rfl, by omega, by rw [empty_s]; rfl⟩

end Tz
namespace Tz
open PySem PySem.Spec PyProof.Rows L2
def topS (i : Nat) : Stmt := PySem.Challenge.pw_turnshifts_k20_whole_desks.main.body.getD i (.Pass ⟨0, 0, 0, 0⟩)
section
variable {P : Program} {w : World} {K : PySem.W.Frag} {mg : Str → Option Value} {base : Heap} {ec : Nat → Addr}
abbrev s_is_made_of : Stmt := topS 23
abbrev N_is_made_of : List Str := ["value", "letters", "one"]
theorem sc_is_made_of : FnScope N_is_made_of ["value", "letters"] (defScope s_is_made_of) := ⟨rfl, rfl, rfl, by decide +kernel, rfl, by decide +kernel, by decide +kernel⟩
theorem ok_is_made_of (A : Ga)  (B : Blt mg) (D : Def0 K mg "is_made_of" s_is_made_of) : Dfn P w K mg base 1 "is_made_of" ["value", "letters"] (lift K ec GPany 2 f_is_made_of) :=
  dfn_of (k := 0) (hadd := addAny) (t := fun E => t_is_made_of ⟨K, ec, GPany, E, addAny⟩ A) D sc_is_made_of rfl rfl (by decide) (fun _ _ _ _ _ _ us hl => match us, hl with | [_, _], _ => rfl) (fun f cdv A0 outer s H E hr =>
    have tk := bcx_takes (P := P) (w := w) (K := K) (mg := mg) (base := base) (N := N_is_made_of) (qual := "is_made_of") (scope := defScope s_is_made_of) (f := f) (cd := cdv) (A := A0) (outer := outer) (s := s) (H := H) (E := E)
    have own := bcx_own (P := P) (w := w) (K := K) (mg := mg) (base := base) (N := N_is_made_of) (qual := "is_made_of") (scope := defScope s_is_made_of) (f := f) (cd := cdv) (A := A0) (outer := outer) (s := s) (H := H) (E := E)
    (pss_one (ps_ret (pe_and (pe_callB call_isi (by rfl) B.isinstance (by decide +kernel) (pa_cons (pv 0) (pa_cons (pe_bltn (by rfl) B.str (by decide +kernel) rfl) pa_nil))) (pe_and (pe_cmpR op_le (pe_callB call_lenU (by rfl) B.len PySem.boot_len (pa_cons (pv 0) pa_nil)) pe_int (nomark _)) (pe_one (pe_callB (cr_all rfl) (by rfl) B.all (by decide +kernel) (pa_cons (pe_lc (own := [(("one" : Str), 2)]) (g := (gName 2)) (tt := tYes) (by rfl) sc_is_made_of.nd (pi_any (pv 0)) (blkOk_by (own := [(("one" : Str), 2)]) (N := N_is_made_of) (sc := defScope s_is_made_of) (by decide +kernel)) (fun _ _ _ _ _ => (pg_name (i := 2) sc_is_made_of.nd rfl (.inl rfl))) (fun _ _ _ _ _ => pts_nil) (fun _ _ _ _ _ => (pe_cmpR (op_inU (room65 hr)) (pv 2) (pv 1) rfl))) pa_nil)))))))) (fun E => sim_is_made_of _ A)
abbrev s_need_word : Stmt := topS 24
abbrev N_need_word : List Str := ["word"]
theorem sc_need_word : FnScope N_need_word ["word"] (defScope s_need_word) := ⟨rfl, rfl, rfl, by decide +kernel, rfl, by decide +kernel, by decide +kernel⟩
theorem ok_need_word (A : Ga)  (X_InvalidWord : ExF K mg "InvalidWord" (ec 1)) (D_is_made_of : Dfn P w K mg base 1 "is_made_of" ["value", "letters"] (lift K ec GPany 2 f_is_made_of)) (D : Def0 K mg "need_word" s_need_word) : Dfn P w K mg base 2 "need_word" ["word"] (lift K ec GPany 1 f_need_word) :=
  dfn_of (k := 1) (hadd := addAny) (t := fun E => t_need_word ⟨K, ec, GPany, E, addAny⟩ A) D sc_need_word rfl rfl (by decide) (fun _ _ _ _ _ _ us hl => match us, hl with | [_], _ => rfl) (fun f cdv A0 outer s H E hr =>
    have tk := bcx_takes (P := P) (w := w) (K := K) (mg := mg) (base := base) (N := N_need_word) (qual := "need_word") (scope := defScope s_need_word) (f := f) (cd := cdv) (A := A0) (outer := outer) (s := s) (H := H) (E := E)
    have own := bcx_own (P := P) (w := w) (K := K) (mg := mg) (base := base) (N := N_need_word) (qual := "need_word") (scope := defScope s_need_word) (f := f) (cd := cdv) (A := A0) (outer := outer) (s := s) (H := H) (E := E)
    (pss_one (ps_if (pt_not (pt_val (pe_cl D_is_made_of tk (hr.mono (by decide)) (by rfl) (pa_cons (pv 0) (pa_cons pe_str pa_nil))))) (pss_one (L2N.ps_raise (by rfl) tk (L2N.pmk_own PySem.F.excBase_ValueError X_InvalidWord.xP X_InvalidWord.gP X_InvalidWord.kP (raises_own X_InvalidWord.bP X_InvalidWord.tP) (by rfl)))) pss_nil))) (fun E => sim_need_word _ A)
abbrev s_put_behind : Stmt := topS 26
abbrev N_put_behind : List Str := ["sign", "stack", "letter", "total"]
theorem sc_put_behind : FnScope N_put_behind ["sign", "stack", "letter"] (defScope s_put_behind) := ⟨rfl, rfl, rfl, by decide +kernel, rfl, by decide +kernel, by decide +kernel⟩
theorem ok_put_behind (A : Ga)  (D : Def0 K mg "put_behind" s_put_behind) : Dfn P w K mg base 1 "put_behind" ["sign", "stack", "letter"] (lift K ec GPany 3 f_put_behind) :=
  dfn_of (k := 0) (hadd := addAny) (t := fun E => t_put_behind ⟨K, ec, GPany, E, addAny⟩ A) D sc_put_behind rfl rfl (by decide) (fun _ _ _ _ _ _ us hl => match us, hl with | [_, _, _], _ => rfl) (fun f cdv A0 outer s H E hr =>
    have tk := bcx_takes (P := P) (w := w) (K := K) (mg := mg) (base := base) (N := N_put_behind) (qual := "put_behind") (scope := defScope s_put_behind) (f := f) (cd := cdv) (A := A0) (outer := outer) (s := s) (H := H) (E := E)
    have own := bcx_own (P := P) (w := w) (K := K) (mg := mg) (base := base) (N := N_put_behind) (qual := "put_behind") (scope := defScope s_put_behind) (f := f) (cd := cdv) (A := A0) (outer := outer) (s := s) (H := H) (E := E)
    (pss_cons (ps_if (PW.pt (pw_or (pt_cmpR (op_eqU hr.units) (pv 1) (pe_lst pa_nil) (nomark _)) (pw_or1 (pt_cmpR (op_neU hr.units) (pe_cmpR (op_eqU hr.units) (pe_ix ix_seq (pv 1) (pe_un un_neg pe_int) (fun _ _ => rfl)) pe_str (nomark _)) (pe_cmpR (op_eqU hr.units) (pv 2) pe_str (nomark _)) (nomark _))))) (pss_one (ps_ret (pe_tup (pa_cons (pv 0) (pa_cons (pe_op op_addU (pv 1) (pe_lst (pa_cons (pv 2) pa_nil))) pa_nil))))) pss_nil) (pss_cons (ps_if (pt_cmpR (op_eqU hr.units) (pv 2) pe_str (nomark _)) (pss_one (ps_ret (pe_tup (pa_cons (pe_un un_neg (pv 0)) (pa_cons (pe_slice sl_U (pv 1) po_none (po_some (pe_un un_neg pe_int))) pa_nil))))) pss_nil) (pss_cons (ps_set (i := 3) sc_put_behind.nd rfl (.inl rfl) (pe_op op_addU (pe_dget (hu_of hr) (pe_disp (pps_cons pe_str pe_int (pps_cons pe_str pe_int pps_nil)) (by rfl) (by rfl) (fun z => by cases z) (by decide)) (pe_ix ix_seq (pv 1) (pe_un un_neg pe_int) (fun _ _ => rfl)) (fun _ _ => rfl)) (pe_dget (hu_of hr) (pe_disp (pps_cons pe_str pe_int (pps_cons pe_str pe_int pps_nil)) (by rfl) (by rfl) (fun z => by cases z) (by decide)) (pv 2) (fun _ _ => rfl)))) (pss_cons (ps_if (pt_cmpR (op_eqU hr.units) (pv 3) pe_int (nomark _)) (pss_one (ps_ret (pe_tup (pa_cons (pv 0) (pa_cons (pe_op op_addU (pe_slice sl_U (pv 1) po_none (po_some (pe_un un_neg pe_int))) (pe_lst (pa_cons pe_str pa_nil))) pa_nil))))) pss_nil) (pss_one (ps_ret (pe_tup (pa_cons (pe_un un_neg (pv 0)) (pa_cons (pe_op op_addU (pe_slice sl_U (pv 1) po_none (po_some (pe_un un_neg pe_int))) (pe_ifExp (pt_cmpR (op_eqU hr.units) (pv 3) pe_int (nomark _)) (pe_lst (pa_cons pe_str pa_nil)) (pe_lst pa_nil))) pa_nil)))))))))) (fun E => sim_put_behind _ A)
abbrev s_reduced : Stmt := topS 27
abbrev N_reduced : List Str := ["word", "sign", "stack", "one", "letter"]
theorem sc_reduced : FnScope N_reduced ["word"] (defScope s_reduced) := ⟨rfl, rfl, rfl, by decide +kernel, rfl, by decide +kernel, by decide +kernel⟩
theorem ok_reduced (A : Ga)  (D_put_behind : Dfn P w K mg base 1 "put_behind" ["sign", "stack", "letter"] (lift K ec GPany 3 f_put_behind)) (D : Def0 K mg "reduced" s_reduced) : Dfn P w K mg base 2 "reduced" ["word"] (lift K ec GPany 1 f_reduced) :=
  dfn_of (k := 1) (hadd := addAny) (t := fun E => t_reduced ⟨K, ec, GPany, E, addAny⟩ A) D sc_reduced rfl rfl (by decide) (fun _ _ _ _ _ _ us hl => match us, hl with | [_], _ => rfl) (fun f cdv A0 outer s H E hr =>
    have tk := bcx_takes (P := P) (w := w) (K := K) (mg := mg) (base := base) (N := N_reduced) (qual := "reduced") (scope := defScope s_reduced) (f := f) (cd := cdv) (A := A0) (outer := outer) (s := s) (H := H) (E := E)
    have own := bcx_own (P := P) (w := w) (K := K) (mg := mg) (base := base) (N := N_reduced) (qual := "reduced") (scope := defScope s_reduced) (f := f) (cd := cdv) (A := A0) (outer := outer) (s := s) (H := H) (E := E)
    (pss_cons (ps_par (by rfl) sc_reduced.nd rfl rfl (by decide) rfl rfl (pa_cons pe_int (pa_cons (pe_lst pa_nil) pa_nil)) (by rfl)) (pss_cons (ps_for own (by rfl) (pi_any (pv 0)) (pg_name (i := 3) sc_reduced.nd rfl (.inl rfl)) (pss_cons (ps_if (pt_cmpR (op_neU hr.units) (pv 3) pe_str (nomark _)) (pss_one (ps_set (i := 1) sc_reduced.nd rfl (.inl rfl) (pe_un un_neg (pv 1)))) pss_nil) (pss_one (ps_for own (by rfl) (pi_any (pe_dget (hu_of hr) (pe_disp (pps_cons pe_str pe_str (pps_cons pe_str pe_str (pps_cons pe_str pe_str pps_nil))) (by rfl) (by rfl) (fun z => by cases z) (by decide)) (pv 3) (fun _ _ => rfl))) (pg_name (i := 4) sc_reduced.nd rfl (.inl rfl)) (pss_one (ps_asg (pe_cl D_put_behind tk (hr.mono (by decide)) (by rfl) (pa_cons (pv 1) (pa_cons (pv 2) (pa_cons (pv 4) pa_nil)))) (pg_tup rfl (pgs_cons (pg_name (i := 1) sc_reduced.nd rfl (.inl rfl)) (pgs_cons (pg_name (i := 2) sc_reduced.nd rfl (.inl rfl)) pgs_nil))))))))) (pss_one (ps_ret (pe_tup (pa_cons (pv 1) (pa_cons (pe_join pe_str (pv 2)) pa_nil)))))))) (fun E => sim_reduced _ A)
abbrev s_normal_of_word : Stmt := topS 28
abbrev N_normal_of_word : List Str := ["word"]
theorem sc_normal_of_word : FnScope N_normal_of_word ["word"] (defScope s_normal_of_word) := ⟨rfl, rfl, rfl, by decide +kernel, rfl, by decide +kernel, by decide +kernel⟩
theorem ok_normal_of_word (A : Ga)  (D_need_word : Dfn P w K mg base 2 "need_word" ["word"] (lift K ec GPany 1 f_need_word)) (D_reduced : Dfn P w K mg base 2 "reduced" ["word"] (lift K ec GPany 1 f_reduced)) (D : Def0 K mg "normal_of_word" s_normal_of_word) : Dfn P w K mg base 3 "normal_of_word" ["word"] (lift K ec GPany 1 f_normal_of_word) :=
  dfn_of (k := 2) (hadd := addAny) (t := fun E => t_normal_of_word ⟨K, ec, GPany, E, addAny⟩ A) D sc_normal_of_word rfl rfl (by decide) (fun _ _ _ _ _ _ us hl => match us, hl with | [_], _ => rfl) (fun f cdv A0 outer s H E hr =>
    have tk := bcx_takes (P := P) (w := w) (K := K) (mg := mg) (base := base) (N := N_normal_of_word) (qual := "normal_of_word") (scope := defScope s_normal_of_word) (f := f) (cd := cdv) (A := A0) (outer := outer) (s := s) (H := H) (E := E)
    have own := bcx_own (P := P) (w := w) (K := K) (mg := mg) (base := base) (N := N_normal_of_word) (qual := "normal_of_word") (scope := defScope s_normal_of_word) (f := f) (cd := cdv) (A := A0) (outer := outer) (s := s) (H := H) (E := E)
    (pss_cons (ps_expr (pe_cl D_need_word tk (hr.mono (by decide)) (by rfl) (pa_cons (pv 0) pa_nil))) (pss_one (ps_ret (pe_cl D_reduced tk (hr.mono (by decide)) (by rfl) (pa_cons (pv 0) pa_nil)))))) (fun E => sim_normal_of_word _ A)
abbrev s_times : Stmt := topS 20
abbrev N_times : List Str := ["one", "other", "a", "b", "c", "d", "e", "f", "g", "h"]
theorem sc_times : FnScope N_times ["one", "other"] (defScope s_times) := ⟨rfl, rfl, rfl, by decide +kernel, rfl, by decide +kernel, by decide +kernel⟩
theorem ok_times (A : Ga)  (D : Def0 K mg "times" s_times) : Dfn P w K mg base 1 "times" ["one", "other"] (lift K ec GPany 2 f_times) :=
  dfn_of (k := 0) (hadd := addAny) (t := fun E => t_times ⟨K, ec, GPany, E, addAny⟩ A) D sc_times rfl rfl (by decide) (fun _ _ _ _ _ _ us hl => match us, hl with | [_, _], _ => rfl) (fun f cdv A0 outer s H E hr =>
    have tk := bcx_takes (P := P) (w := w) (K := K) (mg := mg) (base := base) (N := N_times) (qual := "times") (scope := defScope s_times) (f := f) (cd := cdv) (A := A0) (outer := outer) (s := s) (H := H) (E := E)
    have own := bcx_own (P := P) (w := w) (K := K) (mg := mg) (base := base) (N := N_times) (qual := "times") (scope := defScope s_times) (f := f) (cd := cdv) (A := A0) (outer := outer) (s := s) (H := H) (E := E)
    (pss_cons (ps_asg (pv 0) (pg_tup rfl (pgs_cons (pg_name (i := 2) sc_times.nd rfl (.inl rfl)) (pgs_cons (pg_name (i := 3) sc_times.nd rfl (.inl rfl)) (pgs_cons (pg_name (i := 4) sc_times.nd rfl (.inl rfl)) (pgs_cons (pg_name (i := 5) sc_times.nd rfl (.inl rfl)) pgs_nil)))))) (pss_cons (ps_asg (pv 1) (pg_tup rfl (pgs_cons (pg_name (i := 6) sc_times.nd rfl (.inl rfl)) (pgs_cons (pg_name (i := 7) sc_times.nd rfl (.inl rfl)) (pgs_cons (pg_name (i := 8) sc_times.nd rfl (.inl rfl)) (pgs_cons (pg_name (i := 9) sc_times.nd rfl (.inl rfl)) pgs_nil)))))) (pss_one (ps_ret (pe_tup (pa_cons (pe_op op_addU (pe_op op_mulU (pv 2) (pv 6)) (pe_op op_mulU (pv 3) (pv 8))) (pa_cons (pe_op op_addU (pe_op op_mulU (pv 2) (pv 7)) (pe_op op_mulU (pv 3) (pv 9))) (pa_cons (pe_op op_addU (pe_op op_mulU (pv 4) (pv 6)) (pe_op op_mulU (pv 5) (pv 8))) (pa_cons (pe_op op_addU (pe_op op_mulU (pv 4) (pv 7)) (pe_op op_mulU (pv 5) (pv 9))) pa_nil)))))))))) (fun E => sim_times _ A)
abbrev s_table_of : Stmt := topS 25
abbrev N_table_of : List Str := ["word", "found", "letter"]
theorem sc_table_of : FnScope N_table_of ["word"] (defScope s_table_of) := ⟨rfl, rfl, rfl, by decide +kernel, rfl, by decide +kernel, by decide +kernel⟩
theorem ok_table_of (A : Ga)  (hA : GaOk K A) (hL : GaLe K A)  (gU : mg "UNIT" = some (.ref A.un)) (gL : mg "LETTERS" = some (.ref A.le)) (hw : A.w = w) (D_times : Dfn P w K mg base 1 "times" ["one", "other"] (lift K ec GPany 2 f_times)) (D : Def0 K mg "table_of" s_table_of) : Dfn P w K mg base 2 "table_of" ["word"] (lift K ec GPany 1 f_table_of) :=
  dfn_of (k := 1) (hadd := addAny) (t := fun E => t_table_of ⟨K, ec, GPany, E, addAny⟩ A) D sc_table_of rfl rfl (by decide) (fun _ _ _ _ _ _ us hl => match us, hl with | [_], _ => rfl) (fun f cdv A0 outer s H E hr =>
    have tk := bcx_takes (P := P) (w := w) (K := K) (mg := mg) (base := base) (N := N_table_of) (qual := "table_of") (scope := defScope s_table_of) (f := f) (cd := cdv) (A := A0) (outer := outer) (s := s) (H := H) (E := E)
    have own := bcx_own (P := P) (w := w) (K := K) (mg := mg) (base := base) (N := N_table_of) (qual := "table_of") (scope := defScope s_table_of) (f := f) (cd := cdv) (A := A0) (outer := outer) (s := s) (H := H) (E := E)
    (pss_cons (ps_set (i := 1) sc_table_of.nd rfl (.inl rfl) (pe_glob (by rfl) gU rfl)) (pss_cons (ps_for own (by rfl) (pi_any (pv 0)) (pg_name (i := 2) sc_table_of.nd rfl (.inl rfl)) (pss_one (ps_set (i := 1) sc_table_of.nd rfl (.inl rfl) (pe_cl D_times tk (hr.mono (by decide)) (by rfl) (pa_cons (pv 1) (pa_cons (pe_ix (ix_let hw) (pe_glob (by rfl) gL rfl) (pv 2) (fun _ _ => rfl)) pa_nil)))))) (pss_one (ps_ret (pv 1)))))) (fun E => sim_table_of _ A hA hL)
abbrev s_law_times : Stmt := topS 38
abbrev N_law_times : List Str := ["one", "other", "a", "b", "c", "d", "e", "f", "g", "h"]
theorem sc_law_times : FnScope N_law_times ["one", "other"] (defScope s_law_times) := ⟨rfl, rfl, rfl, by decide +kernel, rfl, by decide +kernel, by decide +kernel⟩
theorem ok_law_times (A : Ga)  (D : Def0 K mg "_law_times" s_law_times) : Dfn P w K mg base 1 "_law_times" ["one", "other"] (lift K ec GPany 2 f_law_times) :=
  dfn_of (k := 0) (hadd := addAny) (t := fun E => t_law_times ⟨K, ec, GPany, E, addAny⟩ A) D sc_law_times rfl rfl (by decide) (fun _ _ _ _ _ _ us hl => match us, hl with | [_, _], _ => rfl) (fun f cdv A0 outer s H E hr =>
    have tk := bcx_takes (P := P) (w := w) (K := K) (mg := mg) (base := base) (N := N_law_times) (qual := "_law_times") (scope := defScope s_law_times) (f := f) (cd := cdv) (A := A0) (outer := outer) (s := s) (H := H) (E := E)
    have own := bcx_own (P := P) (w := w) (K := K) (mg := mg) (base := base) (N := N_law_times) (qual := "_law_times") (scope := defScope s_law_times) (f := f) (cd := cdv) (A := A0) (outer := outer) (s := s) (H := H) (E := E)
    (pss_cons (ps_asg (pe_tup (pa_cons (pv 0) (pa_cons (pv 1) pa_nil))) (pg_tup rfl (pgs_cons (pg_tup rfl (pgs_cons (pg_name (i := 2) sc_law_times.nd rfl (.inl rfl)) (pgs_cons (pg_name (i := 3) sc_law_times.nd rfl (.inl rfl)) (pgs_cons (pg_name (i := 4) sc_law_times.nd rfl (.inl rfl)) (pgs_cons (pg_name (i := 5) sc_law_times.nd rfl (.inl rfl)) pgs_nil))))) (pgs_cons (pg_tup rfl (pgs_cons (pg_name (i := 6) sc_law_times.nd rfl (.inl rfl)) (pgs_cons (pg_name (i := 7) sc_law_times.nd rfl (.inl rfl)) (pgs_cons (pg_name (i := 8) sc_law_times.nd rfl (.inl rfl)) (pgs_cons (pg_name (i := 9) sc_law_times.nd rfl (.inl rfl)) pgs_nil))))) pgs_nil)))) (pss_one (ps_ret (pe_tup (pa_cons (pe_op op_addU (pe_op op_mulU (pv 2) (pv 6)) (pe_op op_mulU (pv 3) (pv 8))) (pa_cons (pe_op op_addU (pe_op op_mulU (pv 2) (pv 7)) (pe_op op_mulU (pv 3) (pv 9))) (pa_cons (pe_op op_addU (pe_op op_mulU (pv 4) (pv 6)) (pe_op op_mulU (pv 5) (pv 8))) (pa_cons (pe_op op_addU (pe_op op_mulU (pv 4) (pv 7)) (pe_op op_mulU (pv 5) (pv 9))) pa_nil))))))))) (fun E => sim_law_times _ A)
abbrev s_law_letter : Stmt := topS 39
abbrev N_law_letter : List Str := ["letter", "some"]
theorem sc_law_letter : FnScope N_law_letter ["letter"] (defScope s_law_letter) := ⟨rfl, rfl, rfl, by decide +kernel, rfl, by decide +kernel, by decide +kernel⟩
theorem ok_law_letter (A : Ga)  (D : Def0 K mg "_law_letter" s_law_letter) : Dfn P w K mg base 1 "_law_letter" ["letter"] (lift K ec GPany 1 f_law_letter) :=
  dfn_of (k := 0) (hadd := addAny) (t := fun E => t_law_letter ⟨K, ec, GPany, E, addAny⟩ A) D sc_law_letter rfl rfl (by decide) (fun _ _ _ _ _ _ us hl => match us, hl with | [_], _ => rfl) (fun f cdv A0 outer s H E hr =>
    have tk := bcx_takes (P := P) (w := w) (K := K) (mg := mg) (base := base) (N := N_law_letter) (qual := "_law_letter") (scope := defScope s_law_letter) (f := f) (cd := cdv) (A := A0) (outer := outer) (s := s) (H := H) (E := E)
    have own := bcx_own (P := P) (w := w) (K := K) (mg := mg) (base := base) (N := N_law_letter) (qual := "_law_letter") (scope := defScope s_law_letter) (f := f) (cd := cdv) (A := A0) (outer := outer) (s := s) (H := H) (E := E)
    (pss_cons (ps_set (i := 1) sc_law_letter.nd rfl (.inl rfl) (pe_lst (pa_cons (pe_tup (pa_cons pe_int (pa_cons (pe_un un_neg pe_int) (pa_cons pe_int (pa_cons pe_int pa_nil))))) (pa_cons (pe_tup (pa_cons pe_int (pa_cons pe_int (pa_cons pe_int (pa_cons pe_int pa_nil))))) (pa_cons (pe_tup (pa_cons pe_int (pa_cons (pe_un un_neg pe_int) (pa_cons pe_int (pa_cons pe_int pa_nil))))) (pa_cons (pe_tup (pa_cons pe_int (pa_cons (pe_un un_neg pe_int) (pa_cons pe_int (pa_cons pe_int pa_nil))))) (pa_cons (pe_tup (pa_cons (pe_un un_neg pe_int) (pa_cons (pe_un un_neg pe_int) (pa_cons pe_int (pa_cons pe_int pa_nil))))) (pa_cons (pe_tup (pa_cons pe_int (pa_cons pe_int (pa_cons pe_int (pa_cons pe_int pa_nil))))) pa_nil)))))))) (pss_one (ps_ret (pe_ix ix_seq (pv 1) (pe_m1 PySem.F.slot_str_index PySem.F.type_str_index mt_sindex pe_str (pv 0)) (fun _ _ => rfl)))))) (fun E => sim_law_letter _ A)
abbrev s_law_product : Stmt := topS 40
abbrev N_law_product : List Str := ["word", "found", "letter"]
theorem sc_law_product : FnScope N_law_product ["word"] (defScope s_law_product) := ⟨rfl, rfl, rfl, by decide +kernel, rfl, by decide +kernel, by decide +kernel⟩
theorem ok_law_product (A : Ga)  (D_law_times : Dfn P w K mg base 1 "_law_times" ["one", "other"] (lift K ec GPany 2 f_law_times)) (D_law_letter : Dfn P w K mg base 1 "_law_letter" ["letter"] (lift K ec GPany 1 f_law_letter)) (D : Def0 K mg "_law_product" s_law_product) : Dfn P w K mg base 2 "_law_product" ["word"] (lift K ec GPany 1 f_law_product) :=
  dfn_of (k := 1) (hadd := addAny) (t := fun E => t_law_product ⟨K, ec, GPany, E, addAny⟩ A) D sc_law_product rfl rfl (by decide) (fun _ _ _ _ _ _ us hl => match us, hl with | [_], _ => rfl) (fun f cdv A0 outer s H E hr =>
    have tk := bcx_takes (P := P) (w := w) (K := K) (mg := mg) (base := base) (N := N_law_product) (qual := "_law_product") (scope := defScope s_law_product) (f := f) (cd := cdv) (A := A0) (outer := outer) (s := s) (H := H) (E := E)
    have own := bcx_own (P := P) (w := w) (K := K) (mg := mg) (base := base) (N := N_law_product) (qual := "_law_product") (scope := defScope s_law_product) (f := f) (cd := cdv) (A := A0) (outer := outer) (s := s) (H := H) (E := E)
    (pss_cons (ps_set (i := 1) sc_law_product.nd rfl (.inl rfl) (pe_tup (pa_cons pe_int (pa_cons pe_int (pa_cons pe_int (pa_cons pe_int pa_nil)))))) (pss_cons (ps_for own (by rfl) (pi_any (pv 0)) (pg_name (i := 2) sc_law_product.nd rfl (.inl rfl)) (pss_one (ps_set (i := 1) sc_law_product.nd rfl (.inl rfl) (pe_cl D_law_times tk (hr.mono (by decide)) (by rfl) (pa_cons (pv 1) (pa_cons (pe_cl D_law_letter tk (hr.mono (by decide)) (by rfl) (pa_cons (pv 2) pa_nil)) pa_nil)))))) (pss_one (ps_ret (pv 1)))))) (fun E => sim_law_product _ A)
abbrev s_law_drawn : Stmt := topS 33
abbrev N_law_drawn : List Str := ["cell", "k", "more"]
theorem sc_law_drawn : FnScope N_law_drawn ["cell", "k"] (defScope s_law_drawn) := ⟨rfl, rfl, rfl, by decide +kernel, rfl, by decide +kernel, by decide +kernel⟩
theorem ok_law_drawn (A : Ga)  (D : Def0 K mg "_law_drawn" s_law_drawn) : Dfn P w K mg base 1 "_law_drawn" ["cell", "k"] (lift K ec GPany 2 f_law_drawn) :=
  dfn_of (k := 0) (hadd := addAny) (t := fun E => t_law_drawn ⟨K, ec, GPany, E, addAny⟩ A) D sc_law_drawn rfl rfl (by decide) (fun _ _ _ _ _ _ us hl => match us, hl with | [_, _], _ => rfl) (fun f cdv A0 outer s H E hr =>
    have tk := bcx_takes (P := P) (w := w) (K := K) (mg := mg) (base := base) (N := N_law_drawn) (qual := "_law_drawn") (scope := defScope s_law_drawn) (f := f) (cd := cdv) (A := A0) (outer := outer) (s := s) (H := H) (E := E)
    have own := bcx_own (P := P) (w := w) (K := K) (mg := mg) (base := base) (N := N_law_drawn) (qual := "_law_drawn") (scope := defScope s_law_drawn) (f := f) (cd := cdv) (A := A0) (outer := outer) (s := s) (H := H) (E := E)
    (pss_cons (ps_set (i := 2) sc_law_drawn.nd rfl (.inl rfl) (pe_op op_modU (pe_op op_addU (pe_op op_mulU (pv 0) pe_int) (pe_op op_mulU (pe_op op_addU (pv 1) pe_int) pe_int)) pe_int)) (pss_cons (ps_set (i := 2) sc_law_drawn.nd rfl (.inl rfl) (pe_op op_modU (pe_op op_mulU (pv 2) (pv 2)) pe_int)) (pss_cons (ps_set (i := 2) sc_law_drawn.nd rfl (.inl rfl) (pe_op op_mulU (pe_op op_mulU (pe_op op_addU (pe_op op_modU (pv 2) pe_int) pe_int) (pe_op op_addU (pe_op op_divU (pv 2) pe_int) pe_int)) (pv 2))) (pss_one (ps_ret (pe_op op_modU (pv 2) pe_int))))))) (fun E => sim_law_drawn _ A)
abbrev s_law_roll : Stmt := topS 34
abbrev N_law_roll : List Str := ["dice", "many", "told"]
theorem sc_law_roll : FnScope N_law_roll ["dice", "many"] (defScope s_law_roll) := ⟨rfl, rfl, rfl, by decide +kernel, rfl, by decide +kernel, by decide +kernel⟩
theorem ok_law_roll (D_law_drawn : Dfn P w K mg base 1 "_law_drawn" ["cell", "k"] (lift K ec GPany 2 f_law_drawn)) (D : Def0 K mg "_law_roll" s_law_roll) : Dfn P w K mg base 2 "_law_roll" ["dice", "many"] (lift K ec GPr 2 f_law_roll) :=
  dfn_raw (k := 1) (t := fun E => t_law_roll K ec E) D sc_law_roll (fun _ _ _ _ _ _ us hl => match us, hl with | [_, _], _ => rfl) (fun vs H Q E h => by obtain ⟨G, ds, Q0, E0, gp, j, r, hl, _⟩ := h; rw [r.len, hl]; rfl) (fun f cdv A0 outer s H E hr =>
    have tk := bcx_takes (P := P) (w := w) (K := K) (mg := mg) (base := base) (N := N_law_roll) (qual := "_law_roll") (scope := defScope s_law_roll) (f := f) (cd := cdv) (A := A0) (outer := outer) (s := s) (H := H) (E := E)
    have own := bcx_own (P := P) (w := w) (K := K) (mg := mg) (base := base) (N := N_law_roll) (qual := "_law_roll") (scope := defScope s_law_roll) (f := f) (cd := cdv) (A := A0) (outer := outer) (s := s) (H := H) (E := E)
    (pss_cons (ps_if (pt_cmpR op_ge (pe_ix ix_list (pv 0) pe_int (fun _ _ => rfl)) (pe_op op_powU pe_int pe_int) (nomark _)) (pss_cons (ps_set (i := 2) sc_law_roll.nd rfl (.inl rfl) (pe_op op_modU (pe_ix ix_list (pv 0) pe_int (fun _ _ => rfl)) (pv 1))) (pss_cons (ps_asg (pe_op op_divU (pe_ix ix_list (pv 0) pe_int (fun _ _ => rfl)) (pv 1)) (pg_sub (pv 0) pe_int set_list (fun _ => rfl))) (pss_one (ps_ret (pv 2))))) pss_nil) (pss_cons (ps_asg (pe_op op_add (pe_ix ix_list (pv 0) pe_int (fun _ _ => rfl)) pe_int) (pg_sub (pv 0) pe_int set_list (fun _ => rfl))) (pss_one (ps_ret (pe_op op_modU (pe_op op_divU (pe_cl D_law_drawn tk (hr.mono (by decide)) (by rfl) (pa_cons (pe_ix ix_list (pv 0) pe_int (fun _ _ => rfl)) (pa_cons (pe_ix ix_list (pv 0) pe_int (fun _ _ => rfl)) pa_nil))) pe_int) (pv 1))))))) (fun vs H Q E h => roll_reads h)
abbrev s_law_cell : Stmt := topS 32
abbrev N_law_cell : List Str := ["script", "k"]
theorem sc_law_cell : FnScope N_law_cell ["script", "k"] (defScope s_law_cell) := ⟨rfl, rfl, rfl, by decide +kernel, rfl, by decide +kernel, by decide +kernel⟩
theorem ok_law_cell (B : Blt mg) (D : Def0 K mg "_law_cell" s_law_cell) : Dfn P w K mg base 1 "_law_cell" ["script", "k"] (spCell K) :=
  dfn_raw (k := 0) (t := fun E => t_law_cell K) D sc_law_cell (fun _ _ _ _ _ _ us hl => match us, hl with | [_, _], _ => rfl) (fun vs H Q E h => by obtain ⟨a, k, ns, rfl, _⟩ := h; rfl) (fun f cdv A0 outer s H E hr =>
    have tk := bcx_takes (P := P) (w := w) (K := K) (mg := mg) (base := base) (N := N_law_cell) (qual := "_law_cell") (scope := defScope s_law_cell) (f := f) (cd := cdv) (A := A0) (outer := outer) (s := s) (H := H) (E := E)
    have own := bcx_own (P := P) (w := w) (K := K) (mg := mg) (base := base) (N := N_law_cell) (qual := "_law_cell") (scope := defScope s_law_cell) (f := f) (cd := cdv) (A := A0) (outer := outer) (s := s) (H := H) (E := E)
    (pss_cons (ps_if (pt_cmpR (op_eqU hr.units) (pv 0) (pe_lst pa_nil) (nomark _)) (pss_one (ps_ret (pe_op op_mulU (pv 1) pe_int))) pss_nil) (pss_one (ps_ret (pe_op op_addU (pe_ix ix_seq (pv 0) (pe_op op_modU (pv 1) (pe_callB call_lenU (by rfl) B.len PySem.boot_len (pa_cons (pv 0) pa_nil))) (fun _ _ => rfl)) (pe_op op_mulU (pe_op op_divU (pv 1) (pe_callB call_lenU (by rfl) B.len PySem.boot_len (pa_cons (pv 0) pa_nil))) pe_int)))))) (fun vs H Q E h => cell_reads h)
abbrev s_law_rounds : Stmt := topS 35
abbrev N_law_rounds : List Str := ["script", "most", "k"]
theorem sc_law_rounds : FnScope N_law_rounds ["script", "most"] (defScope s_law_rounds) := ⟨rfl, rfl, rfl, by decide +kernel, rfl, by decide +kernel, by decide +kernel⟩
theorem ok_law_rounds (B : Blt mg) (D_law_cell : Dfn P w K mg base 1 "_law_cell" ["script", "k"] (spCell K)) (D : Def0 K mg "_law_rounds" s_law_rounds) : Dfn P w K mg base 2 "_law_rounds" ["script", "most"] (spRounds K) :=
  dfn_raw (k := 1) (t := fun E => t_law_rounds K) D sc_law_rounds (fun _ _ _ _ _ _ us hl => match us, hl with | [_, _], _ => rfl) (fun vs H Q E h => by obtain ⟨a, k, ns, rfl, _⟩ := h; rfl) (fun f cdv A0 outer s H E hr =>
    have tk := bcx_takes (P := P) (w := w) (K := K) (mg := mg) (base := base) (N := N_law_rounds) (qual := "_law_rounds") (scope := defScope s_law_rounds) (f := f) (cd := cdv) (A := A0) (outer := outer) (s := s) (H := H) (E := E)
    have own := bcx_own (P := P) (w := w) (K := K) (mg := mg) (base := base) (N := N_law_rounds) (qual := "_law_rounds") (scope := defScope s_law_rounds) (f := f) (cd := cdv) (A := A0) (outer := outer) (s := s) (H := H) (E := E)
    (pss_one (ps_ret (pe_lc (own := [(("k" : Str), 2)]) (g := gName 2) (tt := tYes) (by rfl) sc_law_rounds.nd (pi_range1 (by rfl) B.range (pa_cons (pe_callB (call_max2 rfl) (by rfl) B.max (by decide +kernel) (pa_cons pe_int (pa_cons (pe_callB (call_min2 rfl) (by rfl) B.min (by decide +kernel) (pa_cons (pv 1) (pa_cons (pe_callB call_lenU (by rfl) B.len PySem.boot_len (pa_cons (pv 0) pa_nil)) pa_nil))) pa_nil))) pa_nil)) (blkOk_by (own := [(("k" : Str), 2)]) (N := N_law_rounds) (sc := defScope s_law_rounds) (by decide +kernel)) (fun _ _ _ _ _ => (pg_name (i := 2) sc_law_rounds.nd rfl (.inl rfl))) (fun _ _ _ _ _ => pts_nil) (fun _ _ _ _ _ => (pe_lst (pa_cons (pe_cl D_law_cell blk_takes (hr.mono (by decide)) (by rfl) (pa_cons (pv 0) (pa_cons (pv 2) pa_nil))) (pa_cons pe_int pa_nil)))))))) (fun vs H Q E h => rounds_reads h)
abbrev s_law_short : Stmt := topS 41
abbrev N_law_short : List Str := ["word", "found", "letter", "part"]
theorem sc_law_short : FnScope N_law_short ["word"] (defScope s_law_short) := ⟨rfl, rfl, rfl, by decide +kernel, rfl, by decide +kernel, by decide +kernel⟩
theorem ok_law_short (A : Ga)  (B : Blt mg) (D : Def0 K mg "_law_short" s_law_short) : Dfn P w K mg base 1 "_law_short" ["word"] (lift K ec GPany 1 f_law_short) :=
  dfn_of (k := 0) (hadd := addAny) (t := fun E => t_law_short ⟨K, ec, GPany, E, addAny⟩ A) D sc_law_short rfl rfl (by decide) (fun _ _ _ _ _ _ us hl => match us, hl with | [_], _ => rfl) (fun f cdv A0 outer s H E hr =>
    have tk := bcx_takes (P := P) (w := w) (K := K) (mg := mg) (base := base) (N := N_law_short) (qual := "_law_short") (scope := defScope s_law_short) (f := f) (cd := cdv) (A := A0) (outer := outer) (s := s) (H := H) (E := E)
    have own := bcx_own (P := P) (w := w) (K := K) (mg := mg) (base := base) (N := N_law_short) (qual := "_law_short") (scope := defScope s_law_short) (f := f) (cd := cdv) (A := A0) (outer := outer) (s := s) (H := H) (E := E)
    (pss_cons (ps_set (i := 1) sc_law_short.nd rfl (.inl rfl) pe_str) (pss_cons (ps_for own (by rfl) (pi_any (pv 0)) (pg_name (i := 2) sc_law_short.nd rfl (.inl rfl)) (pss_cons (ps_set (i := 1) sc_law_short.nd rfl (.inl rfl) (pe_op op_addU (pv 1) (pv 2))) (pss_one (ps_for own (by rfl) (pi_any (pe_lst (pa_cons pe_str (pa_cons pe_str (pa_cons pe_str pa_nil))))) (pg_name (i := 3) sc_law_short.nd rfl (.inl rfl)) (pss_one (ps_if (pt_cmpR (op_eqU hr.units) (pe_slice sl_U (pv 1) (po_some (pe_un un_neg (pe_callB call_lenU (by rfl) B.len PySem.boot_len (pa_cons (pv 3) pa_nil)))) po_none) (pv 3) (nomark _)) (pss_one (ps_set (i := 1) sc_law_short.nd rfl (.inl rfl) (pe_slice sl_U (pv 1) po_none (po_some (pe_un un_neg (pe_callB call_lenU (by rfl) B.len PySem.boot_len (pa_cons (pv 3) pa_nil))))))) pss_nil)))))) (pss_one (ps_ret (pv 1)))))) (fun E => sim_law_short _ A)
abbrev s_law_term : Stmt := topS 36
abbrev N_law_term : List Str := ["e", "flags", "kinds", "flag"]
theorem sc_law_term : FnScope N_law_term ["e"] (defScope s_law_term) := ⟨rfl, rfl, rfl, by decide +kernel, rfl, by decide +kernel, by decide +kernel⟩
theorem der_law_term {TE' : Addr} (EO : ErrsOk K ec TE') (B : Blt mg) (mVE : mg "ValueError" = none) (gE : ∀ c, c < 16 → mg (enames.getD c "") = some (.ref (ec c))) (c : Nat) (a : Addr) (oe : Obj) (f : Addr) (cdv : Value) (A : Around) (outer : List Env) (s : Shared) (H : Hp) (hc : c < 16) (hz : L2N.Zn (.ref (ec c)) none oe) (hf : ∃ vs, oe.data = .fields vs)
    (hr : L2H.RoomH 0 (A.deeper (envOfC "_law_term" (defScope s_law_term) s.heap.objs.size f cdv))) (hh : A.handled = some (.ref a)) : PSs (L2H.cxH CX0 P w K mg base N_law_term "_law_term" (defScope s_law_term) f cdv A outer s H E0 (a, oe)) (defBody s_law_term) (t_law_term K ec c a) :=
  have hot : L2H.HotC (L2H.cxH CX0 P w K mg base N_law_term "_law_term" (defScope s_law_term) f cdv A outer s H E0 (a, oe)) := ⟨(a, oe), ⟨hh, hf.imp fun vs e => ⟨e, hz.2.2 vs e⟩⟩, List.mem_cons_self⟩
  have hu : (L2H.cxH CX0 P w K mg base N_law_term "_law_term" (defScope s_law_term) f cdv A outer s H E0 (a, oe)).A.units + 64 < cLine := by have := hr.un; show (A.deeper _).units + 64 < cLine; omega
  (pss_cons (ps_set (i := 1) sc_law_term.nd rfl (.inl rfl) (pe_lst (pa_cons (pe_callB (call_isX List.mem_cons_self (EO.ex c hc) hz.zc hf) (by rfl) B.isinstance (by decide +kernel) (pa_cons (pv 0) (pa_cons (pe_glob (by rfl) (gE 0 (by decide)) rfl) pa_nil))) (pa_cons (pe_callB (call_isX List.mem_cons_self (EO.ex c hc) hz.zc hf) (by rfl) B.isinstance (by decide +kernel) (pa_cons (pv 0) (pa_cons (pe_glob (by rfl) (gE 1 (by decide)) rfl) pa_nil))) (pa_cons (pe_callB (call_isX List.mem_cons_self (EO.ex c hc) hz.zc hf) (by rfl) B.isinstance (by decide +kernel) (pa_cons (pv 0) (pa_cons (pe_glob (by rfl) (gE 2 (by decide)) rfl) pa_nil))) pa_nil))))) (pss_cons (ps_set (i := 1) sc_law_term.nd rfl (.inl rfl) (pe_op op_addU (pv 1) (pe_lst (pa_cons (pe_callB (call_isX List.mem_cons_self (EO.ex c hc) hz.zc hf) (by rfl) B.isinstance (by decide +kernel) (pa_cons (pv 0) (pa_cons (pe_glob (by rfl) (gE 3 (by decide)) rfl) pa_nil))) (pa_cons (pe_callB (call_isX List.mem_cons_self (EO.ex c hc) hz.zc hf) (by rfl) B.isinstance (by decide +kernel) (pa_cons (pv 0) (pa_cons (pe_glob (by rfl) (gE 4 (by decide)) rfl) pa_nil))) (pa_cons (pe_callB (call_isX List.mem_cons_self (EO.ex c hc) hz.zc hf) (by rfl) B.isinstance (by decide +kernel) (pa_cons (pv 0) (pa_cons (pe_glob (by rfl) (gE 5 (by decide)) rfl) pa_nil))) pa_nil)))))) (pss_cons (ps_set (i := 1) sc_law_term.nd rfl (.inl rfl) (pe_op op_addU (pv 1) (pe_lst (pa_cons (pe_callB (call_isX List.mem_cons_self (EO.ex c hc) hz.zc hf) (by rfl) B.isinstance (by decide +kernel) (pa_cons (pv 0) (pa_cons (pe_glob (by rfl) (gE 6 (by decide)) rfl) pa_nil))) (pa_cons (pe_callB (call_isX List.mem_cons_self (EO.ex c hc) hz.zc hf) (by rfl) B.isinstance (by decide +kernel) (pa_cons (pv 0) (pa_cons (pe_glob (by rfl) (gE 7 (by decide)) rfl) pa_nil))) (pa_cons (pe_callB (call_isX List.mem_cons_self (EO.ex c hc) hz.zc hf) (by rfl) B.isinstance (by decide +kernel) (pa_cons (pv 0) (pa_cons (pe_glob (by rfl) (gE 8 (by decide)) rfl) pa_nil))) pa_nil)))))) (pss_cons (ps_set (i := 1) sc_law_term.nd rfl (.inl rfl) (pe_op op_addU (pv 1) (pe_lst (pa_cons (pe_callB (call_isX List.mem_cons_self (EO.ex c hc) hz.zc hf) (by rfl) B.isinstance (by decide +kernel) (pa_cons (pv 0) (pa_cons (pe_glob (by rfl) (gE 9 (by decide)) rfl) pa_nil))) (pa_cons (pe_callB (call_isX List.mem_cons_self (EO.ex c hc) hz.zc hf) (by rfl) B.isinstance (by decide +kernel) (pa_cons (pv 0) (pa_cons (pe_glob (by rfl) (gE 10 (by decide)) rfl) pa_nil))) (pa_cons (pe_callB (call_isX List.mem_cons_self (EO.ex c hc) hz.zc hf) (by rfl) B.isinstance (by decide +kernel) (pa_cons (pv 0) (pa_cons (pe_glob (by rfl) (gE 11 (by decide)) rfl) pa_nil))) pa_nil)))))) (pss_cons (ps_set (i := 1) sc_law_term.nd rfl (.inl rfl) (pe_op op_addU (pv 1) (pe_lst (pa_cons (pe_callB (call_isX List.mem_cons_self (EO.ex c hc) hz.zc hf) (by rfl) B.isinstance (by decide +kernel) (pa_cons (pv 0) (pa_cons (pe_glob (by rfl) (gE 12 (by decide)) rfl) pa_nil))) (pa_cons (pe_callB (call_isX List.mem_cons_self (EO.ex c hc) hz.zc hf) (by rfl) B.isinstance (by decide +kernel) (pa_cons (pv 0) (pa_cons (pe_glob (by rfl) (gE 13 (by decide)) rfl) pa_nil))) (pa_cons (pe_callB (call_isX List.mem_cons_self (EO.ex c hc) hz.zc hf) (by rfl) B.isinstance (by decide +kernel) (pa_cons (pv 0) (pa_cons (pe_glob (by rfl) (gE 14 (by decide)) rfl) pa_nil))) pa_nil)))))) (pss_cons (ps_set (i := 1) sc_law_term.nd rfl (.inl rfl) (pe_op op_addU (pv 1) (pe_lst (pa_cons (pe_callB (call_isX List.mem_cons_self (EO.ex c hc) hz.zc hf) (by rfl) B.isinstance (by decide +kernel) (pa_cons (pv 0) (pa_cons (pe_glob (by rfl) (gE 15 (by decide)) rfl) pa_nil))) pa_nil)))) (pss_cons (ps_set (i := 2) sc_law_term.nd rfl (.inl rfl) (pe_lst (pa_cons pe_str (pa_cons pe_str (pa_cons pe_str (pa_cons pe_str (pa_cons pe_str (pa_cons pe_str pa_nil)))))))) (pss_cons (ps_set (i := 2) sc_law_term.nd rfl (.inl rfl) (pe_op op_addU (pv 2) (pe_lst (pa_cons pe_str (pa_cons pe_str (pa_cons pe_str (pa_cons pe_str (pa_cons pe_str pa_nil)))))))) (pss_cons (ps_set (i := 2) sc_law_term.nd rfl (.inl rfl) (pe_op op_addU (pv 2) (pe_lst (pa_cons pe_str (pa_cons pe_str (pa_cons pe_str (pa_cons pe_str (pa_cons pe_str pa_nil)))))))) (pss_cons (ps_if (PW.pt (pw_or (pt_cmpR (op_neU hu) (pe_callB (cr_sumH hot) (by rfl) B.sum (by decide +kernel) (pa_cons (pe_lcInt hot rfl (.inl rfl) B.int rfl (by decide +kernel) (by decide +kernel) (by decide +kernel) rfl rfl) pa_nil)) pe_int (nomark _)) (pw_or1 (pt_not (pt_val (pe_callB (call_isX List.mem_cons_self (EO.ex c hc) hz.zc hf) (by rfl) B.isinstance (by decide +kernel) (pa_cons (pv 0) (pa_cons (pe_bltn (by rfl) mVE (by decide +kernel) rfl) pa_nil)))))))) (pss_one (ps_ret (pe_tup (pa_cons pe_str (pa_cons pe_str pa_nil))))) pss_nil) (pss_one (ps_ret (pe_tup (pa_cons pe_str (pa_cons (pe_ix ix_seq (pv 2) (pe_bm PySem.F.plainAttrs_list PySem.F.slot_list_index PySem.F.type_list_index mt_index (pv 1) (pa_cons pe_bl pa_nil)) (fun _ _ => rfl)) pa_nil)))))))))))))))
abbrev s_law_told : Stmt := topS 37
abbrev N_law_told : List Str := ["deed", "e"]
theorem sc_law_told : FnScope N_law_told ["deed"] (defScope s_law_told) := ⟨rfl, rfl, rfl, by decide +kernel, rfl, by decide +kernel, by decide +kernel⟩
theorem bT (kV doc pm : Value) (an : Option Addr) (cdv ct : Value) (us : List Value) (hl : us.length = 1) : bindArgs (PySem.W.fnOf "_law_told" "_law_told" (defArgs s_law_told) (defBody s_law_told) (defScope s_law_told) .none kV doc pm an cdv ct) ⟨us, []⟩ = pure ([("deed" : Str)].zip us) := match us, hl with | [_], _ => rfl
theorem tok {TE' g : Addr} {k : Nat} (EO : ErrsOk K ec TE') (B : Blt mg) (mVE : mg "ValueError" = none) (gE : ∀ c, c < 16 → mg (enames.getD c "") = some (.ref (ec c))) (gTE : mg "TableError" = some (.ref TE')) (DT : Def0 K mg "_law_term" s_law_term) : ToldOk P w K mg base ec (toldT K ec) (k + 1) g s_law_told ["deed", "e"] "deed" :=
  told_ok (k := k) EO gTE sc_law_told rfl rfl rfl rfl rfl DT sc_law_term (fun _ _ _ _ _ _ us hl => match us, hl with | [_], _ => rfl) fun c a oe f cdv A outer s H hc hz hf hr hh => der_law_term EO B mVE gE c a oe f cdv A outer s H hc hz hf (hr.mono (Nat.zero_le _)) hh
abbrev s_Desk___init__ : Stmt := inClass (topS 30) 0
abbrev N_Desk___init__ : List Str := ["self"]
theorem sc_Desk___init__ : FnScope N_Desk___init__ ["self"] (defScope s_Desk___init__) := ⟨rfl, rfl, rfl, by decide +kernel, rfl, by decide +kernel, by decide +kernel⟩
theorem ok_Desk___init__ {Cd f : Addr} {fd : FuncData} (DC : DeskC K Cd) (F : Fun K "__init__" "Desk.__init__" s_Desk___init__ f fd) (M : Mk K Cd f) : Ini P w K mg base 1 Cd (spInit Cd) :=
  ini_of DC F M sc_Desk___init__ (fun _ _ _ _ _ _ us hl => match us, hl with | [_], _ => rfl) (fun cdv A0 outer s H E hr => (pss_cons (ps_fld (pv 0) pe_str (by rfl)) (pss_cons (ps_fld (pv 0) (pe_lst pa_nil) (by rfl)) (pss_one (ps_fld (pv 0) (pe_lst pa_nil) (by rfl))))))
abbrev s_Desk_change : Stmt := inClass (topS 30) 1
abbrev N_Desk_change : List Str := ["self", "word"]
theorem sc_Desk_change : FnScope N_Desk_change ["self", "word"] (defScope s_Desk_change) := ⟨rfl, rfl, rfl, by decide +kernel, rfl, by decide +kernel, by decide +kernel⟩
theorem ok_Desk_change {Cd : Addr} (A : Ga)  (DC : DeskC K Cd) (D : Met0 K Cd "change" "Desk.change" s_Desk_change) : Mfn P w K mg base 1 Cd "change" ["self", "word"] (liftZ K ec (FPd K Cd) 2 f_Desk_change) :=
  mfz_of (k := 0) (hadd := addFPd) (t := fun E => t_Desk_change ⟨K, ec, FPd K Cd, E, addFPd⟩ A Cd) D sc_Desk_change rfl rfl (by decide) (fun _ _ _ _ _ _ us hl => match us, hl with | [_, _], _ => rfl) (fun f cdv A0 outer s H E hr =>
    have tk := bcx_takes (P := P) (w := w) (K := K) (mg := mg) (base := base) (N := N_Desk_change) (qual := "Desk.change") (scope := defScope s_Desk_change) (f := f) (cd := cdv) (A := A0) (outer := outer) (s := s) (H := H) (E := E)
    have own := bcx_own (P := P) (w := w) (K := K) (mg := mg) (base := base) (N := N_Desk_change) (qual := "Desk.change") (scope := defScope s_Desk_change) (f := f) (cd := cdv) (A := A0) (outer := outer) (s := s) (H := H) (E := E)
    (pss_cons (ps_fld (pv 0) (pe_op op_addU (pe_fld (pv 0) (by rfl)) (pe_lst (pa_cons (pe_fld (pv 0) (by rfl)) pa_nil))) (by rfl)) (pss_cons (ps_fld (pv 0) (pe_lst pa_nil) (by rfl)) (pss_one (ps_fld (pv 0) (pv 1) (by rfl)))))) (fun E => sim_Desk_change _ A Cd (fun _ h => h) DC)
abbrev s_Desk_table : Stmt := inClass (topS 30) 5
abbrev N_Desk_table : List Str := ["self"]
theorem sc_Desk_table : FnScope N_Desk_table ["self"] (defScope s_Desk_table) := ⟨rfl, rfl, rfl, by decide +kernel, rfl, by decide +kernel, by decide +kernel⟩
theorem ok_Desk_table {Cd : Addr} (A : Ga)  (DC : DeskC K Cd) (D_table_of : Dfn P w K mg base 2 "table_of" ["word"] (lift K ec GPany 1 f_table_of)) (D : Met0 K Cd "table" "Desk.table" s_Desk_table) : Mfn P w K mg base 3 Cd "table" ["self"] (liftZ K ec (FPd K Cd) 1 f_Desk_table) :=
  mfz_of (k := 2) (hadd := addFPd) (t := fun E => t_Desk_table ⟨K, ec, FPd K Cd, E, addFPd⟩ A Cd) D sc_Desk_table rfl rfl (by decide) (fun _ _ _ _ _ _ us hl => match us, hl with | [_], _ => rfl) (fun f cdv A0 outer s H E hr =>
    have tk := bcx_takes (P := P) (w := w) (K := K) (mg := mg) (base := base) (N := N_Desk_table) (qual := "Desk.table") (scope := defScope s_Desk_table) (f := f) (cd := cdv) (A := A0) (outer := outer) (s := s) (H := H) (E := E)
    have own := bcx_own (P := P) (w := w) (K := K) (mg := mg) (base := base) (N := N_Desk_table) (qual := "Desk.table") (scope := defScope s_Desk_table) (f := f) (cd := cdv) (A := A0) (outer := outer) (s := s) (H := H) (E := E)
    (pss_one (ps_ret (pe_cl D_table_of tk (hr.mono (by decide)) (by rfl) (pa_cons (pe_fld (pv 0) (by rfl)) pa_nil))))) (fun E => sim_Desk_table _ A Cd (fun _ h => h) DC)
abbrev s_Desk_put : Stmt := inClass (topS 30) 2
abbrev N_Desk_put : List Str := ["self", "letter"]
theorem sc_Desk_put : FnScope N_Desk_put ["self", "letter"] (defScope s_Desk_put) := ⟨rfl, rfl, rfl, by decide +kernel, rfl, by decide +kernel, by decide +kernel⟩
theorem ok_Desk_put {Cd : Addr} (A : Ga)  (B : Blt mg) (X_InvalidLetter : ExF K mg "InvalidLetter" (ec 9)) (X_TooLong : ExF K mg "TooLong" (ec 14)) (DC : DeskC K Cd) (D_is_made_of : Dfn P w K mg base 1 "is_made_of" ["value", "letters"] (lift K ec GPany 2 f_is_made_of)) (D_Desk_change : Mfn P w K mg base 1 Cd "change" ["self", "word"] (liftZ K ec (FPd K Cd) 2 f_Desk_change)) (D_Desk_table : Mfn P w K mg base 3 Cd "table" ["self"] (liftZ K ec (FPd K Cd) 1 f_Desk_table)) (D : Met0 K Cd "put" "Desk.put" s_Desk_put) : Mfn P w K mg base 4 Cd "put" ["self", "letter"] (liftZ K ec (FPd K Cd) 2 f_Desk_put) :=
  mfz_of (k := 3) (hadd := addFPd) (t := fun E => t_Desk_put ⟨K, ec, FPd K Cd, E, addFPd⟩ A Cd) D sc_Desk_put rfl rfl (by decide) (fun _ _ _ _ _ _ us hl => match us, hl with | [_, _], _ => rfl) (fun f cdv A0 outer s H E hr =>
    have tk := bcx_takes (P := P) (w := w) (K := K) (mg := mg) (base := base) (N := N_Desk_put) (qual := "Desk.put") (scope := defScope s_Desk_put) (f := f) (cd := cdv) (A := A0) (outer := outer) (s := s) (H := H) (E := E)
    have own := bcx_own (P := P) (w := w) (K := K) (mg := mg) (base := base) (N := N_Desk_put) (qual := "Desk.put") (scope := defScope s_Desk_put) (f := f) (cd := cdv) (A := A0) (outer := outer) (s := s) (H := H) (E := E)
    (pss_cons (ps_if (PW.pt (pw_or (pt_not (pt_val (pe_cl D_is_made_of tk (hr.mono (by decide)) (by rfl) (pa_cons (pv 1) (pa_cons pe_str pa_nil))))) (pw_or1 (pt_cmpR (op_neU hr.units) (pe_callB call_lenU (by rfl) B.len PySem.boot_len (pa_cons (pv 1) pa_nil)) pe_int (nomark _))))) (pss_one (L2N.ps_raise (by rfl) tk (L2N.pmk_own PySem.F.excBase_ValueError X_InvalidLetter.xP X_InvalidLetter.gP X_InvalidLetter.kP (raises_own X_InvalidLetter.bP X_InvalidLetter.tP) (by rfl)))) pss_nil) (pss_cons (ps_if (pt_cmpR (op_eqU hr.units) (pe_callB call_lenU (by rfl) B.len PySem.boot_len (pa_cons (pe_fld (pv 0) (by rfl)) pa_nil)) pe_int (nomark _)) (pss_one (L2N.ps_raise (by rfl) tk (L2N.pmk_own PySem.F.excBase_ValueError X_TooLong.xP X_TooLong.gP X_TooLong.kP (raises_own X_TooLong.bP X_TooLong.tP) (by rfl)))) pss_nil) (pss_cons (ps_expr (pe_mt D_Desk_change DC.cl tk (hr.mono (by decide)) (pv 0) (pa_cons (pe_op op_addU (pe_fld (pv 0) (by rfl)) (pv 1)) pa_nil))) (pss_one (ps_ret (pe_mt0 D_Desk_table DC.cl tk (hr.mono (by decide)) (pv 0)))))))) (fun E => sim_Desk_put _ A Cd (fun _ h => h) DC)
abbrev s_Desk_word : Stmt := inClass (topS 30) 4
abbrev N_Desk_word : List Str := ["self"]
theorem sc_Desk_word : FnScope N_Desk_word ["self"] (defScope s_Desk_word) := ⟨rfl, rfl, rfl, by decide +kernel, rfl, by decide +kernel, by decide +kernel⟩
theorem ok_Desk_word {Cd : Addr} (A : Ga)  (DC : DeskC K Cd) (D : Met0 K Cd "word" "Desk.word" s_Desk_word) : Mfn P w K mg base 1 Cd "word" ["self"] (liftZ K ec (FPd K Cd) 1 f_Desk_word) :=
  mfz_of (k := 0) (hadd := addFPd) (t := fun E => t_Desk_word ⟨K, ec, FPd K Cd, E, addFPd⟩ A Cd) D sc_Desk_word rfl rfl (by decide) (fun _ _ _ _ _ _ us hl => match us, hl with | [_], _ => rfl) (fun f cdv A0 outer s H E hr =>
    have tk := bcx_takes (P := P) (w := w) (K := K) (mg := mg) (base := base) (N := N_Desk_word) (qual := "Desk.word") (scope := defScope s_Desk_word) (f := f) (cd := cdv) (A := A0) (outer := outer) (s := s) (H := H) (E := E)
    have own := bcx_own (P := P) (w := w) (K := K) (mg := mg) (base := base) (N := N_Desk_word) (qual := "Desk.word") (scope := defScope s_Desk_word) (f := f) (cd := cdv) (A := A0) (outer := outer) (s := s) (H := H) (E := E)
    (pss_one (ps_ret (pe_fld (pv 0) (by rfl))))) (fun E => sim_Desk_word _ A Cd (fun _ h => h) DC)
abbrev s_Desk_normal : Stmt := inClass (topS 30) 6
abbrev N_Desk_normal : List Str := ["self"]
theorem sc_Desk_normal : FnScope N_Desk_normal ["self"] (defScope s_Desk_normal) := ⟨rfl, rfl, rfl, by decide +kernel, rfl, by decide +kernel, by decide +kernel⟩
theorem ok_Desk_normal {Cd : Addr} (A : Ga)  (DC : DeskC K Cd) (D_reduced : Dfn P w K mg base 2 "reduced" ["word"] (lift K ec GPany 1 f_reduced)) (D : Met0 K Cd "normal" "Desk.normal" s_Desk_normal) : Mfn P w K mg base 3 Cd "normal" ["self"] (liftZ K ec (FPd K Cd) 1 f_Desk_normal) :=
  mfz_of (k := 2) (hadd := addFPd) (t := fun E => t_Desk_normal ⟨K, ec, FPd K Cd, E, addFPd⟩ A Cd) D sc_Desk_normal rfl rfl (by decide) (fun _ _ _ _ _ _ us hl => match us, hl with | [_], _ => rfl) (fun f cdv A0 outer s H E hr =>
    have tk := bcx_takes (P := P) (w := w) (K := K) (mg := mg) (base := base) (N := N_Desk_normal) (qual := "Desk.normal") (scope := defScope s_Desk_normal) (f := f) (cd := cdv) (A := A0) (outer := outer) (s := s) (H := H) (E := E)
    have own := bcx_own (P := P) (w := w) (K := K) (mg := mg) (base := base) (N := N_Desk_normal) (qual := "Desk.normal") (scope := defScope s_Desk_normal) (f := f) (cd := cdv) (A := A0) (outer := outer) (s := s) (H := H) (E := E)
    (pss_one (ps_ret (pe_cl D_reduced tk (hr.mono (by decide)) (by rfl) (pa_cons (pe_fld (pv 0) (by rfl)) pa_nil))))) (fun E => sim_Desk_normal _ A Cd (fun _ h => h) DC)
abbrev s_Desk___len__ : Stmt := inClass (topS 30) 9
abbrev N_Desk___len__ : List Str := ["self"]
theorem sc_Desk___len__ : FnScope N_Desk___len__ ["self"] (defScope s_Desk___len__) := ⟨rfl, rfl, rfl, by decide +kernel, rfl, by decide +kernel, by decide +kernel⟩
theorem ok_Desk___len__ {Cd : Addr} (A : Ga)  (B : Blt mg) (DC : DeskC K Cd) (D : Met0 K Cd "__len__" "Desk.__len__" s_Desk___len__) : Mfn P w K mg base 1 Cd "__len__" ["self"] (liftZ K ec (FPd K Cd) 1 f_Desk___len__) :=
  mfz_of (k := 0) (hadd := addFPd) (t := fun E => t_Desk___len__ ⟨K, ec, FPd K Cd, E, addFPd⟩ A Cd) D sc_Desk___len__ rfl rfl (by decide) (fun _ _ _ _ _ _ us hl => match us, hl with | [_], _ => rfl) (fun f cdv A0 outer s H E hr =>
    have tk := bcx_takes (P := P) (w := w) (K := K) (mg := mg) (base := base) (N := N_Desk___len__) (qual := "Desk.__len__") (scope := defScope s_Desk___len__) (f := f) (cd := cdv) (A := A0) (outer := outer) (s := s) (H := H) (E := E)
    have own := bcx_own (P := P) (w := w) (K := K) (mg := mg) (base := base) (N := N_Desk___len__) (qual := "Desk.__len__") (scope := defScope s_Desk___len__) (f := f) (cd := cdv) (A := A0) (outer := outer) (s := s) (H := H) (E := E)
    (pss_one (ps_ret (pe_callB call_lenU (by rfl) B.len PySem.boot_len (pa_cons (pe_fld (pv 0) (by rfl)) pa_nil))))) (fun E => sim_Desk___len__ _ A Cd (fun _ h => h) DC)
abbrev s_Desk_shorten : Stmt := inClass (topS 30) 3
abbrev N_Desk_shorten : List Str := ["self", "found", "letter"]
theorem sc_Desk_shorten : FnScope N_Desk_shorten ["self"] (defScope s_Desk_shorten) := ⟨rfl, rfl, rfl, by decide +kernel, rfl, by decide +kernel, by decide +kernel⟩
theorem ok_Desk_shorten {Cd : Addr} (A : Ga)  (DC : DeskC K Cd) (D_Desk_change : Mfn P w K mg base 1 Cd "change" ["self", "word"] (liftZ K ec (FPd K Cd) 2 f_Desk_change)) (D : Met0 K Cd "shorten" "Desk.shorten" s_Desk_shorten) : Mfn P w K mg base 2 Cd "shorten" ["self"] (liftZ K ec (FPd K Cd) 1 f_Desk_shorten) :=
  mfz_of (k := 1) (hadd := addFPd) (t := fun E => t_Desk_shorten ⟨K, ec, FPd K Cd, E, addFPd⟩ A Cd) D sc_Desk_shorten rfl rfl (by decide) (fun _ _ _ _ _ _ us hl => match us, hl with | [_], _ => rfl) (fun f cdv A0 outer s H E hr =>
    have tk := bcx_takes (P := P) (w := w) (K := K) (mg := mg) (base := base) (N := N_Desk_shorten) (qual := "Desk.shorten") (scope := defScope s_Desk_shorten) (f := f) (cd := cdv) (A := A0) (outer := outer) (s := s) (H := H) (E := E)
    have own := bcx_own (P := P) (w := w) (K := K) (mg := mg) (base := base) (N := N_Desk_shorten) (qual := "Desk.shorten") (scope := defScope s_Desk_shorten) (f := f) (cd := cdv) (A := A0) (outer := outer) (s := s) (H := H) (E := E)
    (pss_cons (ps_set (i := 1) sc_Desk_shorten.nd rfl (.inl rfl) pe_str) (pss_cons (ps_for own (by rfl) (pi_any (pe_fld (pv 0) (by rfl))) (pg_name (i := 2) sc_Desk_shorten.nd rfl (.inl rfl)) (pss_cons (ps_set (i := 1) sc_Desk_shorten.nd rfl (.inl rfl) (pe_op op_addU (pv 1) (pv 2))) (pss_one (ps_if (pt_cmpR (op_inU (room65 hr)) (pe_slice sl_U (pv 1) (po_some (pe_un un_neg pe_int)) po_none) (pe_tup (pa_cons pe_str (pa_cons pe_str pa_nil))) rfl) (pss_one (ps_set (i := 1) sc_Desk_shorten.nd rfl (.inl rfl) (pe_slice sl_U (pv 1) po_none (po_some (pe_un un_neg pe_int))))) (pss_one (ps_if (pt_cmpR (op_eqU hr.units) (pe_slice sl_U (pv 1) (po_some (pe_un un_neg pe_int)) po_none) pe_str (nomark _)) (pss_one (ps_set (i := 1) sc_Desk_shorten.nd rfl (.inl rfl) (pe_slice sl_U (pv 1) po_none (po_some (pe_un un_neg pe_int))))) pss_nil)))))) (pss_cons (ps_expr (pe_mt D_Desk_change DC.cl tk (hr.mono (by decide)) (pv 0) (pa_cons (pv 1) pa_nil))) (pss_one (ps_ret (pv 1))))))) (fun E => sim_Desk_shorten _ A Cd (fun _ h => h) DC)
abbrev s_Desk_undo : Stmt := inClass (topS 30) 7
abbrev N_Desk_undo : List Str := ["self"]
theorem sc_Desk_undo : FnScope N_Desk_undo ["self"] (defScope s_Desk_undo) := ⟨rfl, rfl, rfl, by decide +kernel, rfl, by decide +kernel, by decide +kernel⟩
theorem ok_Desk_undo {Cd : Addr} (A : Ga)  (X_NothingToUndo : ExF K mg "NothingToUndo" (ec 15)) (DC : DeskC K Cd) (D : Met0 K Cd "undo" "Desk.undo" s_Desk_undo) : Mfn P w K mg base 1 Cd "undo" ["self"] (liftZ K ec (FPd K Cd) 1 f_Desk_undo) :=
  mfz_of (k := 0) (hadd := addFPd) (t := fun E => t_Desk_undo ⟨K, ec, FPd K Cd, E, addFPd⟩ A Cd) D sc_Desk_undo rfl rfl (by decide) (fun _ _ _ _ _ _ us hl => match us, hl with | [_], _ => rfl) (fun f cdv A0 outer s H E hr =>
    have tk := bcx_takes (P := P) (w := w) (K := K) (mg := mg) (base := base) (N := N_Desk_undo) (qual := "Desk.undo") (scope := defScope s_Desk_undo) (f := f) (cd := cdv) (A := A0) (outer := outer) (s := s) (H := H) (E := E)
    have own := bcx_own (P := P) (w := w) (K := K) (mg := mg) (base := base) (N := N_Desk_undo) (qual := "Desk.undo") (scope := defScope s_Desk_undo) (f := f) (cd := cdv) (A := A0) (outer := outer) (s := s) (H := H) (E := E)
    (pss_cons (ps_if (pt_cmpR (op_eqU hr.units) (pe_fld (pv 0) (by rfl)) (pe_lst pa_nil) (nomark _)) (pss_one (L2N.ps_raise (by rfl) tk (L2N.pmk_own PySem.F.excBase_ValueError X_NothingToUndo.xP X_NothingToUndo.gP X_NothingToUndo.kP (raises_own X_NothingToUndo.bP X_NothingToUndo.tP) (by rfl)))) pss_nil) (pss_cons (ps_fld (pv 0) (pe_op op_addU (pe_fld (pv 0) (by rfl)) (pe_lst (pa_cons (pe_fld (pv 0) (by rfl)) pa_nil))) (by rfl)) (pss_cons (ps_fld (pv 0) (pe_ix ix_seq (pe_fld (pv 0) (by rfl)) (pe_un un_neg pe_int) (fun _ _ => rfl)) (by rfl)) (pss_cons (ps_fld (pv 0) (pe_slice sl_U (pe_fld (pv 0) (by rfl)) po_none (po_some (pe_un un_neg pe_int))) (by rfl)) (pss_one (ps_ret (pe_fld (pv 0) (by rfl))))))))) (fun E => sim_Desk_undo _ A Cd (fun _ h => h) DC)
abbrev s_Desk_redo : Stmt := inClass (topS 30) 8
abbrev N_Desk_redo : List Str := ["self"]
theorem sc_Desk_redo : FnScope N_Desk_redo ["self"] (defScope s_Desk_redo) := ⟨rfl, rfl, rfl, by decide +kernel, rfl, by decide +kernel, by decide +kernel⟩
theorem ok_Desk_redo {Cd : Addr} (A : Ga)  (X_NothingToUndo : ExF K mg "NothingToUndo" (ec 15)) (DC : DeskC K Cd) (D : Met0 K Cd "redo" "Desk.redo" s_Desk_redo) : Mfn P w K mg base 1 Cd "redo" ["self"] (liftZ K ec (FPd K Cd) 1 f_Desk_redo) :=
  mfz_of (k := 0) (hadd := addFPd) (t := fun E => t_Desk_redo ⟨K, ec, FPd K Cd, E, addFPd⟩ A Cd) D sc_Desk_redo rfl rfl (by decide) (fun _ _ _ _ _ _ us hl => match us, hl with | [_], _ => rfl) (fun f cdv A0 outer s H E hr =>
    have tk := bcx_takes (P := P) (w := w) (K := K) (mg := mg) (base := base) (N := N_Desk_redo) (qual := "Desk.redo") (scope := defScope s_Desk_redo) (f := f) (cd := cdv) (A := A0) (outer := outer) (s := s) (H := H) (E := E)
    have own := bcx_own (P := P) (w := w) (K := K) (mg := mg) (base := base) (N := N_Desk_redo) (qual := "Desk.redo") (scope := defScope s_Desk_redo) (f := f) (cd := cdv) (A := A0) (outer := outer) (s := s) (H := H) (E := E)
    (pss_cons (ps_if (pt_cmpR (op_eqU hr.units) (pe_fld (pv 0) (by rfl)) (pe_lst pa_nil) (nomark _)) (pss_one (L2N.ps_raise (by rfl) tk (L2N.pmk_own PySem.F.excBase_ValueError X_NothingToUndo.xP X_NothingToUndo.gP X_NothingToUndo.kP (raises_own X_NothingToUndo.bP X_NothingToUndo.tP) (by rfl)))) pss_nil) (pss_cons (ps_fld (pv 0) (pe_op op_addU (pe_fld (pv 0) (by rfl)) (pe_lst (pa_cons (pe_fld (pv 0) (by rfl)) pa_nil))) (by rfl)) (pss_cons (ps_fld (pv 0) (pe_ix ix_seq (pe_fld (pv 0) (by rfl)) (pe_un un_neg pe_int) (fun _ _ => rfl)) (by rfl)) (pss_cons (ps_fld (pv 0) (pe_slice sl_U (pe_fld (pv 0) (by rfl)) po_none (po_some (pe_un un_neg pe_int))) (by rfl)) (pss_one (ps_ret (pe_fld (pv 0) (by rfl))))))))) (fun E => sim_Desk_redo _ A Cd (fun _ h => h) DC)
abbrev s_law_done : Stmt := topS 42
abbrev N_law_done : List Str := ["desk", "name", "letter"]
theorem sc_law_done : FnScope N_law_done ["desk", "name", "letter"] (defScope s_law_done) := ⟨rfl, rfl, rfl, by decide +kernel, rfl, by decide +kernel, by decide +kernel⟩
theorem ok_law_done {Pt Pd c : Addr} {Cd : Addr} (A : Ga)  (DC : DeskC K Cd) (D_Desk_put : Mfn P w K mg base 4 Cd "put" ["self", "letter"] (liftZ K ec (FPd K Cd) 2 f_Desk_put)) (D_Desk_shorten : Mfn P w K mg base 2 Cd "shorten" ["self"] (liftZ K ec (FPd K Cd) 1 f_Desk_shorten)) (D_Desk_undo : Mfn P w K mg base 1 Cd "undo" ["self"] (liftZ K ec (FPd K Cd) 1 f_Desk_undo)) (D_Desk_redo : Mfn P w K mg base 1 Cd "redo" ["self"] (liftZ K ec (FPd K Cd) 1 f_Desk_redo)) {TE' g : Addr} {fdT : FuncData} (EO : ErrsOk K ec TE') (FT : Fun K "_law_told" "_law_told" s_law_told g fdT) (gT : mg "_law_told" = some (.ref g)) (TO : ToldOk P w K mg base ec (toldT K ec) 5 g s_law_told ["deed", "e"] "deed") (TB : LamX.TabB base mg c Pd) (hne : Pt ≠ Pd) {oc kV doc pm ct : Value} {od an : Option Addr} {osl : Array (Option Value)} {f : Addr} (lk : K.lookup f = some ⟨oc, od, .func (PySem.W.fnOf "_law_done" "_law_done" (defArgs s_law_done) (defBody s_law_done) (defScope s_law_done) .none kV doc pm an (.ref c) ct), osl⟩) (hcd : PySem.W.codeIn K (.ref c) "_law_done" = true) (hkp : PySem.W.keepIn K (.ref f) = true) (hg : mg "_law_done" = some (.ref f)) : Dfn P w K mg base 7 "_law_done" ["desk", "name", "letter"] (liftZ K ec (FPl K Cd [(Pt, ("law" : Str) ++ ".<locals>." ++ "<lambda>"), (Pd, ("_law_done" : Str) ++ ".<locals>." ++ "<lambda>")]) 3 f_law_done) :=
  dfc_of (k := 6) (hadd := addFPl) (t := fun E => t_law_done ⟨K, ec, FPl K Cd [(Pt, ("law" : Str) ++ ".<locals>." ++ "<lambda>"), (Pd, ("_law_done" : Str) ++ ".<locals>." ++ "<lambda>")], E, addFPl⟩ A Cd [(Pt, ("law" : Str) ++ ".<locals>." ++ "<lambda>"), (Pd, ("_law_done" : Str) ++ ".<locals>." ++ "<lambda>")]) lk hcd hkp hg sc_law_done rfl rfl (by decide) (fun _ _ _ _ _ _ us hl => match us, hl with | [_, _, _], _ => rfl) (fun A0 outer s H E hr =>
    have tk := bcx_takes (P := P) (w := w) (K := K) (mg := mg) (base := base) (N := N_law_done) (qual := "_law_done") (scope := defScope s_law_done) (f := f) (cd := (.ref c)) (A := A0) (outer := outer) (s := s) (H := H) (E := E)
    have own := bcx_own (P := P) (w := w) (K := K) (mg := mg) (base := base) (N := N_law_done) (qual := "_law_done") (scope := defScope s_law_done) (f := f) (cd := (.ref c)) (A := A0) (outer := outer) (s := s) (H := H) (E := E)
    have hu : ∀ p ∈ [(Pt, ("law" : Str) ++ ".<locals>." ++ "<lambda>"), (Pd, ("_law_done" : Str) ++ ".<locals>." ++ "<lambda>")], p.1 = Pd → p.2 = ("_law_done" : Str) ++ ".<locals>." ++ "<lambda>" := fun p hp e => by rcases List.mem_cons.mp hp with z | z; (rw [z] at e; exact absurd e hne); (rw [List.mem_singleton.mp z])
    (pss_cons (ps_if (pt_cmpR (op_eqU hr.units) (pv 1) pe_str (nomark _)) (pss_one (ps_ret (pe_told (T := [(Pt, ("law" : Str) ++ ".<locals>." ++ "<lambda>"), (Pd, ("_law_done" : Str) ++ ".<locals>." ++ "<lambda>")]) (k := 4) (te := fun Ex => (tMeth Cd "put" (liftZ K ec (FPd K Cd) 2 f_Desk_put) [] Ex (tVar 0) (tCons (tVar 2) tNil))) FT gT TO bT (by rfl) TB rfl (List.mem_cons_of_mem _ List.mem_cons_self) hu (hr.mono (by decide)) (LamX.lamS_by (sc := defScope s_law_done) (by decide +kernel)) (by rfl) (fun _ _ _ _ _ => rfl) (fun A1 outer s1 H1 Ex f1 c1 hr => (pe_mt D_Desk_put DC.cl lamN_takes (hr.mono (by decide)) (pv 0) (pa_cons (pv 2) pa_nil)))))) pss_nil) (pss_cons (ps_if (pt_cmpR (op_eqU hr.units) (pv 1) pe_str (nomark _)) (pss_one (ps_ret (pe_told (T := [(Pt, ("law" : Str) ++ ".<locals>." ++ "<lambda>"), (Pd, ("_law_done" : Str) ++ ".<locals>." ++ "<lambda>")]) (k := 4) (te := fun Ex => (tMeth Cd "shorten" (liftZ K ec (FPd K Cd) 1 f_Desk_shorten) [] Ex (tVar 0) tNil)) FT gT TO bT (by rfl) TB rfl (List.mem_cons_of_mem _ List.mem_cons_self) hu (hr.mono (by decide)) (LamX.lamS_by (sc := defScope s_law_done) (by decide +kernel)) (by rfl) (fun _ _ _ _ _ => rfl) (fun A1 outer s1 H1 Ex f1 c1 hr => (pe_mt0 D_Desk_shorten DC.cl lamN_takes (hr.mono (by decide)) (pv 0)))))) pss_nil) (pss_cons (ps_if (pt_cmpR (op_eqU hr.units) (pv 1) pe_str (nomark _)) (pss_one (ps_ret (pe_told (T := [(Pt, ("law" : Str) ++ ".<locals>." ++ "<lambda>"), (Pd, ("_law_done" : Str) ++ ".<locals>." ++ "<lambda>")]) (k := 4) (te := fun Ex => (tMeth Cd "undo" (liftZ K ec (FPd K Cd) 1 f_Desk_undo) [] Ex (tVar 0) tNil)) FT gT TO bT (by rfl) TB rfl (List.mem_cons_of_mem _ List.mem_cons_self) hu (hr.mono (by decide)) (LamX.lamS_by (sc := defScope s_law_done) (by decide +kernel)) (by rfl) (fun _ _ _ _ _ => rfl) (fun A1 outer s1 H1 Ex f1 c1 hr => (pe_mt0 D_Desk_undo DC.cl lamN_takes (hr.mono (by decide)) (pv 0)))))) pss_nil) (pss_one (ps_ret (pe_told (T := [(Pt, ("law" : Str) ++ ".<locals>." ++ "<lambda>"), (Pd, ("_law_done" : Str) ++ ".<locals>." ++ "<lambda>")]) (k := 4) (te := fun Ex => (tMeth Cd "redo" (liftZ K ec (FPd K Cd) 1 f_Desk_redo) [] Ex (tVar 0) tNil)) FT gT TO bT (by rfl) TB rfl (List.mem_cons_of_mem _ List.mem_cons_self) hu (hr.mono (by decide)) (LamX.lamS_by (sc := defScope s_law_done) (by decide +kernel)) (by rfl) (fun _ _ _ _ _ => rfl) (fun A1 outer s1 H1 Ex f1 c1 hr => (pe_mt0 D_Desk_redo DC.cl lamN_takes (hr.mono (by decide)) (pv 0)))))))))) (fun E => sim_law_done _ A Cd [(Pt, ("law" : Str) ++ ".<locals>." ++ "<lambda>"), (Pd, ("_law_done" : Str) ++ ".<locals>." ++ "<lambda>")] (fun _ h => h) DC EO)
abbrev s_law_turn : Stmt := topS 43
abbrev N_law_turn : List Str := ["dice", "desk", "word", "earlier", "undone", "name", "letter", "made", "some", "due"]
theorem sc_law_turn : FnScope N_law_turn ["dice", "desk", "word", "earlier", "undone"] (defScope s_law_turn) := ⟨rfl, rfl, rfl, by decide +kernel, rfl, by decide +kernel, by decide +kernel⟩
theorem ok_law_turn {Pt Pd : Addr} {Cd : Addr} (A : Ga)  (DC : DeskC K Cd) (D_law_roll : Dfn P w K mg base 2 "_law_roll" ["dice", "many"] (lift K ec GPr 2 f_law_roll)) (D_law_product : Dfn P w K mg base 2 "_law_product" ["word"] (lift K ec GPany 1 f_law_product)) (D_law_short : Dfn P w K mg base 1 "_law_short" ["word"] (lift K ec GPany 1 f_law_short)) (D_law_done : Dfn P w K mg base 7 "_law_done" ["desk", "name", "letter"] (liftZ K ec (FPl K Cd [(Pt, ("law" : Str) ++ ".<locals>." ++ "<lambda>"), (Pd, ("_law_done" : Str) ++ ".<locals>." ++ "<lambda>")]) 3 f_law_done)) (D : Def0 K mg "_law_turn" s_law_turn) : Dfn P w K mg base 8 "_law_turn" ["dice", "desk", "word", "earlier", "undone"] (liftZ K ec (FPl K Cd [(Pt, ("law" : Str) ++ ".<locals>." ++ "<lambda>"), (Pd, ("_law_done" : Str) ++ ".<locals>." ++ "<lambda>")]) 5 f_law_turn) :=
  dfz_of (k := 7) (hadd := addFPl) (t := fun E => t_law_turn ⟨K, ec, FPl K Cd [(Pt, ("law" : Str) ++ ".<locals>." ++ "<lambda>"), (Pd, ("_law_done" : Str) ++ ".<locals>." ++ "<lambda>")], E, addFPl⟩ A Cd [(Pt, ("law" : Str) ++ ".<locals>." ++ "<lambda>"), (Pd, ("_law_done" : Str) ++ ".<locals>." ++ "<lambda>")]) D sc_law_turn rfl rfl (by decide) (fun _ _ _ _ _ _ us hl => match us, hl with | [_, _, _, _, _], _ => rfl) (fun f cdv A0 outer s H E hr =>
    have tk := bcx_takes (P := P) (w := w) (K := K) (mg := mg) (base := base) (N := N_law_turn) (qual := "_law_turn") (scope := defScope s_law_turn) (f := f) (cd := cdv) (A := A0) (outer := outer) (s := s) (H := H) (E := E)
    have own := bcx_own (P := P) (w := w) (K := K) (mg := mg) (base := base) (N := N_law_turn) (qual := "_law_turn") (scope := defScope s_law_turn) (f := f) (cd := cdv) (A := A0) (outer := outer) (s := s) (H := H) (E := E)
    (pss_cons (ps_par (by rfl) sc_law_turn.nd rfl rfl (by decide) rfl rfl (pa_cons (pe_ix ix_seq (pe_lst (pa_cons pe_str (pa_cons pe_str (pa_cons pe_str (pa_cons pe_str (pa_cons pe_str (pa_cons pe_str pa_nil))))))) (pe_cl D_law_roll tk (hr.mono (by decide)) (by rfl) (pa_cons (pv 0) (pa_cons pe_int pa_nil))) (fun _ _ => rfl)) (pa_cons (pe_ix ix_seq pe_str (pe_cl D_law_roll tk (hr.mono (by decide)) (by rfl) (pa_cons (pv 0) (pa_cons pe_int pa_nil))) (fun _ _ => rfl)) pa_nil)) (by rfl)) (pss_cons (ps_set (i := 7) sc_law_turn.nd rfl (.inl rfl) (pe_cl D_law_done tk (hr.mono (by decide)) (by rfl) (pa_cons (pv 1) (pa_cons (pv 5) (pa_cons (pv 6) pa_nil))))) (pss_cons (ps_if (pt_cmpR (op_eqU hr.units) (pv 5) pe_str (nomark _)) (pss_cons (ps_set (i := 9) sc_law_turn.nd rfl (.inl rfl) (pe_cl D_law_product tk (hr.mono (by decide)) (by rfl) (pa_cons (pe_op op_addU (pv 2) (pv 6)) pa_nil))) (pss_one (ps_ret (pe_tup (pa_cons (pv 7) (pa_cons (pv 9) (pa_cons (pe_op op_addU (pv 2) (pv 6)) (pa_cons (pe_op op_addU (pv 3) (pe_lst (pa_cons (pv 2) pa_nil))) (pa_cons (pe_lst pa_nil) pa_nil))))))))) pss_nil) (pss_cons (ps_if (pt_cmpR (op_eqU hr.units) (pv 5) pe_str (nomark _)) (pss_one (ps_ret (pe_tup (pa_cons (pv 7) (pa_cons (pe_cl D_law_short tk (hr.mono (by decide)) (by rfl) (pa_cons (pv 2) pa_nil)) (pa_cons (pe_cl D_law_short tk (hr.mono (by decide)) (by rfl) (pa_cons (pv 2) pa_nil)) (pa_cons (pe_op op_addU (pv 3) (pe_lst (pa_cons (pv 2) pa_nil))) (pa_cons (pe_lst pa_nil) pa_nil)))))))) pss_nil) (pss_cons (ps_set (i := 8) sc_law_turn.nd rfl (.inl rfl) (pe_ifExp (pt_cmpR (op_eqU hr.units) (pv 5) pe_str (nomark _)) (pv 3) (pv 4))) (pss_cons (ps_if (pt_cmpR (op_eqU hr.units) (pv 8) (pe_lst pa_nil) (nomark _)) (pss_one (ps_ret (pe_tup (pa_cons (pv 7) (pa_cons (pe_tup (pa_cons pe_str (pa_cons pe_str pa_nil))) (pa_cons (pv 2) (pa_cons (pv 3) (pa_cons (pv 4) pa_nil)))))))) pss_nil) (pss_cons (ps_if (pt_cmpR (op_eqU hr.units) (pv 5) pe_str (nomark _)) (pss_one (ps_ret (pe_tup (pa_cons (pv 7) (pa_cons (pe_ix ix_seq (pv 8) (pe_un un_neg pe_int) (fun _ _ => rfl)) (pa_cons (pe_ix ix_seq (pv 8) (pe_un un_neg pe_int) (fun _ _ => rfl)) (pa_cons (pe_slice sl_U (pv 3) po_none (po_some (pe_un un_neg pe_int))) (pa_cons (pe_op op_addU (pv 4) (pe_lst (pa_cons (pv 2) pa_nil))) pa_nil)))))))) pss_nil) (pss_one (ps_ret (pe_tup (pa_cons (pv 7) (pa_cons (pe_ix ix_seq (pv 8) (pe_un un_neg pe_int) (fun _ _ => rfl)) (pa_cons (pe_ix ix_seq (pv 8) (pe_un un_neg pe_int) (fun _ _ => rfl)) (pa_cons (pe_op op_addU (pv 3) (pe_lst (pa_cons (pv 2) pa_nil))) (pa_cons (pe_slice sl_U (pv 4) po_none (po_some (pe_un un_neg pe_int))) pa_nil)))))))))))))))) (fun E => sim_law_turn _ A Cd [(Pt, ("law" : Str) ++ ".<locals>." ++ "<lambda>"), (Pd, ("_law_done" : Str) ++ ".<locals>." ++ "<lambda>")] (fun _ h => h) DC)
abbrev s_law : Stmt := topS 44
abbrev N_law : List Str := ["script", "dice", "desk", "word", "earlier", "undone", "turn", "bad", "made", "due"]
theorem sc_law : FnScope N_law ["script"] (defScope s_law) := ⟨rfl, rfl, rfl, by decide +kernel, rfl, by decide +kernel, by decide +kernel⟩
theorem ok_law {c Pt Pd : Addr} {Cd : Addr} (A : Ga)  (B : Blt mg) (DC : DeskC K Cd) (D_normal_of_word : Dfn P w K mg base 3 "normal_of_word" ["word"] (lift K ec GPany 1 f_normal_of_word)) (D_Desk_put : Mfn P w K mg base 4 Cd "put" ["self", "letter"] (liftZ K ec (FPd K Cd) 2 f_Desk_put)) (D_Desk_word : Mfn P w K mg base 1 Cd "word" ["self"] (liftZ K ec (FPd K Cd) 1 f_Desk_word)) (D_Desk_table : Mfn P w K mg base 3 Cd "table" ["self"] (liftZ K ec (FPd K Cd) 1 f_Desk_table)) (D_Desk_normal : Mfn P w K mg base 3 Cd "normal" ["self"] (liftZ K ec (FPd K Cd) 1 f_Desk_normal)) (D_Desk___len__ : Mfn P w K mg base 1 Cd "__len__" ["self"] (liftZ K ec (FPd K Cd) 1 f_Desk___len__)) (D_law_rounds : Dfn P w K mg base 2 "_law_rounds" ["script", "most"] (spRounds K)) (D_law_product : Dfn P w K mg base 2 "_law_product" ["word"] (lift K ec GPany 1 f_law_product)) (D_law_turn : Dfn P w K mg base 8 "_law_turn" ["dice", "desk", "word", "earlier", "undone"] (liftZ K ec (FPl K Cd [(Pt, ("law" : Str) ++ ".<locals>." ++ "<lambda>"), (Pd, ("_law_done" : Str) ++ ".<locals>." ++ "<lambda>")]) 5 f_law_turn)) (DI : Ini P w K mg base 1 Cd (spInit Cd)) (gD : mg "Desk" = some (.ref Cd)) {TE' g : Addr} {fdT : FuncData} (EO : ErrsOk K ec TE') (FT : Fun K "_law_told" "_law_told" s_law_told g fdT) (gT : mg "_law_told" = some (.ref g)) (TO : ToldOk P w K mg base ec (toldT K ec) 5 g s_law_told ["deed", "e"] "deed") (TB : LamX.TabB base mg c Pt) (hne : Pt ≠ Pd) {oc kV doc pm ct : Value} {od an : Option Addr} {osl : Array (Option Value)} {f : Addr} (lk : K.lookup f = some ⟨oc, od, .func (PySem.W.fnOf "law" "law" (defArgs s_law) (defBody s_law) (defScope s_law) .none kV doc pm an (.ref c) ct), osl⟩) (hcd : PySem.W.codeIn K (.ref c) "law" = true) (pl : law_plain) : FnOk P w K mg base (L2N.CX P w) 9 f (PySem.W.fnOf "law" "law" (defArgs s_law) (defBody s_law) (defScope s_law) .none kV doc pm an (.ref c) ct) ["script"] (spLaw K [(Pt, ("law" : Str) ++ ".<locals>." ++ "<lambda>"), (Pd, ("_law_done" : Str) ++ ".<locals>." ++ "<lambda>")]) :=
  fn_of (k := 8) lk hcd sc_law (fun vs H Q E h => by obtain ⟨a, ns, rfl, _⟩ := h; rfl) fun A0 outer s H vs Q E hr h => ⟨t_law_of K 3 1 E (t_law_body K ec E A Cd [(Pt, ("law" : Str) ++ ".<locals>." ++ "<lambda>"), (Pd, ("_law_done" : Str) ++ ".<locals>." ++ "<lambda>")]), 
    have tk := bcx_takes (P := P) (w := w) (K := K) (mg := mg) (base := base) (N := N_law) (qual := "law") (scope := defScope s_law) (f := f) (cd := (.ref c)) (A := A0) (outer := outer) (s := s) (H := H) (E := E)
    have own := bcx_own (P := P) (w := w) (K := K) (mg := mg) (base := base) (N := N_law) (qual := "law") (scope := defScope s_law) (f := f) (cd := (.ref c)) (A := A0) (outer := outer) (s := s) (H := H) (E := E)
    have hu : ∀ p ∈ [(Pt, ("law" : Str) ++ ".<locals>." ++ "<lambda>"), (Pd, ("_law_done" : Str) ++ ".<locals>." ++ "<lambda>")], p.1 = Pt → p.2 = ("law" : Str) ++ ".<locals>." ++ "<lambda>" := fun p hp e => by rcases List.mem_cons.mp hp with z | z; (rw [z]); (rw [List.mem_singleton.mp z] at e; exact absurd e.symm hne)
    pss_cons (ps_for own (by rfl) (pi_list (pe_cl D_law_rounds tk (hr.mono (by decide)) (by rfl) (pa_cons (pv 0) (pa_cons pe_int pa_nil)))) (pg_name (i := 1) sc_law.nd rfl (.inl rfl)) (pss_cons (ps_asg (pe_tup (pa_cons (pe_mk DI tk (hr.mono (by decide)) (by rfl) gD) (pa_cons pe_str (pa_cons (pe_lst pa_nil) (pa_cons (pe_lst pa_nil) pa_nil))))) (pg_tup rfl (pgs_cons (pg_name (i := 2) sc_law.nd rfl (.inr rfl)) (pgs_cons (pg_name (i := 3) sc_law.nd rfl (.inl rfl)) (pgs_cons (pg_name (i := 4) sc_law.nd rfl (.inl rfl)) (pgs_cons (pg_name (i := 5) sc_law.nd rfl (.inl rfl)) pgs_nil)))))) (pss_cons (ps_for own (by rfl) (pi_range1 (by rfl) B.range (pa_cons pe_int pa_nil)) (pg_name (i := 6) sc_law.nd rfl (.inl rfl)) (pss_cons (ps_asg (pe_cl D_law_turn tk (hr.mono (by decide)) (by rfl) (pa_cons (pv 1) (pa_cons (pv 2) (pa_cons (pv 3) (pa_cons (pv 4) (pa_cons (pv 5) pa_nil)))))) (pg_tup rfl (pgs_cons (pg_name (i := 8) sc_law.nd rfl (.inl rfl)) (pgs_cons (pg_name (i := 9) sc_law.nd rfl (.inl rfl)) (pgs_cons (pg_name (i := 3) sc_law.nd rfl (.inl rfl)) (pgs_cons (pg_name (i := 4) sc_law.nd rfl (.inl rfl)) (pgs_cons (pg_name (i := 5) sc_law.nd rfl (.inl rfl)) pgs_nil))))))) (pss_cons (ps_if (PW.pt (pw_or (pt_cmpR (op_neU hr.units) (pv 8) (pv 9) (nomark _)) (pw_or (pt_cmpR (op_neU hr.units) (pe_mt0 D_Desk_word DC.cl tk (hr.mono (by decide)) (pv 2)) (pv 3) (nomark _)) (pw_or1 (pt_cmpR (op_neU hr.units) (pe_lenM D_Desk___len__ tk (hr.mono (by decide)) (by rfl) B.len (pv 2)) (pe_callB call_lenU (by rfl) B.len PySem.boot_len (pa_cons (pv 3) pa_nil)) (nomark _)))))) (pss_one (ps_ret pe_bl)) pss_nil) (pss_one (ps_if (pt_cmpR (op_neU hr.units) (pe_mt0 D_Desk_table DC.cl tk (hr.mono (by decide)) (pv 2)) (pe_cl D_law_product tk (hr.mono (by decide)) (by rfl) (pa_cons (pv 3) pa_nil)) (nomark _)) (pss_one (ps_ret pe_bl)) pss_nil))))) (pss_cons (ps_if (pt_cmpR (op_neU hr.units) (pe_mt0 D_Desk_normal DC.cl tk (hr.mono (by decide)) (pv 2)) (pe_cl D_normal_of_word tk (hr.mono (by decide)) (by rfl) (pa_cons (pv 3) pa_nil)) (nomark _)) (pss_one (ps_ret pe_bl)) pss_nil) (pss_cons (ps_for own (by rfl) (pi_any (pe_lst (pa_cons pe_str (pa_cons pe_str (pa_cons pe_str (pa_cons pe_non (pa_cons pe_int (pa_cons (pe_lst (pa_cons pe_str pa_nil)) pa_nil)))))))) (pg_name (i := 7) sc_law.nd rfl (.inr rfl)) (pss_one (ps_if (pt_cmpR (op_neU hr.units) (pe_told (T := [(Pt, ("law" : Str) ++ ".<locals>." ++ "<lambda>"), (Pd, ("_law_done" : Str) ++ ".<locals>." ++ "<lambda>")]) (k := 4) (te := fun Ex => (tMeth Cd "put" (liftZ K ec (FPd K Cd) 2 f_Desk_put) [] Ex (tVar 2) (tCons (tVar 7) tNil))) FT gT TO bT (by rfl) TB rfl List.mem_cons_self hu (hr.mono (by decide)) (LamX.lamS_by (sc := defScope s_law) (by decide +kernel)) (by rfl) (fun _ _ _ _ _ => rfl) (fun A1 outer s1 H1 Ex f1 c1 hr => (pe_mt D_Desk_put DC.cl lamN_takes (hr.mono (by decide)) (pv 2) (pa_cons (pv 7) pa_nil)))) (pe_tup (pa_cons pe_str (pa_cons pe_str pa_nil))) (nomark _)) (pss_one (ps_ret pe_bl)) pss_nil))) (pss_one (ps_if (pt_cmpR (op_neU hr.units) (pe_mt0 D_Desk_word DC.cl tk (hr.mono (by decide)) (pv 2)) (pv 3) (nomark _)) (pss_one (ps_ret pe_bl)) pss_nil))))))) (pss_one (ps_ret pe_bl)),
    law_reads (n := 10) (di := 1) (most := 3) (N := N_law) (b := b_law_body) (tb := fun E => t_law_body K ec E A Cd [(Pt, ("law" : Str) ++ ".<locals>." ++ "<lambda>"), (Pd, ("_law_done" : Str) ++ ".<locals>." ++ "<lambda>")]) (by decide) (by decide) (by decide) rfl (fun E => s_new s_str (s_lst s_nil) (s_lst s_nil) (sim_law_rest ⟨K, ec, FPl K Cd [(Pt, ("law" : Str) ++ ".<locals>." ++ "<lambda>"), (Pd, ("_law_done" : Str) ++ ".<locals>." ++ "<lambda>")], E, addFPl⟩ A Cd [(Pt, ("law" : Str) ++ ".<locals>." ++ "<lambda>"), (Pd, ("_law_done" : Str) ++ ".<locals>." ++ "<lambda>")] (fun _ h => h) DC EO)) pl h⟩
end
theorem law_at {w : World} {K : PySem.W.Frag} {h : Heap} {mg : Str → Option Value} {fa : Addr} (X : K.In h) (G : h.Ns mainGlobals mg) (hfa : mg "law" = some (.ref fa)) {Pt Pd : Addr} (hT : ∀ P ∈ [Pd, Pt], h.get? P = some (PySem.W.tabObj #[])) (pl : law_plain)
    {C0 C1 C2 C3 C4 C5 C6 C7 C8 C9 C10 C11 C12 C13 C14 C15 TE : Addr}
    (e0 : PySem.W.nsIn K mainGlobals "InvalidTable" = some (some (.ref C0)))
    (e1 : PySem.W.nsIn K mainGlobals "InvalidWord" = some (some (.ref C1)))
    (e2 : PySem.W.nsIn K mainGlobals "InvalidNumber" = some (some (.ref C2)))
    (e3 : PySem.W.nsIn K mainGlobals "InvalidSign" = some (some (.ref C3)))
    (e4 : PySem.W.nsIn K mainGlobals "InvalidNormal" = some (some (.ref C4)))
    (e5 : PySem.W.nsIn K mainGlobals "InvalidPositive" = some (some (.ref C5)))
    (e6 : PySem.W.nsIn K mainGlobals "InvalidFraction" = some (some (.ref C6)))
    (e7 : PySem.W.nsIn K mainGlobals "InvalidModulus" = some (some (.ref C7)))
    (e8 : PySem.W.nsIn K mainGlobals "InvalidRemainder" = some (some (.ref C8)))
    (e9 : PySem.W.nsIn K mainGlobals "InvalidLetter" = some (some (.ref C9)))
    (e10 : PySem.W.nsIn K mainGlobals "InvalidText" = some (some (.ref C10)))
    (e11 : PySem.W.nsIn K mainGlobals "NotPositive" = some (some (.ref C11)))
    (e12 : PySem.W.nsIn K mainGlobals "FiniteOrder" = some (some (.ref C12)))
    (e13 : PySem.W.nsIn K mainGlobals "AllFixed" = some (some (.ref C13)))
    (e14 : PySem.W.nsIn K mainGlobals "TooLong" = some (some (.ref C14)))
    (e15 : PySem.W.nsIn K mainGlobals "NothingToUndo" = some (some (.ref C15)))
    (eT : PySem.W.nsIn K mainGlobals "TableError" = some (some (.ref TE)))
    (ek : errChk K (fun c => [C0, C1, C2, C3, C4, C5, C6, C7, C8, C9, C10, C11, C12, C13, C14, C15].getD c 0) TE = true)
    (bk : bltChk K = true)
    (x1 : PySem.W.excIn K C1 [.type "ValueError", .type "Exception", .type "BaseException", .type "object"] "ValueError.__new__" = true)
    (x9 : PySem.W.excIn K C9 [.type "ValueError", .type "Exception", .type "BaseException", .type "object"] "ValueError.__new__" = true)
    (x14 : PySem.W.excIn K C14 [.type "ValueError", .type "Exception", .type "BaseException", .type "object"] "ValueError.__new__" = true)
    (x15 : PySem.W.excIn K C15 [.type "ValueError", .type "Exception", .type "BaseException", .type "object"] "ValueError.__new__" = true)
    {un : Addr} {nu t1 t2 t3 t4 : Nat} (gu : PySem.W.nsIn K mainGlobals "UNIT" = some (some (.ref un)))
    {du : Option Addr} {su : Array (Option Value)} (lu : K.lookup un = some ⟨.type "tuple", du, .seq #[.int 1 t1, .int 0 t2, .int 0 t3, .int 1 t4] nu, su⟩)
    {le : Addr} {esL : Array DictEntry} {nL : Nat} (gl : PySem.W.nsIn K mainGlobals "LETTERS" = some (some (.ref le))) (ld : K.lookup le = some ⟨.type "dict", none, .dict esL nL, #[]⟩) (kl : PySem.W.KeysLit w.params esL.toList)
    {u_s : Addr} {du_s : Option Addr} {su_s : Array (Option Value)} {nu_s t1_s t2_s t3_s t4_s : Nat} (n_s : PySem.W.nsIn K le "s" = some (some (.ref u_s))) (t_s : K.lookup u_s = some ⟨.type "tuple", du_s, .seq #[.int (0) t1_s, .int (-1) t2_s, .int (1) t3_s, .int (0) t4_s] nu_s, su_s⟩)
    {u_t : Addr} {du_t : Option Addr} {su_t : Array (Option Value)} {nu_t t1_t t2_t t3_t t4_t : Nat} (n_t : PySem.W.nsIn K le "t" = some (some (.ref u_t))) (t_t : K.lookup u_t = some ⟨.type "tuple", du_t, .seq #[.int (1) t1_t, .int (1) t2_t, .int (0) t3_t, .int (1) t4_t] nu_t, su_t⟩)
    {u_T : Addr} {du_T : Option Addr} {su_T : Array (Option Value)} {nu_T t1_T t2_T t3_T t4_T : Nat} (n_T : PySem.W.nsIn K le "T" = some (some (.ref u_T))) (t_T : K.lookup u_T = some ⟨.type "tuple", du_T, .seq #[.int (1) t1_T, .int (-1) t2_T, .int (0) t3_T, .int (1) t4_T] nu_T, su_T⟩)
    {u_w : Addr} {du_w : Option Addr} {su_w : Array (Option Value)} {nu_w t1_w t2_w t3_w t4_w : Nat} (n_w : PySem.W.nsIn K le "w" = some (some (.ref u_w))) (t_w : K.lookup u_w = some ⟨.type "tuple", du_w, .seq #[.int (0) t1_w, .int (-1) t2_w, .int (1) t3_w, .int (1) t4_w] nu_w, su_w⟩)
    {u_v : Addr} {du_v : Option Addr} {su_v : Array (Option Value)} {nu_v t1_v t2_v t3_v t4_v : Nat} (n_v : PySem.W.nsIn K le "v" = some (some (.ref u_v))) (t_v : K.lookup u_v = some ⟨.type "tuple", du_v, .seq #[.int (-1) t1_v, .int (-1) t2_v, .int (1) t3_v, .int (0) t4_v] nu_v, su_v⟩)
    {u_l : Addr} {du_l : Option Addr} {su_l : Array (Option Value)} {nu_l t1_l t2_l t3_l t4_l : Nat} (n_l : PySem.W.nsIn K le "l" = some (some (.ref u_l))) (t_l : K.lookup u_l = some ⟨.type "tuple", du_l, .seq #[.int (1) t1_l, .int (0) t2_l, .int (1) t3_l, .int (1) t4_l] nu_l, su_l⟩)
    {f_law_cell : Addr} {od_law_cell an_law_cell : Option Addr} {sl_law_cell : Array (Option Value)} {oc_law_cell kV_law_cell dc_law_cell pm_law_cell cd_law_cell ct_law_cell : Value}
    (a_law_cell : PySem.W.nsIn K mainGlobals "_law_cell" = some (some (.ref f_law_cell))) (l_law_cell : K.lookup f_law_cell = some ⟨oc_law_cell, od_law_cell, .func (PySem.W.fnOf "_law_cell" "_law_cell" (defArgs s_law_cell) (defBody s_law_cell) (defScope s_law_cell) .none kV_law_cell dc_law_cell pm_law_cell an_law_cell cd_law_cell ct_law_cell), sl_law_cell⟩) (c_law_cell : PySem.W.codeIn K cd_law_cell "_law_cell" = true) (k_law_cell : PySem.W.keepIn K (.ref f_law_cell) = true)
    {f_law_rounds : Addr} {od_law_rounds an_law_rounds : Option Addr} {sl_law_rounds : Array (Option Value)} {oc_law_rounds kV_law_rounds dc_law_rounds pm_law_rounds cd_law_rounds ct_law_rounds : Value}
    (a_law_rounds : PySem.W.nsIn K mainGlobals "_law_rounds" = some (some (.ref f_law_rounds))) (l_law_rounds : K.lookup f_law_rounds = some ⟨oc_law_rounds, od_law_rounds, .func (PySem.W.fnOf "_law_rounds" "_law_rounds" (defArgs s_law_rounds) (defBody s_law_rounds) (defScope s_law_rounds) .none kV_law_rounds dc_law_rounds pm_law_rounds an_law_rounds cd_law_rounds ct_law_rounds), sl_law_rounds⟩) (c_law_rounds : PySem.W.codeIn K cd_law_rounds "_law_rounds" = true) (k_law_rounds : PySem.W.keepIn K (.ref f_law_rounds) = true)
    {f_law_roll : Addr} {od_law_roll an_law_roll : Option Addr} {sl_law_roll : Array (Option Value)} {oc_law_roll kV_law_roll dc_law_roll pm_law_roll cd_law_roll ct_law_roll : Value}
    (a_law_roll : PySem.W.nsIn K mainGlobals "_law_roll" = some (some (.ref f_law_roll))) (l_law_roll : K.lookup f_law_roll = some ⟨oc_law_roll, od_law_roll, .func (PySem.W.fnOf "_law_roll" "_law_roll" (defArgs s_law_roll) (defBody s_law_roll) (defScope s_law_roll) .none kV_law_roll dc_law_roll pm_law_roll an_law_roll cd_law_roll ct_law_roll), sl_law_roll⟩) (c_law_roll : PySem.W.codeIn K cd_law_roll "_law_roll" = true) (k_law_roll : PySem.W.keepIn K (.ref f_law_roll) = true)
    {f_is_made_of : Addr} {od_is_made_of an_is_made_of : Option Addr} {sl_is_made_of : Array (Option Value)} {oc_is_made_of kV_is_made_of dc_is_made_of pm_is_made_of cd_is_made_of ct_is_made_of : Value}
    (a_is_made_of : PySem.W.nsIn K mainGlobals "is_made_of" = some (some (.ref f_is_made_of))) (l_is_made_of : K.lookup f_is_made_of = some ⟨oc_is_made_of, od_is_made_of, .func (PySem.W.fnOf "is_made_of" "is_made_of" (defArgs s_is_made_of) (defBody s_is_made_of) (defScope s_is_made_of) .none kV_is_made_of dc_is_made_of pm_is_made_of an_is_made_of cd_is_made_of ct_is_made_of), sl_is_made_of⟩) (c_is_made_of : PySem.W.codeIn K cd_is_made_of "is_made_of" = true) (k_is_made_of : PySem.W.keepIn K (.ref f_is_made_of) = true)
    {f_need_word : Addr} {od_need_word an_need_word : Option Addr} {sl_need_word : Array (Option Value)} {oc_need_word kV_need_word dc_need_word pm_need_word cd_need_word ct_need_word : Value}
    (a_need_word : PySem.W.nsIn K mainGlobals "need_word" = some (some (.ref f_need_word))) (l_need_word : K.lookup f_need_word = some ⟨oc_need_word, od_need_word, .func (PySem.W.fnOf "need_word" "need_word" (defArgs s_need_word) (defBody s_need_word) (defScope s_need_word) .none kV_need_word dc_need_word pm_need_word an_need_word cd_need_word ct_need_word), sl_need_word⟩) (c_need_word : PySem.W.codeIn K cd_need_word "need_word" = true) (k_need_word : PySem.W.keepIn K (.ref f_need_word) = true)
    {f_put_behind : Addr} {od_put_behind an_put_behind : Option Addr} {sl_put_behind : Array (Option Value)} {oc_put_behind kV_put_behind dc_put_behind pm_put_behind cd_put_behind ct_put_behind : Value}
    (a_put_behind : PySem.W.nsIn K mainGlobals "put_behind" = some (some (.ref f_put_behind))) (l_put_behind : K.lookup f_put_behind = some ⟨oc_put_behind, od_put_behind, .func (PySem.W.fnOf "put_behind" "put_behind" (defArgs s_put_behind) (defBody s_put_behind) (defScope s_put_behind) .none kV_put_behind dc_put_behind pm_put_behind an_put_behind cd_put_behind ct_put_behind), sl_put_behind⟩) (c_put_behind : PySem.W.codeIn K cd_put_behind "put_behind" = true) (k_put_behind : PySem.W.keepIn K (.ref f_put_behind) = true)
    {f_reduced : Addr} {od_reduced an_reduced : Option Addr} {sl_reduced : Array (Option Value)} {oc_reduced kV_reduced dc_reduced pm_reduced cd_reduced ct_reduced : Value}
    (a_reduced : PySem.W.nsIn K mainGlobals "reduced" = some (some (.ref f_reduced))) (l_reduced : K.lookup f_reduced = some ⟨oc_reduced, od_reduced, .func (PySem.W.fnOf "reduced" "reduced" (defArgs s_reduced) (defBody s_reduced) (defScope s_reduced) .none kV_reduced dc_reduced pm_reduced an_reduced cd_reduced ct_reduced), sl_reduced⟩) (c_reduced : PySem.W.codeIn K cd_reduced "reduced" = true) (k_reduced : PySem.W.keepIn K (.ref f_reduced) = true)
    {f_normal_of_word : Addr} {od_normal_of_word an_normal_of_word : Option Addr} {sl_normal_of_word : Array (Option Value)} {oc_normal_of_word kV_normal_of_word dc_normal_of_word pm_normal_of_word cd_normal_of_word ct_normal_of_word : Value}
    (a_normal_of_word : PySem.W.nsIn K mainGlobals "normal_of_word" = some (some (.ref f_normal_of_word))) (l_normal_of_word : K.lookup f_normal_of_word = some ⟨oc_normal_of_word, od_normal_of_word, .func (PySem.W.fnOf "normal_of_word" "normal_of_word" (defArgs s_normal_of_word) (defBody s_normal_of_word) (defScope s_normal_of_word) .none kV_normal_of_word dc_normal_of_word pm_normal_of_word an_normal_of_word cd_normal_of_word ct_normal_of_word), sl_normal_of_word⟩) (c_normal_of_word : PySem.W.codeIn K cd_normal_of_word "normal_of_word" = true) (k_normal_of_word : PySem.W.keepIn K (.ref f_normal_of_word) = true)
    {f_times : Addr} {od_times an_times : Option Addr} {sl_times : Array (Option Value)} {oc_times kV_times dc_times pm_times cd_times ct_times : Value}
    (a_times : PySem.W.nsIn K mainGlobals "times" = some (some (.ref f_times))) (l_times : K.lookup f_times = some ⟨oc_times, od_times, .func (PySem.W.fnOf "times" "times" (defArgs s_times) (defBody s_times) (defScope s_times) .none kV_times dc_times pm_times an_times cd_times ct_times), sl_times⟩) (c_times : PySem.W.codeIn K cd_times "times" = true) (k_times : PySem.W.keepIn K (.ref f_times) = true)
    {f_table_of : Addr} {od_table_of an_table_of : Option Addr} {sl_table_of : Array (Option Value)} {oc_table_of kV_table_of dc_table_of pm_table_of cd_table_of ct_table_of : Value}
    (a_table_of : PySem.W.nsIn K mainGlobals "table_of" = some (some (.ref f_table_of))) (l_table_of : K.lookup f_table_of = some ⟨oc_table_of, od_table_of, .func (PySem.W.fnOf "table_of" "table_of" (defArgs s_table_of) (defBody s_table_of) (defScope s_table_of) .none kV_table_of dc_table_of pm_table_of an_table_of cd_table_of ct_table_of), sl_table_of⟩) (c_table_of : PySem.W.codeIn K cd_table_of "table_of" = true) (k_table_of : PySem.W.keepIn K (.ref f_table_of) = true)
    {f_law_times : Addr} {od_law_times an_law_times : Option Addr} {sl_law_times : Array (Option Value)} {oc_law_times kV_law_times dc_law_times pm_law_times cd_law_times ct_law_times : Value}
    (a_law_times : PySem.W.nsIn K mainGlobals "_law_times" = some (some (.ref f_law_times))) (l_law_times : K.lookup f_law_times = some ⟨oc_law_times, od_law_times, .func (PySem.W.fnOf "_law_times" "_law_times" (defArgs s_law_times) (defBody s_law_times) (defScope s_law_times) .none kV_law_times dc_law_times pm_law_times an_law_times cd_law_times ct_law_times), sl_law_times⟩) (c_law_times : PySem.W.codeIn K cd_law_times "_law_times" = true) (k_law_times : PySem.W.keepIn K (.ref f_law_times) = true)
    {f_law_letter : Addr} {od_law_letter an_law_letter : Option Addr} {sl_law_letter : Array (Option Value)} {oc_law_letter kV_law_letter dc_law_letter pm_law_letter cd_law_letter ct_law_letter : Value}
    (a_law_letter : PySem.W.nsIn K mainGlobals "_law_letter" = some (some (.ref f_law_letter))) (l_law_letter : K.lookup f_law_letter = some ⟨oc_law_letter, od_law_letter, .func (PySem.W.fnOf "_law_letter" "_law_letter" (defArgs s_law_letter) (defBody s_law_letter) (defScope s_law_letter) .none kV_law_letter dc_law_letter pm_law_letter an_law_letter cd_law_letter ct_law_letter), sl_law_letter⟩) (c_law_letter : PySem.W.codeIn K cd_law_letter "_law_letter" = true) (k_law_letter : PySem.W.keepIn K (.ref f_law_letter) = true)
    {f_law_product : Addr} {od_law_product an_law_product : Option Addr} {sl_law_product : Array (Option Value)} {oc_law_product kV_law_product dc_law_product pm_law_product cd_law_product ct_law_product : Value}
    (a_law_product : PySem.W.nsIn K mainGlobals "_law_product" = some (some (.ref f_law_product))) (l_law_product : K.lookup f_law_product = some ⟨oc_law_product, od_law_product, .func (PySem.W.fnOf "_law_product" "_law_product" (defArgs s_law_product) (defBody s_law_product) (defScope s_law_product) .none kV_law_product dc_law_product pm_law_product an_law_product cd_law_product ct_law_product), sl_law_product⟩) (c_law_product : PySem.W.codeIn K cd_law_product "_law_product" = true) (k_law_product : PySem.W.keepIn K (.ref f_law_product) = true)
    {f_law_drawn : Addr} {od_law_drawn an_law_drawn : Option Addr} {sl_law_drawn : Array (Option Value)} {oc_law_drawn kV_law_drawn dc_law_drawn pm_law_drawn cd_law_drawn ct_law_drawn : Value}
    (a_law_drawn : PySem.W.nsIn K mainGlobals "_law_drawn" = some (some (.ref f_law_drawn))) (l_law_drawn : K.lookup f_law_drawn = some ⟨oc_law_drawn, od_law_drawn, .func (PySem.W.fnOf "_law_drawn" "_law_drawn" (defArgs s_law_drawn) (defBody s_law_drawn) (defScope s_law_drawn) .none kV_law_drawn dc_law_drawn pm_law_drawn an_law_drawn cd_law_drawn ct_law_drawn), sl_law_drawn⟩) (c_law_drawn : PySem.W.codeIn K cd_law_drawn "_law_drawn" = true) (k_law_drawn : PySem.W.keepIn K (.ref f_law_drawn) = true)
    {f_law_short : Addr} {od_law_short an_law_short : Option Addr} {sl_law_short : Array (Option Value)} {oc_law_short kV_law_short dc_law_short pm_law_short cd_law_short ct_law_short : Value}
    (a_law_short : PySem.W.nsIn K mainGlobals "_law_short" = some (some (.ref f_law_short))) (l_law_short : K.lookup f_law_short = some ⟨oc_law_short, od_law_short, .func (PySem.W.fnOf "_law_short" "_law_short" (defArgs s_law_short) (defBody s_law_short) (defScope s_law_short) .none kV_law_short dc_law_short pm_law_short an_law_short cd_law_short ct_law_short), sl_law_short⟩) (c_law_short : PySem.W.codeIn K cd_law_short "_law_short" = true) (k_law_short : PySem.W.keepIn K (.ref f_law_short) = true)
    {f_law_done : Addr} {od_law_done an_law_done : Option Addr} {sl_law_done : Array (Option Value)} {oc_law_done kV_law_done dc_law_done pm_law_done ct_law_done : Value}
    {cD : Addr}
    (a_law_done : PySem.W.nsIn K mainGlobals "_law_done" = some (some (.ref f_law_done))) (l_law_done : K.lookup f_law_done = some ⟨oc_law_done, od_law_done, .func (PySem.W.fnOf "_law_done" "_law_done" (defArgs s_law_done) (defBody s_law_done) (defScope s_law_done) .none kV_law_done dc_law_done pm_law_done an_law_done (.ref cD) ct_law_done), sl_law_done⟩) (c_law_done : PySem.W.codeIn K (.ref cD) "_law_done" = true) (k_law_done : PySem.W.keepIn K (.ref f_law_done) = true)
    {f_law_turn : Addr} {od_law_turn an_law_turn : Option Addr} {sl_law_turn : Array (Option Value)} {oc_law_turn kV_law_turn dc_law_turn pm_law_turn cd_law_turn ct_law_turn : Value}
    (a_law_turn : PySem.W.nsIn K mainGlobals "_law_turn" = some (some (.ref f_law_turn))) (l_law_turn : K.lookup f_law_turn = some ⟨oc_law_turn, od_law_turn, .func (PySem.W.fnOf "_law_turn" "_law_turn" (defArgs s_law_turn) (defBody s_law_turn) (defScope s_law_turn) .none kV_law_turn dc_law_turn pm_law_turn an_law_turn cd_law_turn ct_law_turn), sl_law_turn⟩) (c_law_turn : PySem.W.codeIn K cd_law_turn "_law_turn" = true) (k_law_turn : PySem.W.keepIn K (.ref f_law_turn) = true)
    {f_law_term : Addr} {od_law_term an_law_term : Option Addr} {sl_law_term : Array (Option Value)} {oc_law_term kV_law_term dc_law_term pm_law_term cd_law_term ct_law_term : Value}
    (a_law_term : PySem.W.nsIn K mainGlobals "_law_term" = some (some (.ref f_law_term))) (l_law_term : K.lookup f_law_term = some ⟨oc_law_term, od_law_term, .func (PySem.W.fnOf "_law_term" "_law_term" (defArgs s_law_term) (defBody s_law_term) (defScope s_law_term) .none kV_law_term dc_law_term pm_law_term an_law_term cd_law_term ct_law_term), sl_law_term⟩) (c_law_term : PySem.W.codeIn K cd_law_term "_law_term" = true) (k_law_term : PySem.W.keepIn K (.ref f_law_term) = true)
    {f_law_told : Addr} {od_law_told an_law_told : Option Addr} {sl_law_told : Array (Option Value)} {oc_law_told kV_law_told dc_law_told pm_law_told cd_law_told ct_law_told : Value}
    (a_law_told : PySem.W.nsIn K mainGlobals "_law_told" = some (some (.ref f_law_told))) (l_law_told : K.lookup f_law_told = some ⟨oc_law_told, od_law_told, .func (PySem.W.fnOf "_law_told" "_law_told" (defArgs s_law_told) (defBody s_law_told) (defScope s_law_told) .none kV_law_told dc_law_told pm_law_told an_law_told cd_law_told ct_law_told), sl_law_told⟩) (c_law_told : PySem.W.codeIn K cd_law_told "_law_told" = true) (k_law_told : PySem.W.keepIn K (.ref f_law_told) = true)
    {f_law : Addr} {od_law an_law : Option Addr} {sl_law : Array (Option Value)} {oc_law kV_law dc_law pm_law ct_law : Value}
    {c : Addr}
    (a_law : PySem.W.nsIn K mainGlobals "law" = some (some (.ref f_law))) (l_law : K.lookup f_law = some ⟨oc_law, od_law, .func (PySem.W.fnOf "law" "law" (defArgs s_law) (defBody s_law) (defScope s_law) .none kV_law dc_law pm_law an_law (.ref c) ct_law), sl_law⟩) (c_law : PySem.W.codeIn K (.ref c) "law" = true) (k_law : PySem.W.keepIn K (.ref f_law) = true)
    {Cd : Addr} (aD : PySem.W.nsIn K mainGlobals "Desk" = some (some (.ref Cd))) (pg : PySem.W.plainGet K Cd Str.empty = true) (hdD : PySem.W.hasDictIn K Cd = true) (po : PySem.W.plainOver K Cd = true) (sa : PySem.W.findIn K (.ref Cd) "__setattr__" = some (some (.builtin "object.__setattr__"))) (mk : PySem.W.makesIn K Cd = true) (kD : PySem.W.keepIn K (.ref Cd) = true)
    (nf0 : PySem.W.findIn K (.ref Cd) "now" = some none)
    (nf1 : PySem.W.findIn K (.ref Cd) "earlier" = some none)
    (nf2 : PySem.W.findIn K (.ref Cd) "undone" = some none)
    {f_Desk___init__ : Addr} {od_Desk___init__ an_Desk___init__ : Option Addr} {sl_Desk___init__ : Array (Option Value)} {oc_Desk___init__ kV_Desk___init__ dc_Desk___init__ pm_Desk___init__ cd_Desk___init__ ct_Desk___init__ : Value}
    (a_Desk___init__ : PySem.W.findIn K (.ref Cd) "__init__" = some (some (.ref f_Desk___init__))) (i_Desk___init__ : PySem.W.isFn K (.ref f_Desk___init__) = true) (l_Desk___init__ : K.lookup f_Desk___init__ = some ⟨oc_Desk___init__, od_Desk___init__, .func (PySem.W.fnOf "__init__" "Desk.__init__" (defArgs s_Desk___init__) (defBody s_Desk___init__) (defScope s_Desk___init__) .none kV_Desk___init__ dc_Desk___init__ pm_Desk___init__ an_Desk___init__ cd_Desk___init__ ct_Desk___init__), sl_Desk___init__⟩) (c_Desk___init__ : PySem.W.codeIn K cd_Desk___init__ "Desk.__init__" = true) (k_Desk___init__ : PySem.W.keepIn K (.ref f_Desk___init__) = true)
    {f_Desk_change : Addr} {od_Desk_change an_Desk_change : Option Addr} {sl_Desk_change : Array (Option Value)} {oc_Desk_change kV_Desk_change dc_Desk_change pm_Desk_change cd_Desk_change ct_Desk_change : Value}
    (a_Desk_change : PySem.W.findIn K (.ref Cd) "change" = some (some (.ref f_Desk_change))) (i_Desk_change : PySem.W.isFn K (.ref f_Desk_change) = true) (l_Desk_change : K.lookup f_Desk_change = some ⟨oc_Desk_change, od_Desk_change, .func (PySem.W.fnOf "change" "Desk.change" (defArgs s_Desk_change) (defBody s_Desk_change) (defScope s_Desk_change) .none kV_Desk_change dc_Desk_change pm_Desk_change an_Desk_change cd_Desk_change ct_Desk_change), sl_Desk_change⟩) (c_Desk_change : PySem.W.codeIn K cd_Desk_change "Desk.change" = true) (k_Desk_change : PySem.W.keepIn K (.ref f_Desk_change) = true)
    {f_Desk_table : Addr} {od_Desk_table an_Desk_table : Option Addr} {sl_Desk_table : Array (Option Value)} {oc_Desk_table kV_Desk_table dc_Desk_table pm_Desk_table cd_Desk_table ct_Desk_table : Value}
    (a_Desk_table : PySem.W.findIn K (.ref Cd) "table" = some (some (.ref f_Desk_table))) (i_Desk_table : PySem.W.isFn K (.ref f_Desk_table) = true) (l_Desk_table : K.lookup f_Desk_table = some ⟨oc_Desk_table, od_Desk_table, .func (PySem.W.fnOf "table" "Desk.table" (defArgs s_Desk_table) (defBody s_Desk_table) (defScope s_Desk_table) .none kV_Desk_table dc_Desk_table pm_Desk_table an_Desk_table cd_Desk_table ct_Desk_table), sl_Desk_table⟩) (c_Desk_table : PySem.W.codeIn K cd_Desk_table "Desk.table" = true) (k_Desk_table : PySem.W.keepIn K (.ref f_Desk_table) = true)
    {f_Desk_put : Addr} {od_Desk_put an_Desk_put : Option Addr} {sl_Desk_put : Array (Option Value)} {oc_Desk_put kV_Desk_put dc_Desk_put pm_Desk_put cd_Desk_put ct_Desk_put : Value}
    (a_Desk_put : PySem.W.findIn K (.ref Cd) "put" = some (some (.ref f_Desk_put))) (i_Desk_put : PySem.W.isFn K (.ref f_Desk_put) = true) (l_Desk_put : K.lookup f_Desk_put = some ⟨oc_Desk_put, od_Desk_put, .func (PySem.W.fnOf "put" "Desk.put" (defArgs s_Desk_put) (defBody s_Desk_put) (defScope s_Desk_put) .none kV_Desk_put dc_Desk_put pm_Desk_put an_Desk_put cd_Desk_put ct_Desk_put), sl_Desk_put⟩) (c_Desk_put : PySem.W.codeIn K cd_Desk_put "Desk.put" = true) (k_Desk_put : PySem.W.keepIn K (.ref f_Desk_put) = true)
    {f_Desk_word : Addr} {od_Desk_word an_Desk_word : Option Addr} {sl_Desk_word : Array (Option Value)} {oc_Desk_word kV_Desk_word dc_Desk_word pm_Desk_word cd_Desk_word ct_Desk_word : Value}
    (a_Desk_word : PySem.W.findIn K (.ref Cd) "word" = some (some (.ref f_Desk_word))) (i_Desk_word : PySem.W.isFn K (.ref f_Desk_word) = true) (l_Desk_word : K.lookup f_Desk_word = some ⟨oc_Desk_word, od_Desk_word, .func (PySem.W.fnOf "word" "Desk.word" (defArgs s_Desk_word) (defBody s_Desk_word) (defScope s_Desk_word) .none kV_Desk_word dc_Desk_word pm_Desk_word an_Desk_word cd_Desk_word ct_Desk_word), sl_Desk_word⟩) (c_Desk_word : PySem.W.codeIn K cd_Desk_word "Desk.word" = true) (k_Desk_word : PySem.W.keepIn K (.ref f_Desk_word) = true)
    {f_Desk_normal : Addr} {od_Desk_normal an_Desk_normal : Option Addr} {sl_Desk_normal : Array (Option Value)} {oc_Desk_normal kV_Desk_normal dc_Desk_normal pm_Desk_normal cd_Desk_normal ct_Desk_normal : Value}
    (a_Desk_normal : PySem.W.findIn K (.ref Cd) "normal" = some (some (.ref f_Desk_normal))) (i_Desk_normal : PySem.W.isFn K (.ref f_Desk_normal) = true) (l_Desk_normal : K.lookup f_Desk_normal = some ⟨oc_Desk_normal, od_Desk_normal, .func (PySem.W.fnOf "normal" "Desk.normal" (defArgs s_Desk_normal) (defBody s_Desk_normal) (defScope s_Desk_normal) .none kV_Desk_normal dc_Desk_normal pm_Desk_normal an_Desk_normal cd_Desk_normal ct_Desk_normal), sl_Desk_normal⟩) (c_Desk_normal : PySem.W.codeIn K cd_Desk_normal "Desk.normal" = true) (k_Desk_normal : PySem.W.keepIn K (.ref f_Desk_normal) = true)
    {f_Desk___len__ : Addr} {od_Desk___len__ an_Desk___len__ : Option Addr} {sl_Desk___len__ : Array (Option Value)} {oc_Desk___len__ kV_Desk___len__ dc_Desk___len__ pm_Desk___len__ cd_Desk___len__ ct_Desk___len__ : Value}
    (a_Desk___len__ : PySem.W.findIn K (.ref Cd) "__len__" = some (some (.ref f_Desk___len__))) (i_Desk___len__ : PySem.W.isFn K (.ref f_Desk___len__) = true) (l_Desk___len__ : K.lookup f_Desk___len__ = some ⟨oc_Desk___len__, od_Desk___len__, .func (PySem.W.fnOf "__len__" "Desk.__len__" (defArgs s_Desk___len__) (defBody s_Desk___len__) (defScope s_Desk___len__) .none kV_Desk___len__ dc_Desk___len__ pm_Desk___len__ an_Desk___len__ cd_Desk___len__ ct_Desk___len__), sl_Desk___len__⟩) (c_Desk___len__ : PySem.W.codeIn K cd_Desk___len__ "Desk.__len__" = true) (k_Desk___len__ : PySem.W.keepIn K (.ref f_Desk___len__) = true)
    {f_Desk_shorten : Addr} {od_Desk_shorten an_Desk_shorten : Option Addr} {sl_Desk_shorten : Array (Option Value)} {oc_Desk_shorten kV_Desk_shorten dc_Desk_shorten pm_Desk_shorten cd_Desk_shorten ct_Desk_shorten : Value}
    (a_Desk_shorten : PySem.W.findIn K (.ref Cd) "shorten" = some (some (.ref f_Desk_shorten))) (i_Desk_shorten : PySem.W.isFn K (.ref f_Desk_shorten) = true) (l_Desk_shorten : K.lookup f_Desk_shorten = some ⟨oc_Desk_shorten, od_Desk_shorten, .func (PySem.W.fnOf "shorten" "Desk.shorten" (defArgs s_Desk_shorten) (defBody s_Desk_shorten) (defScope s_Desk_shorten) .none kV_Desk_shorten dc_Desk_shorten pm_Desk_shorten an_Desk_shorten cd_Desk_shorten ct_Desk_shorten), sl_Desk_shorten⟩) (c_Desk_shorten : PySem.W.codeIn K cd_Desk_shorten "Desk.shorten" = true) (k_Desk_shorten : PySem.W.keepIn K (.ref f_Desk_shorten) = true)
    {f_Desk_undo : Addr} {od_Desk_undo an_Desk_undo : Option Addr} {sl_Desk_undo : Array (Option Value)} {oc_Desk_undo kV_Desk_undo dc_Desk_undo pm_Desk_undo cd_Desk_undo ct_Desk_undo : Value}
    (a_Desk_undo : PySem.W.findIn K (.ref Cd) "undo" = some (some (.ref f_Desk_undo))) (i_Desk_undo : PySem.W.isFn K (.ref f_Desk_undo) = true) (l_Desk_undo : K.lookup f_Desk_undo = some ⟨oc_Desk_undo, od_Desk_undo, .func (PySem.W.fnOf "undo" "Desk.undo" (defArgs s_Desk_undo) (defBody s_Desk_undo) (defScope s_Desk_undo) .none kV_Desk_undo dc_Desk_undo pm_Desk_undo an_Desk_undo cd_Desk_undo ct_Desk_undo), sl_Desk_undo⟩) (c_Desk_undo : PySem.W.codeIn K cd_Desk_undo "Desk.undo" = true) (k_Desk_undo : PySem.W.keepIn K (.ref f_Desk_undo) = true)
    {f_Desk_redo : Addr} {od_Desk_redo an_Desk_redo : Option Addr} {sl_Desk_redo : Array (Option Value)} {oc_Desk_redo kV_Desk_redo dc_Desk_redo pm_Desk_redo cd_Desk_redo ct_Desk_redo : Value}
    (a_Desk_redo : PySem.W.findIn K (.ref Cd) "redo" = some (some (.ref f_Desk_redo))) (i_Desk_redo : PySem.W.isFn K (.ref f_Desk_redo) = true) (l_Desk_redo : K.lookup f_Desk_redo = some ⟨oc_Desk_redo, od_Desk_redo, .func (PySem.W.fnOf "redo" "Desk.redo" (defArgs s_Desk_redo) (defBody s_Desk_redo) (defScope s_Desk_redo) .none kV_Desk_redo dc_Desk_redo pm_Desk_redo an_Desk_redo cd_Desk_redo ct_Desk_redo), sl_Desk_redo⟩) (c_Desk_redo : PySem.W.codeIn K cd_Desk_redo "Desk.redo" = true) (k_Desk_redo : PySem.W.keepIn K (.ref f_Desk_redo) = true)
    (hd : PySem.W.codeHdIn K c Pt = true) (nT : K.lookup Pt = none) (hd2 : PySem.W.codeHdIn K cD Pd = true) (nT2 : K.lookup Pd = none) (hne : Pt ≠ Pd) :
    LamX.LawAtS PySem.Challenge.rw_turnshifts_k20_whole_desks w K (L2N.CX PySem.Challenge.rw_turnshifts_k20_whole_desks.prog w) 9 63 "script" mg fa h := by
  have z := hfa.symm.trans (PySem.W.mg_of X G a_law)
  cases z
  obtain ⟨EO, ex⟩ := errs_of ek
  obtain ⟨B, mVE⟩ := blt_of X G bk
  have gE : ∀ c, c < 16 → mg (enames.getD c "") = some (.ref ((fun c => [C0, C1, C2, C3, C4, C5, C6, C7, C8, C9, C10, C11, C12, C13, C14, C15].getD c 0) c)) := fun c hc => match c, hc with
    | 0, _ => PySem.W.mg_of X G e0
    | 1, _ => PySem.W.mg_of X G e1
    | 2, _ => PySem.W.mg_of X G e2
    | 3, _ => PySem.W.mg_of X G e3
    | 4, _ => PySem.W.mg_of X G e4
    | 5, _ => PySem.W.mg_of X G e5
    | 6, _ => PySem.W.mg_of X G e6
    | 7, _ => PySem.W.mg_of X G e7
    | 8, _ => PySem.W.mg_of X G e8
    | 9, _ => PySem.W.mg_of X G e9
    | 10, _ => PySem.W.mg_of X G e10
    | 11, _ => PySem.W.mg_of X G e11
    | 12, _ => PySem.W.mg_of X G e12
    | 13, _ => PySem.W.mg_of X G e13
    | 14, _ => PySem.W.mg_of X G e14
    | 15, _ => PySem.W.mg_of X G e15
    | n + 16, hc => absurd hc (by omega)
  have X_InvalidWord : ExF K mg "InvalidWord" ((fun c => [C0, C1, C2, C3, C4, C5, C6, C7, C8, C9, C10, C11, C12, C13, C14, C15].getD c 0) 1) := ⟨PySem.W.mg_of X G e1, x1, (ex 1 (by decide)).1, (ex 1 (by decide)).2.1, (ex 1 (by decide)).2.2⟩
  have X_InvalidLetter : ExF K mg "InvalidLetter" ((fun c => [C0, C1, C2, C3, C4, C5, C6, C7, C8, C9, C10, C11, C12, C13, C14, C15].getD c 0) 9) := ⟨PySem.W.mg_of X G e9, x9, (ex 9 (by decide)).1, (ex 9 (by decide)).2.1, (ex 9 (by decide)).2.2⟩
  have X_TooLong : ExF K mg "TooLong" ((fun c => [C0, C1, C2, C3, C4, C5, C6, C7, C8, C9, C10, C11, C12, C13, C14, C15].getD c 0) 14) := ⟨PySem.W.mg_of X G e14, x14, (ex 14 (by decide)).1, (ex 14 (by decide)).2.1, (ex 14 (by decide)).2.2⟩
  have X_NothingToUndo : ExF K mg "NothingToUndo" ((fun c => [C0, C1, C2, C3, C4, C5, C6, C7, C8, C9, C10, C11, C12, C13, C14, C15].getD c 0) 15) := ⟨PySem.W.mg_of X G e15, x15, (ex 15 (by decide)).1, (ex 15 (by decide)).2.1, (ex 15 (by decide)).2.2⟩
  have hA : GaOk K ⟨un, le, w⟩ := unit_of lu rfl rfl
  have gU := PySem.W.mg_of X G gu
  have gL := PySem.W.mg_of X G gl
  have hL : GaLe K ⟨un, le, w⟩ := ⟨fun c hc => by
    rcases hc with rfl | rfl | rfl | rfl | rfl | rfl
    · exact ⟨.ref u_s, ⟨esL, nL, _, ld, kl, by rw [← key_s]; exact n_s, rfl⟩, tup4_of t_s rfl rfl⟩
    · exact ⟨.ref u_t, ⟨esL, nL, _, ld, kl, by rw [← key_t]; exact n_t, rfl⟩, tup4_of t_t rfl rfl⟩
    · exact ⟨.ref u_T, ⟨esL, nL, _, ld, kl, by rw [← key_T]; exact n_T, rfl⟩, tup4_of t_T rfl rfl⟩
    · exact ⟨.ref u_w, ⟨esL, nL, _, ld, kl, by rw [← key_w]; exact n_w, rfl⟩, tup4_of t_w rfl rfl⟩
    · exact ⟨.ref u_v, ⟨esL, nL, _, ld, kl, by rw [← key_v]; exact n_v, rfl⟩, tup4_of t_v rfl rfl⟩
    · exact ⟨.ref u_l, ⟨esL, nL, _, ld, kl, by rw [← key_l]; exact n_l, rfl⟩, tup4_of t_l rfl rfl⟩⟩
  have DC : DeskC K Cd := ⟨⟨pg, hdD, po, sa⟩, nf0, nf1, nf2⟩
  have two : ∀ {Pr : Addr × Addr → Prop}, Pr (c, Pt) → Pr (cD, Pd) → ∀ p ∈ [(c, Pt), (cD, Pd)], Pr p := fun h1 h2 p hp => by rcases List.mem_cons.mp hp with z | z; (rw [z]; exact h1); (rw [List.mem_singleton.mp z]; exact h2)
  refine ⟨PySem.W.fnOf "law" "law" (defArgs s_law) (defBody s_law) (defScope s_law) .none kV_law dc_law pm_law an_law (.ref c) ct_law, [(c, Pt), (cD, Pd)], spLaw K [(Pt, ("law" : Str) ++ ".<locals>." ++ "<lambda>"), (Pd, ("_law_done" : Str) ++ ".<locals>." ++ "<lambda>")], two (hT Pt (List.mem_cons_of_mem _ List.mem_cons_self)) (hT Pd List.mem_cons_self), two nT nT2, two (PySem.W.codeHd_of_K X hd) (PySem.W.codeHd_of_K X hd2), fun s u => .of_eq rfl, fun H a ns hl _ hH hS => ?_, fun base KB GB TB => ?_⟩
  · exact ⟨a, ns, rfl, hS, hl, tabs2 (hH (c, Pt) List.mem_cons_self) (hH (cD, Pd) (List.mem_cons_of_mem _ List.mem_cons_self)), fun _ => rfl⟩
  have Z_law_cell := def0_of (st := s_law_cell) X G a_law_cell l_law_cell c_law_cell k_law_cell
  have Z_law_rounds := def0_of (st := s_law_rounds) X G a_law_rounds l_law_rounds c_law_rounds k_law_rounds
  have Z_law_roll := def0_of (st := s_law_roll) X G a_law_roll l_law_roll c_law_roll k_law_roll
  have Z_is_made_of := def0_of (st := s_is_made_of) X G a_is_made_of l_is_made_of c_is_made_of k_is_made_of
  have Z_need_word := def0_of (st := s_need_word) X G a_need_word l_need_word c_need_word k_need_word
  have Z_put_behind := def0_of (st := s_put_behind) X G a_put_behind l_put_behind c_put_behind k_put_behind
  have Z_reduced := def0_of (st := s_reduced) X G a_reduced l_reduced c_reduced k_reduced
  have Z_normal_of_word := def0_of (st := s_normal_of_word) X G a_normal_of_word l_normal_of_word c_normal_of_word k_normal_of_word
  have Z_times := def0_of (st := s_times) X G a_times l_times c_times k_times
  have Z_table_of := def0_of (st := s_table_of) X G a_table_of l_table_of c_table_of k_table_of
  have Z_law_times := def0_of (st := s_law_times) X G a_law_times l_law_times c_law_times k_law_times
  have Z_law_letter := def0_of (st := s_law_letter) X G a_law_letter l_law_letter c_law_letter k_law_letter
  have Z_law_product := def0_of (st := s_law_product) X G a_law_product l_law_product c_law_product k_law_product
  have Z_law_drawn := def0_of (st := s_law_drawn) X G a_law_drawn l_law_drawn c_law_drawn k_law_drawn
  have Z_law_short := def0_of (st := s_law_short) X G a_law_short l_law_short c_law_short k_law_short
  have Z_law_turn := def0_of (st := s_law_turn) X G a_law_turn l_law_turn c_law_turn k_law_turn
  have Z_law_term := def0_of (st := s_law_term) X G a_law_term l_law_term c_law_term k_law_term
  have Z_law_told := def0_of (st := s_law_told) X G a_law_told l_law_told c_law_told k_law_told
  have Z_Desk_change : Met0 K Cd "change" "Desk.change" s_Desk_change := ⟨f_Desk_change, _, fun_mk l_Desk_change c_Desk_change k_Desk_change, a_Desk_change, i_Desk_change, k_Desk_change⟩
  have Z_Desk_table : Met0 K Cd "table" "Desk.table" s_Desk_table := ⟨f_Desk_table, _, fun_mk l_Desk_table c_Desk_table k_Desk_table, a_Desk_table, i_Desk_table, k_Desk_table⟩
  have Z_Desk_put : Met0 K Cd "put" "Desk.put" s_Desk_put := ⟨f_Desk_put, _, fun_mk l_Desk_put c_Desk_put k_Desk_put, a_Desk_put, i_Desk_put, k_Desk_put⟩
  have Z_Desk_word : Met0 K Cd "word" "Desk.word" s_Desk_word := ⟨f_Desk_word, _, fun_mk l_Desk_word c_Desk_word k_Desk_word, a_Desk_word, i_Desk_word, k_Desk_word⟩
  have Z_Desk_normal : Met0 K Cd "normal" "Desk.normal" s_Desk_normal := ⟨f_Desk_normal, _, fun_mk l_Desk_normal c_Desk_normal k_Desk_normal, a_Desk_normal, i_Desk_normal, k_Desk_normal⟩
  have Z_Desk___len__ : Met0 K Cd "__len__" "Desk.__len__" s_Desk___len__ := ⟨f_Desk___len__, _, fun_mk l_Desk___len__ c_Desk___len__ k_Desk___len__, a_Desk___len__, i_Desk___len__, k_Desk___len__⟩
  have Z_Desk_shorten : Met0 K Cd "shorten" "Desk.shorten" s_Desk_shorten := ⟨f_Desk_shorten, _, fun_mk l_Desk_shorten c_Desk_shorten k_Desk_shorten, a_Desk_shorten, i_Desk_shorten, k_Desk_shorten⟩
  have Z_Desk_undo : Met0 K Cd "undo" "Desk.undo" s_Desk_undo := ⟨f_Desk_undo, _, fun_mk l_Desk_undo c_Desk_undo k_Desk_undo, a_Desk_undo, i_Desk_undo, k_Desk_undo⟩
  have Z_Desk_redo : Met0 K Cd "redo" "Desk.redo" s_Desk_redo := ⟨f_Desk_redo, _, fun_mk l_Desk_redo c_Desk_redo k_Desk_redo, a_Desk_redo, i_Desk_redo, k_Desk_redo⟩
  have D_law_cell := ok_law_cell (P := PySem.Challenge.rw_turnshifts_k20_whole_desks.prog) (w := w) (mg := mg) (base := base) B Z_law_cell
  have D_law_rounds := ok_law_rounds (P := PySem.Challenge.rw_turnshifts_k20_whole_desks.prog) (w := w) (mg := mg) (base := base) B D_law_cell Z_law_rounds
  have D_is_made_of := ok_is_made_of (P := PySem.Challenge.rw_turnshifts_k20_whole_desks.prog) (w := w) (mg := mg) (base := base) (ec := (fun c => [C0, C1, C2, C3, C4, C5, C6, C7, C8, C9, C10, C11, C12, C13, C14, C15].getD c 0)) (A := ⟨un, le, w⟩) B Z_is_made_of
  have D_need_word := ok_need_word (P := PySem.Challenge.rw_turnshifts_k20_whole_desks.prog) (w := w) (mg := mg) (base := base) (ec := (fun c => [C0, C1, C2, C3, C4, C5, C6, C7, C8, C9, C10, C11, C12, C13, C14, C15].getD c 0)) (A := ⟨un, le, w⟩) X_InvalidWord D_is_made_of Z_need_word
  have D_put_behind := ok_put_behind (P := PySem.Challenge.rw_turnshifts_k20_whole_desks.prog) (w := w) (mg := mg) (base := base) (ec := (fun c => [C0, C1, C2, C3, C4, C5, C6, C7, C8, C9, C10, C11, C12, C13, C14, C15].getD c 0)) (A := ⟨un, le, w⟩) Z_put_behind
  have D_reduced := ok_reduced (P := PySem.Challenge.rw_turnshifts_k20_whole_desks.prog) (w := w) (mg := mg) (base := base) (ec := (fun c => [C0, C1, C2, C3, C4, C5, C6, C7, C8, C9, C10, C11, C12, C13, C14, C15].getD c 0)) (A := ⟨un, le, w⟩) D_put_behind Z_reduced
  have D_normal_of_word := ok_normal_of_word (P := PySem.Challenge.rw_turnshifts_k20_whole_desks.prog) (w := w) (mg := mg) (base := base) (ec := (fun c => [C0, C1, C2, C3, C4, C5, C6, C7, C8, C9, C10, C11, C12, C13, C14, C15].getD c 0)) (A := ⟨un, le, w⟩) D_need_word D_reduced Z_normal_of_word
  have D_times := ok_times (P := PySem.Challenge.rw_turnshifts_k20_whole_desks.prog) (w := w) (mg := mg) (base := base) (ec := (fun c => [C0, C1, C2, C3, C4, C5, C6, C7, C8, C9, C10, C11, C12, C13, C14, C15].getD c 0)) (A := ⟨un, le, w⟩) Z_times
  have D_table_of := ok_table_of (P := PySem.Challenge.rw_turnshifts_k20_whole_desks.prog) (w := w) (mg := mg) (base := base) (ec := (fun c => [C0, C1, C2, C3, C4, C5, C6, C7, C8, C9, C10, C11, C12, C13, C14, C15].getD c 0)) (A := ⟨un, le, w⟩) hA hL gU gL rfl D_times Z_table_of
  have D_law_times := ok_law_times (P := PySem.Challenge.rw_turnshifts_k20_whole_desks.prog) (w := w) (mg := mg) (base := base) (ec := (fun c => [C0, C1, C2, C3, C4, C5, C6, C7, C8, C9, C10, C11, C12, C13, C14, C15].getD c 0)) (A := ⟨un, le, w⟩) Z_law_times
  have D_law_letter := ok_law_letter (P := PySem.Challenge.rw_turnshifts_k20_whole_desks.prog) (w := w) (mg := mg) (base := base) (ec := (fun c => [C0, C1, C2, C3, C4, C5, C6, C7, C8, C9, C10, C11, C12, C13, C14, C15].getD c 0)) (A := ⟨un, le, w⟩) Z_law_letter
  have D_law_product := ok_law_product (P := PySem.Challenge.rw_turnshifts_k20_whole_desks.prog) (w := w) (mg := mg) (base := base) (ec := (fun c => [C0, C1, C2, C3, C4, C5, C6, C7, C8, C9, C10, C11, C12, C13, C14, C15].getD c 0)) (A := ⟨un, le, w⟩) D_law_times D_law_letter Z_law_product
  have D_law_drawn := ok_law_drawn (P := PySem.Challenge.rw_turnshifts_k20_whole_desks.prog) (w := w) (mg := mg) (base := base) (ec := (fun c => [C0, C1, C2, C3, C4, C5, C6, C7, C8, C9, C10, C11, C12, C13, C14, C15].getD c 0)) (A := ⟨un, le, w⟩) Z_law_drawn
  have D_law_roll := ok_law_roll (P := PySem.Challenge.rw_turnshifts_k20_whole_desks.prog) (w := w) (mg := mg) (base := base) (ec := (fun c => [C0, C1, C2, C3, C4, C5, C6, C7, C8, C9, C10, C11, C12, C13, C14, C15].getD c 0)) D_law_drawn Z_law_roll
  have D_law_short := ok_law_short (P := PySem.Challenge.rw_turnshifts_k20_whole_desks.prog) (w := w) (mg := mg) (base := base) (ec := (fun c => [C0, C1, C2, C3, C4, C5, C6, C7, C8, C9, C10, C11, C12, C13, C14, C15].getD c 0)) (A := ⟨un, le, w⟩) B Z_law_short
  have D_Desk_change := ok_Desk_change (P := PySem.Challenge.rw_turnshifts_k20_whole_desks.prog) (w := w) (mg := mg) (base := base) (ec := (fun c => [C0, C1, C2, C3, C4, C5, C6, C7, C8, C9, C10, C11, C12, C13, C14, C15].getD c 0)) (A := ⟨un, le, w⟩) DC Z_Desk_change
  have D_Desk_table := ok_Desk_table (P := PySem.Challenge.rw_turnshifts_k20_whole_desks.prog) (w := w) (mg := mg) (base := base) (ec := (fun c => [C0, C1, C2, C3, C4, C5, C6, C7, C8, C9, C10, C11, C12, C13, C14, C15].getD c 0)) (A := ⟨un, le, w⟩) DC D_table_of Z_Desk_table
  have D_Desk_put := ok_Desk_put (P := PySem.Challenge.rw_turnshifts_k20_whole_desks.prog) (w := w) (mg := mg) (base := base) (ec := (fun c => [C0, C1, C2, C3, C4, C5, C6, C7, C8, C9, C10, C11, C12, C13, C14, C15].getD c 0)) (A := ⟨un, le, w⟩) B X_InvalidLetter X_TooLong DC D_is_made_of D_Desk_change D_Desk_table Z_Desk_put
  have D_Desk_word := ok_Desk_word (P := PySem.Challenge.rw_turnshifts_k20_whole_desks.prog) (w := w) (mg := mg) (base := base) (ec := (fun c => [C0, C1, C2, C3, C4, C5, C6, C7, C8, C9, C10, C11, C12, C13, C14, C15].getD c 0)) (A := ⟨un, le, w⟩) DC Z_Desk_word
  have D_Desk_normal := ok_Desk_normal (P := PySem.Challenge.rw_turnshifts_k20_whole_desks.prog) (w := w) (mg := mg) (base := base) (ec := (fun c => [C0, C1, C2, C3, C4, C5, C6, C7, C8, C9, C10, C11, C12, C13, C14, C15].getD c 0)) (A := ⟨un, le, w⟩) DC D_reduced Z_Desk_normal
  have D_Desk___len__ := ok_Desk___len__ (P := PySem.Challenge.rw_turnshifts_k20_whole_desks.prog) (w := w) (mg := mg) (base := base) (ec := (fun c => [C0, C1, C2, C3, C4, C5, C6, C7, C8, C9, C10, C11, C12, C13, C14, C15].getD c 0)) (A := ⟨un, le, w⟩) B DC Z_Desk___len__
  have D_Desk_shorten := ok_Desk_shorten (P := PySem.Challenge.rw_turnshifts_k20_whole_desks.prog) (w := w) (mg := mg) (base := base) (ec := (fun c => [C0, C1, C2, C3, C4, C5, C6, C7, C8, C9, C10, C11, C12, C13, C14, C15].getD c 0)) (A := ⟨un, le, w⟩) DC D_Desk_change Z_Desk_shorten
  have D_Desk_undo := ok_Desk_undo (P := PySem.Challenge.rw_turnshifts_k20_whole_desks.prog) (w := w) (mg := mg) (base := base) (ec := (fun c => [C0, C1, C2, C3, C4, C5, C6, C7, C8, C9, C10, C11, C12, C13, C14, C15].getD c 0)) (A := ⟨un, le, w⟩) X_NothingToUndo DC Z_Desk_undo
  have D_Desk_redo := ok_Desk_redo (P := PySem.Challenge.rw_turnshifts_k20_whole_desks.prog) (w := w) (mg := mg) (base := base) (ec := (fun c => [C0, C1, C2, C3, C4, C5, C6, C7, C8, C9, C10, C11, C12, C13, C14, C15].getD c 0)) (A := ⟨un, le, w⟩) X_NothingToUndo DC Z_Desk_redo
  have D_law_done := ok_law_done (P := PySem.Challenge.rw_turnshifts_k20_whole_desks.prog) (w := w) (mg := mg) (base := base) (Pt := Pt) (Pd := Pd) (ec := (fun c => [C0, C1, C2, C3, C4, C5, C6, C7, C8, C9, C10, C11, C12, C13, C14, C15].getD c 0)) (A := ⟨un, le, w⟩) DC D_Desk_put D_Desk_shorten D_Desk_undo D_Desk_redo EO (fun_mk l_law_told c_law_told k_law_told) (PySem.W.mg_of X G a_law_told) (tok EO B mVE gE (PySem.W.mg_of X G eT) Z_law_term) (TB (cD, Pd) (List.mem_cons_of_mem _ List.mem_cons_self)) hne l_law_done c_law_done k_law_done (PySem.W.mg_of X G a_law_done)
  have D_law_turn := ok_law_turn (P := PySem.Challenge.rw_turnshifts_k20_whole_desks.prog) (w := w) (mg := mg) (base := base) (Pt := Pt) (Pd := Pd) (ec := (fun c => [C0, C1, C2, C3, C4, C5, C6, C7, C8, C9, C10, C11, C12, C13, C14, C15].getD c 0)) (A := ⟨un, le, w⟩) DC D_law_roll D_law_product D_law_short D_law_done Z_law_turn
  have DI : Ini PySem.Challenge.rw_turnshifts_k20_whole_desks.prog w K mg base 1 Cd (spInit Cd) := ok_Desk___init__ DC (fun_mk l_Desk___init__ c_Desk___init__ k_Desk___init__) ⟨mk, a_Desk___init__, i_Desk___init__, kD⟩
  exact ok_law (P := PySem.Challenge.rw_turnshifts_k20_whole_desks.prog) (w := w) (mg := mg) (base := base) (ec := (fun c => [C0, C1, C2, C3, C4, C5, C6, C7, C8, C9, C10, C11, C12, C13, C14, C15].getD c 0)) (A := ⟨un, le, w⟩) B DC D_normal_of_word D_Desk_put D_Desk_word D_Desk_table D_Desk_normal D_Desk___len__ D_law_rounds D_law_product D_law_turn DI (PySem.W.mg_of X G aD) EO (fun_mk l_law_told c_law_told k_law_told) (PySem.W.mg_of X G a_law_told) (tok EO B mVE gE (PySem.W.mg_of X G eT) Z_law_term) (TB (c, Pt) List.mem_cons_self) hne l_law c_law pl
end Tz

open PySem PySem.W PyProof.Rows
set_option maxHeartbeats 0 in
theorem PySem.Challenge.cw_turnshifts_k20_whole_desks_holds : PySem.Challenge.rw_turnshifts_k20_whole_desks.Holds := by
  w_on; o_law; k_head; (case hw => w_witness2)
  k_fill
  refine LamX.walk_ofTs (l := PySem.Challenge.rw_turnshifts_k20_whole_desks) (n := 63) (k := 9) (CX := fun w => L2N.CX PySem.Challenge.rw_turnshifts_k20_whole_desks.prog w) (x := "script") rfl (by decide) rfl ⟨rfl, by decide, by decide⟩ (fun w h Y => PySem.W.km_in_of Y) ?F (fun w H s e s' z => Tz.cx_none H s e s' z)
  case F =>
    intro w mg fa h Y KX G hmg
    refine' Tz.law_at KX G hmg (PySem.W.km_tabs_of Y) Tz.plain_law ?e0 ?e1 ?e2 ?e3 ?e4 ?e5 ?e6 ?e7 ?e8 ?e9 ?e10 ?e11 ?e12 ?e13 ?e14 ?e15 ?eT ?ek ?bk ?x1 ?x9 ?x14 ?x15 ?gu ?lu ?gl ?ld ?kl ?n_s ?t_s ?n_t ?t_t ?n_T ?t_T ?n_w ?t_w ?n_v ?t_v ?n_l ?t_l ?a_law_cell ?l_law_cell ?c_law_cell ?k_law_cell ?a_law_rounds ?l_law_rounds ?c_law_rounds ?k_law_rounds ?a_law_roll ?l_law_roll ?c_law_roll ?k_law_roll ?a_is_made_of ?l_is_made_of ?c_is_made_of ?k_is_made_of ?a_need_word ?l_need_word ?c_need_word ?k_need_word ?a_put_behind ?l_put_behind ?c_put_behind ?k_put_behind ?a_reduced ?l_reduced ?c_reduced ?k_reduced ?a_normal_of_word ?l_normal_of_word ?c_normal_of_word ?k_normal_of_word ?a_times ?l_times ?c_times ?k_times ?a_table_of ?l_table_of ?c_table_of ?k_table_of ?a_law_times ?l_law_times ?c_law_times ?k_law_times ?a_law_letter ?l_law_letter ?c_law_letter ?k_law_letter ?a_law_product ?l_law_product ?c_law_product ?k_law_product ?a_law_drawn ?l_law_drawn ?c_law_drawn ?k_law_drawn ?a_law_short ?l_law_short ?c_law_short ?k_law_short ?a_law_done ?l_law_done ?c_law_done ?k_law_done ?a_law_turn ?l_law_turn ?c_law_turn ?k_law_turn ?a_law_term ?l_law_term ?c_law_term ?k_law_term ?a_law_told ?l_law_told ?c_law_told ?k_law_told ?a_law ?l_law ?c_law ?k_law ?aD ?pg ?hdD ?po ?sa ?mk ?kD ?nf0 ?nf1 ?nf2 ?a_Desk___init__ ?i_Desk___init__ ?l_Desk___init__ ?c_Desk___init__ ?k_Desk___init__ ?a_Desk_change ?i_Desk_change ?l_Desk_change ?c_Desk_change ?k_Desk_change ?a_Desk_table ?i_Desk_table ?l_Desk_table ?c_Desk_table ?k_Desk_table ?a_Desk_put ?i_Desk_put ?l_Desk_put ?c_Desk_put ?k_Desk_put ?a_Desk_word ?i_Desk_word ?l_Desk_word ?c_Desk_word ?k_Desk_word ?a_Desk_normal ?i_Desk_normal ?l_Desk_normal ?c_Desk_normal ?k_Desk_normal ?a_Desk___len__ ?i_Desk___len__ ?l_Desk___len__ ?c_Desk___len__ ?k_Desk___len__ ?a_Desk_shorten ?i_Desk_shorten ?l_Desk_shorten ?c_Desk_shorten ?k_Desk_shorten ?a_Desk_undo ?i_Desk_undo ?l_Desk_undo ?c_Desk_undo ?k_Desk_undo ?a_Desk_redo ?i_Desk_redo ?l_Desk_redo ?c_Desk_redo ?k_Desk_redo ?hd ?nT ?hd2 ?nT2 ?hne
    (case e0 => k_is)
    (case e1 => k_is)
    (case e2 => k_is)
    (case e3 => k_is)
    (case e4 => k_is)
    (case e5 => k_is)
    (case e6 => k_is)
    (case e7 => k_is)
    (case e8 => k_is)
    (case e9 => k_is)
    (case e10 => k_is)
    (case e11 => k_is)
    (case e12 => k_is)
    (case e13 => k_is)
    (case e14 => k_is)
    (case e15 => k_is)
    (case eT => k_is)
    (case ek => kernel_rfl)
    (case bk => kernel_rfl)
    (case x1 => k_exc)
    (case x9 => k_exc)
    (case x14 => k_exc)
    (case x15 => k_exc)
    (case gu => k_is)
    (case lu => k_is)
    (case gl => k_is)
    (case ld => k_is)
    (case kl => exact ⟨⟨_, _, rfl, rfl⟩, ⟨_, _, rfl, rfl⟩, ⟨_, _, rfl, rfl⟩, ⟨_, _, rfl, rfl⟩, ⟨_, _, rfl, rfl⟩, ⟨_, _, rfl, rfl⟩, trivial⟩)
    (case n_s => k_is)
    (case t_s => k_is)
    (case n_t => k_is)
    (case t_t => k_is)
    (case n_T => k_is)
    (case t_T => k_is)
    (case n_w => k_is)
    (case t_w => k_is)
    (case n_v => k_is)
    (case t_v => k_is)
    (case n_l => k_is)
    (case t_l => k_is)
    (case a_law_cell => k_is)
    (case l_law_cell => k_is)
    (case c_law_cell => k_is)
    (case k_law_cell => k_is)
    (case a_law_rounds => k_is)
    (case l_law_rounds => k_is)
    (case c_law_rounds => k_is)
    (case k_law_rounds => k_is)
    (case a_law_roll => k_is)
    (case l_law_roll => k_is)
    (case c_law_roll => k_is)
    (case k_law_roll => k_is)
    (case a_is_made_of => k_is)
    (case l_is_made_of => k_is)
    (case c_is_made_of => k_is)
    (case k_is_made_of => k_is)
    (case a_need_word => k_is)
    (case l_need_word => k_is)
    (case c_need_word => k_is)
    (case k_need_word => k_is)
    (case a_put_behind => k_is)
    (case l_put_behind => k_is)
    (case c_put_behind => k_is)
    (case k_put_behind => k_is)
    (case a_reduced => k_is)
    (case l_reduced => k_is)
    (case c_reduced => k_is)
    (case k_reduced => k_is)
    (case a_normal_of_word => k_is)
    (case l_normal_of_word => k_is)
    (case c_normal_of_word => k_is)
    (case k_normal_of_word => k_is)
    (case a_times => k_is)
    (case l_times => k_is)
    (case c_times => k_is)
    (case k_times => k_is)
    (case a_table_of => k_is)
    (case l_table_of => k_is)
    (case c_table_of => k_is)
    (case k_table_of => k_is)
    (case a_law_times => k_is)
    (case l_law_times => k_is)
    (case c_law_times => k_is)
    (case k_law_times => k_is)
    (case a_law_letter => k_is)
    (case l_law_letter => k_is)
    (case c_law_letter => k_is)
    (case k_law_letter => k_is)
    (case a_law_product => k_is)
    (case l_law_product => k_is)
    (case c_law_product => k_is)
    (case k_law_product => k_is)
    (case a_law_drawn => k_is)
    (case l_law_drawn => k_is)
    (case c_law_drawn => k_is)
    (case k_law_drawn => k_is)
    (case a_law_short => k_is)
    (case l_law_short => k_is)
    (case c_law_short => k_is)
    (case k_law_short => k_is)
    (case a_law_done => k_is)
    (case l_law_done => k_is)
    (case c_law_done => k_is)
    (case k_law_done => k_is)
    (case a_law_turn => k_is)
    (case l_law_turn => k_is)
    (case c_law_turn => k_is)
    (case k_law_turn => k_is)
    (case a_law_term => k_is)
    (case l_law_term => k_is)
    (case c_law_term => k_is)
    (case k_law_term => k_is)
    (case a_law_told => k_is)
    (case l_law_told => k_is)
    (case c_law_told => k_is)
    (case k_law_told => k_is)
    (case a_law => k_is)
    (case l_law => k_is)
    (case c_law => k_is)
    (case k_law => k_is)
    (case aD => k_is)
    (case pg => k_is)
    (case hdD => k_is)
    (case po => k_is)
    (case sa => k_is)
    (case mk => k_is)
    (case kD => k_is)
    (case nf0 => k_is)
    (case nf1 => k_is)
    (case nf2 => k_is)
    (case a_Desk___init__ => k_is)
    (case i_Desk___init__ => k_is)
    (case l_Desk___init__ => k_is)
    (case c_Desk___init__ => k_is)
    (case k_Desk___init__ => k_is)
    (case a_Desk_change => k_is)
    (case i_Desk_change => k_is)
    (case l_Desk_change => k_is)
    (case c_Desk_change => k_is)
    (case k_Desk_change => k_is)
    (case a_Desk_table => k_is)
    (case i_Desk_table => k_is)
    (case l_Desk_table => k_is)
    (case c_Desk_table => k_is)
    (case k_Desk_table => k_is)
    (case a_Desk_put => k_is)
    (case i_Desk_put => k_is)
    (case l_Desk_put => k_is)
    (case c_Desk_put => k_is)
    (case k_Desk_put => k_is)
    (case a_Desk_word => k_is)
    (case i_Desk_word => k_is)
    (case l_Desk_word => k_is)
    (case c_Desk_word => k_is)
    (case k_Desk_word => k_is)
    (case a_Desk_normal => k_is)
    (case i_Desk_normal => k_is)
    (case l_Desk_normal => k_is)
    (case c_Desk_normal => k_is)
    (case k_Desk_normal => k_is)
    (case a_Desk___len__ => k_is)
    (case i_Desk___len__ => k_is)
    (case l_Desk___len__ => k_is)
    (case c_Desk___len__ => k_is)
    (case k_Desk___len__ => k_is)
    (case a_Desk_shorten => k_is)
    (case i_Desk_shorten => k_is)
    (case l_Desk_shorten => k_is)
    (case c_Desk_shorten => k_is)
    (case k_Desk_shorten => k_is)
    (case a_Desk_undo => k_is)
    (case i_Desk_undo => k_is)
    (case l_Desk_undo => k_is)
    (case c_Desk_undo => k_is)
    (case k_Desk_undo => k_is)
    (case a_Desk_redo => k_is)
    (case i_Desk_redo => k_is)
    (case l_Desk_redo => k_is)
    (case c_Desk_redo => k_is)
    (case k_Desk_redo => k_is)
    (case hd => kernel_rfl)
    (case nT => kernel_rfl)
    (case hd2 => kernel_rfl)
    (case nT2 => kernel_rfl)
    (case hne => decide)

