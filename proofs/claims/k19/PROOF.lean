import PyProof.Rows.All
import Wide.All
import OpenK.AllK
import Wide.FinOn
import HandS.ForMost
import HandS.ForExc
import HandS.Lambda
import HandS.Style
import HandS.Wide
import HandS.IsInst
import HandS.Flow
import HandS.StrMore
import HandS.Deep
import HandS.TupLe
import HandS.More
import HandS.WrittenGet
import HandS.ExcIs
import HandS.HotCalls
import HandS.Replace
import HandS.FltList
import HandS.EndTab
import KE.GoesRaise
import KE.DataMinMax
import HandS.SortRule
import HandS.Conv
import HandS.TupSets
import HandS.SetFor
import PySem.Challenge.RW_turnshifts_k19_whole_classes
set_option Elab.async false
set_option linter.all false
set_option maxRecDepth 100000
set_option maxHeartbeats 4000000
/-! The data level: environments of plain data, predicate transformers over them, and what it means that
a reading of the hand layer is simulated by such a transformer. -/
namespace Tz
open PySem PySem.Spec PyProof.Rows L2

/-! ### plain data environments -/
abbrev Rho := List (Option PyData)
def look : Rho → Nat → Option PyData
  | [], _ => none
  | x :: _, 0 => x
  | _ :: r, n + 1 => look r n
def put : Rho → Nat → PyData → Rho
  | [], _, _ => []
  | _ :: r, 0, d => some d :: r
  | x :: r, n + 1, d => x :: put r n d
def drp : Rho → Nat → Rho
  | [], _ => []
  | _ :: r, 0 => none :: r
  | x :: r, n + 1 => x :: drp r n
def drps (r : Rho) : List Nat → Rho
  | [] => r
  | i :: is => drps (drp r i) is
theorem put_len : ∀ (r : Rho) (i : Nat) (d : PyData), (put r i d).length = r.length
  | [], _, _ => rfl
  | _ :: _, 0, _ => rfl
  | _ :: r, n + 1, d => by
    show (put r n d).length + 1 = r.length + 1
    rw [put_len r n d]
theorem drp_len : ∀ (r : Rho) (i : Nat), (drp r i).length = r.length
  | [], _ => rfl
  | _ :: _, 0 => rfl
  | _ :: r, n + 1 => by
    show (drp r n).length + 1 = r.length + 1
    rw [drp_len r n]
theorem drps_len : ∀ (is : List Nat) (r : Rho), (drps r is).length = r.length
  | [], _ => rfl
  | i :: is, r => (drps_len is (drp r i)).trans (drp_len r i)
theorem look_put : ∀ {r : Rho} {i j : Nat} {d e : PyData}, look (put r i d) j = some e → (j = i ∧ e = d ∧ i < r.length) ∨ (j ≠ i ∧ look r j = some e)
  | [], _, _, _, _, h => by cases h
  | x :: r, 0, 0, d, e, h => .inl ⟨rfl, (Option.some.inj h).symm, Nat.zero_lt_succ _⟩
  | x :: r, 0, j + 1, d, e, h => .inr ⟨Nat.succ_ne_zero j, h⟩
  | x :: r, i + 1, 0, d, e, h => .inr ⟨fun z => Nat.succ_ne_zero i z.symm, h⟩
  | x :: r, i + 1, j + 1, d, e, h => by
    have h : look (put r i d) j = some e := h
    rcases look_put h with ⟨a, b, c⟩ | ⟨a, b⟩
    · exact .inl ⟨by rw [a], b, Nat.succ_lt_succ c⟩
    · exact .inr ⟨fun z => a (Nat.succ.inj z), b⟩
theorem look_drp : ∀ {r : Rho} {i j : Nat} {e : PyData}, look (drp r i) j = some e → j ≠ i ∧ look r j = some e
  | [], _, _, _, h => by cases h
  | x :: r, 0, 0, e, h => by cases h
  | x :: r, 0, j + 1, e, h => ⟨Nat.succ_ne_zero j, h⟩
  | x :: r, i + 1, 0, e, h => ⟨fun z => Nat.succ_ne_zero i z.symm, h⟩
  | x :: r, i + 1, j + 1, e, h => by
    have h : look (drp r i) j = some e := h
    obtain ⟨a, b⟩ := look_drp h
    exact ⟨fun z => a (Nat.succ.inj z), b⟩
theorem look_drps : ∀ {is : List Nat} {r : Rho} {j : Nat} {e : PyData}, look (drps r is) j = some e → j ∉ is ∧ look r j = some e
  | [], _, _, _, h => ⟨List.not_mem_nil, h⟩
  | i :: is, r, j, e, h => by
    obtain ⟨a, b⟩ := look_drps (is := is) (r := drp r i) h
    obtain ⟨c, d⟩ := look_drp b
    exact ⟨fun z => (List.mem_cons.mp z).elim c a, d⟩
def startR (n : Nat) (ds : List PyData) : Rho := ds.map some ++ List.replicate (n - ds.length) none
theorem look_rep : ∀ (m i : Nat), look (List.replicate m none) i = none
  | 0, _ => rfl
  | _ + 1, 0 => rfl
  | m + 1, i + 1 => look_rep m i
theorem look_startR : ∀ {ds : List PyData} {n i : Nat} {d : PyData}, look (startR n ds) i = some d → ds[i]? = some d
  | [], n, i, d, h => by
    have h : look (List.replicate (n - 0) none) i = some d := h
    rw [look_rep] at h
    cases h
  | x :: ds, n, 0, d, h => h
  | x :: ds, n, i + 1, d, h => by
    have e : startR n (x :: ds) = some x :: startR (n - 1) ds := by
      unfold startR
      rw [List.length_cons, List.map_cons, List.cons_append]
      have : n - (ds.length + 1) = n - 1 - ds.length := by omega
      rw [this]
    rw [e] at h
    have h : look (startR (n - 1) ds) i = some d := h
    have := look_startR h
    simpa using this

/-! ### what is hidden: objects that may change, told by an invariant -/
/-- the dice: a stand-in datum that no object represents -/
abbrev dice : PyData := .dict []
/-- not a table of code objects -/
def NT (o : HO) : Prop := ∀ ps, o ≠ .tbl ps
structure Hid where
  D : Addr → Prop
  J : Hp → Prop
  live : ∀ {H : Hp} {a : Addr}, J H → D a → H a ≠ none
  ntup : ∀ {H : Hp} {a : Addr} {xs : List V}, J H → D a → H a ≠ some (.tup xs)
  keep : ∀ {H H' : Hp}, J H → (∀ a, D a → H' a = H a) → (∀ a o, ¬ D a → NT o → H a = some o → H' a = some o) → J H'
  isO : PyData → V → Prop
  T : List (Addr × Str)
  tab : ∀ {H : Hp}, J H → LamX.Tabs T H
  tabs : ∀ {H H' : Hp}, J H → LamX.ExtN H H' → LamX.Tabs T H' → J H'
abbrev Hid.isDice (G : Hid) (v : V) : Prop := G.isO dice v
/-- plain data: no dice among them -/
def plain : PyData → Bool
  | .dict _ => false
  | _ => true
def plains (ds : List PyData) : Bool := ds.all plain
/-- the heap without p -/
def era (p : Addr) (H : Hp) : Hp := fun a => if a = p then none else H a
theorem era_ne {p a : Addr} {H : Hp} (h : a ≠ p) : era p H a = H a := if_neg h
theorem era_self {p : Addr} {H : Hp} : era p H p = none := if_pos rfl
theorem era_some {p a : Addr} {H : Hp} {o : HO} (h : era p H a = some o) : a ≠ p ∧ H a = some o := by
  unfold era at h
  split at h
  · cases h
  · rename_i n
    exact ⟨n, h⟩
theorem era_upd {p : Addr} {H : Hp} {o : HO} : era p (upd H p o) = era p H := by
  funext a
  by_cases h : a = p
  · rw [h, era_self, era_self]
  · rw [era_ne h, era_ne h, upd_ne h]
theorem era_none {p : Addr} {H : Hp} (h : H p = none) : era p H = H := by
  funext a
  by_cases e : a = p
  · rw [e, era_self, h]
  · rw [era_ne e]
/-- a list that is being made is hidden too -/
def Hid.add (G : Hid) (p : Addr) (hp : ¬ G.D p) (xs : List V) : Hid where
  D := fun a => G.D a ∨ a = p
  J := fun H => H p = some (.lst xs) ∧ G.J (era p H)
  live := by
    rintro H a ⟨e, j⟩ (d | d)
    · have ne : a ≠ p := fun z => hp (by rw [← z]; exact d)
      have := G.live j d
      rw [era_ne ne] at this
      exact this
    · rw [d, e]
      exact fun z => nomatch z
  ntup := by
    rintro H a ys ⟨e, j⟩ (d | d)
    · have ne : a ≠ p := fun z => hp (by rw [← z]; exact d)
      have := G.ntup (xs := ys) j d
      rw [era_ne ne] at this
      exact this
    · rw [d, e]
      exact fun z => nomatch z
  keep := by
    rintro H H' ⟨e, j⟩ hd hx
    refine ⟨by rw [hd p (.inr rfl)]; exact e, G.keep j (fun a d => ?_) fun a o nd nt ha => ?_⟩
    · have ne : a ≠ p := fun z => hp (by rw [← z]; exact d)
      rw [era_ne ne, era_ne ne]
      exact hd a (.inl d)
    · obtain ⟨ne, ha⟩ := era_some ha
      rw [era_ne ne]
      exact hx a o (fun z => z.elim nd ne) nt ha
  isO := G.isO
  T := G.T
  tab := by
    rintro H ⟨_, j⟩
    exact (G.tab j).ext fun b o e => (era_some e).2
  tabs := by
    rintro H H' ⟨e, j⟩ hx ht
    have e' : H' p = some (.lst xs) := hx p _ e fun ps z => nomatch z
    refine ⟨e', G.tabs j (fun b o hb no => ?_) fun q hq => ?_⟩
    · obtain ⟨ne, hb⟩ := era_some hb
      rw [era_ne ne]
      exact hx b o hb no
    · obtain ⟨ps, h1, h2, h3⟩ := ht q hq
      have ne : q.1 ≠ p := ne_of h1 e' fun z => nomatch z
      refine ⟨ps, by rw [era_ne ne]; exact h1, h2, fun pos cv hc => ?_⟩
      obtain ⟨c, e1, e2⟩ := h3 pos cv hc
      have ne2 : c ≠ p := ne_of e2 e' fun z => by
        unfold LamX.CodeO at z
        cases z
      exact ⟨c, e1, by rw [era_ne ne2]; exact e2⟩
/-- what passes for the dice is a list of two ints that may change -/
def Rolls (G : Hid) : Prop := ∀ v : V, G.isDice v → ∃ p, v = .ref p ∧ G.D p ∧ (∀ H, G.J H → ∃ x n, H p = some (.lst [.int x, .int n])) ∧ ∀ H x n, G.J H → G.J (upd H p (.lst [.int x, .int n]))
theorem rolls_add (G : Hid) (p : Addr) (hp : ¬ G.D p) (xs : List V) (R : Rolls G) : Rolls (G.add p hp xs) := by
  intro v hv
  obtain ⟨q, rfl, d, h1, h2⟩ := R v hv
  have ne : q ≠ p := fun z => hp (by rw [← z]; exact d)
  refine ⟨q, rfl, .inl d, fun H j => ?_, fun H x n j => ?_⟩
  · obtain ⟨x, n, e⟩ := h1 _ j.2
    rw [era_ne ne] at e
    exact ⟨x, n, e⟩
  · obtain ⟨e, j⟩ := j
    refine ⟨by rw [upd_ne (Ne.symm ne)]; exact e, ?_⟩
    have eq : era p (upd H q (.lst [.int x, .int n])) = upd (era p H) q (.lst [.int x, .int n]) := by
      funext a
      by_cases h : a = p
      · rw [h, era_self, upd_ne (Ne.symm ne), era_self]
      · rw [era_ne h]
        by_cases h' : a = q
        · rw [h', upd_same, upd_same]
        · rw [upd_ne h', upd_ne h', era_ne h]
    rw [eq]
    exact h2 _ x n j
theorem Hid.add_J {G : Hid} {p : Addr} {hp : ¬ G.D p} {xs : List V} {H : Hp} (h : (G.add p hp xs).J H) : G.J H := by
  refine G.keep h.2 (fun a d => ?_) fun a o nd nt ha => (era_some ha).2
  have ne : a ≠ p := fun z => hp (by rw [← z]; exact d)
  rw [era_ne ne]
theorem Hid.add_new {G : Hid} {p : Addr} {hp : ¬ G.D p} {H : Hp} {xs : List V} (j : G.J H) (n : H p = none) : (G.add p hp xs).J (upd H p (.lst xs)) := ⟨upd_same, by rw [era_upd, era_none n]; exact j⟩
theorem Hid.add_upd {G : Hid} {p : Addr} {hp : ¬ G.D p} {H : Hp} {xs ys : List V} (j : (G.add p hp xs).J H) : (G.add p hp ys).J (upd H p (.lst ys)) := ⟨upd_same, by rw [era_upd]; exact j.2⟩
def Ex (G : Hid) (H H' : Hp) : Prop := ∀ a o, ¬ G.D a → NT o → H a = some o → H' a = some o
theorem Ex.refl (G : Hid) (H : Hp) : Ex G H H := fun _ _ _ _ h => h
theorem Ex.trans {G : Hid} {H H1 H2 : Hp} (a : Ex G H H1) (b : Ex G H1 H2) : Ex G H H2 := fun x o n t h => b x o n t (a x o n t h)
theorem Ex.new {G : Hid} {H : Hp} {p : Addr} {o : HO} (j : G.J H) (h : H p = none) : Ex G H (upd H p o) ∧ G.J (upd H p o) ∧ ¬ G.D p := by
  have nd : ¬ G.D p := fun z => G.live j z h
  have e : Ex G H (upd H p o) := fun a u _ _ q => by
    rw [upd_ne (ne_of_none q h)]
    exact q
  refine ⟨e, G.keep j (fun a d => ?_) e, nd⟩
  have ne : a ≠ p := fun z => nd (by rw [← z]; exact d)
  rw [upd_ne ne]
theorem Ex.extN {G : Hid} {H H' : Hp} (e : LamX.ExtN H H') : Ex G H H' := fun a o _ t h => e a o h t
open Classical in
noncomputable def vis (G : Hid) (H : Hp) : Hp := fun a => if G.D a ∨ ∃ ps, H a = some (.tbl ps) then none else H a
theorem vis_of {G : Hid} {H : Hp} {a : Addr} {o : HO} (n : ¬ G.D a) (t : NT o) (h : H a = some o) : vis G H a = some o := by
  unfold vis
  rw [if_neg, h]
  rintro (d | ⟨ps, e⟩)
  · exact n d
  · rw [h] at e
    exact t ps (Option.some.inj e)
theorem vis_some {G : Hid} {H : Hp} {a : Addr} {o : HO} (h : vis G H a = some o) : ¬ G.D a ∧ NT o ∧ H a = some o := by
  unfold vis at h
  split at h
  · cases h
  · rename_i n
    exact ⟨fun d => n (.inl d), fun ps e => n (.inr ⟨ps, by rw [h, e]⟩), h⟩
theorem vis_same {G : Hid} {H : Hp} : Same (vis G H) H := fun _ _ h => (vis_some h).2.2
theorem Ex.same {G : Hid} {H H' : Hp} (e : Ex G H H') : Same (vis G H) (vis G H') := fun a o h => by
  obtain ⟨n, t, q⟩ := vis_some h
  exact vis_of n t (e a o n t q)
theorem nt_lst {xs : List V} : NT (.lst xs) := fun _ z => nomatch z
theorem nt_tup {xs : List V} : NT (.tup xs) := fun _ z => nomatch z
theorem Same.seqT {K : PySem.W.Frag} {H H' : Hp} {a : Addr} {xs : List V} (e : Same H H') (h : SqT K H a xs) : SqT K H' a xs := by
  rcases h with (h | ⟨o, h⟩) | h
  · exact .inl (.inl (e _ _ h))
  · exact .inl (.inr ⟨o, e _ _ h⟩)
  · exact .inr h
/-! ### which value stands for which datum: lists are tracked ones -/
mutual
inductive Dq (K : PySem.W.Frag) (H : Hp) : V → PyData → Prop
  | non : Dq K H .non .none
  | bl (b : Bool) : Dq K H (.bl b) (.bool b)
  | int (i : Int) : Dq K H (.int i) (.int i)
  | str (x : Str) : Dq K H (.str x) (.str x)
  | lst {a : Addr} {xs : List V} {ds : List PyData} : H a = some (.lst xs) → DqAll K H xs ds → Dq K H (.ref a) (.list ds)
  | tup {a : Addr} {xs : List V} {ds : List PyData} : SqT K H a xs → DqAll K H xs ds → Dq K H (.ref a) (.tuple ds)
inductive DqAll (K : PySem.W.Frag) (H : Hp) : List V → List PyData → Prop
  | nil : DqAll K H [] []
  | cons {v : V} {vs : List V} {d : PyData} {ds : List PyData} : Dq K H v d → DqAll K H vs ds → DqAll K H (v :: vs) (d :: ds)
end
section
variable {K : PySem.W.Frag} {H H' : Hp}
mutual
theorem dq_same (e : Same H H') : ∀ (d : PyData) (v : V), Dq K H v d → Dq K H' v d
  | .none, _, h => by cases h; exact .non
  | .bool b, _, h => by cases h; exact .bl b
  | .int i, _, h => by cases h; exact .int i
  | .str x, _, h => by cases h; exact .str x
  | .list ds, _, h => by
    cases h with
    | lst a b => exact .lst (e _ _ a) (dq_sameAll e ds _ b)
  | .tuple ds, _, h => by
    cases h with
    | tup a b => exact .tup (Same.seqT e a) (dq_sameAll e ds _ b)
  | .dict _, _, h => by cases h
theorem dq_sameAll (e : Same H H') : ∀ (ds : List PyData) (vs : List V), DqAll K H vs ds → DqAll K H' vs ds
  | [], _, h => by cases h; exact .nil
  | d :: ds, _, h => by
    cases h with
    | cons a b => exact .cons (dq_same e d _ a) (dq_sameAll e ds _ b)
end
mutual
theorem dq_dp : ∀ (d : PyData) (v : V), Dq K H v d → Dp K H v d
  | .none, _, h => by cases h; exact .non
  | .bool b, _, h => by cases h; exact .bl b
  | .int i, _, h => by cases h; exact .int i
  | .str x, _, h => by cases h; exact .str x
  | .list ds, _, h => by
    cases h with
    | lst a b => exact .lst (SqL.of a) (dq_dpAll ds _ b)
  | .tuple ds, _, h => by
    cases h with
    | tup a b => exact .tup a (dq_dpAll ds _ b)
  | .dict _, _, h => by cases h
theorem dq_dpAll : ∀ (ds : List PyData) (vs : List V), DqAll K H vs ds → DpAll K H vs ds
  | [], _, h => by cases h; exact .nil
  | d :: ds, _, h => by
    cases h with
    | cons a b => exact .cons (dq_dp d _ a) (dq_dpAll ds _ b)
end
end
theorem dqAll_len {K : PySem.W.Frag} {H : Hp} : ∀ {vs : List V} {ds : List PyData}, DqAll K H vs ds → vs.length = ds.length
  | _, _, .nil => rfl
  | _, _, .cons _ b => congrArg (· + 1) (dqAll_len b)
theorem dqAll_get {K : PySem.W.Frag} {H : Hp} : ∀ {vs : List V} {ds : List PyData} {i : Nat} {d : PyData}, DqAll K H vs ds → ds[i]? = some d → ∃ v, vs[i]? = some v ∧ Dq K H v d
  | _, _, _, _, .nil, h => by simp at h
  | _, _, 0, _, .cons a _, h => by
    simp at h
    subst h
    exact ⟨_, rfl, a⟩
  | _, _, i + 1, d, .cons _ b, h => by
    obtain ⟨v, e, q⟩ := dqAll_get (i := i) (d := d) b (by simpa using h)
    exact ⟨v, by simpa using e, q⟩
theorem dqAll_app {K : PySem.W.Frag} {H : Hp} : ∀ {vs ws : List V} {ds es : List PyData}, DqAll K H vs ds → DqAll K H ws es → DqAll K H (vs ++ ws) (ds ++ es)
  | _, _, _, _, .nil, b => b
  | _, _, _, _, .cons a r, b => .cons a (dqAll_app r b)
theorem dqAll_drop {K : PySem.W.Frag} {H : Hp} : ∀ (n : Nat) {vs : List V} {ds : List PyData}, DqAll K H vs ds → DqAll K H (vs.drop n) (ds.drop n)
  | 0, _, _, h => h
  | _ + 1, _, _, .nil => .nil
  | n + 1, _, _, .cons _ b => dqAll_drop n b
theorem dqAll_take {K : PySem.W.Frag} {H : Hp} : ∀ (n : Nat) {vs : List V} {ds : List PyData}, DqAll K H vs ds → DqAll K H (vs.take n) (ds.take n)
  | 0, _, _, _ => .nil
  | _ + 1, _, _, .nil => .nil
  | n + 1, _, _, .cons a b => .cons a (dqAll_take n b)
/-- the value v stands for the datum d -/
def Rep (K : PySem.W.Frag) (G : Hid) (H : Hp) (v : V) (d : PyData) : Prop := Dq K (vis G H) v d ∨ (plain d = false ∧ G.isO d v)
theorem Rep.mono {K : PySem.W.Frag} {G : Hid} {H H' : Hp} {v : V} {d : PyData} (e : Ex G H H') (h : Rep K G H v d) : Rep K G H' v d := by
  rcases h with h | h
  · exact .inl (dq_same e.same d v h)
  · exact .inr h
def Reps (K : PySem.W.Frag) (G : Hid) (H : Hp) : List V → List PyData → Prop
  | [], [] => True
  | v :: vs, d :: ds => Rep K G H v d ∧ Reps K G H vs ds
  | _, _ => False
theorem Reps.mono {K : PySem.W.Frag} {G : Hid} {H H' : Hp} (e : Ex G H H') : ∀ {vs : List V} {ds : List PyData}, Reps K G H vs ds → Reps K G H' vs ds
  | [], [], _ => trivial
  | _ :: _, _ :: _, h => ⟨h.1.mono e, Reps.mono e h.2⟩
  | [], _ :: _, h => h.elim
  | _ :: _, [], h => h.elim
theorem Reps.len {K : PySem.W.Frag} {G : Hid} {H : Hp} : ∀ {vs : List V} {ds : List PyData}, Reps K G H vs ds → vs.length = ds.length
  | [], [], _ => rfl
  | _ :: _, _ :: _, h => congrArg (· + 1) (Reps.len h.2)
  | [], _ :: _, h => h.elim
  | _ :: _, [], h => h.elim
theorem Reps.get {K : PySem.W.Frag} {G : Hid} {H : Hp} : ∀ {vs : List V} {ds : List PyData} {i : Nat} {d : PyData}, Reps K G H vs ds → ds[i]? = some d → ∃ v, vs[i]? = some v ∧ Rep K G H v d
  | [], [], _, _, _, h => by simp at h
  | v :: vs, e :: ds, 0, d, h, q => by
    simp at q
    subst q
    exact ⟨v, rfl, h.1⟩
  | v :: vs, e :: ds, i + 1, d, h, q => by
    obtain ⟨x, e, r⟩ := Reps.get (i := i) h.2 (by simpa using q)
    exact ⟨x, by simpa using e, r⟩
  | [], _ :: _, _, _, h, _ => h.elim
  | _ :: _, [], _, _, h, _ => h.elim
theorem Rep.dp {K : PySem.W.Frag} {G : Hid} {H : Hp} {v : V} {d : PyData} (h : Rep K G H v d) (p : plain d = true) : Dq K (vis G H) v d := by
  rcases h with h | ⟨h, _⟩
  · exact h
  · rw [h] at p
    cases p
theorem Rep.dpH {K : PySem.W.Frag} {G : Hid} {H : Hp} {v : V} {d : PyData} (h : Rep K G H v d) (p : plain d = true) : Dq K H v d := dq_same vis_same d v (h.dp p)
theorem Reps.dp {K : PySem.W.Frag} {G : Hid} {H : Hp} : ∀ {vs : List V} {ds : List PyData}, Reps K G H vs ds → plains ds = true → DqAll K (vis G H) vs ds
  | [], [], _, _ => .nil
  | v :: vs, d :: ds, h, p => by
    have p : (plain d && plains ds) = true := p
    rw [Bool.and_eq_true] at p
    exact .cons (h.1.dp p.1) (Reps.dp h.2 p.2)
  | [], _ :: _, h, _ => h.elim
  | _ :: _, [], h, _ => h.elim
/-- the slots hold what the environment says -/
def RepS (K : PySem.W.Frag) (G : Hid) (H : Hp) (σ : L2.St) (r : Rho) : Prop := r.length ≤ σ.length ∧ ∀ i d, look r i = some d → ∃ v, σ[i]? = some (some v) ∧ Rep K G H v d
theorem RepS.mono {K : PySem.W.Frag} {G : Hid} {H H' : Hp} {σ : L2.St} {r : Rho} (e : Ex G H H') (h : RepS K G H σ r) : RepS K G H' σ r := ⟨h.1, fun i d q => by
  obtain ⟨v, a, b⟩ := h.2 i d q
  exact ⟨v, a, b.mono e⟩⟩
theorem RepS.put {K : PySem.W.Frag} {G : Hid} {H : Hp} {σ : L2.St} {r : Rho} {i : Nat} {v : V} {d : PyData} (h : RepS K G H σ r) (q : Rep K G H v d) : RepS K G H (σ.set i (some v)) (put r i d) := by
  refine ⟨by rw [put_len, List.length_set]; exact h.1, fun j e z => ?_⟩
  rcases look_put z with ⟨a, b, c⟩ | ⟨a, b⟩
  · subst a b
    exact ⟨v, List.getElem?_set_self (Nat.lt_of_lt_of_le c h.1), q⟩
  · obtain ⟨u, x, y⟩ := h.2 j e b
    exact ⟨u, by rw [List.getElem?_set_ne (Ne.symm a)]; exact x, y⟩
theorem RepS.wipe {K : PySem.W.Frag} {G : Hid} {H : Hp} {σ : L2.St} {r : Rho} (h : RepS K G H σ r) (vs : List Nat) : RepS K G H (wipe σ vs) (drps r vs) := by
  refine ⟨by rw [drps_len, wipe_length]; exact h.1, fun j e z => ?_⟩
  obtain ⟨a, b⟩ := look_drps z
  obtain ⟨v, x, y⟩ := h.2 j e b
  exact ⟨v, by rw [wipe_out a]; exact x, y⟩
theorem RepS.start {K : PySem.W.Frag} {G : Hid} {H : Hp} {N : List Str} {vs : List V} {ds : List PyData} (h : Reps K G H vs ds) (hl : vs.length ≤ N.length) : RepS K G H (L2.start N vs) (startR N.length ds) := by
  have e := h.len
  refine ⟨?_, fun i d q => ?_⟩
  · unfold startR L2.start
    simp [e]
  · have q := look_startR q
    obtain ⟨v, x, y⟩ := h.get q
    refine ⟨v, ?_, y⟩
    have hi : i < vs.length := (List.getElem?_eq_some_iff.mp x).1
    unfold L2.start
    rw [List.getElem?_append_left (by simpa using hi), List.getElem?_map, x]
    rfl
end Tz

/-! Simulation of the hand layer's readings by transformers over plain data. -/
namespace Tz
open PySem PySem.Spec PyProof.Rows L2

abbrev DE := Rho → (PyData → Prop) → (Nat → Prop) → Prop
abbrev DT := Rho → (Bool → Prop) → (Nat → Prop) → Prop
abbrev DA := Rho → (List PyData → Prop) → (Nat → Prop) → Prop
abbrev DS := Rho → (Rho → Prop) → (PyData → Prop) → (Nat → Prop) → Prop
abbrev DG := PyData → Rho → (Rho → Prop) → Prop
abbrev DGs := List PyData → Rho → (Rho → Prop) → Prop
abbrev DI := Rho → (List PyData → Prop) → (Nat → Prop) → Prop
abbrev DF := List PyData → (PyData → Prop) → (Nat → Prop) → Prop
abbrev DO := Rho → (Option Int → Prop) → (Nat → Prop) → Prop

/-- where a body stands: the written part, the error classes' places, what is hidden, what is wished of an error -/
structure Cn where
  K : PySem.W.Frag
  ec : Nat → Addr
  GP : Hid → Prop
  E0 : XK
  add : ∀ (G : Hid) (p : Addr) (h : ¬ G.D p) (xs : List V), GP G → GP (G.add p h xs)
/-- no error leaves (a comprehension's block) -/
abbrev Cn.no (C : Cn) : Cn := { C with E0 := fun _ _ _ => False }

section
variable (C : Cn) (G : Hid) (H : Hp)
/-- what comes behind an expression, an error -/
def KV1 (Q : PyData → Prop) (Q' : VK) : Prop := ∀ v H' x, Ex G H H' → G.J H' → Rep C.K G H' v x → Q x → Q' v H'
def KT1 (Q : Bool → Prop) (Q' : Bool → Hp → Prop) : Prop := ∀ b H', Ex G H H' → G.J H' → Q b → Q' b H'
def KA1 (Q : List PyData → Prop) (Q' : List V → Hp → Prop) : Prop := ∀ vs H' xs, Ex G H H' → G.J H' → Reps C.K G H' vs xs → Q xs → Q' vs H'
def KX1 (E : Nat → Prop) : Prop := ∀ c H', Ex G H H' → G.J H' → E c → C.E0 (.ref (C.ec c)) none H'
end
def SimE (C : Cn) (t : TE) (d : DE) : Prop := ∀ (G : Hid) (r : Rho) (Q : PyData → Prop) (E : Nat → Prop), C.GP G → d r Q E → ∀ (σ : L2.St) (H : Hp) (Q' : VK), G.J H → RepS C.K G H σ r → KV1 C G H Q Q' → KX1 C G H E → t σ H Q'
def SimT (C : Cn) (t : TT) (d : DT) : Prop := ∀ (G : Hid) (r : Rho) (Q : Bool → Prop) (E : Nat → Prop), C.GP G → d r Q E → ∀ (σ : L2.St) (H : Hp) (Q' : Bool → Hp → Prop), G.J H → RepS C.K G H σ r → KT1 G H Q Q' → KX1 C G H E → t σ H Q'
def SimA (C : Cn) (t : TA) (d : DA) : Prop := ∀ (G : Hid) (r : Rho) (Q : List PyData → Prop) (E : Nat → Prop), C.GP G → d r Q E → ∀ (σ : L2.St) (H : Hp) (Q' : List V → Hp → Prop), G.J H → RepS C.K G H σ r → KA1 C G H Q Q' → KX1 C G H E → t σ H Q'
def SimO (C : Cn) (t : TO) (d : DO) : Prop := ∀ (G : Hid) (r : Rho) (Q : Option Int → Prop) (E : Nat → Prop), C.GP G → d r Q E → ∀ (σ : L2.St) (H : Hp) (Q' : Option Int → Hp → Prop), G.J H → RepS C.K G H σ r → (∀ o H', Ex G H H' → G.J H' → Q o → Q' o H') → KX1 C G H E → t σ H Q'
/-- what is wanted behind a statement -/
structure KS1 (C : Cn) (G : Hid) (H : Hp) (n : Nat) (nx : Rho → Prop) (rt : PyData → Prop) (D : Ends) : Prop where
  nx : ∀ σ' H' r', Ex G H H' → G.J H' → RepS C.K G H' σ' r' → σ'.length = n → nx r' → D.nx σ' H'
  rt : KV1 C G H rt D.rt
def SimS (C : Cn) (t : TS) (d : DS) : Prop := ∀ (G : Hid) (r : Rho) (nx : Rho → Prop) (rt : PyData → Prop) (E : Nat → Prop), C.GP G → d r nx rt E → ∀ (σ : L2.St) (H : Hp) (D : Ends), G.J H → RepS C.K G H σ r → KS1 C G H σ.length nx rt D → KX1 C G H E → t D σ H
def SimG (C : Cn) (g : TG) (d : DG) : Prop := ∀ (G : Hid) (r : Rho) (k : Rho → Prop) (x : PyData), C.GP G → d x r k → ∀ (v : V) (σ : L2.St) (H : Hp) (Q : L2.St → Hp → Prop), G.J H → RepS C.K G H σ r → Rep C.K G H v x → (∀ σ' r', RepS C.K G H σ' r' → σ'.length = σ.length → k r' → Q σ' H) → g v σ H Q
def SimGs (C : Cn) (g : TGs) (d : DGs) : Prop := ∀ (G : Hid) (r : Rho) (k : Rho → Prop) (xs : List PyData), C.GP G → d xs r k → ∀ (vs : List V) (σ : L2.St) (H : Hp) (Q : L2.St → Hp → Prop), G.J H → RepS C.K G H σ r → Reps C.K G H vs xs → (∀ σ' r', RepS C.K G H σ' r' → σ'.length = σ.length → k r' → Q σ' H) → g vs σ H Q
/-- the iterator J walks the items, whatever is made meanwhile -/
def Wlk (K : PySem.W.Frag) (G : Hid) (J : It) (H0 : Hp) (items : List PyData) : Prop := ∀ (i : Nat) (H : Hp), Ex G H0 H → G.J H →
  (∀ d, items[i]? = some d → J.go i H ∧ ∀ x H', J.yld i H x H' → H' = H ∧ Rep K G H0 x d) ∧ (items.length ≤ i → J.stop i H)
def SimI (C : Cn) (t : TI) (d : DI) : Prop := ∀ (G : Hid) (r : Rho) (Q : List PyData → Prop) (E : Nat → Prop), C.GP G → d r Q E → ∀ (σ : L2.St) (H : Hp) (R : It → Hp → Prop), G.J H → RepS C.K G H σ r → (∀ J H' xs, Ex G H H' → G.J H' → Wlk C.K G J H' xs → Q xs → R J H') → KX1 C G H E → t σ H R

theorem KX1.mono {C : Cn} {G : Hid} {H H1 : Hp} {E : Nat → Prop} (k : KX1 C G H E) (e : Ex G H H1) : KX1 C G H1 E := fun c H' e' j h => k c H' (e.trans e') j h
theorem KV1.mono {C : Cn} {G : Hid} {H H1 : Hp} {Q : PyData → Prop} {Q' : VK} (k : KV1 C G H Q Q') (e : Ex G H H1) : KV1 C G H1 Q Q' := fun v H' x e' j r h => k v H' x (e.trans e') j r h
theorem KT1.mono {G : Hid} {H H1 : Hp} {Q : Bool → Prop} {Q' : Bool → Hp → Prop} (k : KT1 G H Q Q') (e : Ex G H H1) : KT1 G H1 Q Q' := fun b H' e' j h => k b H' (e.trans e') j h
theorem KS1.mono {C : Cn} {G : Hid} {H H1 : Hp} {n : Nat} {nx : Rho → Prop} {rt : PyData → Prop} {D : Ends} (k : KS1 C G H n nx rt D) (e : Ex G H H1) : KS1 C G H1 n nx rt D :=
  ⟨fun σ' H' r' e' j r hl h => k.nx σ' H' r' (e.trans e') j r hl h, k.rt.mono e⟩

/-! ### the transformers -/
def onS {α : Type} (o : Option α) (Q : α → Prop) : Prop := match o with
  | some x => Q x
  | none => False
theorem onS_some {α : Type} {o : Option α} {Q : α → Prop} (h : onS o Q) : ∃ x, o = some x ∧ Q x := by
  cases o with
  | none => exact h.elim
  | some x => exact ⟨x, rfl, h⟩
def dVar (i : Nat) : DE := fun r Q _ => onS (look r i) Q
def dC (d : PyData) : DE := fun _ Q _ => Q d
/-- a two-place operation by data, a one-place one -/
abbrev O2 := PyData → PyData → (PyData → Prop) → Prop
abbrev O1 := PyData → (PyData → Prop) → Prop
def dOp (o : O2) (a b : DE) : DE := fun r Q E => a r (fun x => b r (fun y => o x y Q) E) E
def dUn (o : O1) (a : DE) : DE := fun r Q E => a r (fun x => o x Q) E
def dNil : DA := fun _ Q _ => Q []
def dCons (a : DE) (s : DA) : DA := fun r Q E => a r (fun x => s r (fun xs => Q (x :: xs)) E) E
def dTup (s : DA) : DE := fun r Q E => s r (fun xs => plains xs = true ∧ xs.length ≤ 100000 ∧ Q (.tuple xs)) E
def dLst (s : DA) : DE := fun r Q E => s r (fun xs => plains xs = true ∧ xs.length ≤ 100000 ∧ Q (.list xs)) E
/-- a test: a bool -/
def dTest (a : DE) : DT := fun r Q E => a r (fun x => match x with
  | .bool b => Q b
  | _ => False) E
/-- a test by truth -/
def truth : PyData → Bool
  | .none => false
  | .bool b => b
  | .int i => i != 0
  | .str x => x.length != 0
  | .list xs => !xs.isEmpty
  | .tuple xs => !xs.isEmpty
  | .dict _ => true
def dAnd (a b : DT) : DT := fun r Q E => a r (fun c => if c = true then b r Q E else Q false) E
def dOr (a b : DT) : DT := fun r Q E => a r (fun c => if c = true then Q true else b r Q E) E
def dNot (a : DT) : DT := fun r Q E => a r (fun c => Q (!c)) E
def dAndV (a b : DE) : DE := fun r Q E => a r (fun x => match x with
  | .bool c => if c = true then b r Q E else Q (.bool false)
  | _ => False) E
def dOrV (a b : DE) : DE := fun r Q E => a r (fun x => match x with
  | .bool c => if c = true then Q (.bool true) else b r Q E
  | _ => False) E
def dNotV (a : DE) : DE := fun r Q E => a r (fun x => match x with
  | .bool c => Q (.bool (!c))
  | _ => False) E
def dIf (t : DT) (a b : DE) : DE := fun r Q E => t r (fun c => if c = true then a r Q E else b r Q E) E
/-- a chain of two comparisons -/
def dChain (o o' : O2) (a b c : DE) : DE := fun r Q E => a r (fun x => b r (fun y => o x y (fun z => match z with
  | .bool k => if k = true then c r (fun w => o' y w Q) E else Q (.bool false)
  | _ => False)) E) E
/-- a call of a def of n parameters -/
def dCall (n : Nat) (f : DF) (s : DA) : DE := fun r Q E => s r (fun ds => ds.length = n ∧ f ds Q E) E
/-- a call of a built-in by data -/
def dCB (o : List PyData → (PyData → Prop) → Prop) (s : DA) : DE := fun r Q E => s r (fun ds => o ds Q) E
def dNext : DS := fun r nx _ _ => nx r
def dSeq (a b : DS) : DS := fun r nx rt E => a r (fun r' => b r' nx rt E) rt E
def dRet (a : DE) : DS := fun r _ rt E => a r rt E
def dDrop (a : DE) : DS := fun r nx _ E => a r (fun _ => nx r) E
def dAsg (a : DE) (g : DG) : DS := fun r nx _ E => a r (fun x => g x r nx) E
def dIfS (t : DT) (a b : DS) : DS := fun r nx rt E => t r (fun c => if c = true then a r nx rt E else b r nx rt E) E
def dRaise (c : Nat) : DS := fun _ _ _ E => E c
def dgName (i : Nat) : DG := fun x r k => k (put r i x)
def dgNil : DGs := fun xs r k => xs = [] ∧ k r
def dgCons (g : DG) (gs : DGs) : DGs := fun xs r k => match xs with
  | x :: xs => g x r (fun r' => gs xs r' k)
  | [] => False
def dgTup (n : Nat) (gs : DGs) : DG := fun x r k => match x with
  | .tuple xs => xs.length = n ∧ gs xs r k
  | _ => False
def dPar (i j : Nat) (s : DA) : DS := fun r nx _ E => s r (fun xs => match xs with
  | [x, y] => nx (put (put r i x) j y)
  | _ => False) E
def dPar3 (i j l : Nat) (s : DA) : DS := fun r nx _ E => s r (fun xs => match xs with
  | [x, y, z] => nx (put (put (put r i x) j y) l z)
  | _ => False) E
def forL (g : DG) (b : DS) (nx : Rho → Prop) (rt : PyData → Prop) (E : Nat → Prop) : List PyData → Rho → Prop
  | [], r => nx r
  | x :: xs, r => g x r (fun r' => b r' (fun r'' => forL g b nx rt E xs r'') rt E)
def dFor (i : DI) (g : DG) (b : DS) : DS := fun r nx rt E => i r (fun xs => forL g b nx rt E xs r) E
def whileN (t : DT) (b : DS) (nx : Rho → Prop) (rt : PyData → Prop) (E : Nat → Prop) : Nat → Rho → Prop
  | 0, _ => False
  | n + 1, r => t r (fun c => if c = true then b r (fun r' => whileN t b nx rt E n r') rt E else nx r) E
def dWhile (t : DT) (b : DS) : DS := fun r nx rt E => ∃ n, whileN t b nx rt E n r
/-- a comprehension over items -/
def lcL (g : DG) (t : DT) (e : DE) (r : Rho) (Q : List PyData → Prop) : List PyData → List PyData → Prop
  | [], acc => Q acc
  | x :: xs, acc => g x r (fun r' => t r' (fun b => if b = true then e r' (fun y => plain y = true ∧ lcL g t e r Q xs (acc ++ [y])) (fun _ => False) else lcL g t e r Q xs acc) (fun _ => False))
def dLc (i : DI) (g : DG) (t : DT) (e : DE) (vs : List Nat) : DE := fun r Q E => i r (fun xs => xs.length ≤ 100000 ∧ lcL g t e (drps r vs) (fun ys => Q (.list ys)) xs []) E
def dYes : DT := fun _ Q _ => Q true
def dOver (a : DE) : DI := fun r Q E => a r (fun x => match x with
  | .list xs => Q xs
  | .tuple xs => Q xs
  | .str x => Q (x.cps.toList.map fun c => .str ⟨#[c]⟩)
  | _ => False) E
def rangeD (lo : Int) (n : Nat) : List PyData := (List.range n).map fun (i : Nat) => .int (lo + (i : Int))
def dRng1 (a : DE) : DI := fun r Q E => a r (fun x => match x with
  | .int j => -(2 ^ 62) ≤ j ∧ j < 2 ^ 62 ∧ Q (rangeD 0 j.toNat)
  | _ => False) E
def dRng2 (a b : DE) : DI := fun r Q E => a r (fun x => b r (fun y => match x, y with
  | .int i, .int j => (-(2 ^ 62) ≤ i ∧ i < 2 ^ 62 ∧ -(2 ^ 62) ≤ j ∧ j < 2 ^ 62) ∧ Q (rangeD i (j - i).toNat)
  | _, _ => False) E) E
def dPart (a : DE) : DO := fun r Q E => a r (fun x => match x with
  | .int i => Q (some i)
  | _ => False) E
def dNoPart : DO := fun _ Q _ => Q none
end Tz

/-! The rules of simulation: expressions, tests, statements, loops, calls. -/
namespace Tz
open PySem PySem.Spec PyProof.Rows L2
section
variable {C : Cn}

/-! ### expressions -/
theorem s_var (i : Nat) : SimE C (tVar i) (dVar i) := by
  intro G r Q E gp h σ H Q' j rs k kx
  obtain ⟨d, e, q⟩ := onS_some h
  obtain ⟨v, a, b⟩ := rs.2 i d e
  exact ⟨v, a, k v H d (Ex.refl G H) j b q⟩
/-- a scalar constant -/
theorem s_c {v : V} {d : PyData} (h : ∀ H, Dq C.K H v d) : SimE C (tC v) (dC d) := by
  intro G r Q E gp q σ H Q' j rs k kx
  exact k v H d (Ex.refl G H) j (.inl (h _)) q
theorem s_int {i : Int} : SimE C (tC (.int i)) (dC (.int i)) := s_c fun _ => .int i
theorem s_str {x : Str} : SimE C (tC (.str x)) (dC (.str x)) := s_c fun _ => .str x
theorem s_bl {b : Bool} : SimE C (tC (.bl b)) (dC (.bool b)) := s_c fun _ => .bl b
theorem s_non : SimE C (tC .non) (dC .none) := s_c fun _ => .non
/-- a two-place operation, a one-place one, a call of a built-in, by values and by data -/
def Sim2 (C : Cn) (r : R2) (o : O2) : Prop := ∀ (G : Hid) (x y : V) (dx dy : PyData) (Q : PyData → Prop) (H : Hp) (Q' : VK), C.GP G → G.J H → Rep C.K G H x dx → Rep C.K G H y dy → o dx dy Q → KV1 C G H Q Q' → r x y H Q'
def Sim1 (C : Cn) (r : V → Hp → VK → Prop) (o : O1) : Prop := ∀ (G : Hid) (x : V) (dx : PyData) (Q : PyData → Prop) (H : Hp) (Q' : VK), C.GP G → G.J H → Rep C.K G H x dx → o dx Q → KV1 C G H Q Q' → r x H Q'
def SimC (C : Cn) (r : List V → Hp → VK → Prop) (o : List PyData → (PyData → Prop) → Prop) : Prop := ∀ (G : Hid) (xs : List V) (ds : List PyData) (Q : PyData → Prop) (H : Hp) (Q' : VK), C.GP G → G.J H → Reps C.K G H xs ds → o ds Q → KV1 C G H Q Q' → r xs H Q'
theorem s_op {r : R2} {o : O2} {ta tb : TE} {a b : DE} (hr : Sim2 C r o) (ha : SimE C ta a) (hb : SimE C tb b) : SimE C (tOp r ta tb) (dOp o a b) := by
  intro G ρ Q E gp h σ H Q' j rs k kx
  refine ha G ρ _ E gp h σ H _ j rs (fun v H1 x e1 j1 r1 h1 => ?_) kx
  refine hb G ρ _ E gp h1 σ H1 _ j1 (rs.mono e1) (fun u H2 y e2 j2 r2 h2 => ?_) (kx.mono e1)
  exact hr G v u x y Q H2 Q' gp j2 (r1.mono e2) r2 h2 (k.mono (e1.trans e2))
theorem s_un {r : V → Hp → VK → Prop} {o : O1} {ta : TE} {a : DE} (hr : Sim1 C r o) (ha : SimE C ta a) : SimE C (tUn r ta) (dUn o a) := by
  intro G ρ Q E gp h σ H Q' j rs k kx
  refine ha G ρ _ E gp h σ H _ j rs (fun v H1 x e1 j1 r1 h1 => ?_) kx
  exact hr G v x Q H1 Q' gp j1 r1 h1 (k.mono e1)
theorem s_nil : SimA C tNil dNil := by
  intro G ρ Q E gp h σ H Q' j rs k kx
  exact k [] H [] (Ex.refl G H) j trivial h
theorem s_cons {ta : TE} {ts : TA} {a : DE} {s : DA} (ha : SimE C ta a) (hs : SimA C ts s) : SimA C (tCons ta ts) (dCons a s) := by
  intro G ρ Q E gp h σ H Q' j rs k kx
  refine ha G ρ _ E gp h σ H _ j rs (fun v H1 x e1 j1 r1 h1 => ?_) kx
  refine hs G ρ _ E gp h1 σ H1 _ j1 (rs.mono e1) (fun vs H2 xs e2 j2 r2 h2 => ?_) (kx.mono e1)
  exact k (v :: vs) H2 (x :: xs) (e1.trans e2) j2 ⟨r1.mono e2, r2⟩ h2
theorem small5 {n : Nat} (h : n ≤ 100000) : n ≤ sizeLine := Nat.le_trans h (by decide)
/-- a new object of plain data -/
theorem new_tup {G : Hid} {H : Hp} {p : Addr} {vs : List V} {xs : List PyData} (j : G.J H) (n : H p = none) (h : Reps C.K G H vs xs) (pl : plains xs = true) :
    Ex G H (upd H p (.tup vs)) ∧ G.J (upd H p (.tup vs)) ∧ Rep C.K G (upd H p (.tup vs)) (.ref p) (.tuple xs) := by
  obtain ⟨e, j', nd⟩ := Ex.new (o := .tup vs) j n
  exact ⟨e, j', .inl (.tup (.inl (.inl (vis_of nd nt_tup upd_same))) ((h.mono e).dp pl))⟩
theorem new_lst {G : Hid} {H : Hp} {p : Addr} {vs : List V} {xs : List PyData} (j : G.J H) (n : H p = none) (h : Reps C.K G H vs xs) (pl : plains xs = true) :
    Ex G H (upd H p (.lst vs)) ∧ G.J (upd H p (.lst vs)) ∧ Rep C.K G (upd H p (.lst vs)) (.ref p) (.list xs) := by
  obtain ⟨e, j', nd⟩ := Ex.new (o := .lst vs) j n
  exact ⟨e, j', .inl (.lst (vis_of nd nt_lst upd_same) ((h.mono e).dp pl))⟩
theorem s_tup {ts : TA} {s : DA} (hs : SimA C ts s) : SimE C (tTup ts) (dTup s) := by
  intro G ρ Q E gp h σ H Q' j rs k kx
  refine hs G ρ _ E gp h σ H _ j rs (fun vs H1 xs e1 j1 r1 h1 => ?_) kx
  obtain ⟨pl, hz, q⟩ := h1
  refine ⟨by rw [r1.len]; exact small5 hz, fun p np => ?_⟩
  obtain ⟨e2, j2, r2⟩ := new_tup j1 np r1 pl
  exact k _ _ _ (e1.trans e2) j2 r2 q
theorem s_lst {ts : TA} {s : DA} (hs : SimA C ts s) : SimE C (tLst ts) (dLst s) := by
  intro G ρ Q E gp h σ H Q' j rs k kx
  refine hs G ρ _ E gp h σ H _ j rs (fun vs H1 xs e1 j1 r1 h1 => ?_) kx
  obtain ⟨pl, hz, q⟩ := h1
  refine ⟨by rw [r1.len]; exact small5 hz, fun p np => ?_⟩
  obtain ⟨e2, j2, r2⟩ := new_lst j1 np r1 pl
  exact k _ _ _ (e1.trans e2) j2 r2 q
theorem rep_bl {K : PySem.W.Frag} {G : Hid} {H : Hp} {v : V} {b : Bool} (h : Rep K G H v (.bool b)) : v = .bl b := by
  cases h.dp rfl
  rfl
theorem rep_int {K : PySem.W.Frag} {G : Hid} {H : Hp} {v : V} {i : Int} (h : Rep K G H v (.int i)) : v = .int i := by
  cases h.dp rfl
  rfl
theorem rep_str {K : PySem.W.Frag} {G : Hid} {H : Hp} {v : V} {x : Str} (h : Rep K G H v (.str x)) : v = .str x := by
  cases h.dp rfl
  rfl
theorem rep_non {K : PySem.W.Frag} {G : Hid} {H : Hp} {v : V} (h : Rep K G H v .none) : v = .non := by
  cases h.dp rfl
  rfl
theorem rep_lst {K : PySem.W.Frag} {G : Hid} {H : Hp} {v : V} {ds : List PyData} (h : Rep K G H v (.list ds)) : ∃ a xs, v = .ref a ∧ H a = some (.lst xs) ∧ ¬ G.D a ∧ DqAll K (vis G H) xs ds := by
  cases h.dp rfl with
  | lst a b =>
    obtain ⟨n, _, e⟩ := vis_some a
    exact ⟨_, _, rfl, e, n, b⟩
theorem rep_tup {K : PySem.W.Frag} {G : Hid} {H : Hp} {v : V} {ds : List PyData} (h : Rep K G H v (.tuple ds)) : ∃ a xs, v = .ref a ∧ SqT K H a xs ∧ SqT K (vis G H) a xs ∧ DqAll K (vis G H) xs ds := by
  cases h.dp rfl with
  | tup a b => exact ⟨_, _, rfl, Same.seqT vis_same a, a, b⟩
theorem reps_of {K : PySem.W.Frag} {G : Hid} {H : Hp} : ∀ {vs : List V} {ds : List PyData}, DqAll K (vis G H) vs ds → Reps K G H vs ds
  | _, _, .nil => trivial
  | _, _, .cons a b => ⟨.inl a, reps_of b⟩
theorem plains_of {K : PySem.W.Frag} {H : Hp} : ∀ {vs : List V} {ds : List PyData}, DqAll K H vs ds → plains ds = true
  | _, _, .nil => rfl
  | _, _, .cons a b => by
    have h := plains_of b
    cases a <;> exact h

/-! ### tests -/
theorem s_test {ta : TE} {a : DE} (ha : SimE C ta a) : SimT C (tTest ta) (dTest a) := by
  intro G ρ Q E gp h σ H Q' j rs k kx
  refine ha G ρ _ E gp h σ H _ j rs (fun v H1 x e1 j1 r1 h1 => ?_) kx
  cases x with
  | bool b => exact ⟨b, rep_bl r1, k b H1 e1 j1 h1⟩
  | _ => exact h1.elim
theorem s_B {ta : TE} {a : DE} (ha : SimE C ta a) : SimT C (tB ta) (dTest a) := by
  intro G ρ Q E gp h σ H Q' j rs k kx
  refine ha G ρ _ E gp h σ H _ j rs (fun v H1 x e1 j1 r1 h1 => ?_) kx
  cases x with
  | bool b => exact ⟨b, rep_bl r1, k b H1 e1 j1 h1⟩
  | _ => exact h1.elim
def tTru (K : PySem.W.Frag) (ta : TE) : TT := fun σ H Q => ta σ H fun x H' => ∃ k, TruV K x H' k ∧ Q k H'
def dTru (a : DE) : DT := fun r Q E => a r (fun x => match x with
  | .dict _ => False
  | .str z => z.length ≤ 100000 ∧ Q (truth x)
  | _ => Q (truth x)) E
theorem s_tru {ta : TE} {a : DE} (ha : SimE C ta a) : SimT C (tTru C.K ta) (dTru a) := by
  intro G ρ Q E gp h σ H Q' j rs k kx
  refine ha G ρ _ E gp h σ H _ j rs (fun v H1 x e1 j1 r1 h1 => ?_) kx
  cases x with
  | dict _ => exact h1.elim
  | none =>
    rw [rep_non r1]
    exact ⟨_, rfl, k _ H1 e1 j1 h1⟩
  | bool b =>
    rw [rep_bl r1]
    exact ⟨_, rfl, k _ H1 e1 j1 h1⟩
  | int i =>
    rw [rep_int r1]
    exact ⟨_, rfl, k _ H1 e1 j1 h1⟩
  | str z =>
    rw [rep_str r1]
    refine ⟨_, ⟨small5 h1.1, rfl⟩, k _ H1 e1 j1 ?_⟩
    have e : ((z.length : Int) != 0) = (z.length != 0) := by
      rw [Bool.eq_iff_iff]
      simp
    rw [e]
    exact h1.2
  | list ds =>
    obtain ⟨p, xs, rfl, hp, _, hd⟩ := rep_lst r1
    refine ⟨_, .inl ⟨xs, SqL.of hp, rfl⟩, k _ H1 e1 j1 ?_⟩
    have e : (!xs.isEmpty) = !ds.isEmpty := by cases hd <;> rfl
    rw [e]
    exact h1
  | tuple ds =>
    obtain ⟨p, xs, rfl, hp, _, hd⟩ := rep_tup r1
    refine ⟨_, .inr (.inl ⟨xs, hp, rfl⟩), k _ H1 e1 j1 ?_⟩
    have e : (!xs.isEmpty) = !ds.isEmpty := by cases hd <;> rfl
    rw [e]
    exact h1
theorem s_and {t u : TT} {a b : DT} (ha : SimT C t a) (hb : SimT C u b) : SimT C (tAnd t u) (dAnd a b) := by
  intro G ρ Q E gp h σ H Q' j rs k kx
  refine ha G ρ _ E gp h σ H _ j rs (fun c H1 e1 j1 h1 => ?_) kx
  cases c with
  | true => exact hb G ρ Q E gp h1 σ H1 Q' j1 (rs.mono e1) (k.mono e1) (kx.mono e1)
  | false => exact k false H1 e1 j1 h1
theorem s_or {t u : TT} {a b : DT} (ha : SimT C t a) (hb : SimT C u b) : SimT C (tOr t u) (dOr a b) := by
  intro G ρ Q E gp h σ H Q' j rs k kx
  refine ha G ρ _ E gp h σ H _ j rs (fun c H1 e1 j1 h1 => ?_) kx
  cases c with
  | false => exact hb G ρ Q E gp h1 σ H1 Q' j1 (rs.mono e1) (k.mono e1) (kx.mono e1)
  | true => exact k true H1 e1 j1 h1
theorem s_not {t : TT} {a : DT} (ha : SimT C t a) : SimT C (tNot t) (dNot a) := by
  intro G ρ Q E gp h σ H Q' j rs k kx
  exact ha G ρ _ E gp h σ H _ j rs (fun c H1 e1 j1 h1 => k (!c) H1 e1 j1 h1) kx
theorem s_andV {ta tb : TE} {a b : DE} (ha : SimE C ta a) (hb : SimE C tb b) : SimE C (tAndV ta tb) (dAndV a b) := by
  intro G ρ Q E gp h σ H Q' j rs k kx
  refine ha G ρ _ E gp h σ H _ j rs (fun v H1 x e1 j1 r1 h1 => ?_) kx
  cases x with
  | bool c =>
    refine ⟨c, rep_bl r1, ?_⟩
    cases c with
    | true => exact hb G ρ Q E gp h1 σ H1 Q' j1 (rs.mono e1) (k.mono e1) (kx.mono e1)
    | false => exact k (.bl false) H1 (.bool false) e1 j1 (.inl (.bl false)) h1
  | _ => exact h1.elim
theorem s_orV {ta tb : TE} {a b : DE} (ha : SimE C ta a) (hb : SimE C tb b) : SimE C (tOrV ta tb) (dOrV a b) := by
  intro G ρ Q E gp h σ H Q' j rs k kx
  refine ha G ρ _ E gp h σ H _ j rs (fun v H1 x e1 j1 r1 h1 => ?_) kx
  cases x with
  | bool c =>
    refine ⟨c, rep_bl r1, ?_⟩
    cases c with
    | false => exact hb G ρ Q E gp h1 σ H1 Q' j1 (rs.mono e1) (k.mono e1) (kx.mono e1)
    | true => exact k (.bl true) H1 (.bool true) e1 j1 (.inl (.bl true)) h1
  | _ => exact h1.elim
theorem s_notV {ta : TE} {a : DE} (ha : SimE C ta a) : SimE C (tNotV ta) (dNotV a) := by
  intro G ρ Q E gp h σ H Q' j rs k kx
  refine ha G ρ _ E gp h σ H _ j rs (fun v H1 x e1 j1 r1 h1 => ?_) kx
  cases x with
  | bool c => exact ⟨c, rep_bl r1, k (.bl (!c)) H1 (.bool (!c)) e1 j1 (.inl (.bl _)) h1⟩
  | _ => exact h1.elim
theorem s_if {t : TT} {ta tb : TE} {c : DT} {a b : DE} (hc : SimT C t c) (ha : SimE C ta a) (hb : SimE C tb b) : SimE C (tIf t ta tb) (dIf c a b) := by
  intro G ρ Q E gp h σ H Q' j rs k kx
  refine hc G ρ _ E gp h σ H _ j rs (fun c H1 e1 j1 h1 => ?_) kx
  cases c with
  | true => exact ha G ρ Q E gp h1 σ H1 Q' j1 (rs.mono e1) (k.mono e1) (kx.mono e1)
  | false => exact hb G ρ Q E gp h1 σ H1 Q' j1 (rs.mono e1) (k.mono e1) (kx.mono e1)
theorem s_chain {r r' : R2} {o o' : O2} {ta tb tc : TE} {a b c : DE} (hr : Sim2 C r o) (hr' : Sim2 C r' o') (ha : SimE C ta a) (hb : SimE C tb b) (hc : SimE C tc c) : SimE C (tChain r r' ta tb tc) (dChain o o' a b c) := by
  intro G ρ Q E gp h σ H Q' j rs k kx
  refine ha G ρ _ E gp h σ H _ j rs (fun v H1 x e1 j1 r1 h1 => ?_) kx
  refine hb G ρ _ E gp h1 σ H1 _ j1 (rs.mono e1) (fun u H2 y e2 j2 r2 h2 => ?_) (kx.mono e1)
  refine hr G v u x y _ H2 _ gp j2 (r1.mono e2) r2 h2 (fun z H3 w e3 j3 r3 h3 => ?_)
  have e13 := (e1.trans e2).trans e3
  cases w with
  | bool c' =>
    refine ⟨c', rep_bl r3, ?_⟩
    cases c' with
    | true =>
      refine hc G ρ _ E gp h3 σ H3 _ j3 (rs.mono e13) (fun w H4 z e4 j4 r4 h4 => ?_) (kx.mono e13)
      exact hr' G u w y z Q H4 Q' gp j4 ((r2.mono e3).mono e4) r4 h4 (k.mono (e13.trans e4))
    | false => exact k (.bl false) H3 (.bool false) e13 j3 (.inl (.bl false)) h3
  | _ => exact h3.elim

/-! ### calls -/
/-- a def's promise by data -/
def lift (K : PySem.W.Frag) (ec : Nat → Addr) (GP : Hid → Prop) (n : Nat) (f : DF) : Sp := fun vs H Q' E' => ∃ (G : Hid) (ds : List PyData) (Q : PyData → Prop) (E : Nat → Prop), GP G ∧ G.J H ∧ Reps K G H vs ds ∧ ds.length = n ∧ f ds Q E ∧
  (∀ v H' x, Ex G H H' → G.J H' → Rep K G H' v x → Q x → Q' v H') ∧ ∀ c H', Ex G H H' → G.J H' → E c → E' (.ref (ec c)) none H'
theorem s_call {n : Nat} {f : DF} {GP : Hid → Prop} {ts : TA} {s : DA} (hg : ∀ G, C.GP G → GP G) (hs : SimA C ts s) : SimE C (tCallS (lift C.K C.ec GP n f) (fun _ => C.E0) ts) (dCall n f s) := by
  intro G ρ Q E gp h σ H Q' j rs k kx
  refine hs G ρ _ E gp h σ H _ j rs (fun vs H1 xs e1 j1 r1 h1 => ?_) kx
  exact ⟨G, xs, Q, E, hg G gp, j1, r1, h1.1, h1.2, k.mono e1, kx.mono e1⟩
/-- a call within a block that lets no error out -/
theorem s_cb {r : List V → Hp → VK → Prop} {o : List PyData → (PyData → Prop) → Prop} {ts : TA} {s : DA} (hr : SimC C r o) (hs : SimA C ts s) : SimE C (tCB r ts) (dCB o s) := by
  intro G ρ Q E gp h σ H Q' j rs k kx
  refine hs G ρ _ E gp h σ H _ j rs (fun vs H1 xs e1 j1 r1 h1 => ?_) kx
  exact hr G vs xs Q H1 Q' gp j1 r1 h1 (k.mono e1)

/-! ### statements -/
theorem s_next : SimS C tNext dNext := by
  intro G ρ nx rt E gp h σ H D j rs k kx
  exact k.nx σ H ρ (Ex.refl G H) j rs rfl h
theorem s_seq {t u : TS} {a b : DS} (ha : SimS C t a) (hb : SimS C u b) : SimS C (tSeq t u) (dSeq a b) := by
  intro G ρ nx rt E gp h σ H D j rs k kx
  refine ha G ρ _ rt E gp h σ H _ j rs ⟨fun σ' H' r' e1 j1 rs1 hl h1 => ?_, k.rt⟩ kx
  refine hb G r' nx rt E gp h1 σ' H' D j1 rs1 ?_ (kx.mono e1)
  rw [hl]
  exact k.mono e1
theorem s_ret {ta : TE} {a : DE} (ha : SimE C ta a) : SimS C (tRet ta) (dRet a) := by
  intro G ρ nx rt E gp h σ H D j rs k kx
  exact ha G ρ rt E gp h σ H _ j rs k.rt kx
theorem s_drop {ta : TE} {a : DE} (ha : SimE C ta a) : SimS C (tDrop ta) (dDrop a) := by
  intro G ρ nx rt E gp h σ H D j rs k kx
  exact ha G ρ _ E gp h σ H _ j rs (fun v H1 x e1 j1 r1 h1 => k.nx σ H1 ρ e1 j1 (rs.mono e1) rfl h1) kx
theorem s_asg {ta : TE} {a : DE} {g : TG} {d : DG} (ha : SimE C ta a) (hg : SimG C g d) : SimS C (tAsg ta g) (dAsg a d) := by
  intro G ρ nx rt E gp h σ H D j rs k kx
  refine ha G ρ _ E gp h σ H _ j rs (fun v H1 x e1 j1 r1 h1 => ?_) kx
  exact hg G ρ nx x gp h1 v σ H1 _ j1 (rs.mono e1) r1 fun σ' r' rs' hl q => k.nx σ' H1 r' e1 j1 rs' hl q
theorem s_ifS {t : TT} {u w : TS} {c : DT} {a b : DS} (hc : SimT C t c) (ha : SimS C u a) (hb : SimS C w b) : SimS C (tIfS t u w) (dIfS c a b) := by
  intro G ρ nx rt E gp h σ H D j rs k kx
  refine hc G ρ _ E gp h σ H _ j rs (fun c H1 e1 j1 h1 => ?_) kx
  cases c with
  | true => exact ha G ρ nx rt E gp h1 σ H1 D j1 (rs.mono e1) (k.mono e1) (kx.mono e1)
  | false => exact hb G ρ nx rt E gp h1 σ H1 D j1 (rs.mono e1) (k.mono e1) (kx.mono e1)
/-- raise of the class c -/
def tRaise (C : Cn) (c : Nat) : TS := fun _ _ H => C.E0 (.ref (C.ec c)) none H
theorem s_raise (c : Nat) : SimS C (tRaise C c) (dRaise c) := by
  intro G ρ nx rt E gp h σ H D j rs k kx
  exact kx c H (Ex.refl G H) j h
theorem g_name (i : Nat) : SimG C (gName i) (dgName i) := by
  intro G ρ k x gp h v σ H Q j rs r1 q
  exact q _ _ (rs.put r1) (List.length_set ..) h
theorem g_nil : SimGs C gNil dgNil := by
  intro G ρ k xs gp h vs σ H Q j rs r1 q
  obtain ⟨rfl, h⟩ := h
  cases vs with
  | nil => exact ⟨rfl, q σ ρ rs rfl h⟩
  | cons _ _ => exact r1.elim
theorem g_cons {g : TG} {gs : TGs} {d : DG} {ds : DGs} (hg : SimG C g d) (hgs : SimGs C gs ds) : SimGs C (gCons g gs) (dgCons d ds) := by
  intro G ρ k xs gp h vs σ H Q j rs r1 q
  cases xs with
  | nil => exact h.elim
  | cons x xs =>
    cases vs with
    | nil => exact r1.elim
    | cons v vs =>
      refine ⟨v, vs, rfl, ?_⟩
      refine hg G ρ _ x gp h v σ H _ j rs r1.1 fun σ' r' rs' hl h' => ?_
      exact hgs G r' k xs gp h' vs σ' H Q j rs' r1.2 fun σ2 r2 rs2 hl2 h2 => q σ2 r2 rs2 (hl2.trans hl) h2
theorem g_tup {n : Nat} {gs : TGs} {ds : DGs} (hgs : SimGs C gs ds) : SimG C (gTup C.K n gs) (dgTup n ds) := by
  intro G ρ k x gp h v σ H Q j rs r1 q
  cases x with
  | tuple xs =>
    obtain ⟨a, vs, rfl, hs, _, hd⟩ := rep_tup r1
    refine ⟨a, vs, rfl, hs, ?_, ?_⟩
    · rw [dqAll_len hd]
      exact h.1
    · exact hgs G ρ k xs gp h.2 vs σ H Q j rs (reps_of hd) q
  | _ => exact h.elim
theorem s_par {i j : Nat} {ts : TA} {s : DA} (hs : SimA C ts s) : SimS C (tPar i j ts) (dPar i j s) := by
  intro G ρ nx rt E gp h σ H D jj rs k kx
  refine hs G ρ _ E gp h σ H _ jj rs (fun vs H1 xs e1 j1 r1 h1 => ?_) kx
  match xs, vs, r1, h1 with
  | [x, y], [v, w], r1, h1 => exact ⟨v, w, rfl, k.nx _ H1 _ e1 j1 (((rs.mono e1).put r1.1).put r1.2.1) (by rw [List.length_set, List.length_set]) h1⟩
  | [], _, _, h1 => exact h1.elim
  | [_], _, _, h1 => exact h1.elim
  | _ :: _ :: _ :: _, _, _, h1 => exact h1.elim
  | [_, _], [], r1, _ => exact r1.elim
  | [_, _], [_], r1, _ => exact r1.2.elim
  | [_, _], _ :: _ :: _ :: _, r1, _ => exact r1.2.2.elim
theorem s_par3 {i j l : Nat} {ts : TA} {s : DA} (hs : SimA C ts s) : SimS C (tPar3 i j l ts) (dPar3 i j l s) := by
  intro G ρ nx rt E gp h σ H D jj rs k kx
  refine hs G ρ _ E gp h σ H _ jj rs (fun vs H1 xs e1 j1 r1 h1 => ?_) kx
  match xs, vs, r1, h1 with
  | [x, y, z], [v, w, u], r1, h1 => exact ⟨v, w, u, rfl, k.nx _ H1 _ e1 j1 ((((rs.mono e1).put r1.1).put r1.2.1).put r1.2.2.1) (by rw [List.length_set, List.length_set, List.length_set]) h1⟩
  | [], _, _, h1 => exact h1.elim
  | [_], _, _, h1 => exact h1.elim
  | [_, _], _, _, h1 => exact h1.elim
  | _ :: _ :: _ :: _ :: _, _, _, h1 => exact h1.elim
  | [_, _, _], [], r1, _ => exact r1.elim
  | [_, _, _], [_], r1, _ => exact r1.2.elim
  | [_, _, _], [_, _], r1, _ => exact r1.2.2.elim
  | [_, _, _], _ :: _ :: _ :: _ :: _, r1, _ => exact r1.2.2.2.elim

/-! ### loops -/
theorem s_for {wi : TI} {g : TG} {t : TS} {di : DI} {d : DG} {b : DS} (hi : SimI C wi di) (hg : SimG C g d) (hb : SimS C t b) : SimS C (tFor wi g t) (dFor di d b) := by
  intro G ρ nx rt E gp h σ H D jj rs k kx
  refine hi G ρ _ E gp h σ H _ jj rs (fun J H1 xs e1 j1 wk h1 => ?_) kx
  refine ⟨fun i m σ' H' => ∃ ρ', m = xs.length - i ∧ i ≤ xs.length ∧ Ex G H1 H' ∧ G.J H' ∧ RepS C.K G H' σ' ρ' ∧ σ'.length = σ.length ∧ forL d b nx rt E (xs.drop i) ρ',
    ⟨xs.length, ρ, by simp, Nat.zero_le _, Ex.refl G H1, j1, rs.mono e1, rfl, h1⟩, ?_⟩
  rintro i m σ' H' ⟨ρ', rfl, hile, e2, j2, rs2, hl2, h2⟩
  by_cases hlt : i < xs.length
  · have hd : xs.drop i = xs[i] :: xs.drop (i + 1) := List.drop_eq_getElem_cons hlt
    rw [hd] at h2
    obtain ⟨hgo, hy⟩ := (wk i H' e2 j2).1 xs[i] (List.getElem?_eq_getElem hlt)
    refine .inr ⟨hgo, fun σ3 H3 => ∃ ρ3, Ex G H1 H3 ∧ G.J H3 ∧ RepS C.K G H3 σ3 ρ3 ∧ σ3.length = σ.length ∧ forL d b nx rt E (xs.drop (i + 1)) ρ3, ?_, fun x H3 y => ?_⟩
    · rintro σ3 H3 ⟨ρ3, e3, j3, rs3, hl3, h3⟩
      exact ⟨xs.length - (i + 1), by omega, ρ3, rfl, hlt, e3, j3, rs3, hl3, h3⟩
    · obtain ⟨rfl, r3⟩ := hy x H3 y
      refine hg G ρ' _ xs[i] gp h2 x σ' H3 _ j2 rs2 (r3.mono e2) fun σ4 ρ4 rs4 hl4 h4 => ?_
      refine hb G ρ4 _ rt E gp h4 σ4 H3 _ j2 rs4 ⟨fun σ5 H5 r5 e5 j5 rs5 hl5 h5 => ?_, k.rt.mono (e1.trans e2)⟩ (kx.mono (e1.trans e2))
      exact ⟨r5, e2.trans e5, j5, rs5, (hl5.trans hl4).trans hl2, h5⟩
  · have hd : xs.drop i = [] := List.drop_eq_nil_of_le (by omega)
    rw [hd] at h2
    exact .inl ⟨(wk i H' e2 j2).2 (by omega), k.nx σ' H' ρ' (e1.trans e2) j2 rs2 hl2 h2⟩
theorem s_while {t : TT} {u : TS} {c : DT} {b : DS} (hc : SimT C t c) (hb : SimS C u b) : SimS C (tWhile t u) (dWhile c b) := by
  intro G ρ nx rt E gp h σ H D jj rs k kx
  obtain ⟨n, h⟩ := h
  refine ⟨fun m σ' H' => ∃ ρ', Ex G H H' ∧ G.J H' ∧ RepS C.K G H' σ' ρ' ∧ σ'.length = σ.length ∧ whileN c b nx rt E m ρ', ⟨n, ρ, Ex.refl G H, jj, rs, rfl, h⟩, ?_⟩
  rintro m σ' H' ⟨ρ', e1, j1, rs1, hl1, h1⟩
  cases m with
  | zero => exact h1.elim
  | succ m =>
    refine hc G ρ' _ E gp h1 σ' H' _ j1 rs1 (fun b' H2 e2 j2 h2 => ?_) (kx.mono e1)
    cases b' with
    | true =>
      rw [if_pos rfl] at h2
      rw [if_pos rfl]
      refine ⟨fun σ3 H3 => ∃ ρ3, Ex G H H3 ∧ G.J H3 ∧ RepS C.K G H3 σ3 ρ3 ∧ σ3.length = σ.length ∧ whileN c b nx rt E m ρ3, ?_, ?_⟩
      · rintro σ3 H3 ⟨ρ3, z⟩
        exact ⟨m, Nat.lt_succ_self m, ρ3, z⟩
      · refine hb G ρ' _ rt E gp h2 σ' H2 _ j2 (rs1.mono e2) ⟨fun σ5 H5 r5 e5 j5 rs5 hl5 h5 => ?_, k.rt.mono (e1.trans e2)⟩ (kx.mono (e1.trans e2))
        exact ⟨r5, (e1.trans e2).trans e5, j5, rs5, hl5.trans hl1, h5⟩
    | false =>
      rw [if_neg Bool.false_ne_true] at h2
      rw [if_neg Bool.false_ne_true]
      exact k.nx σ' H2 ρ' (e1.trans e2) j2 (rs1.mono e2) hl1 h2

/-! ### what is walked -/
/-- a list, a tuple, a text -/
def iAny (K : PySem.W.Frag) (tl : TE) : TI := fun σ H R => tl σ H fun x H1 => (∃ a, x = .ref a ∧ (∃ xs, SqL K H1 a xs) ∧ R (Itl K a) H1) ∨ (∃ a, x = .ref a ∧ (∃ xs, SqT K H1 a xs) ∧ R (Itt K a) H1) ∨ ∃ z, x = .str z ∧ R (Its z) H1
theorem pi_any {X : Cx} {tg l : Expr} {tl : TE} (hl : PE X l tl) : PI X tg l (iAny X.K tl) := by
  constructor
  intro pins s σ H R I h
  refine thn (hl.run pins s σ H _ I h) ?_
  rintro v s1 ⟨x, H1, I1, r1, q1⟩
  rcases q1 with ⟨a, rfl, ⟨xs, hq⟩, q⟩ | ⟨a, rfl, ⟨xs, hq⟩, q⟩ | ⟨z, rfl, q⟩
  · cases r1
    obtain ⟨its, rv, p, hz⟩ := I1.list hq
    exact wpAny_pyIter_list p.isList (pi_one (tk := s1.toks) I1 _ (turn_list a _) ⟨_, Heap.get?_push_size _ rfl, rfl, rfl⟩ q)
  · cases r1
    obtain ⟨its, rv, p, hz⟩ := I1.tuple hq
    exact wpAny_pyIter_tuple (show s1.heap.IsTuple a its.toArray from p) (pi_one (tk := s1.toks) I1 _ (turn_tuple a _) ⟨_, Heap.get?_push_size _ rfl, rfl, rfl⟩ q)
  · obtain ⟨t, rfl⟩ := r1
    cases ha : z.cps.all (· < 128) with
    | false => exact wpAny_pyIter_wide ha (pi_one (tk := s1.toks) I1 _ (turn_str _ z t "str_iterator" (.inr rfl)) ⟨_, Heap.get?_push_size _ rfl, rfl, rfl⟩ q)
    | true => exact wpAny_pyIter_ascii ha (pi_one (tk := s1.toks) I1 _ (turn_str _ z t "str_ascii_iterator" (.inl rfl)) ⟨_, Heap.get?_push_size _ rfl, rfl, rfl⟩ q)
theorem wlk_list {K : PySem.W.Frag} {G : Hid} {H : Hp} {a : Addr} {xs : List V} {ds : List PyData} (hq : SqL K (vis G H) a xs) (hd : DqAll K (vis G H) xs ds) : Wlk K G (Itl K a) H ds := by
  intro i H1 e j
  have hq1 : SqL K H1 a xs := Same.seq (vis_same) (e.same.seq hq)
  have hl := dqAll_len hd
  refine ⟨fun d h => ?_, fun h => ⟨xs, hq1, by omega⟩⟩
  obtain ⟨v, hv, rv⟩ := dqAll_get hd h
  refine ⟨⟨xs, v, hq1, hv⟩, fun x H2 y => ?_⟩
  obtain ⟨rfl, y⟩ := y
  have := (y xs hq1).symm.trans hv
  cases this
  exact ⟨rfl, .inl rv⟩
theorem wlk_tup {K : PySem.W.Frag} {G : Hid} {H : Hp} {a : Addr} {xs : List V} {ds : List PyData} (hq : SqT K (vis G H) a xs) (hd : DqAll K (vis G H) xs ds) : Wlk K G (Itt K a) H ds := by
  intro i H1 e j
  have hq1 : SqT K H1 a xs := Same.seqT (vis_same) (Same.seqT e.same hq)
  have hl := dqAll_len hd
  refine ⟨fun d h => ?_, fun h => ⟨xs, hq1, by omega⟩⟩
  obtain ⟨v, hv, rv⟩ := dqAll_get hd h
  refine ⟨⟨xs, v, hq1, hv⟩, fun x H2 y => ?_⟩
  obtain ⟨rfl, y⟩ := y
  have := (y xs hq1).symm.trans hv
  cases this
  exact ⟨rfl, .inl rv⟩
theorem wlk_str {K : PySem.W.Frag} {G : Hid} {H : Hp} (z : Str) : Wlk K G (Its z) H (z.cps.toList.map fun c => .str ⟨#[c]⟩) := by
  intro i H1 e j
  refine ⟨fun d h => ?_, fun h => by simpa [Its] using h⟩
  rw [List.getElem?_map] at h
  obtain ⟨c, hc, rfl⟩ := Option.map_eq_some_iff.mp h
  have hc' : z.cps[i]? = some c := by simpa using hc
  refine ⟨(Array.getElem?_eq_some_iff.mp hc').1, fun x H2 y => ?_⟩
  obtain ⟨rfl, c2, h2, rfl⟩ := y
  rw [hc'] at h2
  cases h2
  exact ⟨rfl, .inl (.str _)⟩
theorem wlk_range {K : PySem.W.Frag} {G : Hid} {H : Hp} (lo : Int) (n : Nat) : Wlk K G (Itr lo n) H (rangeD lo n) := by
  intro i H1 e j
  refine ⟨fun d h => ?_, fun h => by simpa [Itr, rangeD] using h⟩
  unfold rangeD at h
  rw [List.getElem?_map] at h
  obtain ⟨c, hc, rfl⟩ := Option.map_eq_some_iff.mp h
  obtain ⟨hlt, hci⟩ := List.getElem?_eq_some_iff.mp hc
  have hi : c = i := by
    rw [← hci]
    simp
  subst hi
  refine ⟨by simpa [Itr] using hlt, fun x H2 y => ?_⟩
  obtain ⟨rfl, rfl⟩ := y
  exact ⟨rfl, .inl (.int _)⟩
theorem i_over {ta : TE} {a : DE} (ha : SimE C ta a) : SimI C (iAny C.K ta) (dOver a) := by
  intro G ρ Q E gp h σ H R j rs k kx
  refine ha G ρ _ E gp h σ H _ j rs (fun v H1 x e1 j1 r1 h1 => ?_) kx
  cases x with
  | list ds =>
    obtain ⟨p, xs, rfl, hp, nd, hd⟩ := rep_lst r1
    have hv : SqL C.K (vis G H1) p xs := SqL.of (vis_of nd nt_lst hp)
    exact .inl ⟨p, rfl, ⟨xs, SqL.of hp⟩, k _ H1 ds e1 j1 (wlk_list hv hd) h1⟩
  | tuple ds =>
    obtain ⟨p, xs, rfl, hp, hv, hd⟩ := rep_tup r1
    exact .inr (.inl ⟨p, rfl, ⟨xs, hp⟩, k _ H1 ds e1 j1 (wlk_tup hv hd) h1⟩)
  | str z => exact .inr (.inr ⟨z, rep_str r1, k _ H1 _ e1 j1 (wlk_str z) h1⟩)
  | _ => exact h1.elim
theorem i_rng1 {ta : TE} {a : DE} (ha : SimE C ta a) : SimI C (iRng1 (tCons ta tNil)) (dRng1 a) := by
  intro G ρ Q E gp h σ H R j rs k kx
  refine ha G ρ _ E gp h σ H _ j rs (fun v H1 x e1 j1 r1 h1 => ?_) kx
  cases x with
  | int i =>
    obtain ⟨h2, h3, h4⟩ := h1
    refine ⟨i, by rw [rep_int r1], h2, h3, k _ H1 _ e1 j1 (wlk_range 0 i.toNat) h4⟩
  | _ => exact h1.elim
theorem i_rng2 {ta tb : TE} {a b : DE} (ha : SimE C ta a) (hb : SimE C tb b) : SimI C (iRng2 (tCons ta (tCons tb tNil))) (dRng2 a b) := by
  intro G ρ Q E gp h σ H R j rs k kx
  refine ha G ρ _ E gp h σ H _ j rs (fun v H1 x e1 j1 r1 h1 => ?_) kx
  refine hb G ρ _ E gp h1 σ H1 _ j1 (rs.mono e1) (fun u H2 y e2 j2 r2 h2 => ?_) (kx.mono e1)
  cases x with
  | int i =>
    cases y with
    | int j' => exact ⟨i, j', by rw [rep_int r1, rep_int r2], h2.1, k _ H2 _ (e1.trans e2) j2 (wlk_range i (j' - i).toNat) h2.2⟩
    | _ => exact h2.elim
  | _ => exact h2.elim
end
end Tz

/-! Operations by values and by data. -/
namespace Tz
open PySem PySem.Spec PyProof.Rows L2

/-! ### + - * // % ** -/
def repStr (x : Str) (n : Int) : Str := if n < 1 then Str.empty else ⟨(List.replicate n.toNat x.cps).foldl (· ++ ·) #[]⟩
def rMulS : R2 := fun x y H Q => ∃ z n, x = .str z ∧ y = .int n ∧ -(2 ^ 63) ≤ n ∧ n < 2 ^ 63 ∧ z.length * n.toNat ≤ 1000000 ∧ Q (.str (repStr z n)) H
theorem foldl_nil_rep (n : Nat) : (List.replicate n (#[] : Array Nat)).foldl (· ++ ·) #[] = #[] := by
  induction n with
  | zero => rfl
  | succ n ih => rw [List.replicate_succ, List.foldl_cons]; exact ih
theorem foldl_rep_size (z : Array Nat) : ∀ (m : Nat) (acc : Array Nat), ((List.replicate m z).foldl (· ++ ·) acc).size = acc.size + z.size * m := by
  intro m
  induction m with
  | zero => intro acc; rfl
  | succ m ih =>
    intro acc
    rw [List.replicate_succ, List.foldl_cons, ih, Array.size_append, Nat.mul_succ]
    omega
theorem mul_bound {z : Nat} {n : Int} (hn : ¬ n < 1) (h3 : z * n.toNat ≤ 1000000) : ¬ ((z : Int) > (2 ^ 63 - 1) / n) := by
  intro hgt
  have hnn : ((n.toNat : Nat) : Int) = n := by omega
  have hmul : (z : Int) * n ≤ 1000000 := by
    rw [← hnn, ← Int.natCast_mul]
    omega
  have h5 : (z : Int) ≤ (2 ^ 63 - 1) / n := (Int.le_ediv_iff_mul_le (by omega)).mpr (Int.le_trans hmul (by decide))
  omega
theorem op_mulS {X : Cx} : OpR X (binaryOp .Mult) rMulS := by
  intro pins s σ H x y v u Q I rx ry h
  obtain ⟨z, n, rfl, rfl, h1, h2, h3, q⟩ := h
  obtain ⟨t, rfl⟩ := rx
  obtain ⟨t', rfl⟩ := ry
  have hs : sizeLine = 16777216 := sizeLine_eq
  by_cases hn : n < 1
  · refine PySem.P.mul_str_none hn (by omega) ⟨.str Str.empty, H, I.tok _, ⟨_, rfl⟩, ?_⟩
    have e : repStr z n = Str.empty := if_pos hn
    rw [← e]
    exact q
  · have e : repStr z n = ⟨(List.replicate n.toNat z.cps).foldl (· ++ ·) #[]⟩ := if_neg hn
    rw [e] at q
    refine PySem.P.mul_str ?_ (fun _ hh => mul_bound hn h3) (fun _ hh => decide_eq_false (by omega)) ?_
    · rw [decide_eq_false (by omega), decide_eq_false (by omega)]
      rfl
    · rw [if_neg hn]
      by_cases h1 : (n == 1 || z.length == 0) = true
      · rw [if_pos h1]
        rw [Bool.or_eq_true] at h1
        refine ⟨.str z, H, I, ⟨_, rfl⟩, ?_⟩
        have e2 : (⟨(List.replicate n.toNat z.cps).foldl (· ++ ·) #[]⟩ : Str) = z := by
          rcases h1 with h1 | h1
          · have : n = 1 := eq_of_beq h1
            subst this
            show (⟨#[] ++ z.cps⟩ : Str) = z
            rw [Array.empty_append]
          · have h0 : z.cps.size = 0 := eq_of_beq h1
            have h00 : z.cps = #[] := Array.size_eq_zero_iff.mp h0
            obtain ⟨zc⟩ := z
            simp only at h00
            subst h00
            rw [foldl_nil_rep]
        rw [e2] at q
        exact q
      · rw [if_neg h1]
        refine ⟨?_, .str _, H, I.tok _, ⟨_, rfl⟩, q⟩
        show ((List.replicate n.toNat z.cps).foldl (· ++ ·) (#[] : Array Nat)).size ≤ sizeLine
        rw [foldl_rep_size]
        have h3' : z.cps.size * n.toNat ≤ 1000000 := h3
        have : (#[] : Array Nat).size = 0 := rfl
        omega
section
variable {C : Cn}
def rAddU : R2 := fun x y H Q => rI0 (fun i j => .int (i + j)) x y H Q ∨ (∃ i j, x = .str i ∧ y = .str j ∧ i.length + j.length ≤ sizeLine ∧ Q (.str (i ++ j)) H) ∨ rCat x y H Q
theorem op_addU {X : Cx} : OpR X (binaryOp .Add) rAddU := op_add.or (op_add_str.or op_cat)
def oAdd : O2 := fun x y Q => match x, y with
  | .int i, .int j => Q (.int (i + j))
  | .str s, .str t => s.length + t.length ≤ 1000000 ∧ Q (.str (s ++ t))
  | .list a, .list b => a.length + b.length ≤ 1000000 ∧ Q (.list (a ++ b))
  | _, _ => False
theorem small6 {n : Nat} (h : n ≤ 1000000) : n ≤ sizeLine := Nat.le_trans h (by decide)
theorem s_add : Sim2 C rAddU oAdd := by
  intro G x y dx dy Q H Q' gp j rx ry h k
  match dx, dy, rx, ry, h with
  | .int a, .int b, rx, ry, h =>
    rw [rep_int rx, rep_int ry]
    exact .inl ⟨a, b, rfl, rfl, k _ H _ (Ex.refl G H) j (.inl (.int _)) h⟩
  | .str a, .str b, rx, ry, h =>
    rw [rep_str rx, rep_str ry]
    exact .inr (.inl ⟨a, b, rfl, rfl, small6 h.1, k _ H _ (Ex.refl G H) j (.inl (.str _)) h.2⟩)
  | .list a, .list b, rx, ry, h =>
    obtain ⟨p, xs, rfl, hp, np, hx⟩ := rep_lst rx
    obtain ⟨q, ys, rfl, hq, nq, hy⟩ := rep_lst ry
    refine .inr (.inr ⟨p, q, xs, ys, rfl, rfl, hp, hq, ?_, fun l hl => ?_⟩)
    · rw [dqAll_len hx, dqAll_len hy]
      exact small6 h.1
    · have hz := dqAll_app hx hy
      obtain ⟨e, j', r'⟩ := new_lst (C := C) j hl (reps_of hz) (plains_of hz)
      exact k _ _ _ e j' r' h.2
/-- two ints -/
def oI (cnd : Int → Int → Prop) (g : Int → Int → PyData) : O2 := fun x y Q => match x, y with
  | .int i, .int j => cnd i j ∧ Q (g i j)
  | _, _ => False
def oI0 (g : Int → Int → PyData) : O2 := fun x y Q => match x, y with
  | .int i, .int j => Q (g i j)
  | _, _ => False
theorem s_I {cnd cnd' : Int → Int → Prop} {g : Int → Int → V} {g' : Int → Int → PyData} (hc : ∀ i j, cnd' i j → cnd i j) (hg : ∀ i j H, Dq C.K H (g i j) (g' i j)) : Sim2 C (rI cnd g) (oI cnd' g') := by
  intro G x y dx dy Q H Q' gp j rx ry h k
  match dx, dy, rx, ry, h with
  | .int a, .int b, rx, ry, h =>
    rw [rep_int rx, rep_int ry]
    exact ⟨a, b, rfl, rfl, hc _ _ h.1, k _ H _ (Ex.refl G H) j (.inl (hg _ _ _)) h.2⟩
theorem s_I0 {g : Int → Int → V} {g' : Int → Int → PyData} (hg : ∀ i j H, Dq C.K H (g i j) (g' i j)) : Sim2 C (rI0 g) (oI0 g') := by
  intro G x y dx dy Q H Q' gp j rx ry h k
  match dx, dy, rx, ry, h with
  | .int a, .int b, rx, ry, h =>
    rw [rep_int rx, rep_int ry]
    exact ⟨a, b, rfl, rfl, k _ H _ (Ex.refl G H) j (.inl (hg _ _ _)) h⟩
abbrev rSubU : R2 := rI0 fun i j => .int (i - j)
abbrev oSub : O2 := oI0 fun i j => .int (i - j)
theorem s_sub : Sim2 C rSubU oSub := s_I0 fun _ _ _ => .int _
/-- a product that fits -/
def mulOk (i j : Int) : Prop := IntMulOk i j
def rMulU : R2 := fun x y H Q => rI mulOk (fun i j => .int (i * j)) x y H Q ∨ rMulS x y H Q
theorem op_mulI {X : Cx} : OpR X (binaryOp .Mult) (rI mulOk fun i j => .int (i * j)) := opI fun _ _ _ _ _ _ _ hc q => mul_int q hc
theorem op_mulU {X : Cx} : OpR X (binaryOp .Mult) rMulU := op_mulI.or op_mulS
def oMul : O2 := fun x y Q => match x, y with
  | .int i, .int j => mulOk i j ∧ Q (.int (i * j))
  | .str z, .int n => -(2 ^ 63) ≤ n ∧ n < 2 ^ 63 ∧ z.length * n.toNat ≤ 1000000 ∧ Q (.str (repStr z n))
  | _, _ => False
theorem s_mul : Sim2 C rMulU oMul := by
  intro G x y dx dy Q H Q' gp j rx ry h k
  match dx, dy, rx, ry, h with
  | .int a, .int b, rx, ry, h =>
    rw [rep_int rx, rep_int ry]
    exact .inl ⟨a, b, rfl, rfl, h.1, k _ H _ (Ex.refl G H) j (.inl (.int _)) h.2⟩
  | .str a, .int b, rx, ry, h =>
    rw [rep_str rx, rep_int ry]
    exact .inr ⟨a, b, rfl, rfl, h.1, h.2.1, h.2.2.1, k _ H _ (Ex.refl G H) j (.inl (.str _)) h.2.2.2⟩
def divOk (_ j : Int) : Prop := j ≠ 0 ∧ j.natAbs.log2 < 9000
abbrev rDivU : R2 := rI divOk fun i j => .int (i.fdiv j)
abbrev oDiv : O2 := oI divOk fun i j => .int (i.fdiv j)
theorem op_divU {X : Cx} : OpR X (binaryOp .FloorDiv) rDivU := opI fun i j _ _ _ _ _ hc q => floordiv_int hc.1 q (.inl (PyProof.noPylong_of_log2 hc.2))
theorem s_div : Sim2 C rDivU oDiv := s_I (fun _ _ h => h) fun _ _ _ => .int _
abbrev rModU : R2 := rI (fun _ j => j ≠ 0) fun i j => .int (i.fmod j)
abbrev oMod : O2 := oI (fun _ j => j ≠ 0) fun i j => .int (i.fmod j)
theorem op_modU {X : Cx} : OpR X (binaryOp .Mod) rModU := op_modN
theorem s_mod : Sim2 C rModU oMod := s_I (fun _ _ h => h) fun _ _ _ => .int _
abbrev rPowU : R2 := rI CPow fun i j => .int (i ^ j.toNat)
abbrev oPow : O2 := oI CPow fun i j => .int (i ^ j.toNat)
theorem op_powU {X : Cx} : OpR X (binaryOp .Pow) rPowU := op_pow
theorem s_pow : Sim2 C rPowU oPow := s_I (fun _ _ h => h) fun _ _ _ => .int _
abbrev rNegU : V → Hp → VK → Prop := rU fun i => .int (-i)
def oNeg : O1 := fun x Q => match x with
  | .int i => Q (.int (-i))
  | _ => False
theorem s_neg : Sim1 C rNegU oNeg := by
  intro G x dx Q H Q' gp j rx h k
  match dx, rx, h with
  | .int a, rx, h =>
    rw [rep_int rx]
    exact ⟨a, rfl, k _ H _ (Ex.refl G H) j (.inl (.int _)) h⟩

/-! ### comparisons -/
def scalD : PyData → PyData → Bool
  | .none, .none => true | .none, .int _ => true | .int _, .none => true | .none, .bool _ => true | .bool _, .none => true | .none, .str _ => true | .str _, .none => true
  | .int _, .int _ => true | .bool _, .bool _ => true | .str _, .str _ => true
  | .int _, .str _ => true | .str _, .int _ => true | .bool _, .str _ => true | .str _, .bool _ => true
  | _, _ => false
def rEqU (K : PySem.W.Frag) : R2 := fun x y H Q => rEq x y H Q ∨ rEqD K x y H Q
def rNeU (K : PySem.W.Frag) : R2 := fun x y H Q => rNe x y H Q ∨ rNeD K x y H Q
theorem op_eqU {X : Cx} (hu : X.A.units + 64 < cLine) : OpR X (compareOp .Eq) (rEqU X.K) := op_eq.or (op_eqD hu)
theorem op_neU {X : Cx} (hu : X.A.units + 64 < cLine) : OpR X (compareOp .NotEq) (rNeU X.K) := op_ne.or (op_neD hu)
def oEq : O2 := fun x y Q => if scalD x y = true then Q (.bool (PyData.eqv x y)) else SeqAt.shaped x = true ∧ SeqAt.shaped y = true ∧ Q (.bool (PyData.eqv x y))
def oNe : O2 := fun x y Q => if scalD x y = true then Q (.bool (!PyData.eqv x y)) else SeqAt.shaped x = true ∧ SeqAt.shaped y = true ∧ Q (.bool (!PyData.eqv x y))
theorem scal_eq {K : PySem.W.Frag} {G : Hid} {H : Hp} {x y : V} {dx dy : PyData} (s : scalD dx dy = true) (rx : Rep K G H x dx) (ry : Rep K G H y dy) : scal x y = true ∧ decide (x = y) = PyData.eqv dx dy := by
  cases dx <;> cases dy <;> first
    | (exact absurd s Bool.false_ne_true)
    | (first | rw [rep_non rx] | rw [rep_bl rx] | rw [rep_int rx] | rw [rep_str rx]
       first | rw [rep_non ry] | rw [rep_bl ry] | rw [rep_int ry] | rw [rep_str ry]
       refine ⟨rfl, ?_⟩
       first
         | (unfold PyData.eqv; exact dec_int)
         | (unfold PyData.eqv; exact dec_bl)
         | (unfold PyData.eqv; exact dec_str)
         | (unfold PyData.eqv; rfl))
theorem plain_of_shaped {d : PyData} (h : SeqAt.shaped d = true) : plain d = true := by
  cases d with
  | dict kvs =>
    have z := SeqAt.canLay_of_shaped h
    unfold PyData.canLay0 at z
    exact absurd z Bool.false_ne_true
  | _ => rfl
theorem s_eq : Sim2 C (rEqU C.K) oEq := by
  intro G x y dx dy Q H Q' gp j rx ry h k
  unfold oEq at h
  split at h
  · rename_i hs
    obtain ⟨a, b⟩ := scal_eq hs rx ry
    exact .inl ⟨a, k _ H _ (Ex.refl G H) j (.inl (by rw [b]; exact .bl _)) h⟩
  · exact .inr ⟨dx, dy, dq_dp _ _ (rx.dpH (plain_of_shaped h.1)), dq_dp _ _ (ry.dpH (plain_of_shaped h.2.1)), h.1, h.2.1, k _ H _ (Ex.refl G H) j (.inl (.bl _)) h.2.2⟩
theorem s_ne : Sim2 C (rNeU C.K) oNe := by
  intro G x y dx dy Q H Q' gp j rx ry h k
  unfold oNe at h
  split at h
  · rename_i hs
    obtain ⟨a, b⟩ := scal_eq hs rx ry
    exact .inl ⟨a, k _ H _ (Ex.refl G H) j (.inl (by rw [b]; exact .bl _)) h⟩
  · exact .inr ⟨dx, dy, dq_dp _ _ (rx.dpH (plain_of_shaped h.1)), dq_dp _ _ (ry.dpH (plain_of_shaped h.2.1)), h.1, h.2.1, k _ H _ (Ex.refl G H) j (.inl (.bl _)) h.2.2⟩
def rStr2 (g : Str → Str → V) : R2 := fun x y H Q => ∃ i j, x = .str i ∧ y = .str j ∧ Q (g i j) H
def rLtU : R2 := fun x y H Q => rI0 (fun i j => .bl (decide (i < j))) x y H Q ∨ rStr2 (fun i j => .bl (decide (i.cps.toList < j.cps.toList))) x y H Q
theorem op_ltU {X : Cx} : OpR X (compareOp .Lt) rLtU := op_lt.or op_lt_str
def oLt : O2 := fun x y Q => match x, y with
  | .int i, .int j => Q (.bool (decide (i < j)))
  | .str i, .str j => Q (.bool (decide (i.cps.toList < j.cps.toList)))
  | _, _ => False
theorem s_lt : Sim2 C rLtU oLt := by
  intro G x y dx dy Q H Q' gp j rx ry h k
  match dx, dy, rx, ry, h with
  | .int a, .int b, rx, ry, h =>
    rw [rep_int rx, rep_int ry]
    exact .inl ⟨a, b, rfl, rfl, k _ H _ (Ex.refl G H) j (.inl (.bl _)) h⟩
  | .str a, .str b, rx, ry, h =>
    rw [rep_str rx, rep_str ry]
    exact .inr ⟨a, b, rfl, rfl, k _ H _ (Ex.refl G H) j (.inl (.bl _)) h⟩
abbrev rLeU : R2 := rI0 fun i j => .bl (decide (i ≤ j))
abbrev oLe : O2 := oI0 fun i j => .bool (decide (i ≤ j))
theorem s_le : Sim2 C rLeU oLe := s_I0 fun _ _ _ => .bl _
abbrev rGtU : R2 := rI0 fun i j => .bl (decide (j < i))
abbrev oGt : O2 := oI0 fun i j => .bool (decide (j < i))
theorem s_gt : Sim2 C rGtU oGt := s_I0 fun _ _ _ => .bl _
abbrev rGeU : R2 := rI0 fun i j => .bl (decide (j ≤ i))
abbrev oGe : O2 := oI0 fun i j => .bool (decide (j ≤ i))
theorem s_ge : Sim2 C rGeU oGe := s_I0 fun _ _ _ => .bl _
/-- is None, is not None -/
def rIsU : R2 := fun x y H Q => y = .non ∧ Q (.bl (decide (x = .non))) H
def rIsNU : R2 := fun x y H Q => y = .non ∧ Q (.bl (!decide (x = .non))) H
def isNone : PyData → Bool
  | .none => true
  | _ => false
def oIs : O2 := fun x y Q => match y with
  | .none => plain x = true ∧ Q (.bool (isNone x))
  | _ => False
def oIsN : O2 := fun x y Q => match y with
  | .none => plain x = true ∧ Q (.bool (!isNone x))
  | _ => False
theorem dec_non {K : PySem.W.Frag} {G : Hid} {H : Hp} {x : V} {dx : PyData} (p : plain dx = true) (rx : Rep K G H x dx) : decide (x = .non) = isNone dx := by
  cases rx.dp p <;> rfl
theorem s_is : Sim2 C rIsU oIs := by
  intro G x y dx dy Q H Q' gp j rx ry h k
  match dy, ry, h with
  | .none, ry, h => exact ⟨rep_non ry, k _ H _ (Ex.refl G H) j (.inl (by rw [dec_non h.1 rx]; exact .bl _)) h.2⟩
theorem s_isN : Sim2 C rIsNU oIsN := by
  intro G x y dx dy Q H Q' gp j rx ry h k
  match dy, ry, h with
  | .none, ry, h => exact ⟨rep_non ry, k _ H _ (Ex.refl G H) j (.inl (by rw [dec_non h.1 rx]; exact .bl _)) h.2⟩
/-- in, not in: a text in a text, a datum in a list or a tuple -/
def inStr (x y : Str) : Bool := !(Builtin.Str.occurrences y x 0 y.length 1).isEmpty
def rInT (K : PySem.W.Frag) (neg : Bool) : R2 := fun x y H Q => ∃ d ds, Dp K H x d ∧ Dp K H y (.tuple ds) ∧ SeqAt.shaped d = true ∧ SeqAt.shaped (.tuple ds) = true ∧ Q (.bl (if neg then !ds.any fun z => PyData.eqv z d else ds.any fun z => PyData.eqv z d)) H
theorem room_in {A : Around} {ds : List PyData} {d : PyData} (h : SeqAt.shaped d = true) (hu : A.units + 65 < cLine) : A.units + 1 + min (PyData.depthAll ds) d.depth < cLine := by
  have h1 := SeqAt.depth_of_shaped h
  have h2 : min (PyData.depthAll ds) d.depth ≤ d.depth := Nat.min_le_right _ _
  omega
theorem op_inT {X : Cx} (hu : X.A.units + 65 < cLine) : OpR X (compareOp .In) (rInT X.K false) := by
  intro pins s σ H x y v u Q I rx ry h
  obtain ⟨d, ds, hd, he, sd, se, q⟩ := h
  obtain ⟨as, r1⟩ := Dp.reads I d x v hd rx
  obtain ⟨bs, r2⟩ := Dp.reads I (.tuple ds) y u he ry
  exact SeqAt.in_tuple_reads r2 r1 (SeqAt.canLay_of_shaped se) (SeqAt.canLay_of_shaped sd) (room_in sd hu) ⟨.bl _, H, I, rfl, q⟩
theorem op_notInT {X : Cx} (hu : X.A.units + 65 < cLine) : OpR X (compareOp .NotIn) (rInT X.K true) := by
  intro pins s σ H x y v u Q I rx ry h
  obtain ⟨d, ds, hd, he, sd, se, q⟩ := h
  obtain ⟨as, r1⟩ := Dp.reads I d x v hd rx
  obtain ⟨bs, r2⟩ := Dp.reads I (.tuple ds) y u he ry
  exact SeqAt.notIn_tuple_reads r2 r1 (SeqAt.canLay_of_shaped se) (SeqAt.canLay_of_shaped sd) (room_in sd hu) ⟨.bl _, H, I, rfl, q⟩
def rInU (K : PySem.W.Frag) : R2 := fun x y H Q => rStr2 (fun i j => .bl (!(Builtin.Str.occurrences j i 0 j.length 1).isEmpty)) x y H Q ∨ rInT K false x y H Q ∨ rInD K x y H Q
def rNotInU (K : PySem.W.Frag) : R2 := fun x y H Q => rStr2 (fun i j => .bl (!(!(Builtin.Str.occurrences j i 0 j.length 1).isEmpty))) x y H Q ∨ rInT K true x y H Q ∨ rNotInD K x y H Q
theorem op_inU {X : Cx} (hu : X.A.units + 65 < cLine) : OpR X (compareOp .In) (rInU X.K) := op_in_str.or ((op_inT hu).or (op_inD hu))
theorem op_notInU {X : Cx} (hu : X.A.units + 65 < cLine) : OpR X (compareOp .NotIn) (rNotInU X.K) := op_notin_str.or ((op_notInT hu).or (op_notInD hu))
def oIn : O2 := fun x y Q => match y with
  | .str j => match x with
    | .str i => Q (.bool (inStr i j))
    | _ => False
  | .tuple ds => SeqAt.shaped x = true ∧ SeqAt.shaped (.tuple ds) = true ∧ Q (.bool (ds.any fun z => PyData.eqv z x))
  | .list ds => SeqAt.shaped x = true ∧ SeqAt.shaped (.list ds) = true ∧ Q (.bool (ds.any fun z => PyData.eqv z x))
  | _ => False
def oNotIn : O2 := fun x y Q => oIn x y fun z => match z with
  | .bool b => Q (.bool (!b))
  | _ => False
theorem s_in : Sim2 C (rInU C.K) oIn := by
  intro G x y dx dy Q H Q' gp j rx ry h k
  match dy, ry, h with
  | .str b, ry, h =>
    match dx, rx, h with
    | .str a, rx, h => exact .inl ⟨a, b, rep_str rx, rep_str ry, k _ H _ (Ex.refl G H) j (.inl (.bl _)) h⟩
  | .tuple ds, ry, h => exact .inr (.inl ⟨dx, ds, dq_dp _ _ (rx.dpH (plain_of_shaped h.1)), dq_dp _ _ (ry.dpH rfl), h.1, h.2.1, k _ H _ (Ex.refl G H) j (.inl (.bl _)) h.2.2⟩)
  | .list ds, ry, h => exact .inr (.inr ⟨dx, ds, dq_dp _ _ (rx.dpH (plain_of_shaped h.1)), dq_dp _ _ (ry.dpH rfl), h.1, h.2.1, k _ H _ (Ex.refl G H) j (.inl (.bl _)) h.2.2⟩)
theorem s_notIn : Sim2 C (rNotInU C.K) oNotIn := by
  intro G x y dx dy Q H Q' gp j rx ry h k
  match dy, ry, h with
  | .str b, ry, h =>
    match dx, rx, h with
    | .str a, rx, h => exact .inl ⟨a, b, rep_str rx, rep_str ry, k _ H _ (Ex.refl G H) j (.inl (.bl _)) h⟩
  | .tuple ds, ry, h => exact .inr (.inl ⟨dx, ds, dq_dp _ _ (rx.dpH (plain_of_shaped h.1)), dq_dp _ _ (ry.dpH rfl), h.1, h.2.1, k _ H _ (Ex.refl G H) j (.inl (.bl _)) h.2.2⟩)
  | .list ds, ry, h => exact .inr (.inr ⟨dx, ds, dq_dp _ _ (rx.dpH (plain_of_shaped h.1)), dq_dp _ _ (ry.dpH rfl), h.1, h.2.1, k _ H _ (Ex.refl G H) j (.inl (.bl _)) h.2.2⟩)

/-! ### subscripts, slices -/
def oIx : O2 := fun x y Q => match x, y with
  | .list ds, .int i => onS (atI ds i) Q
  | .tuple ds, .int i => onS (atI ds i) Q
  | .str z, .int i => z.length ≤ 1000000 ∧ onS (atI z.cps.toList i) fun c => Q (.str ⟨#[c]⟩)
  | _, _ => False
theorem at_dq {K : PySem.W.Frag} {H : Hp} {xs : List V} {ds : List PyData} {i : Int} {d : PyData} (h : DqAll K H xs ds) (e : atI ds i = some d) : ∃ v, atI xs i = some v ∧ Dq K H v d := by
  unfold atI at e ⊢
  rw [dqAll_len h]
  cases q : ixN ds.length i with
  | none =>
    rw [q] at e
    cases e
  | some n =>
    rw [q] at e
    exact dqAll_get (i := n) h e
theorem s_ix : Sim2 C (rIx C.K) oIx := by
  intro G x y dx dy Q H Q' gp j rx ry h k
  match dx, dy, rx, ry, h with
  | .list ds, .int i, rx, ry, h =>
    obtain ⟨p, xs, rfl, hp, np, hx⟩ := rep_lst rx
    obtain ⟨d, e, q⟩ := onS_some h
    obtain ⟨v, ev, rv⟩ := at_dq hx e
    exact .inl ⟨p, xs, i, v, rfl, rep_int ry, SqL.of hp, ev, k _ H _ (Ex.refl G H) j (.inl rv) q⟩
  | .tuple ds, .int i, rx, ry, h =>
    obtain ⟨p, xs, rfl, hp, np, hx⟩ := rep_tup rx
    obtain ⟨d, e, q⟩ := onS_some h
    obtain ⟨v, ev, rv⟩ := at_dq hx e
    exact .inr (.inl ⟨p, xs, i, v, rfl, rep_int ry, hp, ev, k _ H _ (Ex.refl G H) j (.inl rv) q⟩)
  | .str z, .int i, rx, ry, h =>
    obtain ⟨c, e, q⟩ := onS_some h.2
    exact .inr (.inr ⟨z, i, c, rep_str rx, rep_int ry, small6 h.1, e, k _ H _ (Ex.refl G H) j (.inl (.str _)) q⟩)
end
end Tz

/-! Slices, built-in calls, methods, comprehensions, by values and by data. -/
namespace Tz
open PySem PySem.Spec PyProof.Rows L2
section
variable {C : Cn}
/-! ### slices -/
def rSlU (K : PySem.W.Frag) : V → Option Int → Option Int → Hp → VK → Prop := fun x lo hi H Q => rSlL K x lo hi H Q ∨ rSlT K x lo hi H Q ∨ rSlS x lo hi H Q
theorem sl_U {X : Cx} : SlR X (rSlU X.K) := sl_list.or (sl_tup.or sl_str)
def cutD (xs : List PyData) (lo hi : Option Int) : List PyData := (xs.drop (HT.sIx xs.length 0 lo)).take (HT.sIx xs.length xs.length hi - HT.sIx xs.length 0 lo)
theorem cut_dq {K : PySem.W.Frag} {H : Hp} {xs : List V} {ds : List PyData} (h : DqAll K H xs ds) (lo hi : Option Int) : DqAll K H (cutV xs lo hi) (cutD ds lo hi) := by
  unfold cutV cutD
  rw [dqAll_len h]
  exact dqAll_take _ (dqAll_drop _ h)
def dSl (a : DE) (l h : DO) : DE := fun r Q E => a r (fun x => l r (fun lo => h r (fun hi => match x with
  | .list ds => Q (.list (cutD ds lo hi))
  | .tuple ds => ¬ (HT.sIx ds.length 0 lo = 0 ∧ HT.sIx ds.length ds.length hi = ds.length) ∧ Q (.tuple (cutD ds lo hi))
  | .str z => z.length ≤ 1000000 ∧ Q (.str (cutS z lo hi))
  | _ => False) E) E) E
theorem s_part {ta : TE} {a : DE} (ha : SimE C ta a) : SimO C (tPart ta) (dPart a) := by
  intro G ρ Q E gp h σ H Q' j rs k kx
  refine ha G ρ _ E gp h σ H _ j rs (fun v H1 x e1 j1 r1 h1 => ?_) kx
  cases x with
  | int i => exact ⟨i, rep_int r1, k _ H1 e1 j1 h1⟩
  | _ => exact h1.elim
theorem s_noPart : SimO C tNoPart dNoPart := by
  intro G ρ Q E gp h σ H Q' j rs k kx
  exact k none H (Ex.refl G H) j h
theorem s_sl {ta : TE} {tl th : TO} {a : DE} {l h : DO} (ha : SimE C ta a) (hl : SimO C tl l) (hh : SimO C th h) : SimE C (tSl (rSlU C.K) ta tl th) (dSl a l h) := by
  intro G ρ Q E gp h σ H Q' j rs k kx
  refine ha G ρ _ E gp h σ H _ j rs (fun v H1 x e1 j1 r1 h1 => ?_) kx
  refine hl G ρ _ E gp h1 σ H1 _ j1 (rs.mono e1) (fun lo H2 e2 j2 h2 => ?_) (kx.mono e1)
  refine hh G ρ _ E gp h2 σ H2 _ j2 ((rs.mono e1).mono e2) (fun hi H3 e3 j3 h3 => ?_) ((kx.mono e1).mono e2)
  have r3 := (r1.mono e2).mono e3
  have e13 := (e1.trans e2).trans e3
  match x, r3, h3 with
  | .list ds, r3, h3 =>
    obtain ⟨p, xs, rfl, hp, np, hx⟩ := rep_lst r3
    refine .inl ⟨p, xs, rfl, SqL.of hp, fun l hl => ?_⟩
    have hz := cut_dq hx lo hi
    obtain ⟨e, j', r'⟩ := new_lst (C := C) j3 hl (reps_of hz) (plains_of hz)
    exact k _ _ _ (e13.trans e) j' r' h3
  | .tuple ds, r3, h3 =>
    obtain ⟨p, xs, rfl, hp, _, hx⟩ := rep_tup r3
    refine .inr (.inl ⟨p, xs, rfl, hp, ?_, fun l hl => ?_⟩)
    · rw [dqAll_len hx]
      exact h3.1
    · have hz := cut_dq hx lo hi
      obtain ⟨e, j', r'⟩ := new_tup (C := C) j3 hl (reps_of hz) (plains_of hz)
      exact k _ _ _ (e13.trans e) j' r' h3.2
  | .str z, r3, h3 => exact .inr (.inr ⟨z, rep_str r3, small6 h3.1, k _ H3 _ e13 j3 (.inl (.str _)) h3.2⟩)

/-! ### built-in calls -/
def rLenU (K : PySem.W.Frag) : List V → Hp → VK → Prop := fun xs H Q => ∃ x n, xs = [x] ∧ LenV K x H n ∧ Q (.int n) H
theorem call_lenU {X : Cx} : CallR X (.builtin "len") (rLenU X.K) := call_len
def oLen : List PyData → (PyData → Prop) → Prop := fun ds Q => match ds with
  | [.list xs] => Q (.int xs.length)
  | [.tuple xs] => Q (.int xs.length)
  | [.str z] => z.length ≤ 1000000 ∧ Q (.int z.length)
  | _ => False
theorem reps1 {K : PySem.W.Frag} {G : Hid} {H : Hp} {xs : List V} {d : PyData} (h : Reps K G H xs [d]) : ∃ v, xs = [v] ∧ Rep K G H v d := by
  match xs, h with
  | [v], h => exact ⟨v, rfl, h.1⟩
theorem reps2 {K : PySem.W.Frag} {G : Hid} {H : Hp} {xs : List V} {d e : PyData} (h : Reps K G H xs [d, e]) : ∃ v w, xs = [v, w] ∧ Rep K G H v d ∧ Rep K G H w e := by
  match xs, h with
  | [v, w], h => exact ⟨v, w, rfl, h.1, h.2.1⟩
theorem s_len : SimC C (rLenU C.K) oLen := by
  intro G xs ds Q H Q' gp j r h k
  match ds, r, h with
  | [.list ys], r, h =>
    obtain ⟨v, rfl, rv⟩ := reps1 r
    obtain ⟨p, zs, rfl, hp, _, hd⟩ := rep_lst rv
    refine ⟨_, ys.length, rfl, .inl ⟨zs, SqL.of hp, (dqAll_len hd).symm⟩, k _ H _ (Ex.refl G H) j (.inl (.int _)) h⟩
  | [.tuple ys], r, h =>
    obtain ⟨v, rfl, rv⟩ := reps1 r
    obtain ⟨p, zs, rfl, hp, _, hd⟩ := rep_tup rv
    refine ⟨_, ys.length, rfl, .inr ⟨zs, hp, (dqAll_len hd).symm⟩, k _ H _ (Ex.refl G H) j (.inl (.int _)) h⟩
  | [.str z], r, h =>
    obtain ⟨v, rfl, rv⟩ := reps1 r
    rw [rep_str rv]
    exact ⟨_, z.length, rfl, ⟨small6 h.1, rfl⟩, k _ H _ (Ex.refl G H) j (.inl (.int _)) h.2⟩
def rAbsU : List V → Hp → VK → Prop := fun xs H Q => ∃ i, xs = [.int i] ∧ Q (.int (if i < 0 then -i else i)) H
def oAbs : List PyData → (PyData → Prop) → Prop := fun ds Q => match ds with
  | [.int i] => Q (.int (if i < 0 then -i else i))
  | _ => False
theorem s_abs : SimC C rAbsU oAbs := by
  intro G xs ds Q H Q' gp j r h k
  match ds, r, h with
  | [.int i], r, h =>
    obtain ⟨v, rfl, rv⟩ := reps1 r
    rw [rep_int rv]
    exact ⟨i, rfl, k _ H _ (Ex.refl G H) j (.inl (.int _)) h⟩
/-- lists of one kind -/
def asInts : List PyData → Option (List Int)
  | [] => some []
  | .int i :: r => (asInts r).map (i :: ·)
  | _ :: _ => none
def asBools : List PyData → Option (List Bool)
  | [] => some []
  | .bool i :: r => (asBools r).map (i :: ·)
  | _ :: _ => none
def asStrs : List PyData → Option (List Str)
  | [] => some []
  | .str i :: r => (asStrs r).map (i :: ·)
  | _ :: _ => none
theorem asInts_map : ∀ ns : List Int, asInts (ns.map .int) = some ns
  | [] => rfl
  | n :: ns => by
    show (asInts (ns.map .int)).map (n :: ·) = _
    rw [asInts_map ns]
    rfl
theorem asBools_map : ∀ ns : List Bool, asBools (ns.map .bool) = some ns
  | [] => rfl
  | n :: ns => by
    show (asBools (ns.map .bool)).map (n :: ·) = _
    rw [asBools_map ns]
    rfl
theorem asStrs_map : ∀ ns : List Str, asStrs (ns.map .str) = some ns
  | [] => rfl
  | n :: ns => by
    show (asStrs (ns.map .str)).map (n :: ·) = _
    rw [asStrs_map ns]
    rfl
theorem ints_dq {K : PySem.W.Frag} {H : Hp} : ∀ {xs : List V} {ds : List PyData} {ns : List Int}, DqAll K H xs ds → asInts ds = some ns → xs = ns.map V.int
  | _, _, _, .nil, e => by cases e; rfl
  | _, _, ns, .cons a b, e => by
    cases a with
    | int i =>
      obtain ⟨ms, e1, rfl⟩ := Option.map_eq_some_iff.mp e
      rw [ints_dq b e1]
      rfl
    | _ => cases e
theorem bools_dq {K : PySem.W.Frag} {H : Hp} : ∀ {xs : List V} {ds : List PyData} {ns : List Bool}, DqAll K H xs ds → asBools ds = some ns → xs = ns.map V.bl
  | _, _, _, .nil, e => by cases e; rfl
  | _, _, ns, .cons a b, e => by
    cases a with
    | bl i =>
      obtain ⟨ms, e1, rfl⟩ := Option.map_eq_some_iff.mp e
      rw [bools_dq b e1]
      rfl
    | _ => cases e
theorem strs_dq {K : PySem.W.Frag} {H : Hp} : ∀ {xs : List V} {ds : List PyData} {ns : List Str}, DqAll K H xs ds → asStrs ds = some ns → xs = ns.map V.str
  | _, _, _, .nil, e => by cases e; rfl
  | _, _, ns, .cons a b, e => by
    cases a with
    | str i =>
      obtain ⟨ms, e1, rfl⟩ := Option.map_eq_some_iff.mp e
      rw [strs_dq b e1]
      rfl
    | _ => cases e
/-- max(list of ints), min; all, sum -/
def oMax : List PyData → (PyData → Prop) → Prop := fun ds Q => match ds with
  | [.list xs] => onS (asInts xs) fun ns => ns ≠ [] ∧ ∀ m, m ∈ ns → (∀ y, y ∈ ns → y ≤ m) → Q (.int m)
  | _ => False
theorem s_max : SimC C (rMax C.K) oMax := by
  intro G xs ds Q H Q' gp j r h k
  match ds, r, h with
  | [.list ys], r, h =>
    obtain ⟨v, rfl, rv⟩ := reps1 r
    obtain ⟨p, zs, rfl, hp, _, hd⟩ := rep_lst rv
    obtain ⟨ns, e, hn, q⟩ := onS_some h
    refine ⟨p, ns, rfl, ?_, List.length_pos_iff.mpr hn, fun m h1 h2 => k _ H _ (Ex.refl G H) j (.inl (.int _)) (q m h1 h2)⟩
    rw [← ints_dq hd e]
    exact SqL.of hp
def oMin : List PyData → (PyData → Prop) → Prop := fun ds Q => match ds with
  | [.list xs] => onS (asInts xs) fun ns => ns ≠ [] ∧ ∀ m, m ∈ ns → (∀ y, y ∈ ns → m ≤ y) → Q (.int m)
  | _ => False
theorem s_min : SimC C (rMin C.K) oMin := by
  intro G xs ds Q H Q' gp j r h k
  match ds, r, h with
  | [.list ys], r, h =>
    obtain ⟨v, rfl, rv⟩ := reps1 r
    obtain ⟨p, zs, rfl, hp, _, hd⟩ := rep_lst rv
    obtain ⟨ns, e, hn, q⟩ := onS_some h
    refine ⟨p, ns, rfl, ?_, List.length_pos_iff.mpr hn, fun m h1 h2 => k _ H _ (Ex.refl G H) j (.inl (.int _)) (q m h1 h2)⟩
    rw [← ints_dq hd e]
    exact SqL.of hp
def oAll : List PyData → (PyData → Prop) → Prop := fun ds Q => match ds with
  | [.list xs] => onS (asBools xs) fun bs => Q (.bool (bs.all id))
  | _ => False
theorem s_all : SimC C (rAll C.K) oAll := by
  intro G xs ds Q H Q' gp j r h k
  match ds, r, h with
  | [.list ys], r, h =>
    obtain ⟨v, rfl, rv⟩ := reps1 r
    obtain ⟨p, zs, rfl, hp, _, hd⟩ := rep_lst rv
    obtain ⟨ns, e, q⟩ := onS_some h
    refine ⟨p, ns, rfl, ?_, k _ H _ (Ex.refl G H) j (.inl (.bl _)) q⟩
    rw [← bools_dq hd e]
    exact SqL.of hp
def oSum : List PyData → (PyData → Prop) → Prop := fun ds Q => match ds with
  | [.list xs] => onS (asInts xs) fun ns => Q (.int ns.sum)
  | _ => False
theorem s_sum : SimC C (rSum C.K) oSum := by
  intro G xs ds Q H Q' gp j r h k
  match ds, r, h with
  | [.list ys], r, h =>
    obtain ⟨v, rfl, rv⟩ := reps1 r
    obtain ⟨p, zs, rfl, hp, _, hd⟩ := rep_lst rv
    obtain ⟨ns, e, q⟩ := onS_some h
    refine ⟨p, ns, rfl, ?_, k _ H _ (Ex.refl G H) j (.inl (.int _)) q⟩
    rw [← ints_dq hd e]
    exact SqL.of hp
/-- max(a, b), min(a, b) of ints -/
def rMax2U : List V → Hp → VK → Prop := fun xs H Q => ∃ i j, xs = [.int i, .int j] ∧ Q (.int (if j > i then j else i)) H
def rMin2U : List V → Hp → VK → Prop := fun xs H Q => ∃ i j, xs = [.int i, .int j] ∧ Q (.int (if j < i then j else i)) H
def oMax2 : List PyData → (PyData → Prop) → Prop := fun ds Q => match ds with
  | [.int i, .int j] => Q (.int (if j > i then j else i))
  | _ => False
def oMin2 : List PyData → (PyData → Prop) → Prop := fun ds Q => match ds with
  | [.int i, .int j] => Q (.int (if j < i then j else i))
  | _ => False
theorem s_max2 : SimC C rMax2U oMax2 := by
  intro G xs ds Q H Q' gp j r h k
  match ds, r, h with
  | [.int a, .int b], r, h =>
    obtain ⟨v, w, rfl, rv, rw'⟩ := reps2 r
    rw [rep_int rv, rep_int rw']
    exact ⟨a, b, rfl, k _ H _ (Ex.refl G H) j (.inl (.int _)) h⟩
theorem s_min2 : SimC C rMin2U oMin2 := by
  intro G xs ds Q H Q' gp j r h k
  match ds, r, h with
  | [.int a, .int b], r, h =>
    obtain ⟨v, w, rfl, rv, rw'⟩ := reps2 r
    rw [rep_int rv, rep_int rw']
    exact ⟨a, b, rfl, k _ H _ (Ex.refl G H) j (.inl (.int _)) h⟩
/-- tuple(list), list(list or tuple) -/
def rTupleU (K : PySem.W.Frag) : List V → Hp → VK → Prop := fun xs H Q => ∃ p ys, xs = [.ref p] ∧ ((SqL K H p ys ∧ ∀ l, H l = none → Q (.ref l) (upd H l (.tup ys))) ∨ (SqT K H p ys ∧ Q (.ref p) H))
theorem call_tupleU {X : Cx} : CallR X (.type "tuple") (rTupleU X.K) := call_tuple_of
def oTuple : List PyData → (PyData → Prop) → Prop := fun ds Q => match ds with
  | [.list xs] => Q (.tuple xs)
  | [.tuple xs] => Q (.tuple xs)
  | _ => False
theorem s_tuple : SimC C (rTupleU C.K) oTuple := by
  intro G xs ds Q H Q' gp j r h k
  match ds, r, h with
  | [.list ys], r, h =>
    obtain ⟨v, rfl, rv⟩ := reps1 r
    obtain ⟨p, zs, rfl, hp, _, hd⟩ := rep_lst rv
    refine ⟨p, zs, rfl, .inl ⟨SqL.of hp, fun l hl => ?_⟩⟩
    obtain ⟨e, j', r'⟩ := new_tup (C := C) j hl (reps_of hd) (plains_of hd)
    exact k _ _ _ e j' r' h
  | [.tuple ys], r, h =>
    obtain ⟨v, rfl, rv⟩ := reps1 r
    obtain ⟨p, zs, e, hp, _, hd⟩ := rep_tup rv
    exact ⟨p, zs, by rw [e], .inr ⟨hp, k _ H _ (Ex.refl G H) j (by rw [← e]; exact rv) h⟩⟩
def rListU (K : PySem.W.Frag) : List V → Hp → VK → Prop := fun xs H Q => ∃ p ys, xs = [.ref p] ∧ (SqL K H p ys ∨ SqT K H p ys) ∧ ∀ l, H l = none → Q (.ref l) (upd H l (.lst ys))
theorem call_listU {X : Cx} : CallR X (.type "list") (rListU X.K) := call_list_of
def oList : List PyData → (PyData → Prop) → Prop := fun ds Q => match ds with
  | [.list xs] => Q (.list xs)
  | [.tuple xs] => Q (.list xs)
  | _ => False
theorem s_list : SimC C (rListU C.K) oList := by
  intro G xs ds Q H Q' gp j r h k
  match ds, r, h with
  | [.list ys], r, h =>
    obtain ⟨v, rfl, rv⟩ := reps1 r
    obtain ⟨p, zs, rfl, hp, _, hd⟩ := rep_lst rv
    refine ⟨p, zs, rfl, .inl (SqL.of hp), fun l hl => ?_⟩
    obtain ⟨e, j', r'⟩ := new_lst (C := C) j hl (reps_of hd) (plains_of hd)
    exact k _ _ _ e j' r' h
  | [.tuple ys], r, h =>
    obtain ⟨v, rfl, rv⟩ := reps1 r
    obtain ⟨p, zs, rfl, hp, _, hd⟩ := rep_tup rv
    refine ⟨p, zs, rfl, .inr hp, fun l hl => ?_⟩
    obtain ⟨e, j', r'⟩ := new_lst (C := C) j hl (reps_of hd) (plains_of hd)
    exact k _ _ _ e j' r' h
/-- str(int); int(bool), int(int) -/
def rStrU : List V → Hp → VK → Prop := fun xs H Q => ∃ i : Int, xs = [.int i] ∧ i.natAbs.log2 < 1920 ∧ Q (.str (toString i)) H
def oStr : List PyData → (PyData → Prop) → Prop := fun ds Q => match ds with
  | [.int i] => i.natAbs.log2 < 1920 ∧ Q (.str (toString i : String))
  | _ => False
theorem s_strI : SimC C rStrU oStr := by
  intro G xs ds Q H Q' gp j r h k
  match ds, r, h with
  | [.int i], r, h =>
    obtain ⟨v, rfl, rv⟩ := reps1 r
    rw [rep_int rv]
    exact ⟨i, rfl, h.1, k _ H _ (Ex.refl G H) j (.inl (.str _)) h.2⟩
def rIntU : List V → Hp → VK → Prop := fun xs H Q => (∃ i, xs = [.int i] ∧ Q (.int i) H) ∨ ∃ k, xs = [.bl k] ∧ Q (.int (if k then 1 else 0)) H
def oInt : List PyData → (PyData → Prop) → Prop := fun ds Q => match ds with
  | [.int i] => Q (.int i)
  | [.bool b] => Q (.int (if b then 1 else 0))
  | _ => False
theorem s_intB : SimC C rIntU oInt := by
  intro G xs ds Q H Q' gp j r h k
  match ds, r, h with
  | [.int i], r, h =>
    obtain ⟨v, rfl, rv⟩ := reps1 r
    rw [rep_int rv]
    exact .inl ⟨i, rfl, k _ H _ (Ex.refl G H) j (.inl (.int _)) h⟩
  | [.bool b], r, h =>
    obtain ⟨v, rfl, rv⟩ := reps1 r
    rw [rep_bl rv]
    exact .inr ⟨b, rfl, k _ H _ (Ex.refl G H) j (.inl (.int _)) h⟩
/-- isinstance(x, T), T a built-in class -/
def tyName : PyData → String
  | .none => "NoneType"
  | .bool _ => "bool"
  | .int _ => "int"
  | .str _ => "str"
  | .list _ => "list"
  | .tuple _ => "tuple"
  | .dict _ => "dict"
theorem ty_of {K : PySem.W.Frag} {H : Hp} {v : V} {d : PyData} (h : Dq K H v d) : TyX K H v (.type (tyName d)) := by
  cases h with
  | non => exact .base .non
  | bl b => exact .base (.bl b)
  | int i => exact .base (.int i)
  | str x => exact .base (.str x)
  | lst a b => exact .base (.lst a)
  | tup a b =>
    rcases a with (a | ⟨o, a⟩) | ⟨o, its, n, a, c, _⟩
    · exact .base (.tup a)
    · exact .fTuple a
    · exact .kTuple a c
def tIsi (K : PySem.W.Frag) (T : String) (ta : TE) : TE := tCB (rIsi K) (tCons ta (tCons (tC (.ty T)) tNil))
def isiB (d : PyData) (T : String) : Option Bool := kitB (tyName d) T
def dIsi (T : String) (a : DE) : DE := fun r Q E => a r (fun x => plain x = true ∧ onS (isiB x T) fun b => Q (.bool b)) E
theorem s_isi {T : String} {ta : TE} {a : DE} (ha : SimE C ta a) : SimE C (tIsi C.K T ta) (dIsi T a) := by
  intro G ρ Q E gp h σ H Q' j rs k kx
  refine ha G ρ _ E gp h σ H _ j rs (fun v H1 x e1 j1 r1 h1 => ?_) kx
  obtain ⟨b, e, q⟩ := onS_some h1.2
  exact ⟨v, .ty T, .type (tyName x), .type T, b, rfl, .ty T, ty_of (r1.dpH h1.1), kit_ty e, k _ H1 _ e1 j1 (.inl (.bl _)) q⟩

/-! ### methods of texts -/
def rJoinU (K : PySem.W.Frag) : V → List V → Hp → VK → Prop := fun x xs H Q => ∃ a p, ∃ ys : List Str, x = .str a ∧ xs = [.ref p] ∧ (SqL K H p (ys.map V.str) ∨ SqT K H p (ys.map V.str)) ∧
  (ys.map (·.length)).sum + ys.length * a.length ≤ 16777216 ∧ Q (.str (Txt.join a ys)) H
def dM1 (o : O2) (a b : DE) : DE := fun r Q E => a r (fun x => b r (fun y => o x y Q) E) E
def SimM (C : Cn) (r : V → List V → Hp → VK → Prop) (o : O2) : Prop := ∀ (G : Hid) (x y : V) (dx dy : PyData) (Q : PyData → Prop) (H : Hp) (Q' : VK), C.GP G → G.J H → Rep C.K G H x dx → Rep C.K G H y dy → o dx dy Q → KV1 C G H Q Q' → r x [y] H Q'
def oJoin : O2 := fun x y Q => match x, y with
  | .str a, .list ds => onS (asStrs ds) fun ys => (ys.map (·.length)).sum + ys.length * a.length ≤ 1000000 ∧ Q (.str (Txt.join a ys))
  | _, _ => False
theorem s_join : SimM C (rJoinU C.K) oJoin := by
  intro G x y dx dy Q H Q' gp j rx ry h k
  match dx, dy, rx, ry, h with
  | .str a, .list ds, rx, ry, h =>
    obtain ⟨p, xs, rfl, hp, np, hx⟩ := rep_lst ry
    obtain ⟨ys, e, h1, q⟩ := onS_some h
    refine ⟨a, p, ys, rep_str rx, rfl, .inl ?_, Nat.le_trans h1 (by decide), k _ H _ (Ex.refl G H) j (.inl (.str _)) q⟩
    rw [← strs_dq hx e]
    exact SqL.of hp
/-- the receiver is a text -/
def tM1S (r : V → List V → Hp → VK → Prop) (to te : TE) : TE := tM1 r to te
theorem s_m1 {r : V → List V → Hp → VK → Prop} {o : O2} {ta tb : TE} {a b : DE} (hr : SimM C r o) (ho : ∀ x y Q, o x y Q → ∃ z, x = .str z) (ha : SimE C ta (a)) (hb : SimE C tb b) : SimE C (tM1 r ta tb) (fun ρ Q E => a ρ (fun x => (∃ z, x = .str z) ∧ b ρ (fun y => o x y Q) E) E) := by
  intro G ρ Q E gp h σ H Q' j rs k kx
  refine ha G ρ _ E gp h σ H _ j rs (fun v H1 x e1 j1 r1 h1 => ?_) kx
  obtain ⟨⟨z, rfl⟩, h1⟩ := h1
  refine ⟨⟨z, rep_str r1⟩, ?_⟩
  refine hb G ρ _ E gp h1 σ H1 _ j1 (rs.mono e1) (fun u H2 y e2 j2 r2 h2 => ?_) (kx.mono e1)
  exact hr G v u _ y Q H2 Q' gp j2 (r1.mono e2) r2 h2 (k.mono (e1.trans e2))
/-- str.m(e) by data: the receiver first -/
def dMs (o : O2) (a b : DE) : DE := fun ρ Q E => a ρ (fun x => match x with
  | .str z => b ρ (fun y => o (.str z) y Q) E
  | _ => False) E
theorem s_ms {r : V → List V → Hp → VK → Prop} {o : O2} {ta tb : TE} {a b : DE} (hr : SimM C r o) (ha : SimE C ta a) (hb : SimE C tb b) : SimE C (tM1 r ta tb) (dMs o a b) := by
  intro G ρ Q E gp h σ H Q' j rs k kx
  refine ha G ρ _ E gp h σ H _ j rs (fun v H1 x e1 j1 r1 h1 => ?_) kx
  match x, r1, h1 with
  | .str z, r1, h1 =>
    refine ⟨⟨z, rep_str r1⟩, ?_⟩
    refine hb G ρ _ E gp h1 σ H1 _ j1 (rs.mono e1) (fun u H2 y e2 j2 r2 h2 => ?_) (kx.mono e1)
    exact hr G v u _ y Q H2 Q' gp j2 (r1.mono e2) r2 h2 (k.mono (e1.trans e2))
def rSindexU : V → List V → Hp → VK → Prop := fun x xs H Q => ∃ a b i rest, x = .str a ∧ xs = [.str b] ∧ Builtin.Str.occurrences a b 0 a.length 1 = i :: rest ∧ Q (.int (i : Nat)) H
def oSindex : O2 := fun x y Q => match x, y with
  | .str a, .str b => onS ((Builtin.Str.occurrences a b 0 a.length 1).head?) fun (i : Nat) => Q (.int (i : Int))
  | _, _ => False
theorem s_sindex : SimM C rSindexU oSindex := by
  intro G x y dx dy Q H Q' gp j rx ry h k
  match dx, dy, rx, ry, h with
  | .str a, .str b, rx, ry, h =>
    obtain ⟨i, e, q⟩ := onS_some h
    cases he : Builtin.Str.occurrences a b 0 a.length 1 with
    | nil =>
      rw [he] at e
      cases e
    | cons i' rest =>
      rw [he] at e
      cases e
      exact ⟨a, b, i, rest, rep_str rx, by rw [rep_str ry], he, k _ H _ (Ex.refl G H) j (.inl (.int _)) q⟩
def rSplitU : V → List V → Hp → VK → Prop := fun x xs H Q => ∃ a b, x = .str a ∧ xs = [.str b] ∧ (b.length == 0) = false ∧ a.length + 2 ≤ sizeLine ∧ rNewStrs (Txt.split a b) H Q
def oSplit : O2 := fun x y Q => match x, y with
  | .str a, .str b => (b.length == 0) = false ∧ a.length + 2 ≤ 1000000 ∧ Q (.list ((Txt.split a b).map .str))
  | _, _ => False
theorem strs_reps {K : PySem.W.Frag} {G : Hid} {H : Hp} : ∀ ys : List Str, Reps K G H (ys.map V.str) (ys.map PyData.str) ∧ plains (ys.map PyData.str) = true
  | [] => ⟨trivial, rfl⟩
  | y :: ys => ⟨⟨.inl (.str y), (strs_reps ys).1⟩, (strs_reps (K := K) (G := G) (H := H) ys).2⟩
theorem s_split : SimM C rSplitU oSplit := by
  intro G x y dx dy Q H Q' gp j rx ry h k
  match dx, dy, rx, ry, h with
  | .str a, .str b, rx, ry, h =>
    refine ⟨a, b, rep_str rx, by rw [rep_str ry], h.1, small6 h.2.1, fun p np => ?_⟩
    obtain ⟨r1, r2⟩ := strs_reps (K := C.K) (G := G) (H := H) (Txt.split a b)
    obtain ⟨e, j', r'⟩ := new_lst (C := C) j np r1 r2
    exact k _ _ _ e j' r' h.2.2

/-! ### comprehensions -/
theorem wipe_set1 {σ : L2.St} {i : Nat} {v : Option V} : wipe ((wipe σ [i]).set i v) [i] = wipe σ [i] := by
  show ((σ.set i none).set i v).set i none = σ.set i none
  rw [List.set_set, List.set_set]
/-- a target that stores only into vs -/
def GIn (g : TG) (vs : List Nat) : Prop := ∀ (v : V) (σ : L2.St) (H : Hp) (Q : L2.St → Hp → Prop), g v (wipe σ vs) H Q → g v (wipe σ vs) H fun σ2 H2 => wipe σ2 vs = wipe σ vs ∧ Q σ2 H2
theorem gin_name (i : Nat) : GIn (gName i) [i] := fun v σ H Q h => ⟨wipe_set1, h⟩
theorem rep_in {K : PySem.W.Frag} {G : Hid} {p : Addr} {hp : ¬ G.D p} {zs : List V} {H H' : Hp} {v : V} {d : PyData} (n : H p = none) (e : Ex G H H') (h : Rep K G H v d) : Rep K (G.add p hp zs) H' v d := by
  rcases h with h | h
  · refine .inl (dq_same (fun a o q => ?_) d v h)
    obtain ⟨nd, t, q⟩ := vis_some q
    have ne : a ≠ p := ne_of_none q n
    exact vis_of (G := G.add p hp zs) (fun z => z.elim nd ne) t (e a o nd t q)
  · exact .inr h
theorem rep_out {K : PySem.W.Frag} {G : Hid} {p : Addr} {hp : ¬ G.D p} {zs : List V} {H : Hp} {v : V} {d : PyData} (h : Rep K (G.add p hp zs) H v d) : Rep K G H v d := by
  rcases h with h | h
  · refine .inl (dq_same (fun a o q => ?_) d v h)
    obtain ⟨nd, t, q⟩ := vis_some q
    exact vis_of (fun z => nd (.inl z)) t q
  · exact .inr h
/-- what stands at p doesn't matter -/
theorem rep_upd {K : PySem.W.Frag} {G : Hid} {p : Addr} {hp : ¬ G.D p} {zs ys : List V} {H : Hp} {o : HO} {v : V} {d : PyData} (h : Rep K (G.add p hp zs) H v d) : Rep K (G.add p hp ys) (upd H p o) v d := by
  rcases h with h | h
  · refine .inl (dq_same (fun a o q => ?_) d v h)
    obtain ⟨nd, t, q⟩ := vis_some q
    have ne : a ≠ p := fun z => nd (.inr z)
    exact vis_of (G := G.add p hp ys) nd t (by rw [upd_ne ne]; exact q)
  · exact .inr h
theorem reps_out {K : PySem.W.Frag} {G : Hid} {p : Addr} {hp : ¬ G.D p} {zs : List V} {H : Hp} : ∀ {vs : List V} {ds : List PyData}, Reps K (G.add p hp zs) H vs ds → Reps K G H vs ds
  | [], [], _ => trivial
  | _ :: _, _ :: _, h => ⟨rep_out h.1, reps_out h.2⟩
  | [], _ :: _, h => h.elim
  | _ :: _, [], h => h.elim
theorem reps_upd {K : PySem.W.Frag} {G : Hid} {p : Addr} {hp : ¬ G.D p} {zs ys : List V} {H : Hp} {o : HO} : ∀ {vs : List V} {ds : List PyData}, Reps K (G.add p hp zs) H vs ds → Reps K (G.add p hp ys) (upd H p o) vs ds
  | [], [], _ => trivial
  | _ :: _, _ :: _, h => ⟨rep_upd h.1, reps_upd h.2⟩
  | [], _ :: _, h => h.elim
  | _ :: _, [], h => h.elim
theorem reps_snoc {K : PySem.W.Frag} {G : Hid} {H : Hp} : ∀ {vs : List V} {ds : List PyData} {v : V} {d : PyData}, Reps K G H vs ds → Rep K G H v d → Reps K G H (vs ++ [v]) (ds ++ [d])
  | [], [], _, _, _, h => ⟨h, trivial⟩
  | _ :: _, _ :: _, _, _, h, q => ⟨h.1, reps_snoc h.2 q⟩
  | [], _ :: _, _, _, h, _ => h.elim
  | _ :: _, [], _, _, h, _ => h.elim
theorem plains_snoc {ds : List PyData} {d : PyData} (h : plains ds = true) (q : plain d = true) : plains (ds ++ [d]) = true := by
  unfold plains at *
  rw [List.all_append, h]
  show (true && (plain d && true)) = true
  rw [q]
  rfl
theorem s_lc {wi : TI} {g : TG} {tt : TT} {te : TE} {vs : List Nat} {di : DI} {d : DG} {t : DT} {e : DE} (hi : SimI C wi di) (hgi : GIn g vs) (hg : SimG C.no g d) (ht : SimT C.no tt t) (he : SimE C.no te e) : SimE C (tLc wi g tt te vs) (dLc di d t e vs) := by
  intro G ρ Q E gp h σ H Q' jj rs k kx
  refine hi G ρ _ E gp h σ H _ jj rs (fun J H1 xs e1 j1 wk h1 => ?_) kx
  intro p np
  obtain ⟨hlen, h1⟩ := h1
  have nd : ¬ G.D p := fun z => G.live j1 z np
  have e0 : Ex G H1 (upd H1 p (.lst [])) := (Ex.new (o := .lst []) j1 np).1
  refine ⟨fun i m H' => ∃ (acc : List V) (ds : List PyData), m = xs.length - i ∧ i ≤ xs.length ∧ Ex G H1 H' ∧ (G.add p nd acc).J H' ∧ acc.length ≤ i ∧ Reps C.K (G.add p nd acc) H' acc ds ∧ plains ds = true ∧ lcL d t e (drps ρ vs) (fun ys => Q (.list ys)) (xs.drop i) ds,
    ⟨xs.length, [], [], by simp, Nat.zero_le _, e0, Hid.add_new j1 np, Nat.le_refl _, trivial, rfl, h1⟩, ?_⟩
  rintro i m H' ⟨acc, ds, rfl, hile, e2, j2, hal, ra, pl, h2⟩
  have gp' : C.no.GP (G.add p nd acc) := C.add G p nd acc gp
  have rs2 : RepS C.K (G.add p nd acc) H' (wipe σ vs) (drps ρ vs) := by
    refine ⟨by rw [drps_len, wipe_length]; exact rs.1, fun i d z => ?_⟩
    obtain ⟨v, x, y⟩ := ((rs.mono e1).wipe vs).2 i d z
    exact ⟨v, x, rep_in np e2 y⟩
  by_cases hlt : i < xs.length
  · have hd : xs.drop i = xs[i] :: xs.drop (i + 1) := List.drop_eq_getElem_cons hlt
    rw [hd] at h2
    obtain ⟨hgo, hy⟩ := (wk i H' e2 (Hid.add_J j2)).1 xs[i] (List.getElem?_eq_getElem hlt)
    refine .inr ⟨hgo, fun H3 => ∃ (acc : List V) (ds : List PyData), Ex G H1 H3 ∧ (G.add p nd acc).J H3 ∧ acc.length ≤ i + 1 ∧ Reps C.K (G.add p nd acc) H3 acc ds ∧ plains ds = true ∧ lcL d t e (drps ρ vs) (fun ys => Q (.list ys)) (xs.drop (i + 1)) ds, ?_, fun x H3 y => ?_⟩
    · rintro H3 ⟨acc, ds, e3, j3, hal3, ra3, pl3, h3⟩
      exact ⟨xs.length - (i + 1), by omega, acc, ds, rfl, hlt, e3, j3, hal3, ra3, pl3, h3⟩
    · obtain ⟨rfl, r3⟩ := hy x H3 y
      have r3' : Rep C.K (G.add p nd acc) H3 x xs[i] := rep_in np e2 r3
      refine hgi x σ H3 _ ?_
      refine hg (G.add p nd acc) (drps ρ vs) _ xs[i] gp' h2 x (wipe σ vs) H3 _ j2 rs2 r3' fun σ4 ρ4 rs4 hl4 h4 => ?_
      have grow : ∀ {H5 : Hp}, Ex (G.add p nd acc) H3 H5 → Ex G H1 H5 := fun {H5} e5 a o na ta ha => by
        have ne : a ≠ p := ne_of_none ha np
        exact e5 a o (fun z => z.elim na ne) ta (e2 a o na ta ha)
      refine ht (G.add p nd acc) ρ4 _ _ gp' h4 σ4 H3 _ j2 rs4 (fun b H5 e5 j5 h5 => ?_) (fun c H5 _ _ z => z.elim)
      cases b with
      | false => exact ⟨acc, ds, grow e5, j5, by omega, ra.mono e5, pl, h5⟩
      | true =>
        refine he (G.add p nd acc) ρ4 _ _ gp' h5 σ4 H5 _ j5 (rs4.mono e5) (fun v H6 z e6 j6 r6 h6 => ?_) (fun c H6 _ _ z => z.elim)
        have ra6 := (ra.mono e5).mono e6
        refine ⟨acc, j6.1, Nat.lt_of_le_of_lt (Nat.le_trans hal hile) (Nat.lt_of_le_of_lt hlen (by decide)), acc ++ [v], ds ++ [z], fun a o na ta ha => ?_, Hid.add_upd j6, ?_, reps_upd (reps_snoc ra6 r6), plains_snoc pl h6.1, h6.2⟩
        · have ne : a ≠ p := ne_of_none ha np
          rw [upd_ne ne]
          exact grow (e5.trans e6) a o na ta ha
        · rw [List.length_append]
          show acc.length + 1 ≤ i + 1
          omega
  · have hd : xs.drop i = [] := List.drop_eq_nil_of_le (by omega)
    rw [hd] at h2
    refine .inl ⟨(wk i H' e2 (Hid.add_J j2)).2 (by omega), ?_⟩
    exact k _ H' _ (e1.trans e2) (Hid.add_J j2) (.inl (.lst (vis_of nd nt_lst j2.1) ((reps_out ra).dp pl))) h2
end
end Tz

/-! Defs: from a body's derivation and its simulation to a promise by data; calls. -/
namespace Tz
open PySem PySem.Spec PyProof.Rows L2
/-- a def as it stands behind the top -/
def Def0 (K : PySem.W.Frag) (mg : Str → Option Value) (x : Str) (st : Stmt) : Prop := ∃ f fd, Fun K x x st f fd ∧ mg x = some (.ref f)
/-- a def that keeps its promise, ready to be called -/
def Dfn (P : Program) (w : World) (K : PySem.W.Frag) (mg : Str → Option Value) (base : Heap) (k : Nat) (x : Str) (ps : List Str) (sp : Sp) : Prop :=
  ∃ f fd, FnOk P w K mg base (L2N.CX P w) k f fd ps sp ∧ mg x = some (.ref f) ∧ PySem.W.keepIn K (.ref f) = true ∧ Binds K fd ps []
theorem pe_cl {X : Cx} {E : XK} {k : Nat} {x : Str} {ps : List Str} {sp : Sp} {e : Expr} {es : List Expr} {t : TA} {p pos : Pos} (D : Dfn X.prog X.w X.K X.mg X.base k x ps sp) (tk : L2N.Takes X (fun cls d _ H => E cls d H)) (hr : Room k X.A) (hg : Gl X x) (ha : PA X (e :: es) t)
    (hdb : (x == ("__debug__" : Str)) = false := by decide) (he : starEach (e :: es) X.env = (false, eval e X.env) :: starEach es X.env := by rfl) (hpl : (backTo pos (starEach es X.env)).any (·.1) = false := by rfl) :
    PE X (.Call (.Name x p) (e :: es) [] pos) (tCallS sp (fun _ => E) t) := by
  obtain ⟨f, fd, F, hm, hk, hb⟩ := D
  exact pe_callS F hr hg hm hk hb (fun σ => L2N.passAt tk σ) ha hdb he hpl
/-- the context of a body, its wish about errors -/
abbrev bcx (P : Program) (w : World) (K : PySem.W.Frag) (mg : Str → Option Value) (base : Heap) (N : List Str) (qual : Str) (scope : Scope) (f : Addr) (cd : Value) (A : Around) (outer : List Env) (s : Shared) (H : Hp) (E : XK) : Cx := cxOf (L2N.CX P w) P w K mg base N qual scope f cd A outer s H E
theorem bcx_takes {P : Program} {w : World} {K : PySem.W.Frag} {mg : Str → Option Value} {base : Heap} {N : List Str} {qual : Str} {scope : Scope} {f : Addr} {cd : Value} {A : Around} {outer : List Env} {s : Shared} {H : Hp} {E : XK} :
    L2N.Takes (bcx P w K mg base N qual scope f cd A outer s H E) (fun cls d _ H => E cls d H) := L2N.takes_of rfl rfl rfl rfl
theorem bcx_own {P : Program} {w : World} {K : PySem.W.Frag} {mg : Str → Option Value} {base : Heap} {N : List Str} {qual : Str} {scope : Scope} {f : Addr} {cd : Value} {A : Around} {outer : List Env} {s : Shared} {H : Hp} {E : XK} :
    PassesOwn (model (bcx P w K mg base N qual scope f cd A outer s H E).prog (bcx P w K mg base N qual scope f cd A outer s H E).w) (bcx P w K mg base N qual scope f cd A outer s H E).A (bcx P w K mg base N qual scope f cd A outer s H E).env (bcx P w K mg base N qual scope f cd A outer s H E).xe := passes_of rfl
/-- in a block nothing is let out -/
theorem blk_takes {X : Cx} : L2N.Takes X (fun cls d _ H => (fun _ _ _ => False : XK) cls d H) := fun _ _ x => by
  obtain ⟨_, _, _, _, _, _, _, _, _, _, _, _, _, _, _, _, z⟩ := x
  exact z.elim
/-- what a def's body does, as a transformer of its arguments -/
def dFn (n : Nat) (b : DS) : DF := fun ds Q E => b (startR n ds) (fun _ => Q .none) Q E
section
variable {P : Program} {w : World} {K : PySem.W.Frag} {mg : Str → Option Value} {base : Heap}
theorem fn_ok {x : Str} {st : Stmt} {f : Addr} {fd : FuncData} {N ps : List Str} {k n m : Nat} {ec : Nat → Addr} {GP : Hid → Prop} {hadd : ∀ (G : Hid) (p : Addr) (h : ¬ G.D p) (xs : List V), GP G → GP (G.add p h xs)} {t : XK → TS} {b : DS}
    (F : Fun K x x st f fd) (S : FnScope N ps (defScope st)) (hn : N.length = n) (hm : ps.length = m) (hle : m ≤ n)
    (der : ∀ (cdv : Value) (A : Around) (outer : List Env) (s : Shared) (H : Hp) (E : XK), Room k (A.deeper (envOfC x (defScope st) s.heap.objs.size f cdv)) → PSs (bcx P w K mg base N x (defScope st) f cdv A outer s H E) (defBody st) (t E))
    (sim : ∀ E : XK, SimS ⟨K, ec, GP, E, hadd⟩ (t E) b) : FnOk P w K mg base (L2N.CX P w) (k + 1) f fd ps (lift K ec GP m (dFn n b)) := by
  obtain ⟨oc, od, kV, doc, pm, an, cdv, ct, osl, rfl, lk, hcd⟩ := F.ex
  refine fn_of lk hcd S (fun vs H Q E h => ?_) (fun A outer s H vs Q E hr h => ?_)
  · obtain ⟨G, ds, Q0, E0, gp, j, r, hl, _⟩ := h
    rw [r.len, hl, hm]
  · obtain ⟨G, ds, Q0, E0, gp, j, r, hl, hf, kq, ke⟩ := h
    have hlen := r.len
    refine ⟨t E, der cdv A outer s H E hr, ?_⟩
    have rs : RepS K G H (L2.start N vs) (startR n ds) := by
      rw [← hn]
      exact RepS.start r (by omega)
    refine sim E G (startR n ds) (fun _ => Q0 .none) Q0 E0 gp hf (L2.start N vs) H _ j rs ⟨fun σ' H' r' e j' rs' hl' q => ?_, fun v H' x e j' rv q => kq v H' x e j' rv q⟩ fun c H' e j' h => ke c H' e j' h
    exact kq .non H' .none e j' (.inl .non) q
theorem dfn_of {x : Str} {st : Stmt} {N ps : List Str} {k n m : Nat} {ec : Nat → Addr} {GP : Hid → Prop} {hadd : ∀ (G : Hid) (p : Addr) (h : ¬ G.D p) (xs : List V), GP G → GP (G.add p h xs)} {t : XK → TS} {b : DS}
    (D : Def0 K mg x st) (S : FnScope N ps (defScope st)) (hn : N.length = n) (hm : ps.length = m) (hle : m ≤ n)
    (hb : ∀ (kV doc pm : Value) (an : Option Addr) (cdv ct : Value) (us : List Value), us.length = ps.length → bindArgs (PySem.W.fnOf x x (defArgs st) (defBody st) (defScope st) .none kV doc pm an cdv ct) ⟨us, []⟩ = pure (ps.zip us))
    (der : ∀ (f : Addr) (cdv : Value) (A : Around) (outer : List Env) (s : Shared) (H : Hp) (E : XK), Room k (A.deeper (envOfC x (defScope st) s.heap.objs.size f cdv)) → PSs (bcx P w K mg base N x (defScope st) f cdv A outer s H E) (defBody st) (t E))
    (sim : ∀ E : XK, SimS ⟨K, ec, GP, E, hadd⟩ (t E) b) : Dfn P w K mg base (k + 1) x ps (lift K ec GP m (dFn n b)) := by
  obtain ⟨f, fd, F, hg⟩ := D
  exact ⟨f, fd, fn_ok F S hn hm hle (der f) sim, hg, F.kp, F.binds hb⟩
end
/-- nothing is asked of what is hidden -/
abbrev GPany : Hid → Prop := fun _ => True
theorem addAny : ∀ (G : Hid) (p : Addr) (h : ¬ G.D p) (xs : List V), GPany G → GPany (G.add p h xs) := fun _ _ _ _ _ => trivial
abbrev GPr : Hid → Prop := Rolls
theorem addR : ∀ (G : Hid) (p : Addr) (h : ¬ G.D p) (xs : List V), GPr G → GPr (G.add p h xs) := fun G p h xs R => rolls_add G p h xs R
/-- a def whose promise is read by hand -/
theorem dfn_raw {P : Program} {w : World} {K : PySem.W.Frag} {mg : Str → Option Value} {base : Heap} {x : Str} {st : Stmt} {N ps : List Str} {k : Nat} {sp : Sp} {t : XK → TS}
    (D : Def0 K mg x st) (S : FnScope N ps (defScope st))
    (hb : ∀ (kV doc pm : Value) (an : Option Addr) (cdv ct : Value) (us : List Value), us.length = ps.length → bindArgs (PySem.W.fnOf x x (defArgs st) (defBody st) (defScope st) .none kV doc pm an cdv ct) ⟨us, []⟩ = pure (ps.zip us))
    (len : ∀ vs H Q E, sp vs H Q E → vs.length = ps.length)
    (der : ∀ (f : Addr) (cdv : Value) (A : Around) (outer : List Env) (s : Shared) (H : Hp) (E : XK), Room k (A.deeper (envOfC x (defScope st) s.heap.objs.size f cdv)) → PSs (bcx P w K mg base N x (defScope st) f cdv A outer s H E) (defBody st) (t E))
    (rd : ∀ vs H Q E, sp vs H Q E → t E { nx := fun _ H' => Q .non H', rt := Q } (L2.start N vs) H) : Dfn P w K mg base (k + 1) x ps sp := by
  obtain ⟨f, fd, F, hg⟩ := D
  have hbn := F.binds hb
  obtain ⟨oc, od, kV, doc, pm, an, cdv, ct, osl, rfl, lk, hcd⟩ := F.ex
  exact ⟨f, _, fn_of lk hcd S len fun A outer s H vs Q E hr h => ⟨t E, der f cdv A outer s H E hr, rd vs H Q E h⟩, hg, F.kp, hbn⟩
end Tz

/-! max, min of a tuple of ints; min of a list of texts. -/
namespace Tz
open PySem PySem.Spec PyProof.Rows L2
section
variable {prog : Program} {w : World} {A : Around} {E : Value → Shared → Prop} {s : Shared} {l : Addr}
theorem iter_anyTup {its : Array Value} {Q : Value → Shared → Prop} (hl : s.heap.IsTuple l its)
    (h : ∀ s₂ : Shared, s₂ = { s with heap := s.heap.push { cls := .type "tuple_iterator", data := .fields #[.ref l, .int 0 0] } } →
      (s₂.heap.IsTupleIter s.heap.objs.size l 0 ∧ s₂.heap.IsTuple l its) → (∀ b ∈ [s.heap.objs.size, l], b < s₂.heap.objs.size) → l ≠ s.heap.objs.size → Q (.ref s.heap.objs.size) s₂) :
    wpAny (model prog w) A (pyIter (.ref l)) Q E s := by
  have hlt : l < s.heap.objs.size := by obtain ⟨_, e, _⟩ := hl; exact Heap.lt_size e
  refine wpAny_pyIter_tuple hl (h _ rfl ⟨⟨_, Heap.get?_push_size _ rfl, rfl, rfl⟩, hl.push _⟩ (fun b hb => ?_) (Nat.ne_of_lt hlt))
  show b < (s.heap.push _).objs.size
  rw [Heap.size_push]
  rcases List.mem_cons.mp hb with rfl | hb
  · exact Nat.lt_succ_self _
  · rcases List.mem_cons.mp hb with rfl | hb
    · exact Nat.lt_succ_of_lt hlt
    · cases hb
theorem kept_push {o : Obj} {h' : Heap} (hk : ∀ b o', b ∉ [s.heap.objs.size] → (s.heap.push o).get? b = some o' → h'.get? b = some o') :
    ∀ b o', s.heap.get? b = some o' → h'.get? b = some o' := fun b o' e => by
  refine hk b o' (fun hm => ?_) (Heap.get?_push_of_some _ e)
  rcases List.mem_cons.mp hm with e1 | hm
  · exact absurd (e1 ▸ Heap.lt_size e) (Nat.lt_irrefl _)
  · cases hm
theorem max_rawT {its : List Value} {ns : List Int} {Q : Value → Shared → Prop} (hh : A.handled = none) (hl : s.heap.IsTuple l its.toArray) (hi : IntsAre its ns) (hne : 0 < ns.length)
    (h : ∀ h' tk M t', (∀ b o, s.heap.get? b = some o → h'.get? b = some o) → M ∈ ns → (∀ a, a ∈ ns → a ≤ M) → Q (.int M t') { s with heap := h', toks := tk }) : wpAny (model prog w) A (call (.builtin "max") [.ref l]) Q E s := by
  obtain ⟨xs, e⟩ := hi.allInts.items
  have hn : numsOf (intItems xs).toList = ns := by rw [← e]; exact hi.numsOf
  rw [nums_intItems] at hn
  subst hn
  rw [e] at hl
  have hsz : 0 < xs.size := by simpa using hne
  refine call_max_walk (iter_anyTup hl fun s₂ e st hfp hlI => ?_)
  subst e
  refine ⟨_, _, _, _, _, _, _, rfl, Walks.tuple (A := A.in1) hh _ l hlI (intItems xs), st, hfp, by simpa [intItems] using hsz, CmpOf.ints_gt (numAt xs) (fun _ _ => intItems_at), fun v h' tk hP hk => ?_⟩
  have hP : (intItems xs)[argBest (fun i j => decide (numAt xs i > numAt xs j)) (xs.size - 1)]? = some v := by simpa [intItems] using hP
  obtain ⟨t, rfl⟩ := intItems_at hP
  obtain ⟨h1, h2⟩ := argBest_gt (numAt xs) (xs.size - 1)
  refine h h' tk _ t (kept_push hk) ?_ fun a ha => ?_
  · rw [numAt_eq]; exact PySem.getD_mem (by rw [List.length_map, Array.length_toList]; omega)
  · obtain ⟨j, hj, rfl⟩ := mem_getD ha
    rw [List.length_map, Array.length_toList] at hj
    rw [← numAt_eq]; exact h2 j (by omega)
theorem min_rawT {its : List Value} {ns : List Int} {Q : Value → Shared → Prop} (hh : A.handled = none) (hl : s.heap.IsTuple l its.toArray) (hi : IntsAre its ns) (hne : 0 < ns.length)
    (h : ∀ h' tk M t', (∀ b o, s.heap.get? b = some o → h'.get? b = some o) → M ∈ ns → (∀ a, a ∈ ns → M ≤ a) → Q (.int M t') { s with heap := h', toks := tk }) : wpAny (model prog w) A (call (.builtin "min") [.ref l]) Q E s := by
  obtain ⟨xs, e⟩ := hi.allInts.items
  have hn : numsOf (intItems xs).toList = ns := by rw [← e]; exact hi.numsOf
  rw [nums_intItems] at hn
  subst hn
  rw [e] at hl
  have hsz : 0 < xs.size := by simpa using hne
  refine call_min_walk (iter_anyTup hl fun s₂ e st hfp hlI => ?_)
  subst e
  refine ⟨_, _, _, _, _, _, _, rfl, Walks.tuple (A := A.in1) hh _ l hlI (intItems xs), st, hfp, by simpa [intItems] using hsz, CmpOf.ints_lt (numAt xs) (fun _ _ => intItems_at), fun v h' tk hP hk => ?_⟩
  have hP : (intItems xs)[argBest (fun i j => decide (numAt xs i < numAt xs j)) (xs.size - 1)]? = some v := by simpa [intItems] using hP
  obtain ⟨t, rfl⟩ := intItems_at hP
  obtain ⟨h1, h2⟩ := argBest_lt (numAt xs) (xs.size - 1)
  refine h h' tk _ t (kept_push hk) ?_ fun a ha => ?_
  · rw [numAt_eq]; exact PySem.getD_mem (by rw [List.length_map, Array.length_toList]; omega)
  · obtain ⟨j, hj, rfl⟩ := mem_getD ha
    rw [List.length_map, Array.length_toList] at hj
    rw [← numAt_eq]; exact h2 j (by omega)
/-- the first of the least, by a strict order -/
theorem argBest_of {α : Type} (lt : α → α → Bool) (nl : ∀ a b c, lt a b = false → lt b c = false → lt a c = false) (asy : ∀ a b, lt a b = true → lt b a = false) (irr : ∀ a, lt a a = false) (val : Nat → α) : ∀ k, argBest (fun i j => lt (val i) (val j)) k ≤ k ∧ ∀ j, j ≤ k → lt (val j) (val (argBest (fun i j => lt (val i) (val j)) k)) = false
  | 0 => ⟨Nat.le_refl _, fun j hj => by
    have : j = 0 := by omega
    subst this
    exact irr _⟩
  | k + 1 => by
    obtain ⟨h1, h2⟩ := argBest_of lt nl asy irr val k
    simp only [argBest]
    by_cases hc : lt (val (k + 1)) (val (argBest (fun i j => lt (val i) (val j)) k)) = true
    · rw [if_pos hc]
      refine ⟨Nat.le_refl _, fun j hj => ?_⟩
      by_cases hj' : j = k + 1
      · subst hj'
        exact irr _
      · exact nl _ _ _ (h2 j (by omega)) (asy _ _ hc)
    · rw [if_neg hc]
      refine ⟨by omega, fun j hj => ?_⟩
      by_cases hj' : j = k + 1
      · subst hj'
        exact Bool.eq_false_iff.mpr hc
      · exact h2 j (by omega)
theorem cmp_strs {its : List Value} {ss : List Str} (hi : Vals (ss.map V.str) its) : CmpOf prog w A .Lt (fun i v => its.toArray[i]? = some v) (fun i j => decide ((ss.getD i default).cps.toList < (ss.getD j default).cps.toList)) := by
  intro i j vi vj s Q E h1 h2 q
  have get : ∀ (i : Nat) (v : Value), its.toArray[i]? = some v → ∃ t, v = .str (ss.getD i default) t := fun i v hv => by
    have hv : its[i]? = some v := by simpa using hv
    have hlen := hi.length
    rw [List.length_map] at hlen
    have hlt : i < its.length := (List.getElem?_eq_some_iff.mp hv).1
    have hy : ss[i]? = some (ss[i]'(by omega)) := List.getElem?_eq_getElem (by omega)
    obtain ⟨u, hu, ru⟩ := Vals.get (i := i) (x := V.str (ss[i]'(by omega))) hi (by rw [List.getElem?_map, hy]; rfl)
    rw [hv] at hu
    cases hu
    obtain ⟨t, rfl⟩ := ru
    refine ⟨t, ?_⟩
    rw [List.getD_eq_getElem?_getD, hy]
    rfl
  obtain ⟨t, rfl⟩ := get i vi h1
  obtain ⟨u, rfl⟩ := get j vj h2
  exact PyProof.Rows.lt_str q
theorem lt_nl (a b c : List Nat) (h1 : decide (a < b) = false) (h2 : decide (b < c) = false) : decide (a < c) = false := by
  have h1 : b ≤ a := of_decide_eq_false h1
  have h2 : c ≤ b := of_decide_eq_false h2
  exact decide_eq_false (show ¬ a < c from List.not_lt.mpr (List.le_trans h2 h1))
theorem min_rawS {its : List Value} {ss : List Str} {Q : Value → Shared → Prop} (hh : A.handled = none) (hl : s.heap.IsList l its.toArray) (hi : Vals (ss.map V.str) its) (hne : ss ≠ [])
    (h : ∀ h' tk m t', (∀ b o, s.heap.get? b = some o → h'.get? b = some o) → m ∈ ss → (∀ y ∈ ss, ¬ y.cps.toList < m.cps.toList) → Q (.str m t') { s with heap := h', toks := tk }) : wpAny (model prog w) A (call (.builtin "min") [.ref l]) Q E s := by
  have hlen := hi.length
  rw [List.length_map] at hlen
  have hpos := List.length_pos_iff.mpr hne
  refine call_min_walk (iter_anyList hl fun s₂ e st hfp hlI => ?_)
  subst e
  refine ⟨_, _, _, _, _, _, _, rfl, Walks.list (A := A.in1) hh _ l hlI its.toArray, st, hfp, by simp; omega, cmp_strs hi, fun v h' tk hP hk => ?_⟩
  obtain ⟨h1, h2⟩ := argBest_of (fun a b : List Nat => decide (a < b)) lt_nl (fun a b z => decide_eq_false (show ¬ b < a from List.not_lt.mpr (List.le_of_lt (of_decide_eq_true z)))) (fun a => decide_eq_false (List.lt_irrefl a)) (fun i => (ss.getD i default).cps.toList) (its.toArray.size - 1)
  have hsz : its.toArray.size = ss.length := by simp; omega
  rw [hsz] at h1 h2
  have hP : its.toArray[argBest (fun i j => decide ((ss.getD i default).cps.toList < (ss.getD j default).cps.toList)) (its.toArray.size - 1)]? = some v := hP
  rw [hsz] at hP
  generalize argBest (fun i j => decide ((ss.getD i default).cps.toList < (ss.getD j default).cps.toList)) (ss.length - 1) = b at h1 h2 hP
  have hb : b < ss.length := by omega
  have hv : its[b]? = some v := by simpa using hP
  have hy : ss[b]? = some (ss[b]'hb) := List.getElem?_eq_getElem hb
  obtain ⟨u, hu, ru⟩ := Vals.get (i := b) (x := V.str (ss[b]'hb)) hi (by rw [List.getElem?_map, hy]; rfl)
  rw [hv] at hu
  cases hu
  obtain ⟨t, rfl⟩ := ru
  refine h h' tk _ t (PySem.old_kept hk) (List.getElem_mem hb) fun y hy' => ?_
  obtain ⟨j, hj, rfl⟩ := List.getElem_of_mem hy'
  have := h2 j (by omega)
  rw [List.getD_eq_getElem?_getD, List.getD_eq_getElem?_getD, hy, List.getElem?_eq_getElem hj] at this
  exact of_decide_eq_false this
end
section
variable {X : Cx}
def rMaxT (K : PySem.W.Frag) : List V → Hp → VK → Prop := fun vs H Q => ∃ (a : Addr) (ns : List Int), vs = [V.ref a] ∧ SqT K H a (ns.map V.int) ∧ 0 < ns.length ∧ ∀ m, m ∈ ns → (∀ y, y ∈ ns → y ≤ m) → Q (.int m) H
def rMinT (K : PySem.W.Frag) : List V → Hp → VK → Prop := fun vs H Q => ∃ (a : Addr) (ns : List Int), vs = [V.ref a] ∧ SqT K H a (ns.map V.int) ∧ 0 < ns.length ∧ ∀ m, m ∈ ns → (∀ y, y ∈ ns → m ≤ y) → Q (.int m) H
def rMinS (K : PySem.W.Frag) : List V → Hp → VK → Prop := fun vs H Q => ∃ (a : Addr) (ss : List Str), vs = [V.ref a] ∧ SqL K H a (ss.map V.str) ∧ ss ≠ [] ∧ ∀ m, m ∈ ss → (∀ y ∈ ss, ¬ y.cps.toList < m.cps.toList) → Q (.str m) H
theorem cr_maxT (hc : X.calm = true) : CallR X (.builtin "max") (rMaxT X.K) := by
  intro pins s σ H vs us Q I r h
  obtain ⟨a, ns, rfl, hs, hne, q⟩ := h
  obtain ⟨its, rv, hl, _⟩ := I.tuple hs
  rw [Vals.ref1 r]
  exact max_rawT (I.ok.hd hc) (show s.heap.IsTuple a its.toArray from hl) rv.ints hne fun h' tk m t' hk h1 h2 => ⟨.int _, H, I.kept hk, ⟨_, rfl⟩, q m h1 h2⟩
theorem cr_minT (hc : X.calm = true) : CallR X (.builtin "min") (rMinT X.K) := by
  intro pins s σ H vs us Q I r h
  obtain ⟨a, ns, rfl, hs, hne, q⟩ := h
  obtain ⟨its, rv, hl, _⟩ := I.tuple hs
  rw [Vals.ref1 r]
  exact min_rawT (I.ok.hd hc) (show s.heap.IsTuple a its.toArray from hl) rv.ints hne fun h' tk m t' hk h1 h2 => ⟨.int _, H, I.kept hk, ⟨_, rfl⟩, q m h1 h2⟩
theorem cr_minS (hc : X.calm = true) : CallR X (.builtin "min") (rMinS X.K) := by
  intro pins s σ H vs us Q I r h
  obtain ⟨a, ss, rfl, hs, hne, q⟩ := h
  obtain ⟨its, rv, hl, _⟩ := I.list hs
  rw [Vals.ref1 r]
  exact min_rawS (I.ok.hd hc) hl.isList rv hne fun h' tk m t' hk h1 h2 => ⟨.str _, H, I.kept hk, ⟨_, rfl⟩, q m h1 h2⟩
theorem cr_or {f : Value} {r r' : List V → Hp → VK → Prop} (h1 : CallR X f r) (h2 : CallR X f r') : CallR X f (fun vs H Q => r vs H Q ∨ r' vs H Q) := by
  intro pins s σ H vs us Q I rr h
  rcases h with h | h
  · exact h1 pins s σ H vs us Q I rr h
  · exact h2 pins s σ H vs us Q I rr h
end
section
variable {C : Cn}
def rMaxU (K : PySem.W.Frag) : List V → Hp → VK → Prop := fun vs H Q => rMax K vs H Q ∨ rMaxT K vs H Q
def rMinU (K : PySem.W.Frag) : List V → Hp → VK → Prop := fun vs H Q => rMinS K vs H Q ∨ rMinT K vs H Q
def oMaxU : List PyData → (PyData → Prop) → Prop := fun ds Q => match ds with
  | [.list xs] => onS (asInts xs) fun ns => ns ≠ [] ∧ ∀ m, m ∈ ns → (∀ y, y ∈ ns → y ≤ m) → Q (.int m)
  | [.tuple xs] => onS (asInts xs) fun ns => ns ≠ [] ∧ ∀ m, m ∈ ns → (∀ y, y ∈ ns → y ≤ m) → Q (.int m)
  | _ => False
def oMinU : List PyData → (PyData → Prop) → Prop := fun ds Q => match ds with
  | [.list xs] => onS (asStrs xs) fun ss => ss ≠ [] ∧ ∀ m, m ∈ ss → (∀ y ∈ ss, ¬ y.cps.toList < m.cps.toList) → Q (.str m)
  | [.tuple xs] => onS (asInts xs) fun ns => ns ≠ [] ∧ ∀ m, m ∈ ns → (∀ y, y ∈ ns → m ≤ y) → Q (.int m)
  | _ => False
theorem cr_maxU {X : Cx} (hc : X.calm = true) : CallR X (.builtin "max") (rMaxU X.K) := cr_or (cr_max hc) (cr_maxT hc)
theorem cr_minU {X : Cx} (hc : X.calm = true) : CallR X (.builtin "min") (rMinU X.K) := cr_or (cr_minS hc) (cr_minT hc)
theorem s_maxU : SimC C (rMaxU C.K) oMaxU := by
  intro G xs ds Q H Q' gp j r h k
  match ds, r, h with
  | [.list ys], r, h => exact .inl (s_max G xs [.list ys] Q H Q' gp j r h k)
  | [.tuple ys], r, h =>
    obtain ⟨v, rfl, rv⟩ := reps1 r
    obtain ⟨p, zs, rfl, hp, _, hd⟩ := rep_tup rv
    obtain ⟨ns, e, hn, q⟩ := onS_some h
    refine .inr ⟨p, ns, rfl, ?_, List.length_pos_iff.mpr hn, fun m h1 h2 => k _ H _ (Ex.refl G H) j (.inl (.int _)) (q m h1 h2)⟩
    rw [← ints_dq hd e]
    exact hp
theorem s_minU : SimC C (rMinU C.K) oMinU := by
  intro G xs ds Q H Q' gp j r h k
  match ds, r, h with
  | [.list ys], r, h =>
    obtain ⟨v, rfl, rv⟩ := reps1 r
    obtain ⟨p, zs, rfl, hp, _, hd⟩ := rep_lst rv
    obtain ⟨ns, e, hn, q⟩ := onS_some h
    refine .inl ⟨p, ns, rfl, ?_, hn, fun m h1 h2 => k _ H _ (Ex.refl G H) j (.inl (.str _)) (q m h1 h2)⟩
    rw [← strs_dq hd e]
    exact SqL.of hp
  | [.tuple ys], r, h =>
    obtain ⟨v, rfl, rv⟩ := reps1 r
    obtain ⟨p, zs, rfl, hp, _, hd⟩ := rep_tup rv
    obtain ⟨ns, e, hn, q⟩ := onS_some h
    refine .inr ⟨p, ns, rfl, ?_, List.length_pos_iff.mpr hn, fun m h1 h2 => k _ H _ (Ex.refl G H) j (.inl (.int _)) (q m h1 h2)⟩
    rw [← ints_dq hd e]
    exact hp
end
end Tz

/-! What the generated derivations use besides. -/
namespace Tz
open PySem PySem.Spec PyProof.Rows L2
theorem room65 {k : Nat} {A : Around} (r : Room k A) : A.units + 65 < cLine := by have := r.un; omega
theorem s_yes {C : Cn} : SimT C tYes dYes := by
  intro G ρ Q E gp h σ H Q' j rs k kx
  exact k true H (Ex.refl G H) j h
/-- the module's constants: where they stand -/
structure Ga where
  un : Addr
  le : Addr
  w : World
abbrev dUNIT : PyData := .tuple [.int 1, .int 0, .int 0, .int 1]
structure GaOk (K : PySem.W.Frag) (A : Ga) : Prop where
  un : ∀ H : Hp, Dq K H (.ref A.un) dUNIT
/-- the built-ins' names are free -/
structure Blt (mg : Str → Option Value) : Prop where
  len : mg "len" = none
  abs : mg "abs" = none
  max : mg "max" = none
  min : mg "min" = none
  all : mg "all" = none
  sum : mg "sum" = none
  tuple : mg "tuple" = none
  list : mg "list" = none
  str : mg "str" = none
  int : mg "int" = none
  bool : mg "bool" = none
  isinstance : mg "isinstance" = none
  range : mg "range" = none
  sorted : mg "sorted" = none
  set : mg "set" = none
/-- an error class of the program -/
structure ExF (K : PySem.W.Frag) (mg : Str → Option Value) (x : Str) (C : Addr) : Prop where
  gP : mg x = some (.ref C)
  xP : PySem.W.excIn K C [.type "ValueError", .type "Exception", .type "BaseException", .type "object"] "ValueError.__new__" = true
  kP : PySem.W.keepIn K (.ref C) = true
  bP : PySem.W.subIn K (.ref C) (.type "BaseException") = some true
  tP : PySem.W.typeIn K (.ref C) = some (.type "type")
abbrev rIntUU := rIntU
abbrev oIntU := oInt
theorem call_intU {X : Cx} : CallR X (.type "int") rIntUU := call_int1
theorem s_intU {C : Cn} : SimC C rIntUU oIntU := s_intB
end Tz

/-! While an exception is handled: a list walked to its end, sum, a comprehension of int(x), isinstance of the error. -/
namespace Tz
open PySem PySem.Spec PyProof.Rows L2 HotX
section
variable {prog : Program} {w : World} {A : Around} {E : Value → Shared → Prop} {s : Shared}
theorem next_end_hot {it l x1 : Addr} {i : Nat} {items : Array Value} {Q : Option Value → Shared → Prop} (hot : HotAt A x1 s.heap) (ne : x1 ≠ it) (hit : s.heap.IsListIter it l i) (hl : s.heap.IsList l items) (hx : items[i]? = none)
    (hQ : ∀ h', Heap.ExtBut it s.heap h' → Q none { s with heap := h' }) : wpAny (model prog w) A (pyNext (.ref it)) Q E s := by
  obtain ⟨o, ho, hc, hd⟩ := id hit
  obtain ⟨ol, hol, _, nl, hdl⟩ := hl
  obtain ⟨hh, o1, vs1, h1, d1, c1⟩ := hot
  unfold pyNext
  refine wpAny_bind (wpAny_attempt (wpAny_callSpecial?_slot (name := Str.ofString "__next__") hit.typeIs slot_listiter_next (wpAny_call_entry slot_listiter_next hit.typeIs entry_listiter_next ?_ (args_listiter_next _))))
  show wpAny _ _ (field (.ref it) 0 >>= _) _ _ s
  refine wpAny_bind (wpAny_field ho hd (x := .ref l) rfl ?_)
  show wpAny _ _ (if (Value.ref l == Value.none) = true then _ else _) _ _ s
  rw [if_neg (show ¬ ((Value.ref l == Value.none) = true) from Bool.false_ne_true)]
  show wpAny _ _ (field (.ref it) 1 >>= _) _ _ s
  refine wpAny_bind (wpAny_field ho hd (x := .int i 0) rfl ?_)
  show wpAny _ _ (seqItems? (.ref l) >>= _) _ _ s
  refine wpAny_bind (wpAny_seqItems hol hdl ?_)
  simp only [Int.toNat_natCast, hx]
  refine wpAny_bind (wpAny_rule (wpAny_bind (wpAny_setField ho hd (by simp) ?_)))
  show wpAny _ _ (newExc (.type "StopIteration") [] >>= _) _ _ _
  refine wpAny_bind ?_
  simp only [newExc, newTuple]
  refine wpAny_bind (wpAny_newObj_type ?_ (by size_fits))
  refine wpAny_bind (m := firstArgMember _ _) (wpAny_of_eq (a := Value.none) (by first | rfl | (simp only [firstArgMember]; rfl)) ?_)
  refine wpAny_newObj_type ?_ (by size_fits)
  have k1 : ∀ b ob, b ≠ it → s.heap.get? b = some ob → (s.heap.update it (Obj.mapFields (·.setIfInBounds 0 .none))).get? b = some ob := fun b ob nb e => (Heap.get?_update_other _ _ (Ne.symm nb)).trans e
  have g1 := Heap.get?_push_of_some { cls := .type "tuple", data := .seq ([] : List Value).toArray } (k1 x1 o1 ne h1)
  refine raiseNew_hot ⟨hh, o1, vs1, Heap.get?_push_of_some _ g1, d1, c1⟩ (Nat.ne_of_lt (Heap.lt_size g1)) (Heap.get?_push_size _ rfl) rfl (by first | (simp; done) | (simp; omega)) ?_
  refine wpAny_bind (wpAny_isInstance (T := "StopIteration") (b := true) ⟨_, Heap.get?_update_self _ (Heap.get?_push_size _ rfl) rfl, rfl⟩ isSubtype_stop ?_)
  refine wpAny_pure (hQ _ fun b ob nb e => ?_)
  have g2 := Heap.get?_push_of_some { cls := .type "tuple", data := .seq ([] : List Value).toArray } (k1 b ob nb e)
  rw [Heap.get?_update_other _ _ (Nat.ne_of_gt (Heap.lt_size g2))]
  exact Heap.get?_push_of_some _ g2
/-- the heap bears the handled exception -/
def HotH (A : Around) (x1 : Addr) (h : Heap) : Prop := HotAt A x1 h
theorem hotKeeps {x1 : Addr} {h h' : Heap} (x : HotAt A x1 h) (k : ∀ o, h.get? x1 = some o → h'.get? x1 = some o) : HotAt A x1 h' := by
  obtain ⟨a, o, vs, b, c, d⟩ := x
  exact ⟨a, o, vs, k o b, c, d⟩
theorem walk_hot {I l x1 : Addr} (hA : A.handled = some (.ref x1)) (hne : l ≠ I) (hx : x1 ≠ I) (items : Array Value) :
    Walks prog w A I [I, l, x1] [I] items.size (fun i v => items[i]? = some v) (fun i h => h.IsListIter I l i ∧ h.IsList l items ∧ HotAt A x1 h) where
  sub := fun b hb => by
    rw [List.mem_singleton] at hb
    rw [hb]
    exact List.mem_cons_self
  frame := fun i h h' st hk => ⟨st.1.at fun o e => hk I (by simp) o e, st.2.1.at fun o e => hk l (by simp) o e, hotKeeps st.2.2 fun o e => hk x1 (by simp) o e⟩
  item := fun i s Q E hi st hQ => by
    refine wpAny_pyNext_list_item st.1 st.2.1 (x := items[i]) (by simp [hi]) ?_
    intro h' hit' hs'
    refine hQ _ h' s.toks (by simp [hi]) ⟨hit', st.2.1.extBut hs'.extBut hne, hotKeeps st.2.2 fun o e => hs'.extBut x1 o hx e⟩ ?_
    intro b o hb e
    exact hs'.extBut b o (fun h => hb (by simp [h])) e
  done := fun s Q E st hQ => next_end_hot st.2.2 hx st.1 st.2.1 (by simp) fun h' he' => hQ h' s.toks fun b o hb e => he' b o (fun h => hb (by simp [h])) e
  self := fun _ _ _ _ st hQ => wpAny_pyIter_listiter st.1 hQ
end
/-- sum of a list of ints while an exception is handled -/
theorem cr_sumH {X : Cx} (hc : L2H.HotC X) : CallR X (.builtin "sum") (rSum X.K) := by
  intro pins s σ H vs us Q I r h
  obtain ⟨a, ns, rfl, hs, q⟩ := h
  obtain ⟨its, rv, hl, _⟩ := I.list hs
  obtain ⟨p, ⟨hh, ve, e1, c1⟩, hp⟩ := hc
  have hget := (I.pin p (List.mem_append_left _ hp)).1
  have hi : IntsAre its ns := rv.ints
  rw [Vals.ref1 r]
  refine call_sum_walkAnyS (iter_any hl.isList fun s₂ e2 st hne => ?_)
  subst e2
  have hpl : p.1 < s.heap.objs.size := Heap.lt_size hget
  have hlt : a < s.heap.objs.size := by
    obtain ⟨ol, hol, _⟩ := hl.isList
    exact Heap.lt_size hol
  have W := Walks.toS (walk_hot (prog := X.prog) (w := X.w) (A := X.A.in1) (I := s.heap.objs.size) (l := a) (x1 := p.1) hh hne (Nat.ne_of_lt hpl) its.toArray)
  refine ⟨_, _, _, _, _, _, _, fun i => ns.getD i 0, rfl, W, ⟨st.1, st.2, hh, p.2, ve, Heap.get?_push_of_some _ hget, e1, c1⟩, fun b hb => ?_, fun i v hv => ?_, fun s' t' mv => ?_⟩
  · show b < (s.heap.push _).objs.size
    rw [Heap.size_push]
    rcases List.mem_cons.mp hb with rfl | hb
    · exact Nat.lt_succ_self _
    · rcases List.mem_cons.mp hb with rfl | hb
      · exact Nat.lt_succ_of_lt hlt
      · rw [List.mem_singleton] at hb
        subst hb
        exact Nat.lt_succ_of_lt hpl
  · have hv' : its[i]? = some v := by simpa using hv
    obtain ⟨n, t, rfl, hn⟩ := hi.at i v hv'
    exact ⟨t, by show Value.int n t = Value.int (ns.getD i 0) t; rw [List.getD_eq_getElem?_getD, hn]; rfl⟩
  · have hsum : ∀ j, preSum (fun i => ns.getD i 0) j = (ns.take j).sum := by
      intro j
      induction j with
      | zero => rfl
      | succ j ih =>
        show preSum (fun i => ns.getD i 0) j + ns.getD j 0 = _
        rw [ih]
        cases hj : ns[j]? with
        | some z => rw [sum_take hj, List.getD_eq_getElem?_getD, hj]; rfl
        | none =>
          have hle := List.getElem?_eq_none_iff.mp hj
          rw [List.getD_eq_getElem?_getD, hj, List.take_of_length_le hle, List.take_of_length_le (Nat.le_succ_of_le hle)]
          exact Int.add_zero _
    have hlen : its.toArray.size = ns.length := by rw [List.size_toArray]; exact hi.length
    rw [hsum, hlen, List.take_length]
    obtain ⟨h', g', d', tk', os'⟩ := s'
    obtain ⟨k1, k2, k3, k4, _⟩ := mv
    dsimp only at k1 k2 k3 k4
    subst k2 k3 k4
    refine ⟨.int ns.sum, H, I.kept (h' := h') (t' := tk') fun b o e => ?_, ⟨_, rfl⟩, q⟩
    refine k1 b o (fun z => ?_) (Heap.get?_push_of_some _ e)
    rw [List.mem_singleton] at z
    exact absurd (Heap.lt_size e) (by rw [z]; exact Nat.lt_irrefl _)
/-- a new object at an address that bears none -/
theorem inv_laid' {X : Cx} {pins : List (Addr × Obj)} {σ : L2.St} {H : Hp} {s : Shared} {h' : Heap} {a : Addr} {o : HO} {t' : Nat} (I : Inv X pins σ H s) (k : ∀ b u, s.heap.get? b = some u → h'.get? b = some u) (hp : s.heap.get? a = none) (new : ObjOk X.prog X.w (upd H a o) h' a o) :
    Inv X pins σ (upd H a o) { s with heap := h', toks := t' } := by
  have hn : H a = none := I.hok.gone hp
  have nb : ∀ b u, s.heap.get? b = some u → b ≠ a := fun b u e z => by
    rw [z, hp] at e
    cases e
  refine I.un ⟨fun b u e _ _ _ => k b u e, fun b u e _ _ _ => ⟨u.slots, k b u e⟩, fun b u e n _ => by rw [upd_ne (nb b u e)]; exact n, fun b u e _ => ⟨u, k b u e⟩, fun b xs e => by rw [upd_ne (ne_of_none e hn)]; exact e,
    fun b ob u e => by rw [upd_ne (ne_of_none e hn)]; exact e, fun b ps e => ⟨#[], by rw [upd_ne (ne_of_none e hn), e]; simp⟩⟩ fun b u e => ?_
  by_cases hb : b = a
  · subst hb
    rw [upd_same] at e
    cases e
    exact new
  · rw [upd_ne hb] at e
    exact (I.hok b u e).stay (fun c v _ q => k c v q) (fun c q => by rw [upd_ne (ne_of_none q hn)]; exact q) fun c xs q => by rw [upd_ne (ne_of_none q hn)]; exact q
/-- [int(x) for x in ys], ys a list of bools in slot i, while an exception is handled -/
def tLcInt (i : Nat) : TE := fun σ H Q => ∃ (a : Addr) (bs : List Bool), σ[i]? = some (some (.ref a)) ∧ H a = some (.lst (bs.map V.bl)) ∧ ∀ D, H D = none → Q (.ref D) (upd H D (.lst (bs.map fun b => V.int (if b then 1 else 0))))
theorem pe_lcInt {X : Cx} {i : Nat} {y x : Str} {scope : Scope} {px py p1 p2 p3 pos : Pos} (hc : L2H.HotC X) (hN : X.N[i]? = some y) (hv : Vis X.env.scope y) (hm : X.mg "int" = none)
    (hk : scope.kind = .function) (hfree : ∀ z ∈ scope.names, z.2 ≠ .free) (hcell : ∀ z ∈ scope.names, z.2 ≠ .cell) (hnames : ∀ z ∈ scope.names, z.2 = .local → scope.names.lookup z.1 = some .local) (hx : scope.names.lookup x = some .local) (hint : scope.names.lookup ("int" : Str) = some .globalImplicit)
    (hdx : (x == ("__debug__" : Str)) = false := by decide) (hdy : (y == ("__debug__" : Str)) = false := by decide) (hcy : (y == ("__classdict__" : Str)) = false := by decide) :
    PE X (.ListComp (.Call (.Name "int" p1) [.Name x p2] [] p3) [⟨.Name x px, .Name y py, [], 0⟩] scope pos) (tLcInt i) := by
  constructor
  intro pins s σ H Q I h
  obtain ⟨a, bs, ha, hH, q⟩ := h
  refine wpAny_ListComp_walk (fun _ => true) (fun v z => ∃ (b : Bool) (t : Tok), v = .bool b ∧ z = .int (if b then 1 else 0) t) hfree hcell hk hnames hx ?_
  refine thn ((pe_var (pos := py) (i := i) hN hv hdy hcy).run pins s σ H (fun v H1 => v = .ref a ∧ H1 = H) I ⟨.ref a, ha, rfl, rfl⟩) ?_
  rintro u s1 ⟨v, H1, I1, r1, rfl, rfl⟩
  obtain rfl : u = Value.ref a := r1
  obtain ⟨its, rv, hl, hz⟩ := I1.list (SqL.of hH)
  obtain ⟨p, ⟨hh, ve, e1, c1⟩, hp⟩ := hc
  have hget := (I1.pin p (List.mem_append_left _ hp)).1
  have hpl : p.1 < s1.heap.objs.size := Heap.lt_size hget
  have hlt : a < s1.heap.objs.size := by
    obtain ⟨ol, hol, _⟩ := hl.isList
    exact Heap.lt_size hol
  have hits : its = bs.map Value.bool := rv.bls
  refine iter_any hl.isList fun s2 e2 st hne => ?_
  subst e2
  refine ⟨_, _, _, _, _, _, rfl, walk_hot (prog := X.prog) (w := X.w) (A := X.A) (I := s1.heap.objs.size) (l := a) (x1 := p.1) hh hne (Nat.ne_of_lt hpl) its.toArray, ?_, ⟨st.1, st.2, hh, p.2, ve, Heap.get?_push_of_some _ hget, e1, c1⟩, fun b hb => ?_, ?_, ?_⟩
  · rw [List.size_toArray, ← rv.length]
    exact hz
  · show b < (s1.heap.push _).objs.size
    rw [Heap.size_push]
    rcases List.mem_cons.mp hb with rfl | hb
    · exact Nat.lt_succ_self _
    · rcases List.mem_cons.mp hb with rfl | hb
      · exact Nat.lt_succ_of_lt hlt
      · rw [List.mem_singleton] at hb
        subst hb
        exact Nat.lt_succ_of_lt hpl
  · refine ⟨fun C j v s3 m3 E' hv hn hm' hkp htk => ?_, fun C j v s3 m3 E' hv _ hn hm' hkp htk => ?_⟩
    · exact wpAny_pure ⟨rfl, s3.heap, s3.toks, rfl, fun _ _ e => e⟩
    · have hv' : (bs.map Value.bool)[j]? = some v := by
        rw [← hits]
        simpa using hv
      rw [List.getElem?_map] at hv'
      obtain ⟨b, hb, rfl⟩ := Option.map_eq_some_iff.mp hv'
      have up : ∀ c o, X.base.get? c = some o → s3.heap.get? c = some o := fun c o e => by
        refine hkp c o (fun z => ?_) (Heap.get?_push_of_some _ (I1.bk c o e))
        rw [List.mem_singleton] at z
        exact absurd (Heap.lt_size (I1.bk c o e)) (by rw [z]; exact Nat.lt_irrefl _)
      obtain ⟨mb, g1, g2⟩ := I1.mod.blt
      refine wpAny_Call_Name_kw (Calls.Name_function_global hk hint (Calls.loadGlobal_builtin (by show s3.heap.Ns X.env.globals _; rw [I1.ok.glob]; exact I1.mod.glob.keeps up) hm (by show s3.heap.Ns X.env.builtins _; rw [I1.ok.blt]; exact g1.keeps up) ((g2 "int" (by decide)).trans (by decide +kernel : bootBuiltins "int" = some (.type "int"))) ?_) (by decide))
      refine PyProof.Rows.callWith_type1 ?_ rfl rfl
      show wpAny _ _ (spliced ((false, eval (.Name x p2) (compEnv scope C X.env)) :: backTo p3 (starEach [] (compEnv scope C X.env)))) _ _ _
      refine Calls.spliced_cons (wpAny_Name (wpAny_loadName_local hk hx hn hm' (Calls.spliced_nil ?_)) hdx)
      exact call_int_bool ⟨⟨b, _, rfl, rfl⟩, s3.heap, _, rfl, fun _ _ e => e⟩
  · intro D h' tk ys vs hD hlD hplD hlen hP hF hkp
    have hD1 : s1.heap.get? D = none := by
      cases e : s1.heap.get? D with
      | none => rfl
      | some o =>
        have z := Heap.get?_push_of_some { cls := .type "list_iterator", data := .fields #[.ref a, .int 0 0] } e
        exact absurd (z.symm.trans hD) (by simp)
    have hfresh : H1 D = none := I1.hok.gone hD1
    have up : ∀ c o, s1.heap.get? c = some o → h'.get? c = some o := fun c o e => by
      refine hkp c o (fun z => ?_) (Heap.get?_push_of_some _ e)
      rw [List.mem_singleton] at z
      exact absurd (Heap.lt_size e) (by rw [z]; exact Nat.lt_irrefl _)
    obtain ⟨n0, hpl0⟩ := hplD
    have hvs : vs = bs.map Value.bool := by
      refine List.ext_getElem? fun j => ?_
      cases e : vs[j]? with
      | none =>
        have h1 := List.getElem?_eq_none_iff.mp e
        symm
        refine List.getElem?_eq_none_iff.mpr ?_
        rw [← hits]
        have h2 := hlen
        rw [List.size_toArray] at h2
        omega
      | some v =>
        have h1 := hP j v e
        rw [← hits]
        have h2 : its[j]? = some v := by simpa using h1
        exact h2.symm
    have hvals : Vals (bs.map fun b => V.int (if b then 1 else 0)) ys.toList := by
      have hF' : Paired (fun v z => ∃ (b : Bool) (t : Tok), v = .bool b ∧ z = .int (if b then 1 else 0) t) (bs.map Value.bool) ys.toList := by
        rw [← hvs]
        have ef : vs.filter (fun _ => true) = vs := List.filter_eq_self.mpr fun _ _ => rfl
        rw [ef] at hF
        exact hF
      generalize ys.toList = zs at hF'
      clear hvs hP hlen hits rv hH q
      induction bs generalizing zs with
      | nil =>
        cases hF'
        exact .nil
      | cons b bs ih =>
        cases hF' with
        | cons x y =>
          obtain ⟨b', t, e1, e2⟩ := x
          cases e1
          exact .cons ⟨t, e2⟩ (ih (by rw [List.length_map] at *; exact Nat.le_of_succ_le hz) (zs := _) y)
    have hlb : (bs.map fun b => V.int (if b then 1 else 0)).length ≤ sizeLine := by
      rw [List.length_map]
      rw [List.length_map] at hz
      exact hz
    have new : ObjOk X.prog X.w (upd H1 D (.lst (bs.map fun b => V.int (if b then 1 else 0)))) h' D (.lst (bs.map fun b => V.int (if b then 1 else 0))) := by
      refine ⟨hlb, ys.toList, n0, hvals, ?_⟩
      rw [Array.toArray_toList]
      exact hpl0
    have J := inv_laid' (t' := tk) I1 up hD1 new
    exact ⟨.ref D, _, J, rfl, q D hfresh⟩
end Tz

/-! A lambda handed to a def that calls it and tells its error. -/
namespace Tz
open PySem PySem.Spec PyProof.Rows L2 HotX
/-! ### isinstance of the error that is handled -/
def rIsX (K : PySem.W.Frag) (a D : Addr) : List V → Hp → VK → Prop := fun xs H Q => ∃ (c : V) (cv : Value) (b : Bool), xs = [.ref a, c] ∧ ClsV c cv ∧ PySem.W.kitOne K (.ref D) cv = some b ∧ Q (.bl b) H
theorem call_isX {X : Cx} {a D : Addr} {oe : Obj} (hp : (a, oe) ∈ X.pn) (C : ExcC X.K D) (hz : Zc (.ref D) none oe) (hf : ∃ vs, oe.data = .fields vs) : CallR X (.builtin "isinstance") (rIsX X.K a D) := by
  intro pins s σ H xs us Q I r h
  obtain ⟨c, cv, b, rfl, hcv, e, q⟩ := h
  obtain ⟨u1, u2, rfl, r1, r2⟩ := vals2 r
  have ec := hcv.eq r2
  subst ec
  obtain rfl : u1 = Value.ref a := r1
  have hget := (I.pin (a, oe) (List.mem_append_left _ hp)).1
  obtain ⟨vs, hv⟩ := hf
  have J : PySem.W.InstAt s.heap a oe D none := by
    obtain ⟨oc, od, oda, osl⟩ := oe
    obtain ⟨z1, z2⟩ := hz
    dsimp only at z1 z2 hv
    subst z1 z2 hv
    exact ⟨hget, rfl, rfl, trivial⟩
  refine PySem.W.kia_one (PySem.W.handS_kitx_exc C.hg C.hk C.hs C.hd C.ha C.hn C.ht C.hm) I.kIn J e (fun z => nomatch z) ?_
  intro tk
  exact ⟨.bl b, H, I.kept (t' := tk) fun _ _ z => z, rfl, q⟩
def tIsX (K : PySem.W.Frag) (a D : Addr) (c : V) : TE := tCB (rIsX K a D) (tCons (tVar 0) (tCons (tC c) tNil))
def dIsX (b : Bool) : DE := fun r Q _ => look r 0 = some dice ∧ Q (.bool b)
theorem s_isX {C : Cn} {a D : Addr} {c : V} {cv : Value} {b : Bool} (hD : ∀ G, C.GP G → ∀ v, G.isDice v → v = .ref a) (hc : ClsV c cv) (hk : PySem.W.kitOne C.K (.ref D) cv = some b) : SimE C (tIsX C.K a D c) (dIsX b) := by
  intro G ρ Q E gp h σ H Q' j rs k kx
  obtain ⟨v, e, r⟩ := rs.2 0 _ h.1
  have hv : v = .ref a := by
    rcases r with r | r
    · cases r
    · exact hD G gp v r.2
  subst hv
  exact ⟨_, e, c, cv, b, rfl, hc, hk, k _ H _ (Ex.refl G H) j (.inl (.bl _)) h.2⟩
def dLcInt (i : Nat) : DE := fun r Q _ => onS (look r i) fun x => match x with
  | .list ds => onS (asBools ds) fun bs => Q (.list (bs.map fun b => .int (if b then 1 else 0)))
  | _ => False
theorem ints_reps {K : PySem.W.Frag} {G : Hid} {H : Hp} (f : Bool → Int) : ∀ bs : List Bool, Reps K G H (bs.map fun b => V.int (f b)) (bs.map fun b => PyData.int (f b)) ∧ plains (bs.map fun b => PyData.int (f b)) = true
  | [] => ⟨trivial, rfl⟩
  | y :: ys => ⟨⟨.inl (.int _), (ints_reps f ys).1⟩, (ints_reps (K := K) (G := G) (H := H) f ys).2⟩
theorem s_lcInt {C : Cn} {i : Nat} : SimE C (tLcInt i) (dLcInt i) := by
  intro G ρ Q E gp h σ H Q' j rs k kx
  obtain ⟨d, e, h⟩ := onS_some h
  obtain ⟨v, ev, r⟩ := rs.2 i d e
  match d, r, h with
  | .list ds, r, h =>
    obtain ⟨p, xs, rfl, hp, _, hd⟩ := rep_lst r
    obtain ⟨bs, eb, q⟩ := onS_some h
    refine ⟨p, bs, ev, by rw [← bools_dq hd eb]; exact hp, fun D nD => ?_⟩
    obtain ⟨r1, r2⟩ := ints_reps (K := C.K) (G := G) (H := H) (fun b => if b then 1 else 0) bs
    obtain ⟨e1, j1, r3⟩ := new_lst (C := C) j nD r1 r2
    exact k _ _ _ e1 j1 r3 q
/-- xs.index(True) of a list of bools -/
def dIdxT (a : DE) : DE := fun r Q E => a r (fun x => match x with
  | .list ds => onS (asBools ds) fun bs => onS (bs.findIdx? id) fun (j : Nat) => Q (.int (j : Int))
  | _ => False) E
theorem s_idxT {C : Cn} {ta : TE} {a : DE} (ha : SimE C ta a) : SimE C (tBM C.K "list" (rIndex C.K) ta (tCons (tC (.bl true)) tNil)) (dIdxT a) := by
  intro G ρ Q E gp h σ H Q' j rs k kx
  refine ha G ρ _ E gp h σ H _ j rs (fun v H1 x e1 j1 r1 h1 => ?_) kx
  match x, r1, h1 with
  | .list ds, r1, h1 =>
    obtain ⟨p, xs, rfl, hp, _, hd⟩ := rep_lst r1
    obtain ⟨bs, eb, h2⟩ := onS_some h1
    obtain ⟨n, en, q⟩ := onS_some h2
    have hxs := bools_dq hd eb
    subst hxs
    obtain ⟨hlt, hpn, hbe⟩ := List.findIdx?_eq_some_iff_getElem.mp en
    refine ⟨.inl ⟨rfl, _, SqL.of hp⟩, p, bs.map V.bl, .bl true, n, .bl true, rfl, rfl, SqL.of hp, rfl, ?_, ?_, rfl, fun m z hm hz => ?_, k _ H1 _ e1 j1 (.inl (.int _)) q⟩
    · rw [List.all_map]
      exact List.all_eq_true.mpr fun _ _ => rfl
    · rw [List.getElem?_map, List.getElem?_eq_getElem hlt]
      have : bs[n] = true := hpn
      rw [this]
      rfl
    · rw [List.getElem?_map] at hz
      obtain ⟨b, hb, rfl⟩ := Option.map_eq_some_iff.mp hz
      obtain ⟨hm1, hm2⟩ := List.getElem?_eq_some_iff.mp hb
      have h3 := hbe m hm
      have hbf : b = false := by
        rw [← hm2]
        simpa using h3
      subst hbf
      rfl
/-! ### a def called while the exception p is handled -/
theorem run_hot {CX : CXT} {P : Program} {w : World} {K : PySem.W.Frag} {mg : Str → Option Value} {base : Heap} {k : Nat} {f : Addr} {name qual : Str} {params : Arguments} {body : List Stmt} {scope : Scope} {dV kV doc pm cdv ct oc : Value} {an od : Option Addr}
    {osl : Array (Option Value)} {N ps : List Str} (lk : K.lookup f = some ⟨oc, od, .func (PySem.W.fnOf name qual params body scope dV kV doc pm an cdv ct), osl⟩) (hcd : PySem.W.codeIn K cdv qual = true) (S : FnScope N ps scope)
    {A : Around} {outer : List Env} {s : Shared} {H : Hp} {args : Args} {us : List Value} {vs : List V} {Q : VK} {E : XK} {p : Addr × Obj} (hr : L2H.RoomH (k + 1) A) (hpin : L2H.PinOk outer H s p) (e0 : Env0 P w K mg base A outer s H)
    (hb : BindsTo s (PySem.W.fnOf name qual params body scope dV kV doc pm an cdv ct) args (ps.zip us)) (r : Vals vs us) (hl : vs.length = ps.length)
    (hbody : L2H.RoomH k (A.deeper (envOfC qual scope s.heap.objs.size f cdv)) → ∃ t, PSs (L2H.cxH CX P w K mg base N qual scope f cdv A outer s H E p) body t ∧ t { nx := fun _ H' => Q .non H', rt := Q } (L2.start N vs) H) :
    codeAny (model P w) A (.call (.ref f) args) (CR CX outer P w H s Q E) s := by
  have kx : K.In s.heap := e0.mod.kin.keeps fun b o e => (e0.bs b o e).1
  have par : ∀ y ∈ ps.zip us, scope.names.lookup y.1 = some .local ∨ (scope.names.lookup y.1 = some .cell ∧ ((cellsFrom (s.heap.objs.size + 1) scope.names []).lookup y.1).isSome = true) := by
    rintro ⟨n, v⟩ hy
    rcases S.par n (List.of_mem_zip hy).1 with z | z
    · exact .inl z
    · exact .inr ⟨z, PySem.W.cellsFrom_some _ _ _ (.inl z)⟩
  refine codeAny_call_function hr.depth (kx _ _ lk) rfl S.co S.gen rfl (PySem.W.codeRec_of kx hcd) (hb _ _ _ _ (wpAny_newFunctionEnv_cells S.kind par ?_))
  rintro env he s1 x
  subst he
  refine ⟨(e0.mod.nolimit.keeps fun b o e => (e0.bs b o e).1).keeps x.toInCall.keep, codeAny_func ?_⟩
  obtain ⟨t, ht, hq⟩ := hbody (hr.deeper _)
  refine wpAny_mono (ht.run [] s1 (L2.start N vs) H _ (L2H.inv_startH S hpin e0 hl r x) hq) ?_ fun _ _ z => z
  intro fl s' hs
  cases fl with
  | ret u =>
    obtain ⟨v, σ', H', J, rv, z⟩ := hs
    exact ⟨v, H', J.os, J.bare, J.base, J.hok, rv, z⟩
  | next =>
    obtain ⟨σ', H', J, z⟩ := hs
    exact ⟨.non, H', J.os, J.bare, J.base, J.hok, rfl, z⟩
  | brk =>
    obtain ⟨_, _, _, z⟩ := hs
    exact z.elim
  | cont =>
    obtain ⟨_, _, _, z⟩ := hs
    exact z.elim
/-- f(e) in an except suite, e the error: what f does is told of this error -/
theorem pe_hot1 {X : Cx} {a : Addr} {oe : Obj} {pn : List (Addr × Obj)} {x n y : Str} {st : Stmt} {N : List Str} {i k : Nat} {t : TS} {p q pos : Pos} (D : Def0 X.K X.mg x st) (S : FnScope N [y] (defScope st))
    (hb : ∀ (kV doc pm : Value) (an : Option Addr) (cdv ct : Value) (us : List Value), us.length = 1 → bindArgs (PySem.W.fnOf x x (defArgs st) (defBody st) (defScope st) .none kV doc pm an cdv ct) ⟨us, []⟩ = pure ([y].zip us))
    (hr : Room (k + 1) X.A) (hg : Gl (X.suite a ((a, oe) :: pn)) x) (hN : X.N[i]? = some n) (hv : Vis X.env.scope n)
    (der : ∀ (f : Addr) (cdv : Value) (A : Around) (outer : List Env) (s : Shared) (H : Hp), L2H.RoomH k (A.deeper (envOfC x (defScope st) s.heap.objs.size f cdv)) → A.handled = some (.ref a) →
      PSs (L2H.cxH CX0 X.prog X.w X.K X.mg X.base N x (defScope st) f cdv A outer s H E0 (a, oe)) (defBody st) t)
    (hdb : (x == ("__debug__" : Str)) = false := by decide) (hdn : (n == ("__debug__" : Str)) = false := by decide) (hcn : (n == ("__classdict__" : Str)) = false := by decide) :
    PE (X.suite a ((a, oe) :: pn)) (.Call (.Name x p) [.Name n q] [] pos) (fun σ H Q => σ[i]? = some (some (.ref a)) ∧ t { nx := fun _ H' => Q .non H', rt := Q } (L2.start N [.ref a]) H) := by
  constructor
  intro pins s σ H Q I h
  obtain ⟨hs, ht⟩ := h
  obtain ⟨f, fd, F, hm⟩ := D
  obtain ⟨oc, od, kV, doc, pm, an, cdv, ct, osl, rfl, lk, hcd⟩ := F.ex
  refine wpAny_Call_Name_kw (ld_glob I hg hm ?_ hdb)
  have ha : PA (X.suite a ((a, oe) :: pn)) [.Name n q] (tCons (tVar i) tNil) := pa_cons (pe_var hN hv hdn hcn) pa_nil
  refine PySem.W.callWith_K (h₀ := X.base) I.ok.mod.kin F.kp (thn (ha.run pos pins s σ H (fun vs H1 => vs = [V.ref a] ∧ H1 = H) I ⟨_, hs, rfl, rfl⟩) ?_) rfl rfl
  rintro us s1 ⟨vs, H1, I1, r1, rfl, rfl⟩
  refine ⟨I1.kIn, ?_⟩
  have P1 := I1.pin (a, oe) (List.mem_append_left _ List.mem_cons_self)
  have hpin : L2H.PinOk X.stack H1 s1 (a, oe) := ⟨P1.1, P1.2.1, fun hm => (List.mem_cons.mp (I1.stkSub _ hm)).elim P1.2.2.1 P1.2.2.2.1, P1.2.2.2.2⟩
  have hlen : us.length = 1 := r1.length.symm
  have hbt : BindsTo s1 (PySem.W.fnOf x x (defArgs st) (defBody st) (defScope st) .none kV doc pm an cdv ct) ⟨us, []⟩ ([y].zip us) := .of_eq (hb kV doc pm an cdv ct us hlen)
  have hroom : L2H.RoomH (k + 1) (X.A.mark (some (.ref a))) := ⟨hr.dp, hr.un⟩
  refine wpAny_call (codeAny_mono (run_hot (CX := CX0) (E := E0) (Q := Q) (p := (a, oe)) lk hcd S hroom hpin I1.env0 hbt r1 rfl fun hr' => ⟨t, der f cdv _ X.stack s1 H1 hr' rfl, ht⟩) ?_)
  intro r s' hq
  cases r with
  | error e => exact (show False from hq).elim
  | ok fl =>
    cases fl with
    | ret u => exact I1.after hq
    | next => exact False.elim hq
    | brk => exact False.elim hq
    | cont => exact False.elim hq
/-! ### the lambda that a def got is called there -/
/-- the lambda's body, what is wished of an error told by L2N -/
def lamN (X : Cx) (A : Around) (outer : List Env) (s : Shared) (H : Hp) (E : XK) (scope : Scope) (f c : Addr) : Cx :=
  (LamX.lamCx X A outer s H E scope f c).wish fun e s' => wpAny (model X.prog X.w) (A.deeper (LamX.lamEnv X scope s.heap.objs.size f c)) (leaving (LamX.lamEnv X scope s.heap.objs.size f c) e)
    (fun _ s2 => L2N.CX X.prog X.w outer H s E e s2) (fun e2 s2 => L2N.CX X.prog X.w outer H s E e2 s2) s'
theorem lamN_takes {X : Cx} {A : Around} {outer : List Env} {s : Shared} {H : Hp} {E : XK} {scope : Scope} {f c : Addr} : L2N.Takes (lamN X A outer s H E scope f c) (fun cls d _ H => E cls d H) := L2N.takes_of rfl rfl rfl rfl
/-- the lambda object at f, made at the state s -/
structure LamAt (X : Cx) (s : Shared) (H : Hp) (params : Arguments) (body : Expr) (scope : Scope) (f c : Addr) : Prop where
  at_ : ∃ pm ctv : Value, s.heap.get? f = some (PySem.W.kla_obj "<lambda>" (X.env.qual ++ "<lambda>") params body scope (cloFrom X.env.cells scope.names []) pm c ctv)
  fn : H f = none
  fr : f ∉ frs X.stack
abbrev toldCx (X : Cx) (N : List Str) (q : Str) (sg : Scope) (g : Addr) (cd : Value) (s : Shared) (H : Hp) : Cx := cxOf CX0 X.prog X.w X.K X.mg X.base N q sg g cd X.A X.stack s H E0
theorem pe_deed {X : Cx} {pins : List (Addr × Obj)} {σ : L2.St} {H : Hp} {s : Shared} {N : List Str} {q a : Str} {sg : Scope} {g f c : Addr} {cd : Value} {params : Arguments} {body : Expr} {scope : Scope} {k i : Nat} {pn : List (Addr × Obj)} {xe : Value → Shared → Prop} {W : WX} {E : XK} {tb : TE} {p1 p2 : Pos}
    (I : Inv X pins σ H s) (L : LamX.LamS X.env.scope scope) (O : LamAt X s H params body scope f c) (hbind : ∀ (q : Str) (cl : List (Str × Addr)) (pm cv ctv : Value), bindArgs (PySem.W.kla_fn "<lambda>" q params body scope cl pm cv ctv) ⟨[], []⟩ = pure [])
    (tk : L2N.Takes ((toldCx X N q sg g cd s H).tr pn xe) W) (hW : ∀ cls d σ' H', E cls d H' → W cls d σ' H') (hr : Room (k + 1) (X.A.deeper (envOfC q sg s.heap.objs.size g cd)))
    (hbody : ∀ (A : Around) (outer : List Env) (s : Shared) (H : Hp), Room k (A.deeper (LamX.lamEnv X scope s.heap.objs.size f c)) → PE (lamN X A outer s H E scope f c) body tb)
    (hN : N[i]? = some a) (hv : Vis sg a) (hd : (a == ("__debug__" : Str)) = false := by decide) (hcd : (a == ("__classdict__" : Str)) = false := by decide) :
    PE ((toldCx X N q sg g cd s H).tr pn xe) (.Call (.Name a p1) [] [] p2) (fun σZ HZ Q => σZ[i]? = some (some (.ref f)) ∧ HZ c = some (LamX.CodeO c (X.env.qual ++ "<lambda>")) ∧ tb σ HZ Q) := by
  constructor
  intro pz sz σz Hz Q Iz h
  obtain ⟨hs, hc, ht⟩ := h
  obtain ⟨⟨pm, ctv, hat⟩, hfn, hfr⟩ := O
  refine wpAny_Call_Name_kw (thn ((pe_var (pos := p1) (i := i) hN hv hd hcd).run pz sz σz Hz (fun v H1 => v = .ref f ∧ H1 = Hz) Iz ⟨.ref f, hs, rfl, rfl⟩) ?_)
  rintro u s1 ⟨v, H1, I1, r1, rfl, rfl⟩
  obtain rfl : u = Value.ref f := r1
  have of1 := I1.base.keep f _ hat hfn hfr (fun z => nomatch (show f ∈ ([] : List Addr) from z))
  refine PySem.W.callWith_F0 ⟨_, _, _, _, of1⟩ ?_
  have un : Un (frs X.stack) [] H H1 s.heap s1.heap := I1.base
  obtain ⟨⟨oc, vs, t, hoc, hdc, hvc⟩, _, _⟩ := I1.hok c _ hc
  have rc : codeAny (model X.prog X.w) (X.A.deeper (envOfC q sg s.heap.objs.size g cd)) (.call (.ref f) ⟨[], []⟩) (CR (L2N.CX X.prog X.w) (envOfC q sg s.heap.objs.size g cd :: X.stack) X.prog X.w H1 s1 Q E) s1 := by
    refine PySem.W.kla_callFunE hr.depth of1 rfl L.co L.gen rfl ⟨c, oc, vs, t, rfl, hoc, hdc, hvc⟩ ?_
    rw [hbind]
    refine wpAny_pure (wpAny_newFunctionEnv (fun y hy => (L.own y hy).2) (fun y hy => absurd hy (by simp)) ?_ L.kind)
    intro h1 hns hsb
    refine ⟨I1.nolimit.fresh _ hsb, ?_⟩
    show codeAny _ _ (.expr body (LamX.lamEnv X scope s1.heap.objs.size f c)) _ _
    have kp : ∀ b o, s1.heap.get? b = some o → h1.get? b = some o := fun b o e => hsb.extBut b o (Nat.ne_of_lt (Heap.lt_size e)) (Heap.get?_push_of_some _ e)
    have J := (LamX.lam_start2 (A := X.A.deeper (envOfC q sg s.heap.objs.size g cd)) (E := E) (f := f) (c' := c) (tk := s1.toks + ([] : List (Str × Value)).length) I L I1.env0 hr.hd un hns kp)
    refine PySem.W.kla_codeExpr (wpAny_mono ((hbody _ _ s1 H1 (hr.deeper _)).run [] _ σ H1 Q (J.wish _) ht) ?_ fun _ _ z => z)
    rintro v s' ⟨w', H', J', rv, z⟩
    exact ⟨w', H', J'.os, J'.bare, J'.base, J'.hok, rv, z⟩
  refine wpAny_call (codeAny_mono rc ?_)
  intro r s' hq
  cases r with
  | error e => exact L2N.passes_call tk hW pz σz H1 s1 e s' I1 hq
  | ok fl =>
    cases fl with
    | ret u => exact I1.after hq
    | next => exact False.elim hq
    | brk => exact False.elim hq
    | cont => exact False.elim hq
/-! ### told(lambda: body) -/
/-- what told does behind the lambda's making: tt is what the suite does with an error of the class cls -/
def wTold (ec : Nat → Addr) (tt : Nat → Addr → VK → Hp → Prop) (Q : VK) : XK := fun cls d H' => d = none ∧ ∃ c, c < 16 ∧ cls = .ref (ec c) ∧ ∀ a, H' a = none → tt c a Q H'
def tTold (ec : Nat → Addr) (T : List (Addr × Str)) (tt : Nat → Addr → VK → Hp → Prop) (te : XK → TE) : TE := fun σ H Q => LamX.Tabs T H ∧ ∀ H1, LamX.ExtN H H1 → LamX.Tabs T H1 →
  te (wTold ec tt Q) σ H1 Q
/-- the def told: try: return a() except x as n: return y(n) -/
structure ToldOk (P : Program) (w : World) (K : PySem.W.Frag) (mg : Str → Option Value) (base : Heap) (ec : Nat → Addr) (tt : Nat → Addr → VK → Hp → Prop) (k : Nat) (g : Addr) (st : Stmt) (N : List Str) (a : Str) : Prop where
  scope : FnScope N [a] (defScope st)
  n0 : N[0]? = some a
  vis : Vis (defScope st) a
  /-- the body, for any lambda: act is the rule for a() -/
  body : ∀ (X : Cx) (s : Shared) (H : Hp) (cd : Value) (f c : Addr) (Q : VK) (te : XK → Hp → VK → Prop) (q : Str), X.prog = P → X.w = w → X.K = K → X.mg = mg → X.base = base → Room k (X.A.deeper (envOfC "_law_told" (defScope st) s.heap.objs.size g cd)) →
    (∀ (W : WX) (pn : List (Addr × Obj)) (xe : Value → Shared → Prop) (E : XK) (p1 p2 : Pos), L2N.Takes ((toldCx X N "_law_told" (defScope st) g cd s H).tr pn xe) W → (∀ cls d σ' H', E cls d H' → W cls d σ' H') →
      PE ((toldCx X N "_law_told" (defScope st) g cd s H).tr pn xe) (.Call (.Name a p1) [] [] p2) (fun σZ HZ Q => σZ[0]? = some (some (.ref f)) ∧ HZ c = some (LamX.CodeO c q) ∧ te E HZ Q)) →
    H c = some (LamX.CodeO c q) → te (wTold ec tt Q) H Q →
    ∃ t, PSs (toldCx X N "_law_told" (defScope st) g cd s H).nox (defBody st) t ∧ t { nx := fun _ H' => Q .non H', rt := Q } (L2.start N [.ref f]) H
theorem pe_told {X : Cx} {T : List (Addr × Str)} {ec : Nat → Addr} {tt : Nat → Addr → VK → Hp → Prop} {k : Nat} {g c P : Addr} {fd : FuncData} {st : Stmt} {N : List Str} {a : Str} {params : Arguments} {body : Expr} {scope : Scope} {te : XK → TE} {p lpos pos : Pos}
    (F : Fun X.K "_law_told" "_law_told" st g fd) (hm : X.mg "_law_told" = some (.ref g)) (TO : ToldOk X.prog X.w X.K X.mg X.base ec tt (k + 1) g st N a)
    (hb : ∀ (kV doc pm : Value) (an : Option Addr) (cdv ct : Value) (us : List Value), us.length = 1 → bindArgs (PySem.W.fnOf "_law_told" "_law_told" (defArgs st) (defBody st) (defScope st) .none kV doc pm an cdv ct) ⟨us, []⟩ = pure ([a].zip us))
    (hg : Gl X "_law_told") (TB : LamX.TabB X.base X.mg c P) (hcode : X.env.code = .ref c) (hmT : (P, X.env.qual ++ "<lambda>") ∈ T) (hu : ∀ p ∈ T, p.1 = P → p.2 = X.env.qual ++ "<lambda>") (hr : Room (k + 2) X.A) (L : LamX.LamS X.env.scope scope) (hdef : defaultsOf params X.env = ([], []))
    (hbind : ∀ (q : Str) (cl : List (Str × Addr)) (pm cv ctv : Value), bindArgs (PySem.W.kla_fn "<lambda>" q params body scope cl pm cv ctv) ⟨[], []⟩ = pure [])
    (hbody : ∀ (A : Around) (outer : List Env) (s : Shared) (H : Hp) (E : XK) (f c' : Addr), Room k (A.deeper (LamX.lamEnv X scope s.heap.objs.size f c')) → PE (lamN X A outer s H E scope f c') body (te E))
    (hda : (a == ("__debug__" : Str)) = false := by decide) (hca : (a == ("__classdict__" : Str)) = false := by decide) :
    PE X (.Call (.Name "_law_told" p) [.Lambda params body scope lpos] [] pos) (tTold ec T tt te) := by
  constructor
  intro pins s σ H Q I h
  obtain ⟨hT, h⟩ := h
  obtain ⟨oc, od, kV, doc, pm, an, cdv, ct, osl, rfl, lk, hcd⟩ := F.ex
  refine wpAny_Call_Name_kw (ld_glob I hg hm ?_ (by decide))
  refine PySem.W.callWith_K (h₀ := X.base) I.ok.mod.kin F.kp ?_ (by rfl) (by rfl)
  show wpAny _ _ (spliced ((false, eval (.Lambda params body scope lpos) X.env) :: backTo pos (starEach [] X.env))) _ _ s
  refine Calls.spliced_cons (LamX.lam_make2 I TB hcode hmT hu hT hdef (L.has I.ok) ?_)
  intro f c' pm' ctv H1 s' I1 eN T1 hf hfn hfr hco
  refine Calls.spliced_nil ⟨I1.kIn, ?_⟩
  have hbt : BindsTo s' (PySem.W.fnOf "_law_told" "_law_told" (defArgs st) (defBody st) (defScope st) .none kV doc pm an cdv ct) ⟨[.ref f], []⟩ ([a].zip [.ref f]) := .of_eq (hb kV doc pm an cdv ct [.ref f] rfl)
  have rc : codeAny (model X.prog X.w) X.A (.call (.ref g) ⟨[.ref f], []⟩) (CR CX0 X.stack X.prog X.w H1 s' Q E0) s' := by
    refine LamX.run_ofS (N := N) (ps := [a]) (us := [.ref f]) (vs := [.ref f]) lk hcd TO.scope hr I1.env0 hbt (.cons rfl .nil) rfl ?_
    intro hr'
    obtain ⟨t', ht', hq'⟩ := TO.body X s' H1 cdv f c' Q (fun E H' Q' => te E σ H' Q') (X.env.qual ++ "<lambda>") rfl rfl rfl rfl rfl hr'
      (fun W pn xe E p1 p2 tk hW => pe_deed (k := k) (i := 0) I1 L ⟨⟨pm', ctv, hf⟩, hfn, hfr⟩ hbind tk hW hr' (fun A outer s H hr2 => hbody A outer s H E f c' hr2) TO.n0 TO.vis hda hca) hco (h H1 eN T1)
    exact ⟨t', ht'.nox, hq'⟩
  refine wpAny_call (codeAny_mono rc ?_)
  intro r s2 hq
  cases r with
  | error e => exact (show False from hq).elim
  | ok fl =>
    cases fl with
    | ret u => exact I1.after hq
    | next => exact False.elim hq
    | brk => exact False.elim hq
    | cont => exact False.elim hq
theorem takesN0 {X : Cx} : L2N.Takes X (fun _ _ _ _ => False) := fun _ _ x => by
  obtain ⟨_, _, _, _, _, _, _, _, _, _, _, _, _, _, _, _, z⟩ := x
  exact z.elim
/-- what is told of the error classes -/
structure ErrsOk (K : PySem.W.Frag) (ec : Nat → Addr) (TE' : Addr) : Prop where
  ex : ∀ c, c < 16 → ExcC K (ec c)
  kit : ∀ c k, c < 16 → k < 16 → PySem.W.kitOne K (.ref (ec c)) (.ref (ec k)) = some (decide (c = k))
  val : ∀ c, c < 16 → PySem.W.kitOne K (.ref (ec c)) (.type "ValueError") = some true
  exm : ∀ c, c < 16 → PySem.W.exmOne K (.ref (ec c)) (.ref TE') = some true
/-- the def told by its text; tm: what the term def does with an error of the class c at a -/
theorem told_ok {P : Program} {w : World} {K : PySem.W.Frag} {mg : Str → Option Value} {base : Heap} {ec : Nat → Addr} {TE' : Addr} {k : Nat} {g : Addr} {st sm : Stmt} {NT : List Str} {tm : Nat → Addr → TS} {p1 p2 p3 p4 p5 p6 p7 p8 p9 p10 : Pos}
    (EO : ErrsOk K ec TE') (gT : mg "TableError" = some (.ref TE')) (S : FnScope ["deed", "e"] ["deed"] (defScope st)) (hv : (defScope st).names.lookup ("deed" : Str) = some .local) (he : (defScope st).names.lookup ("e" : Str) = some .local)
    (gTE : (defScope st).names.lookup ("TableError" : Str) = some .globalImplicit) (gtm : (defScope st).names.lookup ("_law_term" : Str) = some .globalImplicit)
    (hbd : defBody st = [.Try [.Return (some (.Call (.Name "deed" p1) [] [] p2)) p3] [.ExceptHandler (some (.Name "TableError" p4)) (some "e") [.Return (some (.Call (.Name "_law_term" p5) [.Name "e" p6] [] p7)) p8] p9] [] [] p10])
    (DT : Def0 K mg "_law_term" sm) (SM : FnScope NT ["e"] (defScope sm))
    (hb : ∀ (kV doc pm : Value) (an : Option Addr) (cdv ct : Value) (us : List Value), us.length = 1 → bindArgs (PySem.W.fnOf "_law_term" "_law_term" (defArgs sm) (defBody sm) (defScope sm) .none kV doc pm an cdv ct) ⟨us, []⟩ = pure ([("e" : Str)].zip us))
    (der : ∀ (c : Nat) (a : Addr) (oe : Obj) (f : Addr) (cdv : Value) (A : Around) (outer : List Env) (s : Shared) (H : Hp), c < 16 → L2N.Zn (.ref (ec c)) none oe → (∃ vs, oe.data = .fields vs) → L2H.RoomH k (A.deeper (envOfC "_law_term" (defScope sm) s.heap.objs.size f cdv)) → A.handled = some (.ref a) →
      PSs (L2H.cxH CX0 P w K mg base NT "_law_term" (defScope sm) f cdv A outer s H E0 (a, oe)) (defBody sm) (tm c a)) :
    ToldOk P w K mg base ec (fun c a Q H => tm c a { nx := fun _ H' => Q .non H', rt := Q } (L2.start NT [.ref a]) H) (k + 1) g st ["deed", "e"] "deed" := by
  refine ⟨S, rfl, .inl hv, ?_⟩
  intro X s H cd f c Q te q hP hw hK hmg hbase hr act hc ht
  subst hP hw hK hmg hbase
  rw [hbd]
  have hgl : Gl (toldCx X ["deed", "e"] "_law_told" (defScope st) g cd s H).nox "TableError" := gTE
  refine ⟨_, pss_one (L2N.ps_try_as (X := (toldCx X ["deed", "e"] "_law_told" (defScope st) g cd s H).nox) (c := .ref TE') (i := 1) (Wout := fun _ _ _ _ => False)
      (tb := fun W D σ H => ∃ Ech : XK, (∀ cls d σ' H', Ech cls d H' → W cls d σ' H') ∧ σ[0]? = some (some (.ref f)) ∧ H c = some (LamX.CodeO c q) ∧ te Ech H D.rt)
      (ts := fun a cls d D σ H => ∃ j, j < 16 ∧ cls = .ref (ec j) ∧ d = none ∧ (∃ σ0 : L2.St, σ = σ0.set 1 (some (.ref a))) ∧ tm j a { nx := fun _ H' => D.rt .non H', rt := D.rt } (L2.start NT [.ref a]) H)
      rfl rfl S.nd rfl he ⟨hgl, by decide, .inl gT⟩ takesN0 ?_ ?_), ?_⟩
  · intro W pn xe tk own
    constructor
    intro pins s' σ H' D I h
    obtain ⟨Ech, hW, h1, h2, h3⟩ := h
    have hp := act W pn xe Ech p1 p2 tk hW
    exact (pss_one (ps_ret (pos := p3) hp)).run pins s' σ H' D I ⟨h1, h2, h3⟩
  · intro a oe cls d pn hz hf
    constructor
    intro pins s' σ H' D I h
    obtain ⟨j, hj, rfl, rfl, ⟨σ0, h0⟩, h2⟩ := h
    have hlen : σ.length = 2 := I.len
    have h1 : σ[1]? = some (some (.ref a)) := by
      rw [h0]
      refine List.getElem?_set_self ?_
      rw [h0, List.length_set] at hlen
      omega
    have hp := pe_hot1 (X := (toldCx X ["deed", "e"] "_law_told" (defScope st) g cd s H).nox) (a := a) (oe := oe) (pn := pn) (x := "_law_term") (n := "e") (y := "e") (i := 1) (k := k) (t := tm j a) (p := p5) (q := p6) (pos := p7) DT SM hb hr gtm rfl (.inl he)
      (fun f cdv A outer s H hr' hh => der j a oe f cdv A outer s H hj hz hf hr' hh)
    exact (pss_one (ps_ret (pos := p8) hp)).run pins s' σ H' D I ⟨h1, h2⟩
  · refine ⟨wTold ec (fun c a Q H => tm c a { nx := fun _ H' => Q .non H', rt := Q } (L2.start NT [.ref a]) H) Q, ?_, rfl, hc, ht⟩
    rintro cls d σ' H' ⟨rfl, j, hj, rfl, h⟩
    refine ⟨true, EO.exm j hj, fun _ a na => ?_, fun z => nomatch z⟩
    exact ⟨j, hj, rfl, rfl, ⟨σ', rfl⟩, h a na⟩
/-- the names of the error classes -/
def enames : List Str := ["InvalidTable", "InvalidWord", "InvalidNumber", "InvalidSign", "InvalidNormal", "InvalidPositive", "InvalidFraction", "InvalidModulus", "InvalidRemainder", "InvalidLetter", "InvalidText", "NotPositive", "FiniteOrder", "AllFixed", "TooLong", "NothingToUndo"]
/-- what is told of an error -/
def errD (c : Nat) : PyData := .tuple [.str "error", .str (enames.getD c "")]
def dTold (d : DE) : DE := fun r Q _ => d r Q (fun c => c < 16 ∧ Q (errD c))
theorem s_told {C : Cn} {T : List (Addr × Str)} {tt : Nat → Addr → VK → Hp → Prop} {te : XK → TE} {d : DE} (hT : ∀ G, C.GP G → G.T = T)
    (htt : ∀ (c : Nat) (G : Hid) (a : Addr) (H : Hp) (Q : VK), c < 16 → G.J H → (∀ v H', Ex G H H' → G.J H' → Rep C.K G H' v (errD c) → Q v H') → tt c a Q H)
    (hte : ∀ E : XK, SimE { C with E0 := E } (te E) d) : SimE C (tTold C.ec T tt te) (dTold d) := by
  intro G ρ Q E gp h σ H Q' j rs k kx
  have eT := hT G gp
  subst eT
  refine ⟨G.tab j, fun H1 eN T1 => ?_⟩
  have j1 := G.tabs j eN T1
  have e1 : Ex G H H1 := Ex.extN eN
  refine hte (wTold C.ec tt Q') G ρ Q _ gp h σ H1 Q' j1 (rs.mono e1) (k.mono e1) ?_
  intro c H' e j' hq
  exact ⟨rfl, c, hq.1, rfl, fun a na => htt c G a H' Q' hq.1 j' fun v H2 e2 j2 r2 => k v H2 _ ((e1.trans e).trans e2) j2 r2 hq.2⟩
/-- the hidden part with the error at a for the dice -/
def Hid.err (G : Hid) (a : Addr) : Hid := { G with isO := fun _ v => v = .ref a }
theorem rep_err {K : PySem.W.Frag} {G : Hid} {a : Addr} {H : Hp} {v : V} {d : PyData} (p : plain d = true) (h : Rep K (G.err a) H v d) : Rep K G H v d := .inl (h.dp p)
end Tz

/-! The draws: a list of two ints that changes; the rounds; the law's outer loop. -/
namespace Tz
open PySem PySem.Spec PyProof.Rows L2
/-! ### a great number by a cell and a place -/
def b_law_drawn : DS := (dSeq (dAsg (dOp oMod (dOp oAdd (dOp oMul (dVar 0) (dC (.int 6364136223846793005))) (dOp oMul (dOp oAdd (dVar 1) (dC (.int 1))) (dC (.int 1442695040888963407)))) (dC (.int 340282366920938463463374607431768211507))) (dgName 2)) (dSeq (dAsg (dOp oMod (dOp oMul (dVar 2) (dVar 2)) (dC (.int 340282366920938463463374607431768211297))) (dgName 2)) (dSeq (dAsg (dOp oMul (dOp oMul (dOp oAdd (dOp oMod (dVar 2) (dC (.int 18446744073709551557))) (dC (.int 1))) (dOp oAdd (dOp oDiv (dVar 2) (dC (.int 18446744073709551557))) (dC (.int 1)))) (dVar 2)) (dgName 2)) (dRet (dOp oMod (dVar 2) (dC (.int 340282366920938463463374607431768211507)))))))
def f_law_drawn : DF := dFn 3 b_law_drawn
def t_law_drawn (C : Cn) (A : Ga) : TS := (tSeq (tAsg (tOp rModU (tOp rAddU (tOp rMulU (tVar 0) (tC (.int 6364136223846793005))) (tOp rMulU (tOp rAddU (tVar 1) (tC (.int 1))) (tC (.int 1442695040888963407)))) (tC (.int 340282366920938463463374607431768211507))) (gName 2)) (tSeq (tAsg (tOp rModU (tOp rMulU (tVar 2) (tVar 2)) (tC (.int 340282366920938463463374607431768211297))) (gName 2)) (tSeq (tAsg (tOp rMulU (tOp rMulU (tOp rAddU (tOp rModU (tVar 2) (tC (.int 18446744073709551557))) (tC (.int 1))) (tOp rAddU (tOp rDivU (tVar 2) (tC (.int 18446744073709551557))) (tC (.int 1)))) (tVar 2)) (gName 2)) (tRet (tOp rModU (tVar 2) (tC (.int 340282366920938463463374607431768211507)))))))
theorem sim_law_drawn (C : Cn) (A : Ga) : SimS C (t_law_drawn C A) b_law_drawn := (s_seq (s_asg (s_op s_mod (s_op s_add (s_op s_mul (s_var 0) s_int) (s_op s_mul (s_op s_add (s_var 1) s_int) s_int)) s_int) (g_name 2)) (s_seq (s_asg (s_op s_mod (s_op s_mul (s_var 2) (s_var 2)) s_int) (g_name 2)) (s_seq (s_asg (s_op s_mul (s_op s_mul (s_op s_add (s_op s_mod (s_var 2) s_int) s_int) (s_op s_add (s_op s_div (s_var 2) s_int) s_int)) (s_var 2)) (g_name 2)) (s_ret (s_op s_mod (s_var 2) s_int)))))
theorem mulOk_of {i j : Int} {a b : Nat} (ha : i.natAbs < 2 ^ a) (hb : j.natAbs < 2 ^ b) (h : a + b ≤ 999998) : mulOk i j := by
  have h1 : i.natAbs < 2 ^ (a + 1) := Nat.lt_of_lt_of_le ha (Nat.pow_le_pow_right (by decide) (Nat.le_succ a))
  have h2 : j.natAbs < 2 ^ (b + 1) := Nat.lt_of_lt_of_le hb (Nat.pow_le_pow_right (by decide) (Nat.le_succ b))
  exact (wide_mul h1 h2 (Nat.succ_pos a) (Nat.succ_pos b) (by omega)).ok
theorem mulOk_r {i j : Int} (h : -(2 ^ 64) < j ∧ j < 2 ^ 64) : mulOk i j := CMul.ok (.inr h)
theorem mulOk_l {i j : Int} (h : -(2 ^ 64) < i ∧ i < 2 ^ 64) : mulOk i j := CMul.ok (.inl h)
theorem drawn_any {x n : Int} {Q : PyData → Prop} {E : Nat → Prop} (h : ∀ z : Int, Q (.int z)) : f_law_drawn [.int x, .int n] Q E := by
  show b_law_drawn [some (.int x), some (.int n), none] _ _ _
  simp only [b_law_drawn, dSeq, dAsg, dOp, dVar, dC, dgName, dRet, look, put, onS, oMod, oDiv, oI, oAdd, oMul]
  refine ⟨mulOk_r (by decide), mulOk_r (by decide), by decide, ?_⟩
  generalize ha : (x * 6364136223846793005 + (n + 1) * 1442695040888963407).fmod 340282366920938463463374607431768211507 = a
  have h1 : 0 ≤ a := by rw [← ha]; exact Int.fmod_nonneg_of_pos _ (by decide)
  have h2 : a < 340282366920938463463374607431768211507 := by rw [← ha]; exact Int.fmod_lt_of_pos _ (by decide)
  have h3 : a.natAbs < 2 ^ 129 := by omega
  refine ⟨mulOk_of h3 h3 (by decide), by decide, ?_⟩
  generalize hb : (a * a).fmod 340282366920938463463374607431768211297 = b
  have k1 : 0 ≤ b := by rw [← hb]; exact Int.fmod_nonneg_of_pos _ (by decide)
  have k2 : b < 340282366920938463463374607431768211297 := by rw [← hb]; exact Int.fmod_lt_of_pos _ (by decide)
  have k3 : b.natAbs < 2 ^ 129 := by omega
  refine ⟨by decide, ⟨by decide, by decide +kernel⟩, ?_⟩
  generalize hc : b.fmod 18446744073709551557 = c
  generalize hd : b.fdiv 18446744073709551557 = d
  have c1 : 0 ≤ c := by rw [← hc]; exact Int.fmod_nonneg_of_pos _ (by decide)
  have c2 : c < 18446744073709551557 := by rw [← hc]; exact Int.fmod_lt_of_pos _ (by decide)
  have d1 : 0 ≤ d := by rw [← hd, Int.fdiv_eq_ediv_of_nonneg _ (by decide)]; exact Int.ediv_nonneg k1 (by decide)
  have d2 : d ≤ b := by rw [← hd, Int.fdiv_eq_ediv_of_nonneg _ (by decide)]; omega
  have e1 : (c + 1).natAbs < 2 ^ 65 := by omega
  have e2 : (d + 1).natAbs < 2 ^ 130 := by omega
  exact ⟨mulOk_of e1 e2 (by decide), mulOk_of (wide_lt e1 e2) k3 (by decide), by decide, h _⟩
/-! ### a draw -/
/-- a draw: any number below many -/
def f_law_roll : DF := fun ds Q _ => match ds with
  | [.dict [], .int m] => 0 < m ∧ m < 2 ^ 62 ∧ ∀ i : Int, 0 ≤ i → i < m → Q (.int i)
  | _ => False
def t_law_roll (K : PySem.W.Frag) (ec : Nat → Addr) (E : XK) : TS :=
  tSeq (tIfS (tTest (tOp rGeU (tOp (rIxL K) (tVar 0) (tC (.int 0))) (tOp rPowU (tC (.int 10)) (tC (.int 18)))))
      (tSeq (tAsg (tOp rModU (tOp (rIxL K) (tVar 0) (tC (.int 0))) (tVar 1)) (gName 2))
        (tSeq (tAsg (tOp rDivU (tOp (rIxL K) (tVar 0) (tC (.int 0))) (tVar 1)) (gSub (tVar 0) (tC (.int 0)) rSetL)) (tRet (tVar 2)))) tNext)
    (tSeq (tAsg (tOp (rI0 fun i j => .int (i + j)) (tOp (rIxL K) (tVar 0) (tC (.int 1))) (tC (.int 1))) (gSub (tVar 0) (tC (.int 1)) rSetL))
      (tRet (tOp rModU (tOp rDivU (tCallS (lift K ec GPany 2 f_law_drawn) (fun _ => E) (tCons (tOp (rIxL K) (tVar 0) (tC (.int 0))) (tCons (tOp (rIxL K) (tVar 0) (tC (.int 1))) tNil))) (tC (.int 8))) (tVar 1))))
theorem roll_reads {K : PySem.W.Frag} {ec : Nat → Addr} {vs : List V} {H : Hp} {Q : VK} {E : XK} (h : lift K ec GPr 2 f_law_roll vs H Q E) : t_law_roll K ec E { nx := fun _ H' => Q .non H', rt := Q } (L2.start ["dice", "many", "told"] vs) H := by
  obtain ⟨G, ds, Q0, E0, gp, j, r, hl, hf, kq, ke⟩ := h
  match ds, hf with
  | [.dict [], .int m], hf =>
    obtain ⟨v1, v2, rfl, r1, r2⟩ := reps2 r
    rw [rep_int r2]
    obtain ⟨m0, m1, hq⟩ := hf
    have hdice : G.isDice v1 := by
      rcases r1 with r1 | r1
      · cases r1
      · exact r1.2
    obtain ⟨p, rfl, dp, h1, h2⟩ := gp v1 hdice
    obtain ⟨x, n, hp⟩ := h1 H j
    have ml : m.natAbs.log2 < 9000 := by
      have hb : m.natAbs < 2 ^ 63 := by omega
      have := PySem.Flt.log2_lt_of (by decide) hb
      omega
    have ex : ∀ (x' n' : Int), Ex G H (upd H p (.lst [.int x', .int n'])) := fun x' n' a o nd _ ha => by
      rw [upd_ne fun z => nd (by rw [z]; exact dp)]
      exact ha
    have md : ∀ y : Int, 0 ≤ y.fmod m ∧ y.fmod m < m := fun y => ⟨Int.fmod_nonneg_of_pos _ m0, Int.fmod_lt_of_pos _ m0⟩
    -- dice[0] >= 10 ** 18
    refine ⟨_, rfl, p, _, 0, _, rfl, rfl, SqL.of hp, rfl, 10, 18, rfl, rfl, ⟨by decide, by decide, by decide⟩, x, _, rfl, rfl, _, rfl, ite2 (fun _ => ?_) (fun _ => ?_)⟩
    · -- told = dice[0] % many; dice[0] = dice[0] // many
      refine ⟨_, rfl, p, _, 0, _, rfl, rfl, SqL.of hp, rfl, _, rfl, x, m, rfl, rfl, by omega, ?_⟩
      refine ⟨_, rfl, p, _, 0, _, rfl, rfl, SqL.of hp, rfl, _, rfl, x, m, rfl, rfl, ⟨by omega, ml⟩, ?_⟩
      refine ⟨_, rfl, p, _, 0, 0, rfl, rfl, hp, rfl, ?_⟩
      refine ⟨_, rfl, ?_⟩
      exact kq _ _ _ (ex _ _) (h2 H _ _ j) (.inl (.int _)) (hq _ (md x).1 (md x).2)
    · -- dice[1] = dice[1] + 1; return drawn(..) // 8 % many
      refine ⟨_, rfl, p, _, 1, _, rfl, rfl, SqL.of hp, rfl, n, 1, rfl, rfl, ?_⟩
      refine ⟨_, rfl, p, _, 1, 1, rfl, rfl, hp, rfl, ?_⟩
      have hp' : (upd H p (.lst ([V.int x, V.int n].set 1 (.int (n + 1))))) p = some (.lst [.int x, .int (n + 1)]) := upd_same
      have j' : G.J (upd H p (.lst ([V.int x, V.int n].set 1 (.int (n + 1))))) := h2 H x (n + 1) j
      refine ⟨_, rfl, p, _, 0, _, rfl, rfl, SqL.of hp', rfl, _, rfl, p, _, 1, _, rfl, rfl, SqL.of hp', rfl, ?_⟩
      refine ⟨G, [.int x, .int (n + 1)], fun d => ∃ z : Int, d = .int z, fun _ => False, trivial, j', ⟨.inl (.int _), .inl (.int _), trivial⟩, rfl, drawn_any fun z => ⟨z, rfl⟩, ?_, fun _ _ _ _ z => z.elim⟩
      rintro v H2 d e2 j2 r2' ⟨z, rfl⟩
      rw [rep_int r2']
      refine ⟨z, 8, rfl, rfl, ⟨by decide, by decide +kernel⟩, _, rfl, _, m, rfl, rfl, by omega, ?_⟩
      exact kq _ _ _ ((ex x (n + 1)).trans e2) j2 (.inl (.int _)) (hq _ (md _).1 (md _).2)
/-! ### a cell of the script; the rounds -/
theorem shaped_ints (ns : List Int) : SeqAt.shaped (.list (ns.map .int)) = true := by
  have h1 : ∀ ns : List Int, PyData.canLayAll0 (ns.map PyData.int) = true := by
    intro ns
    induction ns with
    | nil => unfold PyData.canLayAll0; rfl
    | cons n ns ih =>
      show PyData.canLayAll0 (.int n :: ns.map PyData.int) = true
      unfold PyData.canLayAll0
      rw [ih]
      unfold PyData.canLay0
      rfl
  have h2 : ∀ ns : List Int, PyData.depthAll (ns.map PyData.int) = 0 := by
    intro ns
    induction ns with
    | nil => unfold PyData.depthAll; rfl
    | cons n ns ih =>
      show PyData.depthAll (.int n :: ns.map PyData.int) = 0
      unfold PyData.depthAll
      rw [ih]
      unfold PyData.depth
      rfl
  unfold SeqAt.shaped
  rw [Bool.and_eq_true]
  constructor
  · unfold PyData.canLay0
    exact h1 ns
  · unfold PyData.depth
    rw [h2 ns]
    decide
theorem dp_ints {K : PySem.W.Frag} {H : Hp} : ∀ ns : List Int, DpAll K H (ns.map V.int) (ns.map PyData.int)
  | [] => .nil
  | n :: ns => .cons (.int n) (dp_ints ns)
def spCell (K : PySem.W.Frag) : Sp := fun vs H Q _ => ∃ (a : Addr) (k : Int) (ns : List Int), vs = [.ref a, .int k] ∧ SqL K H a (ns.map V.int) ∧ ns.length ≤ 63 ∧ 0 ≤ k ∧ k < 64 ∧ ∀ z H', Same H H' → Q (.int z) H'
def t_law_cell (K : PySem.W.Frag) : TS := (tSeq (tIfS (tTest (tOp (rEqU K) (tVar 0) (tLst tNil))) (tRet (tOp rMulU (tVar 1) (tC (.int 7919)))) tNext) (tRet (tOp rAddU (tOp (rIx K) (tVar 0) (tOp rModU (tVar 1) (tCB (rLenU K) (tCons (tVar 0) tNil)))) (tOp rMulU (tOp rDivU (tVar 1) (tCB (rLenU K) (tCons (tVar 0) tNil))) (tC (.int 104729))))))
theorem same_upd {H : Hp} {p : Addr} {o : HO} (h : H p = none) : Same H (upd H p o) := fun b x e => by
  rw [upd_ne (ne_of_none e h)]
  exact e
theorem cell_reads {K : PySem.W.Frag} {vs : List V} {H : Hp} {Q : VK} {E : XK} (h : spCell K vs H Q E) : t_law_cell K { nx := fun _ H' => Q .non H', rt := Q } (L2.start ["script", "k"] vs) H := by
  obtain ⟨a, k, ns, rfl, hs, hl, k0, k1, q⟩ := h
  refine ⟨_, rfl, Nat.zero_le _, fun p np => ?_⟩
  have s1 : Same H (upd H p (.lst [])) := same_upd np
  have hs1 : SqL K (upd H p (.lst [])) a (ns.map V.int) := s1.seq hs
  refine .inr ⟨.list (ns.map .int), .list [], .lst hs1 (dp_ints ns), .lst (SqL.of upd_same) .nil, shaped_ints ns, by decide +kernel, _, rfl, ite2 (fun _ => ?_) (fun hne => ?_)⟩
  · refine ⟨_, rfl, .inl ⟨k, 7919, rfl, rfl, mulOk_r (by decide), q _ _ s1⟩⟩
  · have hn : ns ≠ [] := fun z => hne (by rw [z]; decide +kernel)
    have hpos : 0 < ns.length := List.length_pos_iff.mpr hn
    have hlen : (ns.map V.int).length = ns.length := List.length_map _
    have hm0 : 0 ≤ k.fmod (ns.length : Int) := Int.fmod_nonneg_of_pos _ (by omega)
    have hm1 : k.fmod (ns.length : Int) < ns.length := Int.fmod_lt_of_pos _ (by omega)
    obtain ⟨j, ej⟩ : ∃ j : Nat, k.fmod (ns.length : Int) = (j : Int) := ⟨(k.fmod (ns.length : Int)).toNat, by omega⟩
    have hj : j < ns.length := by omega
    have hll : ((ns.length : Int)).natAbs.log2 < 9000 := by
      have hb : ((ns.length : Int)).natAbs < 2 ^ 7 := by omega
      have := PySem.Flt.log2_lt_of (by decide) hb
      omega
    refine ⟨_, rfl, _, rfl, _, rfl, .ref a, ns.length, rfl, .inl ⟨_, hs1, hlen.symm⟩, k, (ns.length : Int), rfl, rfl, by omega, ?_⟩
    refine .inl ⟨a, _, k.fmod (ns.length : Int), .int ns[j], rfl, rfl, hs1, at_of ej (by rw [List.getElem?_map, List.getElem?_eq_getElem hj]; rfl), ?_⟩
    refine ⟨_, rfl, _, rfl, .ref a, ns.length, rfl, .inl ⟨_, hs1, hlen.symm⟩, k, (ns.length : Int), rfl, rfl, ⟨by omega, hll⟩, ?_⟩
    refine .inl ⟨_, 104729, rfl, rfl, mulOk_r (by decide), .inl ⟨_, _, rfl, rfl, q _ _ s1⟩⟩
def spRounds (K : PySem.W.Frag) : Sp := fun vs H Q _ => ∃ (a : Addr) (most : Int) (ns : List Int), vs = [.ref a, .int most] ∧ SqL K H a (ns.map V.int) ∧ ns.length ≤ 63 ∧ 1 ≤ most ∧ most ≤ 10 ∧
  ∀ (r : Addr) (ps : List Addr) (H' : Hp), Same H H' → H r = none → H' r = some (.lst (ps.map V.ref)) → ps.Nodup → (∀ p ∈ ps, H p = none ∧ p ≠ r ∧ ∃ x, H' p = some (.lst [.int x, .int 0])) → Q (.ref r) H'
def t_law_rounds (K : PySem.W.Frag) : TS := tRet (tLc (iRng1 (tCons (tCB rMax2U (tCons (tC (.int 1)) (tCons (tCB rMin2U (tCons (tVar 1) (tCons (tCB (rLenU K) (tCons (tVar 0) tNil)) tNil))) tNil))) tNil)) (gName 2) tYes
  (tLst (tCons (tCallS (spCell K) (fun _ => fun _ _ _ => False) (tCons (tVar 0) (tCons (tVar 2) tNil))) (tCons (tC (.int 0)) tNil))) [2])
theorem rounds_reads {K : PySem.W.Frag} {vs : List V} {H : Hp} {Q : VK} {E : XK} (h : spRounds K vs H Q E) : t_law_rounds K { nx := fun _ H' => Q .non H', rt := Q } (L2.start ["script", "most", "k"] vs) H := by
  obtain ⟨a, most, ns, rfl, hs, hl, m0, m1, q⟩ := h
  have hlen : (ns.map V.int).length = ns.length := List.length_map _
  refine ⟨_, rfl, _, rfl, .ref a, ns.length, rfl, .inl ⟨_, hs, hlen.symm⟩, most, (ns.length : Int), rfl, 1, _, rfl, ?_⟩
  generalize hn : (if (if (ns.length : Int) < most then (ns.length : Int) else most) > 1 then (if (ns.length : Int) < most then (ns.length : Int) else most) else 1) = n
  have n0 : 1 ≤ n := by rw [← hn]; split <;> split <;> omega
  have n1 : n ≤ 10 := by rw [← hn]; split <;> split <;> omega
  refine ⟨n, rfl, by omega, by omega, ?_⟩
  intro D nD
  refine lc_range (lo := 0) (n := n.toNat) (fun i H' => ∃ ps : List Addr, ps.length = i ∧ ps.Nodup ∧ Same H H' ∧ H' D = some (.lst (ps.map V.ref)) ∧ ∀ p ∈ ps, H p = none ∧ p ≠ D ∧ ∃ x, H' p = some (.lst [.int x, .int 0]))
    ⟨[], rfl, List.nodup_nil, same_upd nD, upd_same, fun p hp => nomatch hp⟩ ?_ ?_
  · rintro i H1 hi ⟨ps, pl, pd, s1, hD, hp⟩
    refine ⟨rfl, ?_⟩
    refine ⟨_, rfl, _, rfl, a, _, ns, rfl, s1.seq hs, hl, by omega, by omega, ?_⟩
    intro z H2 s2
    refine ⟨by show 2 ≤ sizeLine; decide, fun p np => ?_⟩
    have np1 : H1 p = none := s2.free np
    have hD2 : H2 D = some (.lst (ps.map V.ref)) := s2 _ _ hD
    have hpD : p ≠ D := fun e => by rw [e, hD2] at np; cases np
    have h3 : (upd H2 p (.lst [.int z, .int 0])) D = some (.lst (ps.map V.ref)) := by rw [upd_ne (Ne.symm hpD)]; exact hD2
    refine ⟨ps.map V.ref, h3, by rw [List.length_map, pl]; exact Nat.lt_of_le_of_lt (by omega : i ≤ 10) (by decide), ps ++ [p], by rw [List.length_append, pl]; rfl, ?_, ?_, ?_, ?_⟩
    · refine List.nodup_append.mpr ⟨pd, List.nodup_cons.mpr ⟨List.not_mem_nil, List.nodup_nil⟩, fun b hb c hc => ?_⟩
      rw [List.mem_singleton] at hc
      subst hc
      intro e
      subst e
      obtain ⟨_, _, x, hx⟩ := hp b hb
      rw [hx] at np1
      cases np1
    · intro b o hb
      have hb2 := s2 _ _ (s1 _ _ hb)
      rw [upd_ne (ne_of_none hb nD), upd_ne (ne_of_none hb2 np)]
      exact hb2
    · rw [upd_same, List.map_append]
      rfl
    · intro b hb
      rcases List.mem_append.mp hb with hb | hb
      · obtain ⟨y1, y2, x, hx⟩ := hp b hb
        refine ⟨y1, y2, x, ?_⟩
        have hx2 := s2 _ _ hx
        rw [upd_ne y2, upd_ne (ne_of_none hx2 np)]
        exact hx2
      · rw [List.mem_singleton] at hb
        subst hb
        exact ⟨s1.free np1, hpD, z, by rw [upd_ne hpD, upd_same]⟩
  · rintro H1 ⟨ps, pl, pd, s1, hD, hp⟩
    exact q D ps H1 s1 nD hD pd hp
end Tz

/-! The law's outer loop: each round has its own dice. -/
namespace Tz
open PySem PySem.Spec PyProof.Rows L2
abbrev GPlaw (T : List (Addr × Str)) : Hid → Prop := fun G => G.T = T ∧ Rolls G
theorem addLaw {T : List (Addr × Str)} : ∀ (G : Hid) (p : Addr) (h : ¬ G.D p) (xs : List V), GPlaw T G → GPlaw T (G.add p h xs) := fun G p h xs R => ⟨R.1, rolls_add G p h xs R.2⟩
theorem tabs_keep {T : List (Addr × Str)} {H H' : Hp} (t : LamX.Tabs T H) (h1 : ∀ q ∈ T, H' q.1 = H q.1) (h2 : ∀ a o, NT o → H a = some o → a ∉ T.map (·.1) → H' a = some o) : LamX.Tabs T H' := by
  intro q hq
  obtain ⟨ps, a, b, c⟩ := t q hq
  refine ⟨ps, by rw [h1 q hq]; exact a, b, fun pos cv hc => ?_⟩
  obtain ⟨x, e1, e2⟩ := c pos cv hc
  refine ⟨x, e1, ?_⟩
  have nt : NT (LamX.CodeO x q.2) := LamX.codeO_ne
  by_cases hx : x ∈ T.map (·.1)
  · obtain ⟨q', hq', e⟩ := List.mem_map.mp hx
    rw [← e, h1 q' hq', e]
    exact e2
  · exact h2 x _ nt e2 hx
/-- the dice at p and the tables are hidden -/
def Hdice (T : List (Addr × Str)) (p : Addr) : Hid where
  D := fun a => a = p ∨ a ∈ T.map (·.1)
  J := fun H => (∃ x n, H p = some (.lst [.int x, .int n])) ∧ LamX.Tabs T H
  live := by
    rintro H a ⟨⟨x, n, e⟩, t⟩ (d | d)
    · rw [d, e]
      exact fun z => nomatch z
    · obtain ⟨q, hq, rfl⟩ := List.mem_map.mp d
      obtain ⟨ps, h, _⟩ := t q hq
      rw [h]
      exact fun z => nomatch z
  ntup := by
    rintro H a ys ⟨⟨x, n, e⟩, t⟩ (d | d)
    · rw [d, e]
      exact fun z => nomatch z
    · obtain ⟨q, hq, rfl⟩ := List.mem_map.mp d
      obtain ⟨ps, h, _⟩ := t q hq
      rw [h]
      exact fun z => nomatch z
  keep := by
    rintro H H' ⟨⟨x, n, e⟩, t⟩ hd hx
    refine ⟨⟨x, n, by rw [hd p (.inl rfl)]; exact e⟩, tabs_keep t (fun q hq => hd _ (.inr (List.mem_map.mpr ⟨q, hq, rfl⟩))) fun a o nt ha na => ?_⟩
    by_cases hp : a = p
    · rw [hp, hd p (.inl rfl), ← hp]
      exact ha
    · exact hx a o (fun z => z.elim hp na) nt ha
  isO := fun _ v => v = .ref p
  T := T
  tab := fun j => j.2
  tabs := by
    rintro H H' ⟨⟨x, n, e⟩, t⟩ hx ht
    exact ⟨⟨x, n, hx p _ e fun ps z => nomatch z⟩, ht⟩
theorem rolls_dice (T : List (Addr × Str)) (p : Addr) : Rolls (Hdice T p) := by
  rintro v rfl
  refine ⟨p, rfl, .inl rfl, fun H j => j.1, fun H x n j => ⟨⟨x, n, upd_same⟩, ?_⟩⟩
  obtain ⟨⟨x', n', e⟩, t⟩ := j
  have np : ∀ q ∈ T, q.1 ≠ p := fun q hq => by
    obtain ⟨ps, h, _⟩ := t q hq
    exact ne_of h e fun z => nomatch z
  intro q hq
  obtain ⟨ps, h1, h2, h3⟩ := t q hq
  refine ⟨ps, by rw [upd_ne (np q hq)]; exact h1, h2, fun pos cv hc => ?_⟩
  obtain ⟨c, e1, e2⟩ := h3 pos cv hc
  have nc : c ≠ p := ne_of e2 e fun z => by
    unfold LamX.CodeO at z
    cases z
  exact ⟨c, e1, by rw [upd_ne nc]; exact e2⟩
def spLaw (K : PySem.W.Frag) (T : List (Addr × Str)) : Sp := fun vs H Q _ => ∃ (a : Addr) (ns : List Int), vs = [.ref a] ∧ SqL K H a (ns.map V.int) ∧ ns.length ≤ 63 ∧ LamX.Tabs T H ∧ ∀ H', Q (.bl true) H'
def t_law_of (K : PySem.W.Frag) (most : Int) (di : Nat) (E : XK) (tb : TS) : TS :=
  tSeq (tFor (iList K (tCallS (spRounds K) (fun _ => E) (tCons (tVar 0) (tCons (tC (.int most)) tNil)))) (gName di) tb) (tRet (tC (.bl true)))
theorem look_none : ∀ (n i : Nat), look (List.replicate n none) i = none := look_rep
theorem law_reads {K : PySem.W.Frag} {ec : Nat → Addr} {T : List (Addr × Str)} {most : Int} {di n : Nat} {N : List Str} {tb : XK → TS} {b : DS} (m0 : 1 ≤ most) (m1 : most ≤ 10) (hdi : di < n) (hN : N.length = n)
    (sim : ∀ E : XK, SimS ⟨K, ec, GPlaw T, E, addLaw⟩ (tb E) b) (pl : b (put (List.replicate n none) di dice) (fun _ => True) (fun _ => False) (fun _ => False))
    {vs : List V} {H : Hp} {Q : VK} {E : XK} (h : spLaw K T vs H Q E) : t_law_of K most di E (tb E) { nx := fun _ H' => Q .non H', rt := Q } (L2.start N vs) H := by
  obtain ⟨a, ns, rfl, hs, hl, ht, q⟩ := h
  refine ⟨_, rfl, a, most, ns, rfl, hs, hl, m0, m1, ?_⟩
  intro r ps H1 s1 nr hr pd hp
  have slen : (L2.start N [V.ref a]).length = n := by
    unfold L2.start
    simp
    omega
  have t1 : LamX.Tabs T H1 := ht.ext s1
  refine ⟨r, rfl, ⟨_, SqL.of hr⟩, for_list (K := K) (a := r) (xs := ps.map V.ref) (fun i σ H2 => σ.length = n ∧ H2 r = some (.lst (ps.map V.ref)) ∧ LamX.Tabs T H2 ∧ ∀ (j : Nat) p, i ≤ j → ps[j]? = some p → p ≠ r ∧ ∃ x, H2 p = some (.lst [.int x, .int 0]))
    ⟨slen, hr, t1, fun j p _ e => ⟨(hp p (List.mem_of_getElem? e)).2.1, (hp p (List.mem_of_getElem? e)).2.2⟩⟩ (fun i σ H2 _ z => SqL.of z.2.1) ?_ ?_⟩
  · rintro i x σ H2 hx ⟨hlen, hr2, t2, hp2⟩
    rw [List.getElem?_map] at hx
    obtain ⟨p, hpi, rfl⟩ := Option.map_eq_some_iff.mp hx
    obtain ⟨npr, x, hpx⟩ := hp2 i p (Nat.le_refl i) hpi
    have notT : ∀ (c : Addr) (zs : List V), H2 c = some (.lst zs) → c ∉ T.map (·.1) := fun c zs hc hm => by
      obtain ⟨q', hq', e⟩ := List.mem_map.mp hm
      obtain ⟨ps', h1, _⟩ := t2 q' hq'
      rw [e, hc] at h1
      cases h1
    have j2 : (Hdice T p).J H2 := ⟨⟨x, 0, hpx⟩, t2⟩
    have rs0 : RepS K (Hdice T p) H2 σ (List.replicate n none) := ⟨by rw [List.length_replicate, hlen]; exact Nat.le_refl _, fun i d z => by rw [look_rep] at z; cases z⟩
    have rs : RepS K (Hdice T p) H2 (σ.set di (some (.ref p))) (put (List.replicate n none) di dice) := rs0.put (.inr ⟨rfl, rfl⟩)
    refine sim E (Hdice T p) _ _ _ _ ⟨rfl, rolls_dice T p⟩ pl (σ.set di (some (.ref p))) H2 _ j2 rs ⟨fun σ3 H3 r3 e3 j3 rs3 hl3 _ => ?_, fun v H3 x _ _ _ z => z.elim⟩ fun c H3 _ _ z => z.elim
    refine ⟨by rw [hl3, List.length_set, hlen], e3 r _ (fun z => z.elim (fun z => npr z.symm) (notT r _ hr2)) nt_lst hr2, j3.2, fun j p' hij hpj => ?_⟩
    obtain ⟨n1, y, hy⟩ := hp2 j p' (Nat.le_of_succ_le hij) hpj
    have hne : p' ≠ p := fun z => by
      have := nd_ix pd hpj (by rw [z]; exact hpi)
      omega
    exact ⟨n1, y, e3 p' _ (fun z => z.elim hne (notT p' _ hy)) nt_lst hy⟩
  · rintro σ H2 _
    exact q H2
end Tz

/-! The def that names an error's class. -/
namespace Tz
open PySem PySem.Spec PyProof.Rows L2
def b_law_term (c : Nat) : DS := (dSeq (dAsg (dLst (dCons (dIsX (decide (c = 0))) (dCons (dIsX (decide (c = 1))) (dCons (dIsX (decide (c = 2))) dNil)))) (dgName 1)) (dSeq (dAsg (dOp oAdd (dVar 1) (dLst (dCons (dIsX (decide (c = 3))) (dCons (dIsX (decide (c = 4))) (dCons (dIsX (decide (c = 5))) dNil))))) (dgName 1)) (dSeq (dAsg (dOp oAdd (dVar 1) (dLst (dCons (dIsX (decide (c = 6))) (dCons (dIsX (decide (c = 7))) (dCons (dIsX (decide (c = 8))) dNil))))) (dgName 1)) (dSeq (dAsg (dOp oAdd (dVar 1) (dLst (dCons (dIsX (decide (c = 9))) (dCons (dIsX (decide (c = 10))) (dCons (dIsX (decide (c = 11))) dNil))))) (dgName 1)) (dSeq (dAsg (dOp oAdd (dVar 1) (dLst (dCons (dIsX (decide (c = 12))) (dCons (dIsX (decide (c = 13))) (dCons (dIsX (decide (c = 14))) dNil))))) (dgName 1)) (dSeq (dAsg (dOp oAdd (dVar 1) (dLst (dCons (dIsX (decide (c = 15))) dNil))) (dgName 1)) (dSeq (dAsg (dLst (dCons (dC (.str ("InvalidTable" : Str))) (dCons (dC (.str ("InvalidWord" : Str))) (dCons (dC (.str ("InvalidNumber" : Str))) (dCons (dC (.str ("InvalidSign" : Str))) (dCons (dC (.str ("InvalidNormal" : Str))) (dCons (dC (.str ("InvalidPositive" : Str))) dNil))))))) (dgName 2)) (dSeq (dAsg (dOp oAdd (dVar 2) (dLst (dCons (dC (.str ("InvalidFraction" : Str))) (dCons (dC (.str ("InvalidModulus" : Str))) (dCons (dC (.str ("InvalidRemainder" : Str))) (dCons (dC (.str ("InvalidLetter" : Str))) (dCons (dC (.str ("InvalidText" : Str))) dNil))))))) (dgName 2)) (dSeq (dAsg (dOp oAdd (dVar 2) (dLst (dCons (dC (.str ("NotPositive" : Str))) (dCons (dC (.str ("FiniteOrder" : Str))) (dCons (dC (.str ("AllFixed" : Str))) (dCons (dC (.str ("TooLong" : Str))) (dCons (dC (.str ("NothingToUndo" : Str))) dNil))))))) (dgName 2)) (dSeq (dIfS (dOr (dTest (dOp oNe (dCB oSum (dCons (dLcInt 1) dNil)) (dC (.int 1)))) (dNot (dTest (dIsX true)))) (dRet (dTup (dCons (dC (.str ("error" : Str))) (dCons (dC (.str ("other" : Str))) dNil)))) dNext) (dRet (dTup (dCons (dC (.str ("error" : Str))) (dCons (dOp oIx (dVar 2) (dIdxT (dVar 1))) dNil))))))))))))))
def t_law_term (K : PySem.W.Frag) (ec : Nat → Addr) (c : Nat) (a : Addr) : TS := (tSeq (tAsg (tLst (tCons (tIsX K a (ec c) (.ref (ec 0))) (tCons (tIsX K a (ec c) (.ref (ec 1))) (tCons (tIsX K a (ec c) (.ref (ec 2))) tNil)))) (gName 1)) (tSeq (tAsg (tOp rAddU (tVar 1) (tLst (tCons (tIsX K a (ec c) (.ref (ec 3))) (tCons (tIsX K a (ec c) (.ref (ec 4))) (tCons (tIsX K a (ec c) (.ref (ec 5))) tNil))))) (gName 1)) (tSeq (tAsg (tOp rAddU (tVar 1) (tLst (tCons (tIsX K a (ec c) (.ref (ec 6))) (tCons (tIsX K a (ec c) (.ref (ec 7))) (tCons (tIsX K a (ec c) (.ref (ec 8))) tNil))))) (gName 1)) (tSeq (tAsg (tOp rAddU (tVar 1) (tLst (tCons (tIsX K a (ec c) (.ref (ec 9))) (tCons (tIsX K a (ec c) (.ref (ec 10))) (tCons (tIsX K a (ec c) (.ref (ec 11))) tNil))))) (gName 1)) (tSeq (tAsg (tOp rAddU (tVar 1) (tLst (tCons (tIsX K a (ec c) (.ref (ec 12))) (tCons (tIsX K a (ec c) (.ref (ec 13))) (tCons (tIsX K a (ec c) (.ref (ec 14))) tNil))))) (gName 1)) (tSeq (tAsg (tOp rAddU (tVar 1) (tLst (tCons (tIsX K a (ec c) (.ref (ec 15))) tNil))) (gName 1)) (tSeq (tAsg (tLst (tCons (tC (.str ("InvalidTable" : Str))) (tCons (tC (.str ("InvalidWord" : Str))) (tCons (tC (.str ("InvalidNumber" : Str))) (tCons (tC (.str ("InvalidSign" : Str))) (tCons (tC (.str ("InvalidNormal" : Str))) (tCons (tC (.str ("InvalidPositive" : Str))) tNil))))))) (gName 2)) (tSeq (tAsg (tOp rAddU (tVar 2) (tLst (tCons (tC (.str ("InvalidFraction" : Str))) (tCons (tC (.str ("InvalidModulus" : Str))) (tCons (tC (.str ("InvalidRemainder" : Str))) (tCons (tC (.str ("InvalidLetter" : Str))) (tCons (tC (.str ("InvalidText" : Str))) tNil))))))) (gName 2)) (tSeq (tAsg (tOp rAddU (tVar 2) (tLst (tCons (tC (.str ("NotPositive" : Str))) (tCons (tC (.str ("FiniteOrder" : Str))) (tCons (tC (.str ("AllFixed" : Str))) (tCons (tC (.str ("TooLong" : Str))) (tCons (tC (.str ("NothingToUndo" : Str))) tNil))))))) (gName 2)) (tSeq (tIfS (tOr (tTest (tOp (rNeU K) (tCB (rSum K) (tCons (tLcInt 1) tNil)) (tC (.int 1)))) (tNot (tB (tIsX K a (ec c) (.ty "ValueError"))))) (tRet (tTup (tCons (tC (.str ("error" : Str))) (tCons (tC (.str ("other" : Str))) tNil)))) tNext) (tRet (tTup (tCons (tC (.str ("error" : Str))) (tCons (tOp (rIx K) (tVar 2) (tBM K "list" (rIndex K) (tVar 1) (tCons (tC (.bl true)) tNil))) tNil))))))))))))))
theorem sim_law_term {C : Cn} {c : Nat} {a TE' : Addr} (hc : c < 16) (EO : ErrsOk C.K C.ec TE') (hD : ∀ G, C.GP G → ∀ v, G.isDice v → v = .ref a) : SimS C (t_law_term C.K C.ec c a) (b_law_term c) :=
  let K := C.K; let ec := C.ec; (s_seq (s_asg (s_lst (s_cons (s_isX hD (.own _) (EO.kit c 0 hc (by decide))) (s_cons (s_isX hD (.own _) (EO.kit c 1 hc (by decide))) (s_cons (s_isX hD (.own _) (EO.kit c 2 hc (by decide))) s_nil)))) (g_name 1)) (s_seq (s_asg (s_op s_add (s_var 1) (s_lst (s_cons (s_isX hD (.own _) (EO.kit c 3 hc (by decide))) (s_cons (s_isX hD (.own _) (EO.kit c 4 hc (by decide))) (s_cons (s_isX hD (.own _) (EO.kit c 5 hc (by decide))) s_nil))))) (g_name 1)) (s_seq (s_asg (s_op s_add (s_var 1) (s_lst (s_cons (s_isX hD (.own _) (EO.kit c 6 hc (by decide))) (s_cons (s_isX hD (.own _) (EO.kit c 7 hc (by decide))) (s_cons (s_isX hD (.own _) (EO.kit c 8 hc (by decide))) s_nil))))) (g_name 1)) (s_seq (s_asg (s_op s_add (s_var 1) (s_lst (s_cons (s_isX hD (.own _) (EO.kit c 9 hc (by decide))) (s_cons (s_isX hD (.own _) (EO.kit c 10 hc (by decide))) (s_cons (s_isX hD (.own _) (EO.kit c 11 hc (by decide))) s_nil))))) (g_name 1)) (s_seq (s_asg (s_op s_add (s_var 1) (s_lst (s_cons (s_isX hD (.own _) (EO.kit c 12 hc (by decide))) (s_cons (s_isX hD (.own _) (EO.kit c 13 hc (by decide))) (s_cons (s_isX hD (.own _) (EO.kit c 14 hc (by decide))) s_nil))))) (g_name 1)) (s_seq (s_asg (s_op s_add (s_var 1) (s_lst (s_cons (s_isX hD (.own _) (EO.kit c 15 hc (by decide))) s_nil))) (g_name 1)) (s_seq (s_asg (s_lst (s_cons s_str (s_cons s_str (s_cons s_str (s_cons s_str (s_cons s_str (s_cons s_str s_nil))))))) (g_name 2)) (s_seq (s_asg (s_op s_add (s_var 2) (s_lst (s_cons s_str (s_cons s_str (s_cons s_str (s_cons s_str (s_cons s_str s_nil))))))) (g_name 2)) (s_seq (s_asg (s_op s_add (s_var 2) (s_lst (s_cons s_str (s_cons s_str (s_cons s_str (s_cons s_str (s_cons s_str s_nil))))))) (g_name 2)) (s_seq (s_ifS (s_or (s_test (s_op s_ne (s_cb s_sum (s_cons s_lcInt s_nil)) s_int)) (s_not (s_B (s_isX hD (.ty "ValueError") (EO.val c hc))))) (s_ret (s_tup (s_cons s_str (s_cons s_str s_nil)))) s_next) (s_ret (s_tup (s_cons s_str (s_cons (s_op s_ix (s_var 2) (s_idxT (s_var 1))) s_nil))))))))))))))
theorem sz {n m : Nat} (h : Nat.ble n m = true := by rfl) : n ≤ m := Nat.le_of_ble_eq_true h
theorem term_sound (c : Nat) (hc : c < 16) {nx : Rho → Prop} {rt : PyData → Prop} {E : Nat → Prop} (h : rt (errD c)) : b_law_term c [some dice, none, none, none] nx rt E := by
  match c, hc, h with
  | 0, _, h =>
    exact ⟨rfl, rfl, rfl, rfl, sz, rfl, rfl, rfl, rfl, sz, sz, rfl, rfl, rfl, rfl, sz, sz, rfl, rfl, rfl, rfl, sz, sz, rfl, rfl, rfl, rfl, sz, sz, rfl, rfl, sz, sz, rfl, sz, rfl, sz, sz, rfl, sz, sz, rfl, rfl, sz, h⟩
  | 1, _, h =>
    exact ⟨rfl, rfl, rfl, rfl, sz, rfl, rfl, rfl, rfl, sz, sz, rfl, rfl, rfl, rfl, sz, sz, rfl, rfl, rfl, rfl, sz, sz, rfl, rfl, rfl, rfl, sz, sz, rfl, rfl, sz, sz, rfl, sz, rfl, sz, sz, rfl, sz, sz, rfl, rfl, sz, h⟩
  | 2, _, h =>
    exact ⟨rfl, rfl, rfl, rfl, sz, rfl, rfl, rfl, rfl, sz, sz, rfl, rfl, rfl, rfl, sz, sz, rfl, rfl, rfl, rfl, sz, sz, rfl, rfl, rfl, rfl, sz, sz, rfl, rfl, sz, sz, rfl, sz, rfl, sz, sz, rfl, sz, sz, rfl, rfl, sz, h⟩
  | 3, _, h =>
    exact ⟨rfl, rfl, rfl, rfl, sz, rfl, rfl, rfl, rfl, sz, sz, rfl, rfl, rfl, rfl, sz, sz, rfl, rfl, rfl, rfl, sz, sz, rfl, rfl, rfl, rfl, sz, sz, rfl, rfl, sz, sz, rfl, sz, rfl, sz, sz, rfl, sz, sz, rfl, rfl, sz, h⟩
  | 4, _, h =>
    exact ⟨rfl, rfl, rfl, rfl, sz, rfl, rfl, rfl, rfl, sz, sz, rfl, rfl, rfl, rfl, sz, sz, rfl, rfl, rfl, rfl, sz, sz, rfl, rfl, rfl, rfl, sz, sz, rfl, rfl, sz, sz, rfl, sz, rfl, sz, sz, rfl, sz, sz, rfl, rfl, sz, h⟩
  | 5, _, h =>
    exact ⟨rfl, rfl, rfl, rfl, sz, rfl, rfl, rfl, rfl, sz, sz, rfl, rfl, rfl, rfl, sz, sz, rfl, rfl, rfl, rfl, sz, sz, rfl, rfl, rfl, rfl, sz, sz, rfl, rfl, sz, sz, rfl, sz, rfl, sz, sz, rfl, sz, sz, rfl, rfl, sz, h⟩
  | 6, _, h =>
    exact ⟨rfl, rfl, rfl, rfl, sz, rfl, rfl, rfl, rfl, sz, sz, rfl, rfl, rfl, rfl, sz, sz, rfl, rfl, rfl, rfl, sz, sz, rfl, rfl, rfl, rfl, sz, sz, rfl, rfl, sz, sz, rfl, sz, rfl, sz, sz, rfl, sz, sz, rfl, rfl, sz, h⟩
  | 7, _, h =>
    exact ⟨rfl, rfl, rfl, rfl, sz, rfl, rfl, rfl, rfl, sz, sz, rfl, rfl, rfl, rfl, sz, sz, rfl, rfl, rfl, rfl, sz, sz, rfl, rfl, rfl, rfl, sz, sz, rfl, rfl, sz, sz, rfl, sz, rfl, sz, sz, rfl, sz, sz, rfl, rfl, sz, h⟩
  | 8, _, h =>
    exact ⟨rfl, rfl, rfl, rfl, sz, rfl, rfl, rfl, rfl, sz, sz, rfl, rfl, rfl, rfl, sz, sz, rfl, rfl, rfl, rfl, sz, sz, rfl, rfl, rfl, rfl, sz, sz, rfl, rfl, sz, sz, rfl, sz, rfl, sz, sz, rfl, sz, sz, rfl, rfl, sz, h⟩
  | 9, _, h =>
    exact ⟨rfl, rfl, rfl, rfl, sz, rfl, rfl, rfl, rfl, sz, sz, rfl, rfl, rfl, rfl, sz, sz, rfl, rfl, rfl, rfl, sz, sz, rfl, rfl, rfl, rfl, sz, sz, rfl, rfl, sz, sz, rfl, sz, rfl, sz, sz, rfl, sz, sz, rfl, rfl, sz, h⟩
  | 10, _, h =>
    exact ⟨rfl, rfl, rfl, rfl, sz, rfl, rfl, rfl, rfl, sz, sz, rfl, rfl, rfl, rfl, sz, sz, rfl, rfl, rfl, rfl, sz, sz, rfl, rfl, rfl, rfl, sz, sz, rfl, rfl, sz, sz, rfl, sz, rfl, sz, sz, rfl, sz, sz, rfl, rfl, sz, h⟩
  | 11, _, h =>
    exact ⟨rfl, rfl, rfl, rfl, sz, rfl, rfl, rfl, rfl, sz, sz, rfl, rfl, rfl, rfl, sz, sz, rfl, rfl, rfl, rfl, sz, sz, rfl, rfl, rfl, rfl, sz, sz, rfl, rfl, sz, sz, rfl, sz, rfl, sz, sz, rfl, sz, sz, rfl, rfl, sz, h⟩
  | 12, _, h =>
    exact ⟨rfl, rfl, rfl, rfl, sz, rfl, rfl, rfl, rfl, sz, sz, rfl, rfl, rfl, rfl, sz, sz, rfl, rfl, rfl, rfl, sz, sz, rfl, rfl, rfl, rfl, sz, sz, rfl, rfl, sz, sz, rfl, sz, rfl, sz, sz, rfl, sz, sz, rfl, rfl, sz, h⟩
  | 13, _, h =>
    exact ⟨rfl, rfl, rfl, rfl, sz, rfl, rfl, rfl, rfl, sz, sz, rfl, rfl, rfl, rfl, sz, sz, rfl, rfl, rfl, rfl, sz, sz, rfl, rfl, rfl, rfl, sz, sz, rfl, rfl, sz, sz, rfl, sz, rfl, sz, sz, rfl, sz, sz, rfl, rfl, sz, h⟩
  | 14, _, h =>
    exact ⟨rfl, rfl, rfl, rfl, sz, rfl, rfl, rfl, rfl, sz, sz, rfl, rfl, rfl, rfl, sz, sz, rfl, rfl, rfl, rfl, sz, sz, rfl, rfl, rfl, rfl, sz, sz, rfl, rfl, sz, sz, rfl, sz, rfl, sz, sz, rfl, sz, sz, rfl, rfl, sz, h⟩
  | 15, _, h =>
    exact ⟨rfl, rfl, rfl, rfl, sz, rfl, rfl, rfl, rfl, sz, sz, rfl, rfl, rfl, rfl, sz, sz, rfl, rfl, rfl, rfl, sz, sz, rfl, rfl, rfl, rfl, sz, sz, rfl, rfl, sz, sz, rfl, sz, rfl, sz, sz, rfl, sz, sz, rfl, rfl, sz, h⟩
  | n + 16, hc, _ => exact absurd hc (by omega)
abbrev toldT (K : PySem.W.Frag) (ec : Nat → Addr) : Nat → Addr → VK → Hp → Prop := fun c a Q H => t_law_term K ec c a { nx := fun _ H' => Q .non H', rt := Q } (L2.start ["e", "flags", "kinds", "flag"] [.ref a]) H
theorem term_tells {K : PySem.W.Frag} {ec : Nat → Addr} {TE' : Addr} (EO : ErrsOk K ec TE') (c : Nat) (G : Hid) (a : Addr) (H : Hp) (Q : VK) (hc : c < 16) (j : G.J H) (k : ∀ v H', Ex G H H' → G.J H' → Rep K G H' v (errD c) → Q v H') : toldT K ec c a Q H := by
  have sim := sim_law_term (C := ⟨K, ec, fun G => ∀ v, G.isDice v → v = .ref a, fun _ _ _ => False, fun G p h xs z => z⟩) (a := a) hc EO (fun _ z => z)
  refine sim (G.err a) [some dice, none, none, none] (fun _ => False) (fun d => d = errD c) (fun _ => False) (fun v z => z) (term_sound c hc rfl) _ H _ j ⟨Nat.le_refl 4, fun i d z => ?_⟩ ⟨fun _ _ _ _ _ _ _ z => z.elim, ?_⟩ fun _ _ _ _ z => z.elim
  · have : i = 0 := by
      match i, z with
      | 0, _ => rfl
      | 1, z => cases z
      | 2, z => cases z
      | 3, z => cases z
      | n + 4, z => cases z
    subst this
    cases z
    exact ⟨.ref a, rfl, .inr ⟨rfl, rfl⟩⟩
  · intro v H' x e j' r hx
    subst hx
    exact k v H' e j' (rep_err rfl r)
end Tz

/-! The end: what the top has left, checked by one look each. -/
namespace Tz
open PySem PySem.Spec PyProof.Rows L2
def isN : Option (Option Value) → Bool
  | some none => true
  | _ => false
def isB (n : String) : Option (Option Value) → Bool
  | some (some (.builtin m)) => m == n
  | _ => false
def isTy (n : String) : Option Value → Bool
  | some (.type m) => m == n
  | _ => false
theorem isN_eq {o : Option (Option Value)} (h : isN o = true) : o = some none := by
  unfold isN at h
  split at h
  · rfl
  · cases h
theorem isB_eq {n : String} {o : Option (Option Value)} (h : isB n o = true) : o = some (some (.builtin n)) := by
  unfold isB at h
  split at h
  · rw [beq_iff_eq.mp h]
  · cases h
theorem isTy_eq {n : String} {o : Option Value} (h : isTy n o = true) : o = some (.type n) := by
  unfold isTy at h
  split at h
  · rw [beq_iff_eq.mp h]
  · cases h
def errChk1 (K : PySem.W.Frag) (TE : Addr) (C : Addr) : Bool :=
  isB "BaseException.__getattribute__" (PySem.W.findIn K (.ref C) "__getattribute__") && (isN (PySem.W.findIn K (.ref C) "__getattr__") && (PySem.W.subIn K (.ref C) (.type "BaseException") == some true && (PySem.W.hasDictIn K C &&
  (isB "object.__class__" (PySem.W.findIn K (.ref C) "__class__") && (PySem.W.kitOne K (.ref C) (.type "ValueError") == some true && (PySem.W.exmOne K (.ref C) (.ref TE) == some true && (PySem.W.keepIn K (.ref C) && (isTy "type" (PySem.W.typeIn K (.ref C)) && PySem.W.mroIn K C (.type "object") == some true))))))))
def errChk (K : PySem.W.Frag) (ec : Nat → Addr) (TE : Addr) : Bool :=
  isB "getset_descriptor.__get__" (PySem.W.specialIn K (.builtin "object.__class__") "__get__") && (PySem.W.takesIn K (.builtin "object.__class__") == some true) && ((List.range 16).all (fun c => errChk1 K TE (ec c)) && (List.range 16).all fun c => (List.range 16).all fun k => PySem.W.kitOne K (.ref (ec c)) (.ref (ec k)) == some (decide (c = k)))
theorem errs_of {K : PySem.W.Frag} {ec : Nat → Addr} {TE : Addr} (h : errChk K ec TE = true) : ErrsOk K ec TE ∧ ∀ c, c < 16 → PySem.W.keepIn K (.ref (ec c)) = true ∧ PySem.W.subIn K (.ref (ec c)) (.type "BaseException") = some true ∧ PySem.W.typeIn K (.ref (ec c)) = some (.type "type") := by
  unfold errChk at h
  rw [Bool.and_eq_true, Bool.and_eq_true, Bool.and_eq_true] at h
  obtain ⟨⟨h1, h0⟩, h2, h3⟩ := h
  have k2 : ∀ c, c < 16 → errChk1 K TE (ec c) = true := fun c hc => List.all_eq_true.mp h2 c (List.mem_range.mpr hc)
  have k3 : ∀ c k, c < 16 → k < 16 → PySem.W.kitOne K (.ref (ec c)) (.ref (ec k)) = some (decide (c = k)) := fun c k hc hk => beq_iff_eq.mp (List.all_eq_true.mp (List.all_eq_true.mp h3 c (List.mem_range.mpr hc)) k (List.mem_range.mpr hk))
  have k4 : ∀ c, c < 16 → ExcC K (ec c) ∧ PySem.W.kitOne K (.ref (ec c)) (.type "ValueError") = some true ∧ PySem.W.exmOne K (.ref (ec c)) (.ref TE) = some true ∧ PySem.W.keepIn K (.ref (ec c)) = true ∧ PySem.W.typeIn K (.ref (ec c)) = some (.type "type") := fun c hc => by
    have q := k2 c hc
    unfold errChk1 at q
    simp only [Bool.and_eq_true] at q
    obtain ⟨a1, a2, a3, a4, a5, a6, a7, a8, a9, a10⟩ := q
    exact ⟨⟨isB_eq a1, isN_eq a2, beq_iff_eq.mp a3, a4, isB_eq a5, isB_eq h1, beq_iff_eq.mp h0, beq_iff_eq.mp a10⟩, beq_iff_eq.mp a6, beq_iff_eq.mp a7, a8, isTy_eq a9⟩
  exact ⟨⟨fun c hc => (k4 c hc).1, k3, fun c hc => (k4 c hc).2.1, fun c hc => (k4 c hc).2.2.1⟩, fun c hc => ⟨(k4 c hc).2.2.2.1, (k4 c hc).1.hs, (k4 c hc).2.2.2.2⟩⟩
def bnames : List Str := ["len", "abs", "max", "min", "all", "sum", "tuple", "list", "str", "int", "bool", "isinstance", "range", "sorted", "set", "ValueError"]
def bltChk (K : PySem.W.Frag) : Bool := bnames.all fun x => isN (PySem.W.nsIn K mainGlobals x)
theorem blt_of {K : PySem.W.Frag} {h : Heap} {mg : Str → Option Value} (X : K.In h) (G : h.Ns mainGlobals mg) (c : bltChk K = true) : Blt mg ∧ mg "ValueError" = none := by
  have k : ∀ x ∈ bnames, mg x = none := fun x hx => PySem.W.mg_none_of X G (isN_eq (List.all_eq_true.mp c x hx))
  exact ⟨⟨k _ (by decide), k _ (by decide), k _ (by decide), k _ (by decide), k _ (by decide), k _ (by decide), k _ (by decide), k _ (by decide), k _ (by decide), k _ (by decide), k _ (by decide), k _ (by decide), k _ (by decide), k _ (by decide), k _ (by decide)⟩, k _ (by decide)⟩
theorem unit_of {K : PySem.W.Frag} {A : Ga} {o : Obj} {n : Nat} {t1 t2 t3 t4 : Nat} (l : K.lookup A.un = some o) (hc : o.cls = .type "tuple") (hd : o.data = .seq #[.int 1 t1, .int 0 t2, .int 0 t3, .int 1 t4] n) : GaOk K A :=
  ⟨fun H => .tup (.inr ⟨o, _, n, l, hc, hd, by show 4 ≤ sizeLine; decide, .cons (a := V.int 1) ⟨_, rfl⟩ (.cons (a := V.int 0) ⟨_, rfl⟩ (.cons (a := V.int 0) ⟨_, rfl⟩ (.cons (a := V.int 1) ⟨_, rfl⟩ .nil)))⟩) (.cons (.int 1) (.cons (.int 0) (.cons (.int 0) (.cons (.int 1) .nil))))⟩
theorem tabs0 {Pt : Addr} {q : Str} {H : Hp} (h : H Pt = some (.tbl #[])) : LamX.Tabs [(Pt, q)] H := fun p hp => by
  rw [List.mem_singleton.mp hp]
  exact ⟨#[], h, by constructor, fun pos cv z => nomatch z⟩
theorem tabsN {H : Hp} : LamX.Tabs [] H := fun p hp => nomatch hp
theorem cx_none {P : Program} {w : World} (H : Hp) (s : Shared) (e : Value) (s' : Shared) (z : L2N.CX P w [] H s (fun _ _ _ => False) e s') : False := by
  obtain ⟨_, _, _, _, _, _, _, _, _, _, _, _, z⟩ := z
  exact z.elim
theorem def0_of {K : PySem.W.Frag} {h : Heap} {mg : Str → Option Value} {x : Str} {st : Stmt} {f : Addr} {oc : Value} {od an : Option Addr} {osl : Array (Option Value)} {kV doc pm cdv ct : Value} (X : K.In h) (G : h.Ns mainGlobals mg) (a : PySem.W.nsIn K mainGlobals x = some (some (.ref f)))
    (l : K.lookup f = some ⟨oc, od, .func (PySem.W.fnOf x x (defArgs st) (defBody st) (defScope st) .none kV doc pm an cdv ct), osl⟩) (c : PySem.W.codeIn K cdv x = true) (k : PySem.W.keepIn K (.ref f) = true) : Def0 K mg x st := ⟨f, _, fun_mk l c k, PySem.W.mg_of X G a⟩
end Tz

/-! What the transformers say, one rule each, told so that the kernel is shown every step. -/
namespace Tz
open PySem PySem.Spec PyProof.Rows L2
section
variable {a b c : DE} {s : DA} {r : Rho} {Q : PyData → Prop} {E : Nat → Prop} {nx : Rho → Prop} {rt : PyData → Prop} {QB : Bool → Prop} {QL : List PyData → Prop} {k : Rho → Prop}
def onB (x : PyData) (Q : Bool → Prop) : Prop := match x with
  | .bool b => Q b
  | _ => False
theorem onB_b {v : Bool} : onB (.bool v) QB = QB v := propext Iff.rfl
def onI (x : PyData) (Q : Int → Prop) : Prop := match x with
  | .int b => Q b
  | _ => False
theorem onI_i {v : Int} {Q : Int → Prop} : onI (.int v) Q = Q v := propext Iff.rfl
def onStr (x : PyData) (Q : Str → Prop) : Prop := match x with
  | .str b => Q b
  | _ => False
theorem onStr_s {v : Str} {Q : Str → Prop} : onStr (.str v) Q = Q v := propext Iff.rfl
def onSeq (x : PyData) (Q : List PyData → Prop) : Prop := match x with
  | .list xs => Q xs
  | .tuple xs => Q xs
  | .str x => Q (x.cps.toList.map fun c => .str ⟨#[c]⟩)
  | _ => False
theorem onSeq_l {v : List PyData} : onSeq (.list v) QL = QL v := propext Iff.rfl
theorem onSeq_t {v : List PyData} : onSeq (.tuple v) QL = QL v := propext Iff.rfl
theorem onSeq_s {v : Str} : onSeq (.str v) QL = QL (v.cps.toList.map fun c => .str ⟨#[c]⟩) := propext Iff.rfl
theorem onS_s {α : Type} {x : α} {Q : α → Prop} : onS (some x) Q = Q x := propext Iff.rfl
theorem dFn_e {n : Nat} {f : DS} {ds : List PyData} : dFn n f ds Q E = f (startR n ds) (fun _ => Q .none) Q E := propext Iff.rfl
theorem dVar_e {i : Nat} : dVar i r Q E = onS (look r i) Q := propext Iff.rfl
theorem dC_e {d : PyData} : dC d r Q E = Q d := propext Iff.rfl
theorem dOp_e {o : O2} : dOp o a b r Q E = a r (fun x => b r (fun y => o x y Q) E) E := propext Iff.rfl
theorem dUn_e {o : O1} : dUn o a r Q E = a r (fun x => o x Q) E := propext Iff.rfl
theorem dNil_e : dNil r QL E = QL [] := propext Iff.rfl
theorem dCons_e : dCons a s r QL E = a r (fun x => s r (fun xs => QL (x :: xs)) E) E := propext Iff.rfl
theorem dTup_e : dTup s r Q E = s r (fun xs => plains xs = true ∧ xs.length ≤ 100000 ∧ Q (.tuple xs)) E := propext Iff.rfl
theorem dLst_e : dLst s r Q E = s r (fun xs => plains xs = true ∧ xs.length ≤ 100000 ∧ Q (.list xs)) E := propext Iff.rfl
theorem dTest_e : dTest a r QB E = a r (fun x => onB x QB) E := propext Iff.rfl
theorem dTru_i {i : Nat} {v : Int} (h : look r i = some (.int v)) : dTru (dVar i) r QB E = QB (v != 0) := by
  show onS (look r i) _ = _
  rw [h]
  exact propext Iff.rfl
theorem dAnd_e {a b : DT} : dAnd a b r QB E = a r (fun c => if c = true then b r QB E else QB false) E := propext Iff.rfl
theorem dOr_e {a b : DT} : dOr a b r QB E = a r (fun c => if c = true then QB true else b r QB E) E := propext Iff.rfl
theorem dNot_e {a : DT} : dNot a r QB E = a r (fun c => QB (!c)) E := propext Iff.rfl
theorem dAndV_e : dAndV a b r Q E = a r (fun x => onB x fun c => if c = true then b r Q E else Q (.bool false)) E := propext Iff.rfl
theorem dOrV_e : dOrV a b r Q E = a r (fun x => onB x fun c => if c = true then Q (.bool true) else b r Q E) E := propext Iff.rfl
theorem dNotV_e : dNotV a r Q E = a r (fun x => onB x fun c => Q (.bool (!c))) E := propext Iff.rfl
theorem dIf_e {t : DT} : dIf t a b r Q E = t r (fun c => if c = true then a r Q E else b r Q E) E := propext Iff.rfl
theorem dChain_e {o o' : O2} : dChain o o' a b c r Q E = a r (fun x => b r (fun y => o x y (fun z => onB z fun k => if k = true then c r (fun w => o' y w Q) E else Q (.bool false))) E) E := propext Iff.rfl
theorem dCall_e {n : Nat} {f : DF} : dCall n f s r Q E = s r (fun ds => ds.length = n ∧ f ds Q E) E := propext Iff.rfl
theorem dCB_e {o : List PyData → (PyData → Prop) → Prop} : dCB o s r Q E = s r (fun ds => o ds Q) E := propext Iff.rfl
theorem dNext_e : dNext r nx rt E = nx r := propext Iff.rfl
theorem dSeq_e {a b : DS} : dSeq a b r nx rt E = a r (fun r' => b r' nx rt E) rt E := propext Iff.rfl
theorem dRet_e : dRet a r nx rt E = a r rt E := propext Iff.rfl
theorem dDrop_e : dDrop a r nx rt E = a r (fun _ => nx r) E := propext Iff.rfl
theorem dAsg_e {g : DG} : dAsg a g r nx rt E = a r (fun x => g x r nx) E := propext Iff.rfl
theorem dIfS_e {t : DT} {a b : DS} : dIfS t a b r nx rt E = t r (fun c => if c = true then a r nx rt E else b r nx rt E) E := propext Iff.rfl
theorem dRaise_e {c : Nat} : dRaise c r nx rt E = E c := propext Iff.rfl
theorem dgName_e {i : Nat} {x : PyData} : dgName i x r k = k (put r i x) := propext Iff.rfl
theorem dgNil_e : dgNil [] r k = k r := propext ⟨fun z => z.2, fun z => ⟨rfl, z⟩⟩
theorem dgCons_e {g : DG} {gs : DGs} {x : PyData} {xs : List PyData} : dgCons g gs (x :: xs) r k = g x r (fun r' => gs xs r' k) := propext Iff.rfl
theorem dgTup_e {n : Nat} {gs : DGs} {xs : List PyData} : dgTup n gs (.tuple xs) r k = (xs.length = n ∧ gs xs r k) := propext Iff.rfl
theorem dPar_e {i j : Nat} {a b : DE} : dPar i j (dCons a (dCons b dNil)) r nx rt E = a r (fun x => b r (fun y => nx (put (put r i x) j y)) E) E := propext Iff.rfl
theorem dPar3_e {i j l : Nat} {a b c : DE} : dPar3 i j l (dCons a (dCons b (dCons c dNil))) r nx rt E = a r (fun x => b r (fun y => c r (fun z => nx (put (put (put r i x) j y) l z)) E) E) E := propext Iff.rfl
theorem dFor_e {i : DI} {g : DG} {b : DS} : dFor i g b r nx rt E = i r (fun xs => forL g b nx rt E xs r) E := propext Iff.rfl
theorem forL_n {g : DG} {b : DS} : forL g b nx rt E [] r = nx r := propext Iff.rfl
theorem forL_c {g : DG} {b : DS} {x : PyData} {xs : List PyData} : forL g b nx rt E (x :: xs) r = g x r (fun r' => b r' (fun r'' => forL g b nx rt E xs r'') rt E) := propext Iff.rfl
theorem dLc_e {i : DI} {g : DG} {t : DT} {vs : List Nat} : dLc i g t a vs r Q E = i r (fun xs => xs.length ≤ 100000 ∧ lcL g t a (drps r vs) (fun ys => Q (.list ys)) xs []) E := propext Iff.rfl
theorem lcL_n {g : DG} {t : DT} {acc : List PyData} : lcL g t a r QL [] acc = QL acc := propext Iff.rfl
theorem lcL_c {g : DG} {t : DT} {x : PyData} {xs acc : List PyData} : lcL g t a r QL (x :: xs) acc = g x r (fun r' => t r' (fun b => if b = true then a r' (fun y => plain y = true ∧ lcL g t a r QL xs (acc ++ [y])) (fun _ => False) else lcL g t a r QL xs acc) (fun _ => False)) := propext Iff.rfl
theorem dYes_e : dYes r QB E = QB true := propext Iff.rfl
theorem dOver_e : dOver a r QL E = a r (fun x => onSeq x QL) E := propext Iff.rfl
theorem dRng1_e : dRng1 a r QL E = a r (fun x => onI x fun j => -(2 ^ 62) ≤ j ∧ j < 2 ^ 62 ∧ QL (rangeD 0 j.toNat)) E := propext Iff.rfl
theorem dRng2_e : dRng2 a b r QL E = a r (fun x => b r (fun y => match x, y with
  | .int i, .int j => (-(2 ^ 62) ≤ i ∧ i < 2 ^ 62 ∧ -(2 ^ 62) ≤ j ∧ j < 2 ^ 62) ∧ QL (rangeD i (j - i).toNat)
  | _, _ => False) E) E := propext Iff.rfl
theorem dPart_e {QO : Option Int → Prop} : dPart a r QO E = a r (fun x => onI x fun i => QO (some i)) E := propext Iff.rfl
theorem dNoPart_e {QO : Option Int → Prop} : dNoPart r QO E = QO none := propext Iff.rfl
theorem dMs_e {o : O2} : dMs o a b r Q E = a r (fun x => onStr x fun z => b r (fun y => o (.str z) y Q) E) E := propext Iff.rfl
theorem dIsi_e {T : String} : dIsi T a r Q E = a r (fun x => plain x = true ∧ onS (isiB x T) fun b => Q (.bool b)) E := propext Iff.rfl
theorem dTold_e : dTold a r Q E = a r Q (fun c => c < 16 ∧ Q (errD c)) := propext Iff.rfl
/-- a call within told -/
def toldQ (f : DF) (ds : List PyData) (Q : PyData → Prop) : Prop := f ds Q (fun c => c < 16 ∧ Q (errD c))
theorem dToldC_e {n : Nat} {f : DF} : dTold (dCall n f s) r Q E = s r (fun ds => ds.length = n ∧ toldQ f ds Q) (fun c => c < 16 ∧ Q (errD c)) := propext Iff.rfl
theorem told_bad {f : DF} {ds : List PyData} {Q : PyData → Prop} {c : Nat} (hc : c < 16) (hf : ∀ (Q : PyData → Prop) (E : Nat → Prop), E c → f ds Q E) (h : Q (errD c)) : toldQ f ds Q := hf _ _ ⟨hc, h⟩
theorem oAdd_ii {i j : Int} : oAdd (.int i) (.int j) Q = Q (.int (i + j)) := propext Iff.rfl
theorem oAdd_ss {i j : Str} : oAdd (.str i) (.str j) Q = (i.length + j.length ≤ 1000000 ∧ Q (.str (i ++ j))) := propext Iff.rfl
theorem oAdd_ll {i j : List PyData} : oAdd (.list i) (.list j) Q = (i.length + j.length ≤ 1000000 ∧ Q (.list (i ++ j))) := propext Iff.rfl
theorem oSub_ii {i j : Int} : oSub (.int i) (.int j) Q = Q (.int (i - j)) := propext Iff.rfl
theorem oMul_ii {i j : Int} : oMul (.int i) (.int j) Q = (mulOk i j ∧ Q (.int (i * j))) := propext Iff.rfl
theorem oMul_si {z : Str} {n : Int} : oMul (.str z) (.int n) Q = (-(2 ^ 63) ≤ n ∧ n < 2 ^ 63 ∧ z.length * n.toNat ≤ 1000000 ∧ Q (.str (repStr z n))) := propext Iff.rfl
theorem oDiv_ii {i j : Int} : oDiv (.int i) (.int j) Q = (divOk i j ∧ Q (.int (i.fdiv j))) := propext Iff.rfl
theorem oMod_ii {i j : Int} : oMod (.int i) (.int j) Q = (j ≠ 0 ∧ Q (.int (i.fmod j))) := propext Iff.rfl
theorem oPow_ii {i j : Int} : oPow (.int i) (.int j) Q = (CPow i j ∧ Q (.int (i ^ j.toNat))) := propext Iff.rfl
theorem oNeg_i {i : Int} : oNeg (.int i) Q = Q (.int (-i)) := propext Iff.rfl
theorem oEq_ii {i j : Int} : oEq (.int i) (.int j) Q = Q (.bool (decide (i = j))) := propext Iff.rfl
theorem oNe_ii {i j : Int} : oNe (.int i) (.int j) Q = Q (.bool (!decide (i = j))) := propext Iff.rfl
theorem oLt_ii {i j : Int} : oLt (.int i) (.int j) Q = Q (.bool (decide (i < j))) := propext Iff.rfl
theorem oLe_ii {i j : Int} : oLe (.int i) (.int j) Q = Q (.bool (decide (i ≤ j))) := propext Iff.rfl
theorem oGt_ii {i j : Int} : oGt (.int i) (.int j) Q = Q (.bool (decide (j < i))) := propext Iff.rfl
theorem oGe_ii {i j : Int} : oGe (.int i) (.int j) Q = Q (.bool (decide (j ≤ i))) := propext Iff.rfl
theorem oIs_e {x : PyData} : oIs x .none Q = (plain x = true ∧ Q (.bool (isNone x))) := propext Iff.rfl
theorem oIsN_e {x : PyData} : oIsN x .none Q = (plain x = true ∧ Q (.bool (!isNone x))) := propext Iff.rfl
theorem oIx_l {ds : List PyData} {i : Int} : oIx (.list ds) (.int i) Q = onS (atI ds i) Q := propext Iff.rfl
theorem oIx_t {ds : List PyData} {i : Int} : oIx (.tuple ds) (.int i) Q = onS (atI ds i) Q := propext Iff.rfl
theorem oIx_s {z : Str} {i : Int} : oIx (.str z) (.int i) Q = (z.length ≤ 1000000 ∧ onS (atI z.cps.toList i) fun c => Q (.str ⟨#[c]⟩)) := propext Iff.rfl
theorem oLen_t {ds : List PyData} : oLen [.tuple ds] Q = Q (.int ds.length) := propext Iff.rfl
theorem oLen_l {ds : List PyData} : oLen [.list ds] Q = Q (.int ds.length) := propext Iff.rfl
theorem oAbs_i {i : Int} : oAbs [.int i] Q = Q (.int (if i < 0 then -i else i)) := propext Iff.rfl
theorem oMax_l {xs : List PyData} : oMaxU [.list xs] Q = onS (asInts xs) (fun ns => ns ≠ [] ∧ ∀ m, m ∈ ns → (∀ y, y ∈ ns → y ≤ m) → Q (.int m)) := propext Iff.rfl
theorem oMin_l {xs : List PyData} : oMinU [.list xs] Q = onS (asStrs xs) (fun ss => ss ≠ [] ∧ ∀ m, m ∈ ss → (∀ y ∈ ss, ¬ y.cps.toList < m.cps.toList) → Q (.str m)) := propext Iff.rfl
theorem oMin_t {xs : List PyData} : oMinU [.tuple xs] Q = onS (asInts xs) (fun ns => ns ≠ [] ∧ ∀ m, m ∈ ns → (∀ y, y ∈ ns → m ≤ y) → Q (.int m)) := propext Iff.rfl
theorem oMax_t {xs : List PyData} : oMaxU [.tuple xs] Q = onS (asInts xs) (fun ns => ns ≠ [] ∧ ∀ m, m ∈ ns → (∀ y, y ∈ ns → y ≤ m) → Q (.int m)) := propext Iff.rfl
theorem oMax2_ii {i j : Int} : oMax2 [.int i, .int j] Q = Q (.int (if j > i then j else i)) := propext Iff.rfl
theorem oMin2_ii {i j : Int} : oMin2 [.int i, .int j] Q = Q (.int (if j < i then j else i)) := propext Iff.rfl
theorem oAll_l {xs : List PyData} : oAll [.list xs] Q = onS (asBools xs) (fun bs => Q (.bool (bs.all id))) := propext Iff.rfl
theorem oSum_l {xs : List PyData} : oSum [.list xs] Q = onS (asInts xs) (fun ns => Q (.int ns.sum)) := propext Iff.rfl
theorem oTuple_l {xs : List PyData} : oTuple [.list xs] Q = Q (.tuple xs) := propext Iff.rfl
theorem oJoin_l {z : Str} {ds : List PyData} : oJoin (.str z) (.list ds) Q = onS (asStrs ds) (fun ys => (ys.map (·.length)).sum + ys.length * z.length ≤ 1000000 ∧ Q (.str (Txt.join z ys))) := propext Iff.rfl
theorem oSindex_ss {x y : Str} : oSindex (.str x) (.str y) Q = onS ((Builtin.Str.occurrences x y 0 x.length 1).head?) (fun (i : Nat) => Q (.int (i : Int))) := propext Iff.rfl
theorem roll_e {n : Int} : f_law_roll [dice, .int n] Q E = (0 < n ∧ n < 2 ^ 62 ∧ ∀ i : Int, 0 ≤ i → i < n → Q (.int i)) := propext Iff.rfl
theorem if_t {p q : Prop} : (if true = true then p else q) = p := if_pos rfl
theorem if_T {p q : Prop} [d : Decidable True] : (if True then p else q) = p := if_pos trivial
theorem if_F {p q : Prop} [d : Decidable False] : (if False then p else q) = q := if_neg id
theorem if_f {p q : Prop} : (if false = true then p else q) = q := if_neg nofun
theorem oLen_s {z : Str} : oLen [.str z] Q = (z.length ≤ 1000000 ∧ Q (.int z.length)) := propext Iff.rfl
theorem oList_t {xs : List PyData} : oList [.tuple xs] Q = Q (.list xs) := propext Iff.rfl
theorem oList_l {xs : List PyData} : oList [.list xs] Q = Q (.list xs) := propext Iff.rfl
def onSl (x : PyData) (lo hi : Option Int) (Q : PyData → Prop) : Prop := match x with
  | .list ds => Q (.list (cutD ds lo hi))
  | .tuple ds => ¬ (HT.sIx ds.length 0 lo = 0 ∧ HT.sIx ds.length ds.length hi = ds.length) ∧ Q (.tuple (cutD ds lo hi))
  | .str z => z.length ≤ 1000000 ∧ Q (.str (cutS z lo hi))
  | _ => False
theorem dSl_e {l h : DO} : dSl a l h r Q E = a r (fun x => l r (fun lo => h r (fun hi => onSl x lo hi Q) E) E) E := propext Iff.rfl
theorem onSl_l {ds : List PyData} {lo hi : Option Int} : onSl (.list ds) lo hi Q = Q (.list (cutD ds lo hi)) := propext Iff.rfl
theorem onSl_s {z : Str} {lo hi : Option Int} : onSl (.str z) lo hi Q = (z.length ≤ 1000000 ∧ Q (.str (cutS z lo hi))) := propext Iff.rfl
end
/-- four whole numbers -/
structure M where
  a : Int
  b : Int
  c : Int
  d : Int
  deriving DecidableEq
namespace M
abbrev p (m : M) : PyData := .tuple [.int m.a, .int m.b, .int m.c, .int m.d]
def mul (m n : M) : M := ⟨m.a * n.a + m.b * n.c, m.a * n.b + m.b * n.d, m.c * n.a + m.d * n.c, m.c * n.b + m.d * n.d⟩
def inv (m : M) : M := ⟨m.d, -m.b, -m.c, m.a⟩
def neg (m : M) : M := ⟨-m.a, -m.b, -m.c, -m.d⟩
def det (m : M) : Int := m.a * m.d - m.b * m.c
def one : M := ⟨1, 0, 0, 1⟩
/-- all of them at most n, signs apart -/
def le (m : M) (n : Nat) : Prop := m.a.natAbs ≤ n ∧ m.b.natAbs ≤ n ∧ m.c.natAbs ≤ n ∧ m.d.natAbs ≤ n
theorem le.mono {m : M} {k n : Nat} (h : m.le k) (e : k ≤ n) : m.le n := ⟨Nat.le_trans h.1 e, Nat.le_trans h.2.1 e, Nat.le_trans h.2.2.1 e, Nat.le_trans h.2.2.2 e⟩
theorem det_mul (m n : M) : (m.mul n).det = m.det * n.det := by
  simp only [mul, det, Int.mul_sub, Int.sub_mul, Int.mul_add, Int.add_mul]
  have e1 : m.a * n.a * (m.c * n.b) = m.a * n.b * (m.c * n.a) := by ac_rfl
  have e2 : m.b * n.c * (m.d * n.d) = m.b * n.d * (m.d * n.c) := by ac_rfl
  have e3 : m.a * n.a * (m.d * n.d) = m.a * m.d * (n.a * n.d) := by ac_rfl
  have e4 : m.b * n.c * (m.c * n.b) = m.b * m.c * (n.b * n.c) := by ac_rfl
  have e5 : m.a * n.b * (m.d * n.c) = m.a * m.d * (n.b * n.c) := by ac_rfl
  have e6 : m.b * n.d * (m.c * n.a) = m.b * m.c * (n.a * n.d) := by ac_rfl
  omega
theorem det_inv (m : M) : m.inv.det = m.det := by
  simp only [inv, det, Int.neg_mul_neg]
  rw [Int.mul_comm m.d m.a]
theorem det_neg (m : M) : m.neg.det = m.det := by
  simp only [neg, det, Int.neg_mul_neg]
theorem ext {m n : M} (h1 : m.a = n.a) (h2 : m.b = n.b) (h3 : m.c = n.c) (h4 : m.d = n.d) : m = n := by
  cases m; cases n; simp only at h1 h2 h3 h4; rw [h1, h2, h3, h4]
theorem mul_assoc (m n k : M) : (m.mul n).mul k = m.mul (n.mul k) := by
  apply ext <;> simp only [mul, Int.mul_add, Int.add_mul, Int.mul_assoc] <;> omega
theorem mul_inv (m : M) (h : m.det = 1) : m.mul m.inv = one := by
  simp only [det] at h
  have e1 : m.a * -m.b = -(m.a * m.b) := Int.mul_neg _ _
  have e2 : m.b * -m.c = -(m.b * m.c) := Int.mul_neg _ _
  have e3 : m.c * -m.b = -(m.c * m.b) := Int.mul_neg _ _
  have e4 : m.d * -m.c = -(m.d * m.c) := Int.mul_neg _ _
  have e5 := Int.mul_comm m.a m.b
  have e6 := Int.mul_comm m.c m.d
  have e7 := Int.mul_comm m.c m.b
  have e8 := Int.mul_comm m.d m.a
  apply ext <;> simp only [mul, inv, one] <;> omega
theorem inv_mul (m : M) (h : m.det = 1) : m.inv.mul m = one := by
  have z := mul_inv m.inv (by rw [det_inv]; exact h)
  have e : m.inv.inv = m := by apply ext <;> simp only [inv, Int.neg_neg]
  rw [e] at z
  exact z
theorem inv_mul_rev (m n : M) : (m.mul n).inv = n.inv.mul m.inv := by
  apply ext <;> simp only [mul, inv, Int.neg_mul_neg, Int.mul_neg, Int.neg_mul]
  · rw [Int.mul_comm m.c, Int.mul_comm m.d]; omega
  · rw [Int.mul_comm m.a, Int.mul_comm m.b]; omega
  · rw [Int.mul_comm m.c, Int.mul_comm m.d]; omega
  · rw [Int.mul_comm m.a, Int.mul_comm m.b]; omega
theorem one_mul (m : M) : one.mul m = m := by
  apply ext <;> simp only [mul, one] <;> omega
theorem mul_one (m : M) : m.mul one = m := by
  apply ext <;> simp only [mul, one] <;> omega
theorem natAbs_mul_le {x y : Int} {k n : Nat} (h1 : x.natAbs ≤ k) (h2 : y.natAbs ≤ n) : (x * y).natAbs ≤ k * n := by
  rw [Int.natAbs_mul]
  exact Nat.mul_le_mul h1 h2
theorem le.mul {m n : M} {j k : Nat} (h : m.le j) (e : n.le k) : (m.mul n).le (2 * (j * k)) := by
  have add : ∀ {x y z w : Int}, x.natAbs ≤ j → y.natAbs ≤ k → z.natAbs ≤ j → w.natAbs ≤ k → (x * y + z * w).natAbs ≤ 2 * (j * k) := fun h1 h2 h3 h4 => by
    have a1 := natAbs_mul_le h1 h2
    have a2 := natAbs_mul_le h3 h4
    have := Int.natAbs_add_le (a := ‹Int› * ‹Int›) (b := 0)
    refine Nat.le_trans (Int.natAbs_add_le _ _) ?_
    omega
  exact ⟨add h.1 e.1 h.2.1 e.2.2.1, add h.1 e.2.1 h.2.1 e.2.2.2, add h.2.2.1 e.1 h.2.2.2 e.2.2.1, add h.2.2.1 e.2.1 h.2.2.2 e.2.2.2⟩
theorem le.inv {m : M} {k : Nat} (h : m.le k) : m.inv.le k := ⟨h.2.2.2, by show (-m.b).natAbs ≤ k; rw [Int.natAbs_neg]; exact h.2.1, by show (-m.c).natAbs ≤ k; rw [Int.natAbs_neg]; exact h.2.2.1, h.1⟩
theorem le.neg {m : M} {k : Nat} (h : m.le k) : m.neg.le k := ⟨by show (-m.a).natAbs ≤ k; rw [Int.natAbs_neg]; exact h.1, by show (-m.b).natAbs ≤ k; rw [Int.natAbs_neg]; exact h.2.1, by show (-m.c).natAbs ≤ k; rw [Int.natAbs_neg]; exact h.2.2.1, by show (-m.d).natAbs ≤ k; rw [Int.natAbs_neg]; exact h.2.2.2⟩
instance (m : M) (n : Nat) : Decidable (m.le n) := by
  unfold le
  infer_instance
end M
theorem mok {x y : Int} (h : x.natAbs ≤ 9223372036854775808) : mulOk x y := mulOk_l (by omega)
theorem mokr {x y : Int} (h : y.natAbs ≤ 9223372036854775808) : mulOk x y := mulOk_r (by omega)
theorem mokb {x y : Int} (h : x.natAbs ≤ 2 ^ 9000) (k : y.natAbs ≤ 2 ^ 9000) : mulOk x y :=
  mulOk_of (a := 9001) (b := 9001) (Nat.lt_of_le_of_lt h (Nat.pow_lt_pow_right (by decide) (by decide))) (Nat.lt_of_le_of_lt k (Nat.pow_lt_pow_right (by decide) (by decide))) (by decide)
theorem plains_n : (plains [] = true) = True := eq_true rfl
theorem plains_c {x : PyData} {xs : List PyData} : (plains (x :: xs) = true) = (plain x = true ∧ plains xs = true) := by
  show ((plain x && plains xs) = true) = _
  rw [Bool.and_eq_true]
theorem plain_t {x : List PyData} : (plain (.tuple x) = true) = True := eq_true rfl
theorem plain_l {x : List PyData} : (plain (.list x) = true) = True := eq_true rfl
theorem plain_i {x : Int} : (plain (.int x) = true) = True := eq_true rfl
theorem plain_s {x : Str} : (plain (.str x) = true) = True := eq_true rfl
theorem plain_b {x : Bool} : (plain (.bool x) = true) = True := eq_true rfl
theorem plain_no : (plain .none = true) = True := eq_true rfl
theorem oEq_bb {i j : Bool} {Q : PyData → Prop} : oEq (.bool i) (.bool j) Q = Q (.bool (decide (i = j))) := propext Iff.rfl
theorem oNe_bb {i j : Bool} {Q : PyData → Prop} : oNe (.bool i) (.bool j) Q = Q (.bool (!decide (i = j))) := propext Iff.rfl
/-- equality of two tuples of four by data -/
theorem eqv4 (m n : M) : PyData.eqv m.p n.p = decide (m = n) := by
  have e : PyData.eqv m.p n.p = (decide (m.a = n.a) && (decide (m.b = n.b) && (decide (m.c = n.c) && (decide (m.d = n.d) && true)))) := rfl
  rw [e]
  by_cases h : m = n
  · subst h
    simp
  · rw [decide_eq_false h]
    by_cases h1 : m.a = n.a <;> by_cases h2 : m.b = n.b <;> by_cases h3 : m.c = n.c <;> by_cases h4 : m.d = n.d <;> simp only [h1, h2, h3, h4, decide_true, decide_false, Bool.and_true, Bool.true_and, Bool.false_and, Bool.and_false, Bool.false_eq_true] <;> first | rfl | (exact (h (M.ext h1 h2 h3 h4)).elim)
theorem isi_tt (x : List PyData) : isiB (.tuple x) "tuple" = some true := show kitB "tuple" "tuple" = some true from by decide +kernel
theorem isi_lt (x : List PyData) : isiB (.list x) "tuple" = some false := show kitB "list" "tuple" = some false from by decide +kernel
theorem isi_nt : isiB .none "tuple" = some false := show kitB "NoneType" "tuple" = some false from by decide +kernel
theorem isi_it (x : Int) : isiB (.int x) "tuple" = some false := show kitB "int" "tuple" = some false from by decide +kernel
theorem isi_bt (x : Bool) : isiB (.bool x) "tuple" = some false := show kitB "bool" "tuple" = some false from by decide +kernel
theorem isi_st (x : Str) : isiB (.str x) "tuple" = some false := show kitB "str" "tuple" = some false from by decide +kernel
theorem isi_ii (x : Int) : isiB (.int x) "int" = some true := show kitB "int" "int" = some true from by decide +kernel
theorem isi_ib (x : Int) : isiB (.int x) "bool" = some false := show kitB "int" "bool" = some false from by decide +kernel
theorem isi_bi (x : Bool) : isiB (.bool x) "int" = some true := show kitB "bool" "int" = some true from by decide +kernel
theorem isi_bb (x : Bool) : isiB (.bool x) "bool" = some true := show kitB "bool" "bool" = some true from by decide +kernel
theorem isi_si (x : Str) : isiB (.str x) "int" = some false := show kitB "str" "int" = some false from by decide +kernel
theorem isi_ni : isiB .none "int" = some false := show kitB "NoneType" "int" = some false from by decide +kernel
theorem isi_ti (x : List PyData) : isiB (.tuple x) "int" = some false := show kitB "tuple" "int" = some false from by decide +kernel
theorem isi_li (x : List PyData) : isiB (.list x) "int" = some false := show kitB "list" "int" = some false from by decide +kernel
theorem isi_ss (x : Str) : isiB (.str x) "str" = some true := show kitB "str" "str" = some true from by decide +kernel
theorem isi_is (x : Int) : isiB (.int x) "str" = some false := show kitB "int" "str" = some false from by decide +kernel
theorem isi_bs (x : Bool) : isiB (.bool x) "str" = some false := show kitB "bool" "str" = some false from by decide +kernel
theorem isi_ns : isiB .none "str" = some false := show kitB "NoneType" "str" = some false from by decide +kernel
theorem isi_ts (x : List PyData) : isiB (.tuple x) "str" = some false := show kitB "tuple" "str" = some false from by decide +kernel
theorem isi_ls (x : List PyData) : isiB (.list x) "str" = some false := show kitB "list" "str" = some false from by decide +kernel
theorem pl4 {a b c d : Int} : (plains [.int a, .int b, .int c, .int d] = true) = True := eq_true rfl
theorem atI4_0 {α : Type} {a b c d : α} : atI [a, b, c, d] 0 = some a := rfl
theorem atI4_1 {α : Type} {a b c d : α} : atI [a, b, c, d] 1 = some b := rfl
theorem atI4_2 {α : Type} {a b c d : α} : atI [a, b, c, d] 2 = some c := rfl
theorem atI4_3 {α : Type} {a b c d : α} : atI [a, b, c, d] 3 = some d := rfl
theorem ten6 : ((10 : Int) ^ (6 : Int).toNat) = 1000000 := by decide
theorem ne_mm {m n : M} {Q : PyData → Prop} (h : Q (.bool (!decide (m = n)))) : oNe m.p n.p Q := ⟨rfl, rfl, by rw [eqv4]; exact h⟩
theorem eq_mm {m n : M} {Q : PyData → Prop} (h : Q (.bool (decide (m = n)))) : oEq m.p n.p Q := ⟨rfl, rfl, by rw [eqv4]; exact h⟩
end Tz

/-! Words of letters, by code points. -/
namespace Tz
open PySem PySem.Spec PyProof.Rows L2
abbrev W (w : List Nat) : PyData := .str ⟨w.toArray⟩
abbrev ch (c : Nat) : PyData := .str ⟨#[c]⟩
/-- a letter's four -/
def L (c : Nat) : M := if c = 115 then ⟨0, -1, 1, 0⟩ else if c = 116 then ⟨1, 1, 0, 1⟩ else if c = 84 then ⟨1, -1, 0, 1⟩ else if c = 119 then ⟨0, -1, 1, 1⟩ else if c = 118 then ⟨-1, -1, 1, 0⟩ else ⟨1, 0, 1, 1⟩
def six (c : Nat) : Prop := c = 115 ∨ c = 116 ∨ c = 84 ∨ c = 119 ∨ c = 118 ∨ c = 108
def three (c : Nat) : Prop := c = 115 ∨ c = 116 ∨ c = 84
theorem three.six {c : Nat} (h : three c) : six c := by rcases h with h | h | h <;> simp [Tz.six, h]
theorem L_det (c : Nat) : (L c).det = 1 := by
  unfold L
  split
  · decide
  · split
    · decide
    · split
      · decide
      · split
        · decide
        · split <;> decide
theorem L_le (c : Nat) : (L c).le 1 := by
  unfold L
  split
  · decide
  · split
    · decide
    · split
      · decide
      · split
        · decide
        · split <;> decide
def wm (m : M) : List Nat → M
  | [] => m
  | c :: w => wm (m.mul (L c)) w
theorem wm_mul (m n : M) : ∀ w, wm (m.mul n) w = m.mul (wm n w)
  | [] => rfl
  | c :: w => by
    show wm ((m.mul n).mul (L c)) w = m.mul (wm (n.mul (L c)) w)
    rw [M.mul_assoc, wm_mul m (n.mul (L c)) w]
theorem wm_one (m : M) (w : List Nat) : wm m w = m.mul (wm .one w) := by
  have := wm_mul m .one w
  rw [M.mul_one] at this
  exact this
theorem wm_append (m : M) : ∀ u w, wm m (u ++ w) = wm (wm m u) w
  | [], _ => rfl
  | c :: u, w => wm_append (m.mul (L c)) u w
theorem wm_det {m : M} (h : m.det = 1) : ∀ w, (wm m w).det = 1
  | [] => h
  | c :: w => wm_det (m := m.mul (L c)) (by rw [M.det_mul, h, L_det]; rfl) w
theorem wm_le {m : M} {k : Nat} (h : m.le k) : ∀ w : List Nat, (wm m w).le (k * 2 ^ w.length)
  | [] => h.mono (by simp)
  | c :: w => (wm_le (m := m.mul (L c)) (h.mul (L_le c)) w).mono (by rw [List.length_cons, Nat.pow_succ]; simp only [Nat.mul_one]; rw [Nat.mul_comm 2 k, Nat.mul_assoc, Nat.mul_comm 2]; exact Nat.le_refl _)
theorem wm_le1 : ∀ w : List Nat, (wm .one w).le (2 ^ (w.length - 1))
  | [] => by decide
  | c :: w => by
    show (wm (M.one.mul (L c)) w).le (2 ^ w.length)
    rw [M.one_mul]
    have := wm_le (L_le c) w
    rw [Nat.one_mul] at this
    exact this
/-! ### words of t and l: entries grow as in Fibonacci's row -/
def two (c : Nat) : Prop := c = 116 ∨ c = 108
theorem two.six {c : Nat} (h : two c) : six c := by rcases h with h | h <;> simp [Tz.six, h]
def Row (a b : Int) (x y : Nat) : Prop := 0 ≤ a ∧ 0 ≤ b ∧ a ≤ x ∧ b ≤ x ∧ a + b ≤ y
def fbx : Nat → Nat → Nat → Nat
  | 0, x, _ => x
  | n + 1, x, y => fbx n y (x + y)
theorem wm_row : ∀ (w : List Nat) (m : M) (x y : Nat), (∀ c ∈ w, two c) → Row m.a m.b x y → Row m.c m.d x y → x ≤ y → (wm m w).le (fbx w.length x y)
  | [], m, x, y, _, h1, h2, _ => by
    obtain ⟨a1, a2, a3, a4, a5⟩ := h1
    obtain ⟨b1, b2, b3, b4, b5⟩ := h2
    exact ⟨by show m.a.natAbs ≤ x; omega, by show m.b.natAbs ≤ x; omega, by show m.c.natAbs ≤ x; omega, by show m.d.natAbs ≤ x; omega⟩
  | c :: w, m, x, y, hw, h1, h2, hxy => by
    obtain ⟨a1, a2, a3, a4, a5⟩ := h1
    obtain ⟨b1, b2, b3, b4, b5⟩ := h2
    show (wm (m.mul (L c)) w).le (fbx w.length y (x + y))
    rcases hw c List.mem_cons_self with rfl | rfl
    · refine wm_row w _ y (x + y) (fun d hd => hw d (List.mem_cons_of_mem _ hd)) ?_ ?_ (by omega)
      · show Row (m.a * 1 + m.b * 0) (m.a * 1 + m.b * 1) y (x + y)
        exact ⟨by omega, by omega, by omega, by omega, by omega⟩
      · show Row (m.c * 1 + m.d * 0) (m.c * 1 + m.d * 1) y (x + y)
        exact ⟨by omega, by omega, by omega, by omega, by omega⟩
    · refine wm_row w _ y (x + y) (fun d hd => hw d (List.mem_cons_of_mem _ hd)) ?_ ?_ (by omega)
      · show Row (m.a * 1 + m.b * 1) (m.a * 0 + m.b * 1) y (x + y)
        exact ⟨by omega, by omega, by omega, by omega, by omega⟩
      · show Row (m.c * 1 + m.d * 1) (m.c * 0 + m.d * 1) y (x + y)
        exact ⟨by omega, by omega, by omega, by omega, by omega⟩
theorem fb8 : ∀ n, n ≤ 8 → fbx n 1 1 ≤ 34 := by decide
theorem wm_le34 {w : List Nat} (hw : ∀ c ∈ w, two c) (hl : w.length ≤ 8) : (wm .one w).le 34 := (wm_row w .one 1 1 hw (by refine ⟨?_, ?_, ?_, ?_, ?_⟩ <;> decide) (by refine ⟨?_, ?_, ?_, ?_, ?_⟩ <;> decide) (Nat.le_refl _)).mono (fb8 _ hl)
/-! ### powers -/
def powM (m : M) : Nat → M
  | 0 => .one
  | n + 1 => (powM m n).mul m
def zpow (m : M) (k : Int) : M := if 0 ≤ k then powM m k.natAbs else powM m.inv k.natAbs
theorem powM_le {m : M} {k : Nat} (h : m.le k) : ∀ n, (powM m n).le ((2 * k) ^ n)
  | 0 => show M.one.le 1 by decide
  | n + 1 => ((powM_le h n).mul h).mono (by
    rw [Nat.pow_succ]
    have : 2 * ((2 * k) ^ n * k) = (2 * k) ^ n * (2 * k) := by ac_rfl
    omega)
theorem powM_det {m : M} (h : m.det = 1) : ∀ n, (powM m n).det = 1
  | 0 => rfl
  | n + 1 => by
    show ((powM m n).mul m).det = 1
    rw [M.det_mul, powM_det h n, h]
    rfl
theorem zpow_det {m : M} (h : m.det = 1) (k : Int) : (zpow m k).det = 1 := by
  unfold zpow
  split
  · exact powM_det h _
  · exact powM_det (by rw [M.det_inv]; exact h) _
theorem zpow_le {m : M} {j : Nat} (h : m.le j) (k : Int) : (zpow m k).le ((2 * j) ^ k.natAbs) := by
  unfold zpow
  split
  · exact powM_le h _
  · exact powM_le h.inv _
theorem powM_comm (m : M) : ∀ n, (powM m n).mul m = m.mul (powM m n)
  | 0 => by show M.one.mul m = m.mul .one; rw [M.one_mul, M.mul_one]
  | n + 1 => by
    show ((powM m n).mul m).mul m = m.mul ((powM m n).mul m)
    rw [powM_comm m n, M.mul_assoc, powM_comm m n]
theorem inv_inv (m : M) : m.inv.inv = m := by apply M.ext <;> simp only [M.inv, Int.neg_neg]
theorem zpow_succ {m : M} (h : m.det = 1) (k : Int) : zpow m (k + 1) = (zpow m k).mul m := by
  unfold zpow
  by_cases h0 : 0 ≤ k
  · rw [if_pos h0, if_pos (by omega), show (k + 1).natAbs = k.natAbs + 1 by omega]
    rfl
  · rw [if_neg h0]
    obtain ⟨n, e⟩ : ∃ n, k.natAbs = n + 1 := ⟨k.natAbs - 1, by omega⟩
    rw [e]
    show _ = ((powM m.inv n).mul m.inv).mul m
    rw [M.mul_assoc, M.inv_mul m h, M.mul_one]
    by_cases h1 : k = -1
    · rw [if_pos (by omega), show (k + 1).natAbs = 0 by omega, show n = 0 by omega]
      rfl
    · rw [if_neg (by omega), show (k + 1).natAbs = n by omega]
theorem zpow_pred {m : M} (h : m.det = 1) (k : Int) : zpow m (k - 1) = (zpow m k).mul m.inv := by
  have := zpow_succ h (k - 1)
  rw [show k - 1 + 1 = k by omega] at this
  rw [this, M.mul_assoc, M.mul_inv m h, M.mul_one]
theorem zpow_add {m : M} (h : m.det = 1) (j : Int) : ∀ k : Int, zpow m (j + k) = (zpow m j).mul (zpow m k) := by
  have pos : ∀ n : Nat, zpow m (j + n) = (zpow m j).mul (zpow m n) := fun n => by
    induction n with
    | zero => show zpow m (j + 0) = _; rw [Int.add_zero]; exact (M.mul_one _).symm
    | succ n ih => rw [show j + ((n + 1 : Nat) : Int) = j + n + 1 by omega, zpow_succ h, ih, M.mul_assoc, ← zpow_succ h]; rfl
  have neg : ∀ n : Nat, zpow m (j - n) = (zpow m j).mul (zpow m (-(n : Int))) := fun n => by
    induction n with
    | zero => show zpow m (j - 0) = _; rw [Int.sub_zero]; exact (M.mul_one _).symm
    | succ n ih => rw [show j - ((n + 1 : Nat) : Int) = j - n - 1 by omega, zpow_pred h, ih, M.mul_assoc, ← zpow_pred h, show -(n : Int) - 1 = -((n + 1 : Nat) : Int) by omega]
  intro k
  by_cases hk : 0 ≤ k
  · obtain ⟨n, rfl⟩ := Int.eq_ofNat_of_zero_le hk
    exact pos n
  · have := neg k.natAbs
    rw [show j - (k.natAbs : Int) = j + k by omega, show -(k.natAbs : Int) = k by omega] at this
    exact this
theorem powM_shift (x : Int) : ∀ n : Nat, powM ⟨1, x, 0, 1⟩ n = ⟨1, n * x, 0, 1⟩
  | 0 => by
    apply M.ext <;> simp [powM, M.one]
  | n + 1 => by
    show (powM ⟨1, x, 0, 1⟩ n).mul _ = _
    rw [powM_shift x n]
    apply M.ext <;> simp [M.mul, Int.add_mul] <;> omega
theorem zpow_shift (k : Int) : zpow ⟨1, 1, 0, 1⟩ k = ⟨1, k, 0, 1⟩ := by
  unfold zpow
  split
  · rw [powM_shift]
    apply M.ext <;> simp <;> omega
  · show powM ⟨1, -1, -0, 1⟩ _ = _
    rw [show (-0 : Int) = 0 from rfl, powM_shift]
    apply M.ext <;> simp <;> omega
theorem empty_s : (Str.ofString "") = (⟨#[]⟩ : Str) := by decide +kernel
theorem str_app (a b : List Nat) : ((⟨a.toArray⟩ : Str) ++ (⟨b.toArray⟩ : Str)) = ⟨(a ++ b).toArray⟩ := by
  show (⟨a.toArray ++ b.toArray⟩ : Str) = _
  rw [List.append_toArray]
theorem join_ch : ∀ w : List Nat, Txt.join (Str.ofString "") (w.map fun c => (⟨#[c]⟩ : Str)) = ⟨w.toArray⟩ := by
  intro w
  rw [TL.join_eq, empty_s]
  induction w with
  | nil => rfl
  | cons c w ih =>
    cases w with
    | nil => rfl
    | cons d w =>
      show (⟨[c].toArray⟩ : Str) ++ (⟨([] : List Nat).toArray⟩ : Str) ++ Str.join ⟨#[]⟩ ((d :: w).map fun c => (⟨#[c]⟩ : Str)) = _
      rw [ih, str_app, str_app]
      rfl
theorem asStrs_ch : ∀ w : List Nat, asStrs (w.map ch) = some (w.map fun c => (⟨#[c]⟩ : Str))
  | [] => rfl
  | c :: w => by
    show (asStrs (w.map ch)).map _ = _
    rw [asStrs_ch w]
    rfl
theorem sum_ch (w : List Nat) : ((w.map fun c => (⟨#[c]⟩ : Str)).map (·.length)).sum = w.length := by
  induction w with
  | nil => rfl
  | cons c w ih =>
    rw [List.map_cons, List.map_cons, List.sum_cons, ih]
    show 1 + w.length = w.length + 1
    omega
/-- what a list of letters is joined to -/
theorem join_ok {w : List Nat} {Q : PyData → Prop} (hl : w.length ≤ 1000000) (h : Q (W w)) : oJoin (.str (Str.ofString "")) (.list (w.map ch)) Q := by
  rw [oJoin_l, asStrs_ch, onS_s, join_ch, sum_ch]
  refine ⟨?_, h⟩
  rw [empty_s]
  show w.length + _ * 0 ≤ _
  omega
/-- a comprehension without a test, by what each item gives -/
theorem lc_any {i : Nat} {e : DE} {r : Rho} (P : PyData → Prop) (hp : ∀ y, P y → plain y = true) : ∀ (xs acc : List PyData) (Q : List PyData → Prop), (∀ x ∈ xs, ∀ k : PyData → Prop, (∀ y, P y → k y) → e (put r i x) k (fun _ => False)) →
    (∀ ys, ys.length = xs.length → (∀ y ∈ ys, P y) → Q (acc ++ ys)) → lcL (dgName i) dYes e r Q xs acc
  | [], acc, Q, _, hq => by
    have := hq [] rfl (fun y hy => nomatch hy)
    rw [List.append_nil] at this
    exact this
  | x :: xs, acc, Q, he, hq => by
    rw [lcL_c, dgName_e, dYes_e, if_t]
    refine he x List.mem_cons_self _ fun y py => ⟨hp y py, ?_⟩
    refine lc_any P hp xs (acc ++ [y]) Q (fun x' hx' => he x' (List.mem_cons_of_mem _ hx')) fun ys hl hy => ?_
    rw [List.append_assoc]
    exact hq (y :: ys) (by rw [List.length_cons, List.length_cons, hl]) fun z hz => (List.mem_cons.mp hz).elim (fun e => e ▸ py) (hy z)
theorem chs_of : ∀ (ys : List PyData) (p : Nat → Prop), (∀ y ∈ ys, ∃ c, p c ∧ y = ch c) → ∃ w : List Nat, w.length = ys.length ∧ (∀ c ∈ w, p c) ∧ ys = w.map ch
  | [], p, _ => ⟨[], rfl, (fun c hc => nomatch hc), rfl⟩
  | y :: ys, p, h => by
    obtain ⟨w, h1, h2, h3⟩ := chs_of ys p fun z hz => h z (List.mem_cons_of_mem _ hz)
    obtain ⟨c, hc, rfl⟩ := h y List.mem_cons_self
    exact ⟨c :: w, by rw [List.length_cons, List.length_cons, h1], fun d hd => (List.mem_cons.mp hd).elim (fun e => e ▸ hc) (h2 d), by rw [h3]; rfl⟩
/-- ''.join([LETTERS[roll(dice, n)] for turn in range(j)]) -/
theorem letters_ok {r : Rho} {i : Nat} {z : Str} {n : Int} {m : Nat} {p : Nat → Prop} {Q : List PyData → Prop} (hr : look (drps r [i]) 0 = some dice) (hi : i ≠ 0) (n0 : 0 < n) (n1 : n < 2 ^ 62) (hz : z.length ≤ 1000000) (hp : ∀ k : Int, 0 ≤ k → k < n → ∃ c, atI z.cps.toList k = some c ∧ p c)
    (h : ∀ w : List Nat, w.length = m → (∀ c ∈ w, p c) → Q (w.map ch)) :
    lcL (dgName i) dYes (dOp oIx (dC (.str z)) (dCall 2 f_law_roll (dCons (dVar 0) (dCons (dC (.int n)) dNil)))) (drps r [i]) Q (rangeD 0 m) [] := by
  refine lc_any (fun y => ∃ c, p c ∧ y = ch c) (fun y ⟨c, _, e⟩ => by rw [e]; rfl) _ _ _ (fun x _ k hk => ?_) fun ys hl hy => ?_
  · have e : look (put (drps r [i]) i x) 0 = some dice := by
      generalize drps r [i] = r' at hr
      cases r' with
      | nil => cases hr
      | cons a r' =>
        cases i with
        | zero => exact (hi rfl).elim
        | succ i => exact hr
    rw [dOp_e, dC_e, dCall_e, dCons_e, dVar_e, e, onS_s, dCons_e, dC_e, dNil_e]
    refine ⟨rfl, n0, n1, fun q q0 q1 => ?_⟩
    obtain ⟨c, hc, pc⟩ := hp q q0 q1
    rw [oIx_s, hc, onS_s]
    exact ⟨hz, hk _ ⟨c, pc, rfl⟩⟩
  · obtain ⟨w, h1, h2, h3⟩ := chs_of ys p hy
    rw [List.nil_append, h3]
    refine h w ?_ h2
    rw [h1, hl]
    unfold rangeD
    rw [List.length_map, List.length_range]
theorem at12 {α : Type} {x0 x1 x2 x3 x4 x5 x6 x7 x8 x9 x10 x11 : α} {P : α → Prop} (h0 : P x0) (h1 : P x1) (h2 : P x2) (h3 : P x3) (h4 : P x4) (h5 : P x5) (h6 : P x6) (h7 : P x7) (h8 : P x8) (h9 : P x9) (h10 : P x10) (h11 : P x11) (i : Int) (i0 : 0 ≤ i) (i1 : i < 12) : onS (atI [x0, x1, x2, x3, x4, x5, x6, x7, x8, x9, x10, x11] i) P := by
  obtain ⟨n, rfl⟩ := Int.eq_ofNat_of_zero_le i0
  match n, i1 with
  | 0, _ => exact h0
  | 1, _ => exact h1
  | 2, _ => exact h2
  | 3, _ => exact h3
  | 4, _ => exact h4
  | 5, _ => exact h5
  | 6, _ => exact h6
  | 7, _ => exact h7
  | 8, _ => exact h8
  | 9, _ => exact h9
  | 10, _ => exact h10
  | 11, _ => exact h11
  | n + 12, h => omega
/-- a for loop by what holds before each turn -/
theorem for_inv {g : DG} {b : DS} {nx : Rho → Prop} {rt : PyData → Prop} {E : Nat → Prop} (I : List PyData → Rho → Prop) (step : ∀ (x : PyData) (xs : List PyData) (r : Rho) (k : Rho → Prop), I (x :: xs) r → (∀ r', I xs r' → k r') → g x r (fun r' => b r' k rt E)) (fin : ∀ r, I [] r → nx r) : ∀ (xs : List PyData) (r : Rho), I xs r → forL g b nx rt E xs r
  | [], r, h => by
    rw [forL_n]
    exact fin r h
  | x :: xs, r, h => by
    rw [forL_c]
    exact step x xs r _ h fun r' h' => for_inv I step fin xs r' h'
theorem while_inv {t : DT} {b : DS} {nx : Rho → Prop} {rt : PyData → Prop} {E : Nat → Prop} (I : Nat → Rho → Prop) (step : ∀ (n : Nat) (r : Rho) (k : Rho → Prop), I n r → (∀ j r', j < n → I j r' → k r') → t r (fun c => if c = true then b r k rt E else nx r) E) : ∀ (n : Nat) (r : Rho), I n r → ∀ m, n < m → whileN t b nx rt E m r
  | n, r, h, m + 1, hm => step n r _ h fun j r' hj h' => while_inv I step j r' h' m (by omega)
theorem dWhile_i {t : DT} {b : DS} {nx : Rho → Prop} {rt : PyData → Prop} {E : Nat → Prop} {r : Rho} (I : Nat → Rho → Prop) (n : Nat) (h : I n r) (step : ∀ (n : Nat) (r : Rho) (k : Rho → Prop), I n r → (∀ j r', j < n → I j r' → k r') → t r (fun c => if c = true then b r k rt E else nx r) E) : dWhile t b r nx rt E :=
  ⟨n + 1, while_inv I step n r h (n + 1) (Nat.lt_succ_self n)⟩
theorem eqv_ss {a b c d : Str} : PyData.eqv (.tuple [.str a, .str b]) (.tuple [.str c, .str d]) = (decide (a = c) && (decide (b = d) && true)) := rfl
theorem ne_err {c : Nat} {x : Str} {Q : PyData → Prop} (hx : enames.getD c (Str.ofString "") = x) (h : Q (.bool false)) (s : SeqAt.shaped (errD c) = true := by decide +kernel) : oNe (errD c) (.tuple [.str (Str.ofString "error"), .str x]) Q := by
  subst hx
  have e : PyData.eqv (errD c) (errD c) = true := by
    unfold errD
    rw [eqv_ss]
    simp
  refine ⟨s, s, ?_⟩
  show Q (.bool (!PyData.eqv (errD c) (errD c)))
  rw [e]
  exact h
theorem ne_same {m n : M} {k : Bool → Prop} (e : m = n) (h : k false) : oNe m.p n.p (fun x => onB x k) := ne_mm (by rw [decide_eq_true e]; exact h)
theorem ne_errB {c : Nat} {x : Str} {k : Bool → Prop} (hx : enames.getD c (Str.ofString "") = x) (h : k false) (s : SeqAt.shaped (errD c) = true := by decide +kernel) : oNe (errD c) (.tuple [.str (Str.ofString "error"), .str x]) (fun x => onB x k) := ne_err hx h s
/-- a comprehension whose items each give one value -/
theorem lc_map {i : Nat} {e : DE} {r : Rho} (g : PyData → PyData) : ∀ (xs acc : List PyData) (Q : List PyData → Prop), (∀ x ∈ xs, plain (g x) = true ∧ ∀ k : PyData → Prop, k (g x) → e (put r i x) k (fun _ => False)) → Q (acc ++ xs.map g) → lcL (dgName i) dYes e r Q xs acc
  | [], acc, Q, _, hq => by
    rw [List.map_nil, List.append_nil] at hq
    exact hq
  | x :: xs, acc, Q, he, hq => by
    rw [lcL_c, dgName_e, dYes_e, if_t]
    refine (he x List.mem_cons_self).2 _ ⟨(he x List.mem_cons_self).1, ?_⟩
    refine lc_map g xs (acc ++ [g x]) Q (fun x' hx' => he x' (List.mem_cons_of_mem _ hx')) ?_
    rw [List.append_assoc]
    exact hq
theorem asBools_fn (f : PyData → Bool) : ∀ xs : List PyData, asBools (xs.map fun x => .bool (f x)) = some (xs.map f)
  | [] => rfl
  | x :: xs => by
    show (asBools (xs.map fun x => .bool (f x))).map _ = _
    rw [asBools_fn f xs]
    rfl
end Tz

/-! The module's dict of the letters. -/
namespace Tz
open PySem PySem.Spec PyProof.Rows L2
def sixB (c : Nat) : Bool := [115, 116, 84, 119, 118, 108].contains c
theorem six_of {c : Nat} (h : sixB c = true) : six c := by
  unfold sixB at h
  simp at h
  unfold six
  omega
theorem sixB_of {c : Nat} (h : six c) : sixB c = true := by rcases h with rfl | rfl | rfl | rfl | rfl | rfl <;> rfl
def letD (z : Str) : Option PyData := match z.cps.toList with
  | [c] => if sixB c = true then some (L c).p else none
  | _ => none
structure GaLe (K : PySem.W.Frag) (A : Ga) : Prop where
  le : ∀ c, six c → ∃ v, KDct K A.w A.le ⟨#[c]⟩ v ∧ ∀ H : Hp, Dq K H v (L c).p
theorem ix_let {X : Cx} {A : Ga} (hw : A.w = X.w) : IxR X (rIxD X.K A.w) := by
  rw [hw]
  exact ix_kdict
def dLet (b : DE) : DE := fun r Q E => b r (fun y => match y with
  | .str z => onS (letD z) Q
  | _ => False) E
theorem s_let {C : Cn} {A : Ga} {tb : TE} {b : DE} (h : GaLe C.K A) (hb : SimE C tb b) : SimE C (tOp (rIxD C.K A.w) (tC (.ref A.le)) tb) (dLet b) := by
  intro G ρ Q E gp hd σ H Q' j rs k kx
  refine hb G ρ _ E gp hd σ H _ j rs (fun v H1 x e1 j1 r1 h1 => ?_) kx
  match x, r1, h1 with
  | .str z, r1, h1 =>
    obtain ⟨d, e, q⟩ := onS_some h1
    unfold letD at e
    split at e
    · rename_i c hz
      by_cases hs : sixB c = true
      · rw [if_pos hs] at e
        cases e
        obtain ⟨u, hu, hq⟩ := h.le c (six_of hs)
        have ez : z = ⟨#[c]⟩ := by
          cases z with
          | mk a =>
            congr 1
            exact Array.toList_inj.mp hz
        subst ez
        exact ⟨_, _, u, rfl, rep_str r1, hu, k u H1 _ e1 j1 (.inl (hq _)) q⟩
      · rw [if_neg hs] at e
        cases e
    · cases e
theorem dLet_c {b : DE} {r : Rho} {Q : PyData → Prop} {E : Nat → Prop} : dLet b r Q E = b r (fun y => onStr y fun z => onS (letD z) Q) E := propext Iff.rfl
theorem letD_c {c : Nat} (h : six c) : letD ⟨#[c]⟩ = some (L c).p := by
  show (if sixB c = true then some (L c).p else none) = _
  rw [if_pos (sixB_of h)]
theorem tup4_of {K : PySem.W.Frag} {u : Addr} {o : Obj} {n t1 t2 t3 t4 : Nat} {a b c d : Int} (l : K.lookup u = some o) (hc : o.cls = .type "tuple") (hd : o.data = .seq #[.int a t1, .int b t2, .int c t3, .int d t4] n) (H : Hp) : Dq K H (.ref u) (M.mk a b c d).p :=
  .tup (.inr ⟨o, _, n, l, hc, hd, by show 4 ≤ sizeLine; decide, .cons (a := V.int a) ⟨_, rfl⟩ (.cons (a := V.int b) ⟨_, rfl⟩ (.cons (a := V.int c) ⟨_, rfl⟩ (.cons (a := V.int d) ⟨_, rfl⟩ .nil)))⟩) (.cons (.int a) (.cons (.int b) (.cons (.int c) (.cons (.int d) .nil))))
theorem key_s : Str.ofString "s" = ⟨#[115]⟩ := by decide +kernel
theorem key_t : Str.ofString "t" = ⟨#[116]⟩ := by decide +kernel
theorem key_T : Str.ofString "T" = ⟨#[84]⟩ := by decide +kernel
theorem key_w : Str.ofString "w" = ⟨#[119]⟩ := by decide +kernel
theorem key_v : Str.ofString "v" = ⟨#[118]⟩ := by decide +kernel
theorem key_l : Str.ofString "l" = ⟨#[108]⟩ := by decide +kernel
end Tz

/-! Words: places, comparisons of letters, alternation. -/
namespace Tz
open PySem PySem.Spec PyProof.Rows L2
theorem look_put_ne : ∀ {r : Rho} {i j : Nat} {d : PyData}, j ≠ i → look (put r i d) j = look r j
  | [], _, _, _, _ => rfl
  | _ :: _, 0, 0, _, h => (h rfl).elim
  | _ :: _, 0, _ + 1, _, _ => rfl
  | _ :: _, _ + 1, 0, _, _ => rfl
  | _ :: r, i + 1, j + 1, d, h => look_put_ne (r := r) (i := i) (j := j) (d := d) fun e => h (by rw [e])
theorem look_put_eq : ∀ {r : Rho} {i : Nat} {d : PyData}, i < r.length → look (put r i d) i = some d
  | [], _, _, h => by cases h
  | _ :: _, 0, _, _ => rfl
  | _ :: r, i + 1, d, h => look_put_eq (r := r) (i := i) (d := d) (Nat.lt_of_succ_lt_succ h)
theorem atI_nat {α : Type} {xs : List α} {n : Nat} : atI xs (n : Int) = xs[n]? := by
  unfold atI ixN
  rw [if_pos (by omega)]
  by_cases h : n < xs.length
  · rw [if_pos (by omega), Int.toNat_natCast]
    rfl
  · rw [if_neg (by omega)]
    rw [List.getElem?_eq_none (by omega)]
    rfl
theorem atI_last {α : Type} {xs : List α} {x : α} : atI (xs ++ [x]) (-1) = some x := by
  unfold atI ixN
  rw [if_neg (by decide), if_pos (by simp; omega)]
  have e : (-1 + ((xs ++ [x]).length : Int)).toNat = xs.length := by simp; omega
  rw [e]
  show (xs ++ [x])[xs.length]? = some x
  simp
theorem W_len (w : List Nat) : (⟨w.toArray⟩ : Str).length = w.length := by simp [Str.length]
theorem W_list (w : List Nat) : (⟨w.toArray⟩ : Str).cps.toList = w := rfl
theorem str_inj {a b : List Nat} : ((⟨a.toArray⟩ : Str) = ⟨b.toArray⟩) ↔ a = b := by
  constructor
  · intro h
    have := congrArg (fun s : Str => s.cps.toList) h
    simpa using this
  · intro h
    rw [h]
theorem oEq_s2 {a b : Str} {Q : PyData → Prop} : oEq (.str a) (.str b) Q = Q (.bool (decide (a = b))) := propext Iff.rfl
theorem oNe_s2 {a b : Str} {Q : PyData → Prop} : oNe (.str a) (.str b) Q = Q (.bool (!decide (a = b))) := propext Iff.rfl
theorem eq_ch {c d : Nat} : decide ((⟨#[c]⟩ : Str) = ⟨#[d]⟩) = decide (c = d) := by
  rw [decide_eq_decide]
  have := str_inj (a := [c]) (b := [d])
  rw [show ([c].toArray) = #[c] from rfl, show ([d].toArray) = #[d] from rfl] at this
  rw [this]
  simp
theorem is_s {c : Nat} : decide ((⟨#[c]⟩ : Str) = Str.ofString "s") = decide (c = 115) := by rw [key_s, eq_ch]
/-- s and the others alternate -/
def alt : List Nat → Bool
  | c :: d :: w => (decide (c = 115) != decide (d = 115)) && alt (d :: w)
  | _ => true
def altAt (w : List Nat) (i : Nat) : Bool := decide (w.getD i 0 = 115) != decide (w.getD (i + 1) 0 = 115)
theorem alt_range : ∀ w : List Nat, ((List.range (w.length - 1)).map (altAt w)).all id = alt w
  | [] => rfl
  | [_] => rfl
  | c :: d :: w => by
    have ih := alt_range (d :: w)
    show ((List.range (w.length + 1)).map (altAt (c :: d :: w))).all id = _
    rw [List.range_succ_eq_map, List.map_cons, List.map_map, List.all_cons]
    have e : (altAt (c :: d :: w)) ∘ Nat.succ = altAt (d :: w) := by
      funext i
      rfl
    rw [e]
    have ih' : ((List.range w.length).map (altAt (d :: w))).all id = alt (d :: w) := ih
    rw [ih']
    rfl
theorem asBools_at (f : Nat → Bool) : ∀ xs : List Nat, asBools (xs.map fun i => .bool (f i)) = some (xs.map f)
  | [] => rfl
  | x :: xs => by
    show (asBools (xs.map fun i => .bool (f i))).map _ = _
    rw [asBools_at f xs]
    rfl
theorem get_D {w : List Nat} {n : Nat} (h : n < w.length) : w[n]? = some (w.getD n 0) := by
  rw [List.getElem?_eq_getElem h, List.getD_eq_getElem?_getD, List.getElem?_eq_getElem h]
  rfl
/-- all([(word[at] == "s") != (word[at + 1] == "s") for at in range(len(word) - 1)]) -/
theorem alt_ok {i v : Nat} {r : Rho} {w : List Nat} {QL : List Bool → Prop} (h2 : look r v = some (W w)) (hv : v ≠ i) (hi : i < r.length) (hl : w.length ≤ 100000) (h : ∀ bs : List Bool, bs.all id = alt w → QL bs) :
    (⟨w.toArray⟩ : Str).length ≤ 1000000 ∧ -2 ^ 62 ≤ ((⟨w.toArray⟩ : Str).length : Int) - 1 ∧ ((⟨w.toArray⟩ : Str).length : Int) - 1 < 2 ^ 62 ∧ (rangeD 0 (((⟨w.toArray⟩ : Str).length : Int) - 1).toNat).length ≤ 100000 ∧
    lcL (dgName i) dYes (dOp oNe (dOp oEq (dOp oIx (dVar v) (dVar i)) (dC (.str ("s" : Str)))) (dOp oEq (dOp oIx (dVar v) (dOp oAdd (dVar i) (dC (.int 1)))) (dC (.str ("s" : Str))))) r (fun ys => onS (asBools ys) QL) (rangeD 0 (((⟨w.toArray⟩ : Str).length : Int) - 1).toNat) [] := by
  rw [W_len]
  refine ⟨by omega, by omega, by omega, by unfold rangeD; rw [List.length_map, List.length_range]; omega, ?_⟩
  have et : ((w.length : Int) - 1).toNat = w.length - 1 := by omega
  rw [et]
  refine lc_map (fun x => match x with
    | .int k => .bool (altAt w k.toNat)
    | _ => .bool false) _ _ _ (fun x hx => ?_) ?_
  · unfold rangeD at hx
    obtain ⟨n, hn, rfl⟩ := List.mem_map.mp hx
    have hn := List.mem_range.mp hn
    refine ⟨rfl, fun k hk => ?_⟩
    have hk : k (.bool (altAt w (0 + (n : Int)).toNat)) := hk
    rw [Int.zero_add, Int.toNat_natCast] at hk
    rw [Int.zero_add]
    have e1 : look (put r i (.int (n : Int))) v = some (W w) := by rw [look_put_ne hv]; exact h2
    have e2 : look (put r i (.int (n : Int))) i = some (.int (n : Int)) := look_put_eq hi
    rw [dOp_e, dOp_e, dOp_e, dVar_e, e1, onS_s, dVar_e, e2, onS_s, oIx_s, W_list, atI_nat, get_D (by omega), onS_s, W_len, dC_e, oEq_s2, is_s]
    refine ⟨by omega, ?_⟩
    rw [dOp_e, dOp_e, dVar_e, e1, onS_s, dOp_e, dVar_e, e2, onS_s, dC_e, oAdd_ii, oIx_s, W_list, show ((n : Int) + 1) = ((n + 1 : Nat) : Int) from rfl, atI_nat, get_D (by omega), onS_s, W_len, dC_e, oEq_s2, is_s, oNe_bb]
    refine ⟨by omega, ?_⟩
    have e3 : altAt w n = !decide (decide (w.getD n 0 = 115) = decide (w.getD (n + 1) 0 = 115)) := by
      unfold altAt
      generalize decide (w.getD n 0 = 115) = a
      generalize decide (w.getD (n + 1) 0 = 115) = b
      cases a <;> cases b <;> rfl
    rw [← e3]
    exact hk
  · rw [List.nil_append]
    unfold rangeD
    rw [List.map_map]
    have e : (List.range (w.length - 1)).map ((fun x => match x with
        | .int k => PyData.bool (altAt w k.toNat)
        | _ => .bool false) ∘ fun (i : Nat) => PyData.int (0 + (i : Int))) = (List.range (w.length - 1)).map fun i => PyData.bool (altAt w i) := by
      apply List.map_congr_left
      intro n _
      show PyData.bool (altAt w (0 + (n : Int)).toNat) = _
      rw [Int.zero_add, Int.toNat_natCast]
    rw [e, asBools_at, onS_s]
    exact h _ (alt_range w)
/-! ### repeated words -/
def rep (w : List Nat) (n : Nat) : List Nat := (List.replicate n w).flatten
theorem foldl_rep (w : List Nat) : ∀ (m : Nat) (acc : Array Nat), (List.replicate m w.toArray).foldl (· ++ ·) acc = acc ++ (rep w m).toArray
  | 0, acc => by simp [rep]
  | m + 1, acc => by
    rw [List.replicate_succ, List.foldl_cons, foldl_rep w m]
    unfold rep
    rw [List.replicate_succ, List.flatten_cons, Array.append_assoc]
    simp
theorem repStr_W (w : List Nat) (n : Int) : repStr ⟨w.toArray⟩ n = ⟨(rep w n.toNat).toArray⟩ := by
  unfold repStr
  by_cases h : n < 1
  · rw [if_pos h, show n.toNat = 0 by omega]
    rfl
  · rw [if_neg h]
    show (⟨(List.replicate n.toNat w.toArray).foldl (· ++ ·) #[]⟩ : Str) = _
    rw [foldl_rep, Array.empty_append]
theorem rep_len (w : List Nat) (n : Nat) : (rep w n).length = w.length * n := by
  induction n with
  | zero => simp [rep]
  | succ n ih =>
    unfold rep at ih ⊢
    rw [List.replicate_succ, List.flatten_cons, List.length_append, ih, Nat.mul_succ]
    omega
theorem rep_mem {w : List Nat} {n : Nat} {c : Nat} (h : c ∈ rep w n) : c ∈ w := by
  unfold rep at h
  rw [List.mem_flatten] at h
  obtain ⟨l, h1, h2⟩ := h
  rw [(List.mem_replicate.mp h1).2] at h2
  exact h2
theorem rep_succ (w : List Nat) (n : Nat) : rep w (n + 1) = w ++ rep w n := by
  unfold rep
  rw [List.replicate_succ, List.flatten_cons]
theorem rep_one (c n : Nat) : rep [c] n = List.replicate n c := by
  induction n with
  | zero => rfl
  | succ n ih => rw [rep_succ, ih, List.replicate_succ]; rfl
theorem dTru_b {i : Nat} {v : Bool} {r : Rho} {QB : Bool → Prop} {E : Nat → Prop} (h : look r i = some (.bool v)) : dTru (dVar i) r QB E = QB v := by
  show onS (look r i) _ = _
  rw [h]
  exact propext Iff.rfl
/-- ''.join([z[roll(dice, n)] for turn in range(j)]), the dice at place v -/
theorem letters_at {r : Rho} {i v : Nat} {z : Str} {n : Int} {m : Nat} {p : Nat → Prop} {Q : List PyData → Prop} (hr : look r v = some dice) (hi : v ≠ i) (n0 : 0 < n) (n1 : n < 2 ^ 62) (hz : z.length ≤ 1000000) (hp : ∀ k : Int, 0 ≤ k → k < n → ∃ c, atI z.cps.toList k = some c ∧ p c)
    (h : ∀ w : List Nat, w.length = m → (∀ c ∈ w, p c) → Q (w.map ch)) :
    lcL (dgName i) dYes (dOp oIx (dC (.str z)) (dCall 2 f_law_roll (dCons (dVar v) (dCons (dC (.int n)) dNil)))) r Q (rangeD 0 m) [] := by
  refine lc_any (fun y => ∃ c, p c ∧ y = ch c) (fun y ⟨c, _, e⟩ => by rw [e]; rfl) _ _ _ (fun x _ k hk => ?_) fun ys hl hy => ?_
  · have e : look (put r i x) v = some dice := by rw [look_put_ne hi]; exact hr
    rw [dOp_e, dC_e, dCall_e, dCons_e, dVar_e, e, onS_s, dCons_e, dC_e, dNil_e]
    refine ⟨rfl, n0, n1, fun q q0 q1 => ?_⟩
    obtain ⟨c, hc, pc⟩ := hp q q0 q1
    rw [oIx_s, hc, onS_s]
    exact ⟨hz, hk _ ⟨c, pc, rfl⟩⟩
  · obtain ⟨w, h1, h2, h3⟩ := chs_of ys p hy
    rw [List.nil_append, h3]
    refine h w ?_ h2
    rw [h1, hl]
    unfold rangeD
    rw [List.length_map, List.length_range]
theorem rng_len (lo : Int) (n : Nat) : (rangeD lo n).length = n := by
  unfold rangeD
  rw [List.length_map, List.length_range]
theorem rng_succ (lo : Int) (n : Nat) : rangeD lo (n + 1) = .int lo :: rangeD (lo + 1) n := by
  unfold rangeD
  rw [List.range_succ_eq_map, List.map_cons, List.map_map]
  congr 1
  · simp
  · apply List.map_congr_left
    intro i _
    simp only [Function.comp]
    congr 1
    omega
/-- what a range from j on begins with -/
theorem rng_split {lo : Int} {n j : Nat} {x : PyData} {xs : List PyData} (h : x :: xs = rangeD lo (n - j)) : j < n ∧ x = .int lo ∧ xs = rangeD (lo + 1) (n - (j + 1)) := by
  have hlt : j < n := by
    refine Decidable.byContradiction fun z => ?_
    rw [show n - j = 0 by omega] at h
    cases h
  rw [show n - j = (n - (j + 1)) + 1 by omega, rng_succ] at h
  cases h
  exact ⟨hlt, rfl, rfl⟩
theorem rng_end {lo : Int} {n j : Nat} (h : [] = rangeD lo (n - j)) : n ≤ j := by
  have := congrArg List.length h
  rw [rng_len] at this
  simp at this
  omega
theorem cutS_lo (w : List Nat) (n : Int) (h0 : 0 ≤ n) (h1 : n ≤ w.length) : cutS ⟨w.toArray⟩ none (some n) = ⟨(w.take n.toNat).toArray⟩ := by
  unfold cutS
  rw [W_list, W_len]
  have e1 : HT.sIx w.length 0 none = 0 := rfl
  have e2 : HT.sIx w.length w.length (some n) = n.toNat := by
    show (if n < 0 then _ else min n.toNat w.length) = _
    rw [if_neg (by omega)]
    omega
  rw [e1, e2, List.drop_zero, Nat.sub_zero]
theorem cutS_hi (w : List Nat) (n : Int) (h0 : 0 ≤ n) (h1 : n ≤ w.length) : cutS ⟨w.toArray⟩ (some n) none = ⟨(w.drop n.toNat).toArray⟩ := by
  unfold cutS
  rw [W_list, W_len]
  have e1 : HT.sIx w.length w.length none = w.length := rfl
  have e2 : HT.sIx w.length 0 (some n) = n.toNat := by
    show (if n < 0 then _ else min n.toNat w.length) = _
    rw [if_neg (by omega)]
    omega
  rw [e1, e2]
  congr 1
  rw [List.take_of_length_le (by rw [List.length_drop]; omega)]
theorem atI_0 {α : Type} {c : α} {w : List α} : atI (c :: w) 0 = some c := by
  have := atI_nat (xs := c :: w) (n := 0)
  exact this
theorem oLt_ss {i j : Str} {Q : PyData → Prop} : oLt (.str i) (.str j) Q = Q (.bool (decide (i.cps.toList < j.cps.toList))) := propext Iff.rfl
theorem cutS_last (w : List Nat) (c : Nat) : cutS ⟨(w ++ [c]).toArray⟩ none (some (-1)) = ⟨w.toArray⟩ := by
  unfold cutS
  rw [W_list, W_len]
  have e1 : HT.sIx (w ++ [c]).length 0 none = 0 := rfl
  have e2 : HT.sIx (w ++ [c]).length (w ++ [c]).length (some (-1)) = w.length := by
    show ((-1 : Int) + ((w ++ [c]).length : Int)).toNat = _
    rw [List.length_append, List.length_singleton]
    omega
  rw [e1, e2, List.drop_zero, Nat.sub_zero, List.take_left]
/-! ### shapes -/
def asc (w : List Nat) : Prop := ∀ c ∈ w, c < 128
theorem strOk_W {w : List Nat} (h : asc w) : PyData.strOk ⟨w.toArray⟩ = true := by
  unfold PyData.strOk
  simp
  intro x hx
  have := h x hx
  omega
theorem shW {w : List Nat} (h : asc w) : SeqAt.shaped (W w) = true := by
  unfold SeqAt.shaped PyData.canLay0 PyData.depth
  rw [strOk_W h]
  rfl
/-- a sign and a word -/
abbrev SW (i : Int) (w : List Nat) : PyData := .tuple [.int i, W w]
theorem shSW {i : Int} {w : List Nat} (h : asc w) : SeqAt.shaped (SW i w) = true := by
  unfold SeqAt.shaped
  have e : (SW i w).canLay0 = (true && (PyData.strOk ⟨w.toArray⟩ && true)) := rfl
  rw [e, strOk_W h]
  rfl
theorem eqvSW {i j : Int} {u w : List Nat} : PyData.eqv (SW i u) (SW j w) = decide (i = j ∧ u = w) := by
  have e : PyData.eqv (SW i u) (SW j w) = (decide (i = j) && (decide ((⟨u.toArray⟩ : Str) = ⟨w.toArray⟩) && true)) := rfl
  rw [e, Bool.and_true, ← Bool.decide_and, decide_eq_decide, str_inj]
theorem ne_sw {i j : Int} {u w : List Nat} {Q : PyData → Prop} (hu : asc u) (hw : asc w) (h : Q (.bool (!decide (i = j ∧ u = w)))) : oNe (SW i u) (SW j w) Q := ⟨shSW hu, shSW hw, by rw [eqvSW]; exact h⟩
theorem eq_sw {i j : Int} {u w : List Nat} {Q : PyData → Prop} (hu : asc u) (hw : asc w) (h : Q (.bool (decide (i = j ∧ u = w)))) : oEq (SW i u) (SW j w) Q := ⟨shSW hu, shSW hw, by rw [eqvSW]; exact h⟩
end Tz

/-! x += e; a written dict that is asked at once. -/
namespace Tz
open PySem PySem.Spec PyProof.Rows L2
/-- an error class, where no error is told -/
def errChk0 (K : PySem.W.Frag) (C : Addr) : Bool := PySem.W.subIn K (.ref C) (.type "BaseException") == some true && (PySem.W.keepIn K (.ref C) && isTy "type" (PySem.W.typeIn K (.ref C)))
theorem errs0_of {K : PySem.W.Frag} {C : Addr} (h : errChk0 K C = true) : PySem.W.keepIn K (.ref C) = true ∧ PySem.W.subIn K (.ref C) (.type "BaseException") = some true ∧ PySem.W.typeIn K (.ref C) = some (.type "type") := by
  unfold errChk0 at h
  simp only [Bool.and_eq_true] at h
  exact ⟨h.2.1, beq_iff_eq.mp h.1, isTy_eq h.2.2⟩
theorem hu_of {k : Nat} {A : Around} (r : Room k A) : A.units + 1 < cLine := by have := r.un; omega
def dAug (i : Nat) (a : DE) : DS := fun r nx _ E => onS (look r i) fun x => onI x fun p => a r (fun y => onI y fun q => nx (put r i (.int (p + q)))) E
theorem s_aug {C : Cn} {i : Nat} {ta : TE} {a : DE} (ha : SimE C ta a) : SimS C (tAug i ta (ipI fun i j => i + j)) (dAug i a) := by
  intro G ρ nx rt E gp h σ H D j rs k kx
  obtain ⟨x, ex, h⟩ := onS_some h
  obtain ⟨v, hv, rv⟩ := rs.2 i x ex
  match x, rv, h with
  | .int p, rv, h =>
  refine ⟨v, hv, ha G ρ _ E gp h σ H _ j rs (fun u H1 y e1 j1 r1 h1 => ?_) kx⟩
  match y, r1, h1 with
  | .int q, r1, h1 =>
    refine ⟨p, q, rep_int rv, rep_int r1, k.nx _ H1 _ e1 j1 ((rs.mono e1).put (.inl (.int _))) (List.length_set ..) h1⟩
theorem dAug_i {i : Nat} {a : DE} {r : Rho} {nx : Rho → Prop} {rt : PyData → Prop} {E : Nat → Prop} {p : Int} (h : look r i = some (.int p)) : dAug i a r nx rt E = a r (fun y => onI y fun q => nx (put r i (.int (p + q)))) E := by
  show onS (look r i) _ = _
  rw [h]
  exact propext Iff.rfl
/-! ### {..}[x] -/
abbrev KVs := List (Str × V × PyData)
def kvK (kv : KVs) : List (Key × V) := kv.map fun e => (.inr e.1, e.2.1)
abbrev tDG (kv : KVs) (tb : TE) : TE := tDGet (tDisp (kv.map fun e => (tC (.str e.1), tC e.2.1))) tb
def dgFind (kv : KVs) (z : Str) : Option PyData := (kv.find? fun e => decide (e.1 = z)).map (·.2.2)
def dDG (kv : KVs) (b : DE) : DE := fun r Q E => b r (fun y => match y with
  | .str z => onS (dgFind kv z) Q
  | _ => False) E
def sameB : V → PyData → Bool
  | .int i, .int j => decide (i = j)
  | .str i, .str j => decide (i = j)
  | _, _ => false
def kvOk (kv : KVs) : Bool := kv.all (fun e => decide (valV (mergeK [] (kvK kv)) (.inr e.1) = some e.2.1) && sameB e.2.1 e.2.2) && decide (kv.length ≤ 15)
theorem sameB_dq {K : PySem.W.Frag} {H : Hp} {v : V} {d : PyData} (h : sameB v d = true) : Dq K H v d := by
  unfold sameB at h
  split at h
  · rw [of_decide_eq_true h]
    exact .int _
  · rw [of_decide_eq_true h]
    exact .str _
  · cases h
theorem tPairs_c {σ : L2.St} {H : Hp} : ∀ (kv : KVs) (Q : List (V × V) → Hp → Prop), Q (kv.map fun e => (.str e.1, e.2.1)) H → tPairs (kv.map fun e => (tC (.str e.1), tC e.2.1)) σ H Q
  | [], Q, h => h
  | e :: kv, Q, h => tPairs_c kv (fun ps H3 => Q ((.str e.1, e.2.1) :: ps) H3) h
theorem s_dg {C : Cn} (kv : KVs) {tb : TE} {b : DE} (hk : kvOk kv = true) (hb : SimE C tb b) : SimE C (tDG kv tb) (dDG kv b) := by
  intro G ρ Q E gp hd σ H Q' j rs k kx p np
  rw [kvOk, Bool.and_eq_true, List.all_eq_true] at hk
  obtain ⟨hk, hl⟩ := hk
  refine tPairs_c kv _ ⟨upd_same, kvK kv, ?_, ?_, ?_⟩
  · unfold kvK
    rw [List.map_map]
    rfl
  · unfold kvK
    rw [List.length_map]
    exact of_decide_eq_true hl
  · have eu : upd (upd H p (.dK [])) p (.dK (mergeK [] (kvK kv))) = upd H p (.dK (mergeK [] (kvK kv))) := by
      funext a
      by_cases h : a = p
      · rw [h, upd_same, upd_same]
      · rw [upd_ne h, upd_ne h, upd_ne h]
    rw [eu]
    obtain ⟨e0, j0, nd⟩ := Ex.new (o := .dK (mergeK [] (kvK kv))) j np
    refine hb G ρ _ E gp hd σ _ _ j0 (rs.mono e0) (fun v H1 x e1 j1 r1 h1 => ?_) (kx.mono e0)
    have hp : H1 p = some (.dK (mergeK [] (kvK kv))) := e1 p _ nd (fun ps z => nomatch z) upd_same
    match x, r1, h1 with
    | .str z, r1, h1 =>
      obtain ⟨d, ed, q⟩ := onS_some h1
      unfold dgFind at ed
      obtain ⟨e, ee, rfl⟩ := Option.map_eq_some_iff.mp ed
      have hz : e.1 = z := of_decide_eq_true (List.find?_some (p := fun e : Str × V × PyData => decide (e.1 = z)) ee)
      have hm := List.mem_of_find?_eq_some ee
      have := hk e hm
      rw [Bool.and_eq_true] at this
      have hv := of_decide_eq_true this.1
      rw [hz] at hv
      refine ⟨p, e.2.1, rfl, .inl ⟨_, .inr z, .inl hp, rep_str r1, hv.symm⟩, k _ H1 _ (e0.trans e1) j1 (.inl (sameB_dq this.2)) q⟩
theorem dDG_e {kv : KVs} {b : DE} {r : Rho} {Q : PyData → Prop} {E : Nat → Prop} : dDG kv b r Q E = b r (fun y => onStr y fun z => onS (dgFind kv z) Q) E := propext Iff.rfl
end Tz

/-! Alternating words, the last letter first: each stands for a table of its own, up to the sign. -/
namespace Tz
open PySem PySem.Spec PyProof.Rows L2
def swv (c : Nat) : Prop := c = 115 ∨ c = 119 ∨ c = 118
theorem swv.six {c : Nat} (h : swv c) : six c := by rcases h with h | h | h <;> simp [Tz.six, h]
instance (c : Nat) : Decidable (swv c) := by unfold swv; infer_instance
theorem swv.asc {w : List Nat} (h : ∀ c ∈ w, swv c) : asc w := fun c hc => by rcases h c hc with rfl | rfl | rfl <;> decide
theorem three.asc {w : List Nat} (h : ∀ c ∈ w, three c) : asc w := fun c hc => by rcases h c hc with rfl | rfl | rfl <;> decide
/-- alternating -/
def Aw (w : List Nat) : Prop := (∀ c ∈ w, swv c) ∧ alt w = true
theorem Aw.nil : Aw [] := ⟨(fun c hc => nomatch hc), rfl⟩
theorem Aw.tail {c : Nat} {w : List Nat} (h : Aw (c :: w)) : Aw w := by
  refine ⟨fun d hd => h.1 d (List.mem_cons_of_mem _ hd), ?_⟩
  cases w with
  | nil => rfl
  | cons d w =>
    have := h.2
    unfold alt at this
    rw [Bool.and_eq_true] at this
    exact this.2
theorem Aw.head {c d : Nat} {w : List Nat} (h : Aw (c :: d :: w)) : (c = 115 ↔ ¬ d = 115) := by
  have := h.2
  unfold alt at this
  rw [Bool.and_eq_true] at this
  have z := this.1
  by_cases h1 : c = 115 <;> by_cases h2 : d = 115 <;> simp [h1, h2] at z ⊢
theorem Aw.cons {c d : Nat} {w : List Nat} (hc : swv c) (h : Aw (d :: w)) (e : c = 115 ↔ ¬ d = 115) : Aw (c :: d :: w) := by
  refine ⟨fun x hx => (List.mem_cons.mp hx).elim (fun z => z ▸ hc) (h.1 x), ?_⟩
  unfold alt
  rw [h.2, Bool.and_true]
  by_cases h1 : c = 115 <;> by_cases h2 : d = 115 <;> simp [h1, h2] at e ⊢
theorem Aw.one {c : Nat} (hc : swv c) : Aw [c] := ⟨fun x hx => by rw [List.mem_singleton.mp hx]; exact hc, rfl⟩
/-- another letter at the beginning -/
theorem Aw.swap {c d : Nat} {w : List Nat} (h : Aw (c :: w)) (hc : ¬ c = 115) (hd : swv d) (hd' : ¬ d = 115) : Aw (d :: w) := by
  cases w with
  | nil => exact .one hd
  | cons e w => exact .cons hd h.tail (by have := h.head; omega)
theorem alt_snoc2 (c d : Nat) : ∀ x : List Nat, alt (x ++ [d] ++ [c]) = (alt (x ++ [d]) && (decide (d = 115) != decide (c = 115)))
  | [] => by
    show ((decide (d = 115) != decide (c = 115)) && true) = (true && _)
    rw [Bool.and_true, Bool.true_and]
  | [e] => by
    show ((decide (e = 115) != decide (d = 115)) && ((decide (d = 115) != decide (c = 115)) && true)) = (((decide (e = 115) != decide (d = 115)) && true) && _)
    rw [Bool.and_true, Bool.and_true]
  | e :: f :: x => by
    have ih := alt_snoc2 c d (f :: x)
    show ((decide (e = 115) != decide (f = 115)) && alt ((f :: x) ++ [d] ++ [c])) = (((decide (e = 115) != decide (f = 115)) && alt ((f :: x) ++ [d])) && _)
    rw [ih, Bool.and_assoc]
theorem alt_rev : ∀ w : List Nat, alt w.reverse = alt w
  | [] => rfl
  | [_] => rfl
  | c :: d :: w => by
    have ih := alt_rev (d :: w)
    rw [List.reverse_cons, List.reverse_cons, alt_snoc2, ← List.reverse_cons, ih]
    show _ = ((decide (c = 115) != decide (d = 115)) && alt (d :: w))
    rw [Bool.and_comm]
    congr 1
    cases decide (d = 115) <;> cases decide (c = 115) <;> rfl
theorem Aw.rev {w : List Nat} (h : Aw w) : Aw w.reverse := ⟨fun c hc => h.1 c (List.mem_reverse.mp hc), by rw [alt_rev]; exact h.2⟩
theorem Aw.of_rev {w : List Nat} (h : Aw w.reverse) : Aw w := by
  have := h.rev
  rw [List.reverse_reverse] at this
  exact this
/-- the table of a word that is read from its end -/
def wr : List Nat → M
  | [] => .one
  | c :: r => (wr r).mul (L c)
theorem wr_app : ∀ (x : List Nat) (y : List Nat), wr (x ++ y) = (wr y).mul (wr x)
  | [], y => (M.mul_one _).symm
  | c :: x, y => by
    show (wr (x ++ y)).mul (L c) = (wr y).mul ((wr x).mul (L c))
    rw [wr_app x y, M.mul_assoc]
theorem wr_rev (w : List Nat) : wr w.reverse = wm .one w := by
  have : ∀ (w : List Nat) (m : M), m.mul (wr w.reverse) = wm m w := by
    intro w
    induction w with
    | nil => intro m; exact M.mul_one m
    | cons c w ih =>
      intro m
      show _ = wm (m.mul (L c)) w
      rw [← ih, List.reverse_cons, wr_app]
      show m.mul ((M.one.mul (L c)).mul _) = _
      rw [M.one_mul, M.mul_assoc]
  have z := this w .one
  rw [M.one_mul] at z
  exact z
theorem wr_det (r : List Nat) : (wr r).det = 1 := by
  have := wr_rev r.reverse
  rw [List.reverse_reverse] at this
  rw [this]
  exact wm_det (by decide) _
/-! ### signs -/
def sg (s : Int) (m : M) : M := if 0 < s then m else m.neg
def pm (m n : M) : Prop := m = n ∨ m = n.neg
theorem neg_neg (m : M) : m.neg.neg = m := by apply M.ext <;> simp only [M.neg, Int.neg_neg]
theorem mul_neg (m n : M) : m.mul n.neg = (m.mul n).neg := by apply M.ext <;> simp only [M.mul, M.neg] <;> grind
theorem neg_mul (m n : M) : m.neg.mul n = (m.mul n).neg := by apply M.ext <;> simp only [M.mul, M.neg] <;> grind
theorem pm.symm {m n : M} (h : pm m n) : pm n m := by
  rcases h with h | h
  · exact .inl h.symm
  · exact .inr (by rw [h, neg_neg])
theorem pm.trans {m n k : M} (h : pm m n) (g : pm n k) : pm m k := by
  rcases h with rfl | rfl <;> rcases g with rfl | rfl
  · exact .inl rfl
  · exact .inr rfl
  · exact .inr rfl
  · exact .inl (neg_neg _)
theorem pm.mul {m n : M} (h : pm m n) (k : M) : pm (m.mul k) (n.mul k) := by
  rcases h with rfl | rfl
  · exact .inl rfl
  · exact .inr (neg_mul _ _)
theorem sg_pm (s : Int) (m : M) : pm (sg s m) m := by
  unfold sg
  split
  · exact .inl rfl
  · exact .inr rfl
theorem sg_mul (s : Int) (m n : M) : (sg s m).mul n = sg s (m.mul n) := by
  unfold sg
  split
  · rfl
  · exact neg_mul m n
theorem mul_sg (s : Int) (m n : M) : m.mul (sg s n) = sg s (m.mul n) := by
  unfold sg
  split
  · rfl
  · exact mul_neg m n
theorem sg_neg {s : Int} (h : s = 1 ∨ s = -1) (m : M) : sg (-s) m = (sg s m).neg := by
  rcases h with rfl | rfl
  · rfl
  · exact (neg_neg m).symm
theorem sg_sg {s : Int} (h : s = 1 ∨ s = -1) (m : M) : sg s m.neg = (sg s m).neg := by
  rcases h with rfl | rfl
  · rfl
  · rfl
theorem sgn_neg {s : Int} (h : s = 1 ∨ s = -1) : -s = 1 ∨ -s = -1 := by omega
theorem sg_det {s : Int} {m : M} (h : m.det = 1) : (sg s m).det = 1 := by
  unfold sg
  split
  · exact h
  · rw [M.det_neg]; exact h
theorem sg_one (m : M) : sg 1 m = m := rfl
theorem sg_uniq {s s' : Int} {m : M} (h : m.det = 1) (hs : s = 1 ∨ s = -1) (hs' : s' = 1 ∨ s' = -1) (e : sg s m = sg s' m) : s = s' := by
  have no : ¬ m = m.neg := fun z => by
    have z1 : m.a = -m.a := congrArg M.a z
    have z2 : m.b = -m.b := congrArg M.b z
    have z3 : m.a = 0 := by omega
    have z4 : m.b = 0 := by omega
    unfold M.det at h
    rw [z3, z4, Int.zero_mul, Int.zero_mul] at h
    omega
  rcases hs with rfl | rfl <;> rcases hs' with rfl | rfl
  · rfl
  · exact (no e).elim
  · exact (no e.symm).elim
  · rfl
/-! ### rows -/
def RS (x y : Int) : Prop := (0 ≤ x ∧ y ≤ 0) ∨ (x ≤ 0 ∧ 0 ≤ y)
def RW (x y : Int) : Prop := (0 ≤ x ∧ 0 ≤ y) ∨ (x ≤ 0 ∧ y ≤ 0)
def StS (m : M) : Prop := RS m.a m.b ∧ RS m.c m.d
def StW (m : M) : Prop := RW m.a m.b ∧ RW m.c m.d ∧ ((m.a ≠ 0 ∧ m.b ≠ 0) ∨ (m.c ≠ 0 ∧ m.d ≠ 0))
theorem StS.neg {m : M} (h : StS m) : StS m.neg := by
  obtain ⟨h1, h2⟩ := h
  unfold RS at h1 h2
  exact ⟨by show RS (-m.a) (-m.b); unfold RS; omega, by show RS (-m.c) (-m.d); unfold RS; omega⟩
theorem St_no {m n : M} (h : StS m) (g : StW n) (e : pm m n) : False := by
  have h' : StS n := by
    rcases e with rfl | rfl
    · exact h
    · have := h.neg
      rw [neg_neg] at this
      exact this
  obtain ⟨h1, h2⟩ := h'
  obtain ⟨g1, g2, g3⟩ := g
  unfold RS at h1 h2
  unfold RW at g1 g2
  omega
theorem colb {m : M} (h : m.det = 1) : ¬ (m.b = 0 ∧ m.d = 0) := fun z => by
  unfold M.det at h
  rw [z.1, z.2, Int.mul_zero, Int.zero_mul] at h
  omega
theorem cola {m : M} (h : m.det = 1) : ¬ (m.a = 0 ∧ m.c = 0) := fun z => by
  unfold M.det at h
  rw [z.1, z.2, Int.mul_zero, Int.zero_mul] at h
  omega
theorem mul_s (m : M) : m.mul (L 115) = ⟨m.b, -m.a, m.d, -m.c⟩ := by
  show m.mul ⟨0, -1, 1, 0⟩ = _
  apply M.ext <;> simp only [M.mul] <;> omega
theorem mul_w (m : M) : m.mul (L 119) = ⟨m.b, m.b - m.a, m.d, m.d - m.c⟩ := by
  show m.mul ⟨0, -1, 1, 1⟩ = _
  apply M.ext <;> simp only [M.mul] <;> omega
theorem mul_v (m : M) : m.mul (L 118) = ⟨m.b - m.a, -m.a, m.d - m.c, -m.c⟩ := by
  show m.mul ⟨-1, -1, 1, 0⟩ = _
  apply M.ext <;> simp only [M.mul] <;> omega
/-- how many letters are not s -/
def nW : List Nat → Nat
  | [] => 0
  | c :: r => if c = 115 then nW r else nW r + 1
structure Inv1 (r : List Nat) : Prop where
  st : match r with
    | [] => StS (wr r)
    | c :: _ => if c = 115 then StS (wr r) else StW (wr r)
  big : nW r + 1 ≤ max ((wr r).a.natAbs + (wr r).c.natAbs) ((wr r).b.natAbs + (wr r).d.natAbs)
theorem StW.s {m : M} (h : StW m) : StS (m.mul (L 115)) := by
  rw [mul_s]
  obtain ⟨g1, g2, _⟩ := h
  unfold RW at g1 g2
  exact ⟨by show RS m.b (-m.a); unfold RS; omega, by show RS m.d (-m.c); unfold RS; omega⟩
theorem StS.w {m : M} (h : StS m) (d : m.det = 1) : StW (m.mul (L 119)) := by
  rw [mul_w]
  obtain ⟨g1, g2⟩ := h
  have z := colb d
  unfold RS at g1 g2
  exact ⟨by show RW m.b (m.b - m.a); unfold RW; omega, by show RW m.d (m.d - m.c); unfold RW; omega, by show (m.b ≠ 0 ∧ m.b - m.a ≠ 0) ∨ (m.d ≠ 0 ∧ m.d - m.c ≠ 0); omega⟩
theorem StS.v {m : M} (h : StS m) (d : m.det = 1) : StW (m.mul (L 118)) := by
  rw [mul_v]
  obtain ⟨g1, g2⟩ := h
  have z := cola d
  unfold RS at g1 g2
  exact ⟨by show RW (m.b - m.a) (-m.a); unfold RW; omega, by show RW (m.d - m.c) (-m.c); unfold RW; omega, by show (m.b - m.a ≠ 0 ∧ -m.a ≠ 0) ∨ (m.d - m.c ≠ 0 ∧ -m.c ≠ 0); omega⟩
theorem inv1 : ∀ r : List Nat, Aw r → Inv1 r
  | [], _ => ⟨by show StS .one; exact ⟨.inl ⟨by decide, by decide⟩, .inr ⟨by decide, by decide⟩⟩, by decide⟩
  | c :: r, h => by
    have ih := inv1 r h.tail
    have hd := wr_det r
    have hc := h.1 c List.mem_cons_self
    have hst : ¬ c = 115 → StS (wr r) := fun z => by
      cases r with
      | nil => exact ih.st
      | cons d r =>
        have e : d = 115 := by have := h.head; omega
        have st := ih.st
        simp only [e, if_true] at st
        rw [e]
        exact st
    have big := ih.big
    refine ⟨?_, ?_⟩
    · show if c = 115 then StS ((wr r).mul (L c)) else StW ((wr r).mul (L c))
      by_cases h1 : c = 115
      · rw [if_pos h1, h1]
        cases r with
        | nil =>
          show StS (M.one.mul (L 115))
          rw [mul_s]
          exact ⟨.inl ⟨by decide, by decide⟩, .inl ⟨by decide, by decide⟩⟩
        | cons d r =>
          have e : ¬ d = 115 := by have := h.head; omega
          have st := ih.st
          simp only [e, if_false] at st
          exact st.s
      · rw [if_neg h1]
        rcases hc with z | z | z
        · exact (h1 z).elim
        · rw [z]; exact (hst h1).w hd
        · rw [z]; exact (hst h1).v hd
    · show (if c = 115 then nW r else nW r + 1) + 1 ≤ max (((wr r).mul (L c)).a.natAbs + ((wr r).mul (L c)).c.natAbs) (((wr r).mul (L c)).b.natAbs + ((wr r).mul (L c)).d.natAbs)
      by_cases h1 : c = 115
      · rw [if_pos h1, h1, mul_s]
        show _ ≤ max ((wr r).b.natAbs + (wr r).d.natAbs) ((-(wr r).a).natAbs + (-(wr r).c).natAbs)
        omega
      · rw [if_neg h1]
        have z := colb hd
        have z' := cola hd
        obtain ⟨g1, g2⟩ := hst h1
        unfold RS at g1 g2
        rcases hc with y | y | y
        · exact (h1 y).elim
        · rw [y, mul_w]
          show _ ≤ max ((wr r).b.natAbs + (wr r).d.natAbs) (((wr r).b - (wr r).a).natAbs + ((wr r).d - (wr r).c).natAbs)
          omega
        · rw [y, mul_v]
          show _ ≤ max (((wr r).b - (wr r).a).natAbs + ((wr r).d - (wr r).c).natAbs) ((-(wr r).a).natAbs + (-(wr r).c).natAbs)
          omega
theorem Aw.stW {c : Nat} {r : List Nat} (h : Aw (c :: r)) (hc : ¬ c = 115) : StW (wr (c :: r)) := by
  have := (inv1 _ h).st
  simp only [hc, if_false] at this
  exact this
theorem Aw.stS {c : Nat} {r : List Nat} (h : Aw (c :: r)) (hc : ¬ c = 115) : StS (wr r) := by
  cases r with
  | nil => exact (inv1 _ Aw.nil).st
  | cons d r =>
    have e : d = 115 := by have := h.head; omega
    have st := (inv1 _ h.tail).st
    simp only [e, if_true] at st
    rw [e]
    exact st
theorem Aw.stS' {r : List Nat} (h : Aw (115 :: r)) : StS (wr (115 :: r)) := by
  have := (inv1 _ h).st
  simp only [if_true] at this
  exact this
theorem nW_len : ∀ {r : List Nat}, Aw r → r.length ≤ 2 * nW r + 1 ∧ (∀ c q, r = c :: q → ¬ c = 115 → r.length ≤ 2 * nW r)
  | [], _ => ⟨by decide, fun c q e => nomatch e⟩
  | c :: r, h => by
    obtain ⟨i1, i2⟩ := nW_len h.tail
    have key : ¬ c = 115 → (c :: r).length ≤ 2 * nW (c :: r) := fun hc => by
      show r.length + 1 ≤ 2 * (if c = 115 then nW r else nW r + 1)
      rw [if_neg hc]
      omega
    refine ⟨?_, fun c' q e hc => by cases e; exact key hc⟩
    by_cases hc : c = 115
    · show r.length + 1 ≤ 2 * (if c = 115 then nW r else nW r + 1) + 1
      rw [if_pos hc]
      cases r with
      | nil => decide
      | cons d r =>
        have e : ¬ d = 115 := by have := h.head; omega
        have := i2 d r rfl e
        omega
    · have := key hc
      omega
theorem pm_le {m n : M} {k : Nat} (h : pm m n) (l : m.le k) : n.le k := by
  rcases h with rfl | rfl
  · exact l
  · have := l.neg
    rw [neg_neg] at this
    exact this
/-- the length of an alternating word by the size of its table -/
theorem Aw.len {r : List Nat} {k : Nat} (h : Aw r) (l : (wr r).le k) : r.length + 1 ≤ 4 * k := by
  have h1 := (nW_len h).1
  have h2 := (inv1 r h).big
  obtain ⟨l1, l2, l3, l4⟩ := l
  omega
/-! ### uniqueness -/
theorem L_inv (m n : M) (c : Nat) (h : pm (m.mul (L c)) (n.mul (L c))) : pm m n := by
  have := h.mul (L c).inv
  rw [M.mul_assoc, M.mul_assoc, M.mul_inv _ (L_det c), M.mul_one, M.mul_one] at this
  exact this
theorem no_unit {c : Nat} {r : List Nat} (h : Aw (c :: r)) : ¬ pm .one (wr (c :: r)) := fun e => by
  have s1 : StS .one := (inv1 _ Aw.nil).st
  by_cases hc : c = 115
  · subst hc
    have e2 : pm (wr r) (M.mk 0 1 (-1) 0) := by
      have := (e.symm).mul (M.mk 0 1 (-1) 0)
      rw [M.one_mul] at this
      have e3 : (wr (115 :: r)).mul (M.mk 0 1 (-1) 0) = wr r := by
        show ((wr r).mul (L 115)).mul _ = _
        rw [M.mul_assoc]
        exact M.mul_one _
      rw [e3] at this
      exact this
    cases r with
    | nil =>
      rcases e2 with z | z
      · exact absurd z (by decide)
      · exact absurd z (by decide)
    | cons d r =>
      have hd : ¬ d = 115 := by have := h.head; omega
      exact St_no (m := M.mk 0 1 (-1) 0) ⟨.inr ⟨by decide, by decide⟩, .inr ⟨by decide, by decide⟩⟩ (h.tail.stW hd) e2.symm
  · exact St_no s1 (h.stW hc) e
theorem wv_l (m : M) : m.mul (L 118) = (m.mul (L 119)).mul (L 119) := by
  rw [M.mul_assoc]
  congr 1
theorem uniq : ∀ (r q : List Nat), Aw r → Aw q → pm (wr r) (wr q) → r = q
  | [], [], _, _, _ => rfl
  | [], d :: q, _, hq, e => (no_unit hq e).elim
  | c :: r, [], hr, _, e => (no_unit hr e.symm).elim
  | c :: r, d :: q, hr, hq, e => by
    by_cases hcd : c = d
    · subst hcd
      rw [uniq r q hr.tail hq.tail (L_inv _ _ c e)]
    · exfalso
      by_cases hc : c = 115
      · subst hc
        exact St_no hr.stS' (hq.stW fun z => hcd z.symm) e
      · by_cases hd : d = 115
        · subst hd
          exact St_no hq.stS' (hr.stW hc) e.symm
        · have sc := hr.1 c List.mem_cons_self
          have sd := hq.1 d List.mem_cons_self
          unfold swv at sc sd
          have s1 := hr.stS hc
          have e : pm ((wr r).mul (L c)) ((wr q).mul (L d)) := e
          have cases2 : (c = 119 ∧ d = 118) ∨ (c = 118 ∧ d = 119) := by omega
          rcases cases2 with ⟨rfl, rfl⟩ | ⟨rfl, rfl⟩
          · rw [wv_l] at e
            have e2 := L_inv _ _ 119 e
            exact St_no s1 ((hq.swap (d := 119) (by decide) (.inr (.inl rfl)) (by decide)).stW (by decide)) e2
          · rw [wv_l] at e
            have e2 := L_inv _ _ 119 e
            have s2 := hq.stS (by decide)
            exact St_no s2 ((hr.swap (d := 119) (by decide) (.inr (.inl rfl)) (by decide)).stW (by decide)) e2.symm
theorem nf_uniq {s s' : Int} {r q : List Nat} (hs : s = 1 ∨ s = -1) (hs' : s' = 1 ∨ s' = -1) (hr : Aw r) (hq : Aw q) (e : sg s (wr r) = sg s' (wr q)) : s = s' ∧ r = q := by
  have p : pm (wr r) (wr q) := (sg_pm s (wr r)).symm.trans (by rw [e]; exact sg_pm s' (wr q))
  have := uniq r q hr hq p
  subst this
  exact ⟨sg_uniq (wr_det r) hs hs' e, rfl⟩
/-- the same for words as they are written -/
theorem nf_uniqW {s s' : Int} {w x : List Nat} (hs : s = 1 ∨ s = -1) (hs' : s' = 1 ∨ s' = -1) (hw : Aw w) (hx : Aw x) (e : sg s (wm .one w) = sg s' (wm .one x)) : s = s' ∧ w = x := by
  rw [← wr_rev, ← wr_rev] at e
  obtain ⟨h1, h2⟩ := nf_uniq hs hs' hw.rev hx.rev e
  exact ⟨h1, List.reverse_inj.mp h2⟩
theorem Aw.lenW {w : List Nat} {k : Nat} (h : Aw w) (l : (wm .one w).le k) : w.length + 1 ≤ 4 * k := by
  rw [← wr_rev] at l
  have := h.rev.len l
  rw [List.length_reverse] at this
  exact this
/-! ### a letter more -/
def pb (s : Int) (r : List Nat) (c : Nat) : Int × List Nat := match r with
  | [] => (s, [c])
  | d :: q => if (decide (d = 115) != decide (c = 115)) = true then (s, c :: d :: q) else if c = 115 then (-s, q) else if d = 119 then (if c = 119 then (s, 118 :: q) else (-s, q)) else (if c = 118 then (-s, 119 :: q) else (-s, q))
theorem pb_ok {s : Int} {r : List Nat} {c : Nat} (hs : s = 1 ∨ s = -1) (hr : Aw r) (hc : swv c) : ((pb s r c).1 = 1 ∨ (pb s r c).1 = -1) ∧ Aw (pb s r c).2 ∧ sg (pb s r c).1 (wr (pb s r c).2) = sg s ((wr r).mul (L c)) ∧ (pb s r c).2.length ≤ r.length + 1 := by
  have hn := sgn_neg hs
  cases r with
  | nil => exact ⟨hs, .one hc, rfl, Nat.le_refl _⟩
  | cons d q =>
    have sd := hr.1 d List.mem_cons_self
    unfold pb
    by_cases h1 : (decide (d = 115) != decide (c = 115)) = true
    · simp only [h1, if_true]
      refine ⟨hs, .cons hc hr ?_, rfl, Nat.le_refl _⟩
      by_cases z1 : d = 115 <;> by_cases z2 : c = 115 <;> simp [z1, z2] at h1 ⊢
    · simp only [h1, if_false]
      have sgq : ∀ e : M, (L d).mul (L c) = e.neg → sg (-s) ((wr q).mul e) = sg s ((wr (d :: q)).mul (L c)) := fun e he => by
        show _ = sg s (((wr q).mul (L d)).mul (L c))
        rw [M.mul_assoc, he, mul_neg, sg_sg hs, sg_neg hs]
      by_cases h2 : c = 115
      · subst h2
        have hd : d = 115 := by
          refine Decidable.byContradiction fun z => h1 ?_
          simp [z]
        subst hd
        simp only [if_true]
        refine ⟨hn, hr.tail, ?_, by simp; omega⟩
        have := sgq .one (by decide)
        rw [M.mul_one] at this
        exact this
      · have hd : ¬ d = 115 := fun z => h1 (by simp [z, h2])
        simp only [h2, if_false]
        have sd' : d = 119 ∨ d = 118 := by unfold swv at sd; omega
        have sc' : c = 119 ∨ c = 118 := by unfold swv at hc; omega
        rcases sd' with rfl | rfl <;> rcases sc' with rfl | rfl
        · simp only [if_true]
          refine ⟨hs, hr.swap (by decide) (.inr (.inr rfl)) (by decide), ?_, by simp⟩
          show sg s ((wr q).mul (L 118)) = _
          rw [wv_l]
          rfl
        · simp only [if_true]
          refine ⟨hn, hr.tail, ?_, by simp; omega⟩
          have := sgq .one (by decide)
          rw [M.mul_one] at this
          exact this
        · simp
          refine ⟨by omega, hr.tail, ?_, by omega⟩
          have := sgq .one (by decide)
          rw [M.mul_one] at this
          exact this
        · simp
          refine ⟨by omega, hr.swap (by decide) (.inr (.inl rfl)) (by decide), ?_⟩
          exact sgq (L 119) (by decide)
end Tz

/-! Words of t and l. -/
namespace Tz
open PySem PySem.Spec PyProof.Rows L2
theorem tl_str : (Str.ofString "tl").cps.toList = [116, 108] := by decide +kernel
theorem tl_mem {c : Nat} : c ∈ (Str.ofString "tl").cps.toList ↔ two c := by
  rw [tl_str]
  simp [two]
instance (c : Nat) : Decidable (two c) := by unfold two; infer_instance
theorem two.asc {w : List Nat} (h : ∀ c ∈ w, two c) : asc w := fun c hc => by rcases h c hc with rfl | rfl <;> decide
/-- words of t and l: the first letter in front -/
theorem wm_cons (c : Nat) (w : List Nat) : wm .one (c :: w) = (L c).mul (wm .one w) := by
  show wm (M.one.mul (L c)) w = _
  rw [M.one_mul, wm_one]
def nn (m : M) : Prop := 0 ≤ m.a ∧ 0 ≤ m.b ∧ 0 ≤ m.c ∧ 0 ≤ m.d
instance (m : M) : Decidable (nn m) := by unfold nn; infer_instance
theorem t_mul (m : M) : (L 116).mul m = ⟨m.a + m.c, m.b + m.d, m.c, m.d⟩ := by
  show M.mul ⟨1, 1, 0, 1⟩ m = _
  apply M.ext <;> simp only [M.mul] <;> omega
theorem l_mul (m : M) : (L 108).mul m = ⟨m.a, m.b, m.a + m.c, m.b + m.d⟩ := by
  show M.mul ⟨1, 0, 1, 1⟩ m = _
  apply M.ext <;> simp only [M.mul] <;> omega
theorem nn_wm : ∀ {w : List Nat}, (∀ c ∈ w, two c) → nn (wm .one w)
  | [], _ => by decide
  | c :: w, h => by
    have ih := nn_wm (w := w) fun d hd => h d (List.mem_cons_of_mem _ hd)
    obtain ⟨h1, h2, h3, h4⟩ := ih
    rw [wm_cons]
    rcases h c List.mem_cons_self with rfl | rfl
    · rw [t_mul]
      exact ⟨by show 0 ≤ _ + _; omega, by show 0 ≤ _ + _; omega, h3, h4⟩
    · rw [l_mul]
      exact ⟨h1, h2, by show 0 ≤ _ + _; omega, by show 0 ≤ _ + _; omega⟩
theorem row_ne {m : M} (h : m.det = 1) : ¬ (m.a = 0 ∧ m.b = 0) ∧ ¬ (m.c = 0 ∧ m.d = 0) := by
  unfold M.det at h
  constructor
  · rintro ⟨z1, z2⟩
    rw [z1, z2, Int.zero_mul, Int.zero_mul] at h
    omega
  · rintro ⟨z1, z2⟩
    rw [z1, z2, Int.mul_zero, Int.mul_zero] at h
    omega
end Tz

/-! Alternating words up to a change: round words that belong to like tables are rotations of one another. -/
namespace Tz
open PySem PySem.Spec PyProof.Rows L2
/-! ### each table has an alternating word -/
theorem nf_word : ∀ (w : List Nat), (∀ c ∈ w, swv c) → ∀ (s : Int) (r : List Nat), (s = 1 ∨ s = -1) → Aw r → ∃ s' r', (s' = 1 ∨ s' = -1) ∧ Aw r' ∧ sg s' (wr r') = sg s (wm (wr r) w)
  | [], _, s, r, hs, hr => ⟨s, r, hs, hr, rfl⟩
  | c :: w, hw, s, r, hs, hr => by
    obtain ⟨p1, p2, p3, _⟩ := pb_ok (r := r) (c := c) hs hr (hw c List.mem_cons_self)
    obtain ⟨s', r', h1, h2, h3⟩ := nf_word w (fun d hd => hw d (List.mem_cons_of_mem _ hd)) _ _ p1 p2
    refine ⟨s', r', h1, h2, ?_⟩
    rw [h3]
    show _ = sg s (wm ((wr r).mul (L c)) w)
    rw [wm_one (wr _), ← sg_mul, p3, sg_mul, ← wm_one]
def Gen (m : M) : Prop := ∃ (s : Int) (w : List Nat), (s = 1 ∨ s = -1) ∧ (∀ c ∈ w, swv c) ∧ m = sg s (wm .one w)
theorem sg_comp {s s' : Int} (h : s = 1 ∨ s = -1) (h' : s' = 1 ∨ s' = -1) (m : M) : ∃ t : Int, (t = 1 ∨ t = -1) ∧ sg s (sg s' m) = sg t m := by
  rcases h with rfl | rfl <;> rcases h' with rfl | rfl
  · exact ⟨1, .inl rfl, rfl⟩
  · exact ⟨-1, .inr rfl, rfl⟩
  · exact ⟨-1, .inr rfl, rfl⟩
  · exact ⟨1, .inl rfl, neg_neg m⟩
theorem Gen.mul {m n : M} (h : Gen m) (g : Gen n) : Gen (m.mul n) := by
  obtain ⟨s, w, hs, hw, rfl⟩ := h
  obtain ⟨t, v, ht, hv, rfl⟩ := g
  obtain ⟨u, hu, e⟩ := sg_comp hs ht (wm .one (w ++ v))
  refine ⟨u, w ++ v, hu, fun c hc => (List.mem_append.mp hc).elim (hw c) (hv c), ?_⟩
  rw [sg_mul, mul_sg, ← wm_one, ← wm_append]
  exact e
theorem Gen.one : Gen .one := ⟨1, [], .inl rfl, (fun c hc => nomatch hc), rfl⟩
theorem Gen.t (n : Nat) : Gen ⟨1, n, 0, 1⟩ := by
  induction n with
  | zero => exact Gen.one
  | succ n ih =>
    have := ih.mul (⟨-1, [115, 119], .inr rfl, by decide, rfl⟩ : Gen ⟨1, 1, 0, 1⟩)
    have e : (M.mk 1 n 0 1).mul ⟨1, 1, 0, 1⟩ = ⟨1, ((n + 1 : Nat) : Int), 0, 1⟩ := by
      apply M.ext <;> simp [M.mul]
      omega
    rw [e] at this
    exact this
theorem Gen.T (n : Nat) : Gen ⟨1, -(n : Int), 0, 1⟩ := by
  induction n with
  | zero => exact Gen.one
  | succ n ih =>
    have := ih.mul (⟨-1, [118, 115], .inr rfl, by decide, rfl⟩ : Gen ⟨1, -1, 0, 1⟩)
    have e : (M.mk 1 (-(n : Int)) 0 1).mul ⟨1, -1, 0, 1⟩ = ⟨1, -((n + 1 : Nat) : Int), 0, 1⟩ := by
      apply M.ext <;> simp [M.mul]
      omega
    rw [e] at this
    exact this
theorem Gen.sh (q : Int) : Gen ⟨1, q, 0, 1⟩ := by
  by_cases h : 0 ≤ q
  · obtain ⟨n, rfl⟩ := Int.eq_ofNat_of_zero_le h
    exact Gen.t n
  · have := Gen.T q.natAbs
    rw [show -((q.natAbs : Nat) : Int) = q by omega] at this
    exact this
theorem Gen.neg {m : M} (h : Gen m) : Gen m.neg := by
  obtain ⟨s, w, hs, hw, rfl⟩ := h
  exact ⟨-s, w, sgn_neg hs, hw, (sg_neg hs _).symm⟩
theorem unit_ad' {a d : Int} (h : a * d = 1) : (a = 1 ∧ d = 1) ∨ (a = -1 ∧ d = -1) := by
  have e : a.natAbs * d.natAbs = 1 := by rw [← Int.natAbs_mul, h]; rfl
  have ha : a.natAbs = 1 := Nat.eq_one_of_mul_eq_one_right e
  rcases Int.natAbs_eq a with z | z
  · rw [ha] at z
    have z : a = 1 := z
    subst z
    omega
  · rw [ha] at z
    have z : a = -1 := z
    subst z
    omega
theorem gen_all : ∀ (n : Nat) (m : M), m.det = 1 → m.c.natAbs = n → Gen m := by
  intro n
  induction n using Nat.strongRecOn with
  | _ n ih =>
    rintro ⟨a, b, c, d⟩ h hn
    have h : a * d - b * c = 1 := h
    have hn : c.natAbs = n := hn
    by_cases hc : c = 0
    · subst hc
      rw [Int.mul_zero, Int.sub_zero] at h
      rcases unit_ad' h with ⟨rfl, rfl⟩ | ⟨rfl, rfl⟩
      · exact Gen.sh b
      · have := (Gen.sh (-b)).neg
        have e : (M.mk 1 (-b) 0 1).neg = ⟨-1, b, 0, -1⟩ := by
          apply M.ext <;> simp [M.neg]
        rw [e] at this
        exact this
    · have e := Int.emod_add_mul_ediv a c
      have r0 := Int.emod_nonneg a hc
      have r1 : a % c < c.natAbs := by
        by_cases hp : 0 < c
        · have := Int.emod_lt_of_pos a hp
          omega
        · have := Int.emod_lt_of_pos a (show 0 < -c by omega)
          rw [Int.emod_neg] at this
          omega
      generalize a / c = q at e
      generalize a % c = r at e r0 r1
      have g := ih r.natAbs (by omega) ⟨c, d, -r, q * d - b⟩ (by
        show c * (q * d - b) - d * -r = 1
        rw [← e] at h
        grind) (by show (-r).natAbs = _; omega)
      have := ((Gen.sh q).mul (⟨1, [115], .inl rfl, by decide, rfl⟩ : Gen ⟨0, -1, 1, 0⟩)).mul g
      have e2 : ((M.mk 1 q 0 1).mul ⟨0, -1, 1, 0⟩).mul ⟨c, d, -r, q * d - b⟩ = ⟨a, b, c, d⟩ := by
        rw [← e]
        apply M.ext <;> simp only [M.mul] <;> grind
      rw [e2] at this
      exact this
theorem ex_nf {m : M} (h : m.det = 1) : ∃ (s : Int) (r : List Nat), (s = 1 ∨ s = -1) ∧ Aw r ∧ sg s (wr r) = m := by
  obtain ⟨s, w, hs, hw, rfl⟩ := gen_all _ m h rfl
  obtain ⟨s', r', h1, h2, h3⟩ := nf_word w hw s [] hs Aw.nil
  exact ⟨s', r', h1, h2, h3⟩
/-! ### ends -/
def hk (w : List Nat) : Option Bool := w.head?.map fun c => decide (c = 115)
def lk (w : List Nat) : Option Bool := hk w.reverse
theorem aw_app {a b : List Nat} (ha : Aw a) (hb : Aw b) (h : ∀ x y, lk a = some x → hk b = some y → x ≠ y) : Aw (a ++ b) := by
  induction a with
  | nil => exact hb
  | cons c a ih =>
    have ih := ih ha.tail (fun x y hx hy => h x y (by
      cases a with
      | nil => cases hx
      | cons d a =>
        unfold lk hk at hx ⊢
        rw [List.reverse_cons, List.head?_append]
        cases hr : (d :: a).reverse with
        | nil => simp at hr
        | cons e q =>
          rw [hr] at hx
          exact hx) hy)
    cases a with
    | nil =>
      cases b with
      | nil => exact ha
      | cons d b =>
        have := h (decide (c = 115)) (decide (d = 115)) rfl rfl
        refine Aw.cons (ha.1 c List.mem_cons_self) hb ?_
        by_cases z1 : c = 115 <;> by_cases z2 : d = 115 <;> simp [z1, z2] at this ⊢
    | cons d a => exact Aw.cons (ha.1 c List.mem_cons_self) ih ha.head
theorem aw_left {a b : List Nat} (h : Aw (a ++ b)) : Aw a := by
  induction a with
  | nil => exact Aw.nil
  | cons c a ih =>
    have t : Aw (a ++ b) := h.tail
    cases a with
    | nil => exact .one (h.1 c List.mem_cons_self)
    | cons d a => exact Aw.cons (h.1 c List.mem_cons_self) (ih t) h.head
theorem aw_right {a b : List Nat} (h : Aw (a ++ b)) : Aw b := by
  induction a with
  | nil => exact h
  | cons c a ih => exact ih h.tail
theorem lk_snoc (a : List Nat) (c : Nat) : lk (a ++ [c]) = some (decide (c = 115)) := by
  unfold lk hk
  rw [List.reverse_append]
  rfl
theorem hk_cons (c : Nat) (a : List Nat) : hk (c :: a) = some (decide (c = 115)) := rfl
theorem lk_app {a b : List Nat} (h : b ≠ []) : lk (a ++ b) = lk b := by
  unfold lk hk
  rw [List.reverse_append, List.head?_append]
  cases hr : b.reverse with
  | nil =>
    have := congrArg List.reverse hr
    rw [List.reverse_reverse] at this
    exact (h this).elim
  | cons c q => rfl
theorem hk_app {a b : List Nat} (h : a ≠ []) : hk (a ++ b) = hk a := by
  cases a with
  | nil => exact (h rfl).elim
  | cons c a => rfl
theorem mid_ne {a b : List Nat} {c d : Nat} (h : Aw (a ++ [c] ++ (d :: b))) : ¬ decide (c = 115) = decide (d = 115) := by
  have := aw_right (a := a) (b := c :: d :: b) (by simpa using h)
  have := this.head
  by_cases z1 : c = 115 <;> by_cases z2 : d = 115 <;> simp [z1, z2] at this ⊢
/-- round: one letter at most, or ends of two kinds -/
def Cyc (w : List Nat) : Prop := w.length ≤ 1 ∨ hk w ≠ lk w
/-- the letter of the inverse -/
def iv (c : Nat) : Nat := if c = 119 then 118 else if c = 118 then 119 else c
theorem iv_swv {c : Nat} (h : swv c) : swv (iv c) := by
  rcases h with rfl | rfl | rfl <;> decide
theorem iv_s {c : Nat} : decide (iv c = 115) = decide (c = 115) := by
  unfold iv
  by_cases h1 : c = 119
  · rw [if_pos h1, h1]; rfl
  · rw [if_neg h1]
    by_cases h2 : c = 118
    · rw [if_pos h2, h2]; rfl
    · rw [if_neg h2]
theorem aw_iv {w : List Nat} (h : Aw w) : Aw (w.map iv) := by
  induction w with
  | nil => exact Aw.nil
  | cons c w ih =>
    have ih := ih h.tail
    have hc := iv_swv (h.1 c List.mem_cons_self)
    cases w with
    | nil => exact .one hc
    | cons d w =>
      refine Aw.cons hc ih ?_
      have e1 := iv_s (c := c)
      have e2 := iv_s (c := d)
      rw [decide_eq_decide] at e1 e2
      rw [e1, e2]
      exact h.head
theorem hk_iv (w : List Nat) : hk (w.map iv) = hk w := by
  cases w with
  | nil => rfl
  | cons c w =>
    show some (decide (iv c = 115)) = some (decide (c = 115))
    rw [iv_s]
theorem lk_iv (w : List Nat) : lk (w.map iv) = lk w := by
  unfold lk
  rw [← List.map_reverse, hk_iv]
theorem L_iv {c : Nat} (h : swv c) : pm (L (iv c)) (L c).inv := by
  rcases h with rfl | rfl | rfl
  · exact .inr (by decide)
  · exact .inr (by decide)
  · exact .inr (by decide)
theorem pm_mul_l {m n k : M} (h : pm m n) : pm (k.mul m) (k.mul n) := by
  rcases h with rfl | rfl
  · exact .inl rfl
  · exact .inr (mul_neg _ _)
/-- the inverse of a table by the inverse word: r read from the end, its letters inverted -/
theorem wm_iv : ∀ {r : List Nat}, (∀ c ∈ r, swv c) → pm (wm .one (r.map iv)) (wr r).inv
  | [], _ => .inl (by decide)
  | c :: r, h => by
    have ih := wm_iv (r := r) fun d hd => h d (List.mem_cons_of_mem _ hd)
    show pm (wm (M.one.mul (L (iv c))) (r.map iv)) ((wr r).mul (L c)).inv
    rw [M.one_mul, wm_one, M.inv_mul_rev]
    exact ((L_iv (h c List.mem_cons_self)).mul _).trans (pm_mul_l ih)
theorem pm_inv {m n : M} (h : pm m n) : pm m.inv n.inv := by
  rcases h with rfl | rfl
  · exact .inl rfl
  · exact .inr rfl
/-- conjugates -/
def cj (d m : M) : M := (d.mul m).mul d.inv
theorem cj_mul (d e m : M) : cj (d.mul e) m = cj d (cj e m) := by
  unfold cj
  rw [M.inv_mul_rev]
  simp only [M.mul_assoc]
theorem cj_neg (d m : M) : cj d.neg m = cj d m := by
  unfold cj
  have : d.neg.inv = d.inv.neg := by apply M.ext <;> simp [M.neg, M.inv]
  rw [this, neg_mul, neg_mul, mul_neg, neg_neg]
theorem cj_pm {d e m : M} (h : pm d e) : cj d m = cj e m := by
  rcases h with rfl | rfl
  · rfl
  · exact cj_neg e m
theorem cj_one (m : M) : cj .one m = m := by
  unfold cj
  rw [M.one_mul]
  exact M.mul_one m
theorem cj_sg (d m : M) (s : Int) : cj d (sg s m) = sg s (cj d m) := by
  unfold cj
  rw [mul_sg, sg_mul]
theorem cj_det {d m : M} (hd : d.det = 1) (hm : m.det = 1) : (cj d m).det = 1 := by
  unfold cj
  rw [M.det_mul, M.det_mul, M.det_inv, hd, hm]
  rfl
theorem cj_inv {d m : M} (hd : d.det = 1) : cj d.inv (cj d m) = m := by
  rw [← cj_mul, M.inv_mul d hd, cj_one]
theorem cj_tr {d m : M} (hd : d.det = 1) : (cj d m).a + (cj d m).d = m.a + m.d := by
  unfold M.det at hd
  simp only [cj, M.mul, M.inv]
  grind
/-- a rotation by a letter: N(c w) and N(w c) -/
theorem rot_l (c : Nat) (w : List Nat) : cj (L c).inv (wm .one (c :: w)) = wm .one (w ++ [c]) := by
  unfold cj
  rw [wm_append]
  show ((L c).inv.mul (wm (M.one.mul (L c)) w)).mul (L c).inv.inv = (wm .one w).mul (L c)
  rw [M.one_mul, wm_one, ← M.mul_assoc, M.inv_mul _ (L_det c), M.one_mul, inv_inv]
theorem rot_r (c : Nat) (w : List Nat) : cj (L c) (wm .one (w ++ [c])) = wm .one (c :: w) := by
  rw [← rot_l, ← cj_mul, M.mul_inv _ (L_det c), cj_one]
/-- rotations -/
def Rot (z z' : List Nat) : Prop := ∃ a b, z = a ++ b ∧ z' = b ++ a
theorem Rot.refl (z : List Nat) : Rot z z := ⟨[], z, rfl, (List.append_nil z).symm⟩
theorem Rot.symm {z z' : List Nat} (h : Rot z z') : Rot z' z := by
  obtain ⟨a, b, rfl, rfl⟩ := h
  exact ⟨b, a, rfl, rfl⟩
theorem rot_cons {c : Nat} {w z : List Nat} (h : Rot (w ++ [c]) z) : Rot (c :: w) z := by
  obtain ⟨a, b, e, rfl⟩ := h
  rcases List.eq_nil_or_concat b with rfl | ⟨b', d, rfl⟩
  · rw [List.append_nil] at e
    subst e
    rw [List.nil_append]
    exact ⟨[c], w, rfl, rfl⟩
  · rw [List.concat_eq_append] at e ⊢
    rw [← List.append_assoc] at e
    obtain ⟨e1, e2⟩ := List.append_inj' e rfl
    cases e2
    subst e1
    exact ⟨c :: a, b', rfl, by simp⟩
theorem rot_snoc {c : Nat} {w z : List Nat} (h : Rot (c :: w) z) : Rot (w ++ [c]) z := by
  obtain ⟨a, b, e, rfl⟩ := h
  cases a with
  | nil =>
    rw [List.nil_append] at e
    subst e
    exact ⟨w, [c], rfl, by simp⟩
  | cons d a =>
    cases e
    exact ⟨a, b ++ [c], by simp, by simp⟩
theorem cyc_rot {c : Nat} {w : List Nat} (hw : Aw (c :: w)) (h : Cyc (c :: w)) : Aw (w ++ [c]) ∧ Cyc (w ++ [c]) := by
  rcases List.eq_nil_or_concat w with rfl | ⟨w', d, rfl⟩
  · exact ⟨hw, h⟩
  · rw [List.concat_eq_append] at h hw ⊢
    rcases h with h | h
    · simp at h
    · have e1 : lk (c :: (w' ++ [d])) = some (decide (d = 115)) := lk_snoc (c :: w') d
      rw [hk_cons, e1] at h
      have hcd : decide (d = 115) ≠ decide (c = 115) := fun z => h (by rw [z])
      constructor
      · refine aw_app hw.tail (.one (hw.1 c List.mem_cons_self)) fun x y hx hy => ?_
        rw [lk_snoc] at hx
        cases hx
        cases hy
        exact hcd
      · right
        rw [lk_snoc]
        cases w' with
        | nil =>
          show some (decide (d = 115)) ≠ _
          exact fun z => hcd (Option.some.inj z)
        | cons e w' =>
          show some (decide (e = 115)) ≠ _
          have := hw.head
          intro z
          have z := Option.some.inj z
          rw [decide_eq_decide] at z
          omega
theorem cyc_rot' {c : Nat} {w : List Nat} (hw : Aw (w ++ [c])) (h : Cyc (w ++ [c])) : Aw (c :: w) ∧ Cyc (c :: w) := by
  cases w with
  | nil => exact ⟨hw, h⟩
  | cons d w =>
    rcases h with h | h
    · simp at h
    · rw [lk_snoc] at h
      have h : some (decide (d = 115)) ≠ some (decide (c = 115)) := h
      have hcd : decide (d = 115) ≠ decide (c = 115) := fun z => h (by rw [z])
      have hc : swv c := hw.1 c (List.mem_append_right _ (List.mem_singleton.mpr rfl))
      refine ⟨Aw.cons hc (aw_left hw) (by rw [ne_eq, decide_eq_decide] at hcd; omega), .inr ?_⟩
      rw [hk_cons]
      have e1 : lk (c :: d :: w) = lk (d :: w) := lk_app (a := [c]) (by simp)
      rw [e1]
      rcases List.eq_nil_or_concat (d :: w) with z | ⟨w', e, z⟩
      · cases z
      · rw [List.concat_eq_append] at z
        rw [z, lk_snoc]
        rw [z] at hw
        have := mid_ne (a := w') (b := []) (c := e) (d := c) (by simpa using hw)
        exact fun q => this (Option.some.inj q).symm
/-- where nothing cancels, the ends are alike -/
theorem no_cyc {x z : List Nat} {m : M} (hx : Aw x) (hz : Aw z) (h2 : 2 ≤ x.length) (he : hk x = lk x) (cz : Cyc z) (e : pm (wm .one x) (wm .one z)) : False := by
  rw [← wr_rev, ← wr_rev] at e
  have := uniq _ _ hx.rev hz.rev e
  have := List.reverse_inj.mp this
  subst this
  rcases cz with h | h
  · omega
  · exact h he
theorem merge {c d : Nat} (hc : swv c) (hd : swv d) (k : decide (c = 115) = decide (d = 115)) : pm ((L c).mul (L d)) .one ∨ ∃ e, swv e ∧ ¬ e = 115 ∧ ¬ c = 115 ∧ pm ((L c).mul (L d)) (L e) := by
  rcases hc with rfl | rfl | rfl <;> rcases hd with rfl | rfl | rfl
  · exact .inl (.inr (by decide))
  · exact absurd k (by decide)
  · exact absurd k (by decide)
  · exact absurd k (by decide)
  · exact .inr ⟨118, .inr (.inr rfl), by decide, by decide, .inl (by decide)⟩
  · exact .inl (.inr (by decide))
  · exact absurd k (by decide)
  · exact .inl (.inr (by decide))
  · exact .inr ⟨119, .inr (.inl rfl), by decide, by decide, .inr (by decide)⟩
theorem pm_refl (m : M) : pm m m := .inl rfl
/-- N(y) N(z) N(y)^-1 as a word -/
theorem cj_word {r z : List Nat} (hr : ∀ c ∈ r, swv c) : pm (cj (wr r) (wm .one z)) (wm .one (r.reverse ++ z ++ r.map iv)) := by
  have e1 : wm .one (r.reverse ++ z ++ r.map iv) = ((wr r).mul (wm .one z)).mul (wm .one (r.map iv)) := by
    rw [wm_append, wm_append, wm_one (wm (wm .one r.reverse) z), wm_one (wm .one r.reverse) z, ← wr_rev r.reverse, List.reverse_reverse]
  rw [e1]
  unfold cj
  exact pm_mul_l (wm_iv hr).symm
theorem pm_sg {s s' : Int} {m n : M} (e : sg s m = sg s' n) : pm m n := (sg_pm s m).symm.trans (by rw [e]; exact sg_pm s' n)
theorem hk_rev (r : List Nat) : hk r.reverse = lk r := rfl
theorem lk_rev (r : List Nat) : lk r.reverse = hk r := by unfold lk; rw [List.reverse_reverse]
theorem eq_letter {c d : Nat} (hc : swv c) (hd : swv d) (h : pm ((L c).mul (L d).inv) .one) : c = d := by
  rcases hc with rfl | rfl | rfl <;> rcases hd with rfl | rfl | rfl <;> first | rfl | (exfalso; rcases h with h | h <;> revert h <;> decide)
/-- like round words: a rotation -/
theorem conj_cyc : ∀ (r z z' : List Nat) (s s' : Int), Aw r → Aw z → Aw z' → Cyc z → Cyc z' → (s = 1 ∨ s = -1) → (s' = 1 ∨ s' = -1) → cj (wr r) (sg s (wm .one z)) = sg s' (wm .one z') → s = s' ∧ Rot z z'
  | [], z, z', s, s', _, hz, hz', _, _, hs, hs', e => by
    have e : cj .one _ = _ := e
    rw [cj_one] at e
    obtain ⟨h1, h2⟩ := nf_uniqW hs hs' hz hz' e
    subst h2
    exact ⟨h1, Rot.refl z⟩
  | d :: r, [], z', s, s', hr, hz, hz', cz, cz', hs, hs', e => by
    have e0 : cj (wr (d :: r)) (sg s (wm .one [])) = sg s (wm .one []) := by
      rw [cj_sg]
      congr 1
      show cj _ .one = .one
      unfold cj
      rw [M.mul_one, M.mul_inv _ (wr_det _)]
    rw [e0] at e
    obtain ⟨h1, h2⟩ := nf_uniqW hs hs' hz hz' e
    subst h2
    exact ⟨h1, Rot.refl []⟩
  | d :: r, [c], z', s, s', hr, hz, hz', cz, cz', hs, hs', e => by
    have sd := hr.1 d List.mem_cons_self
    have sc := hz.1 c List.mem_cons_self
    by_cases k : decide (c = 115) = decide (d = 115)
    · have comm : cj (L d) (wm .one [c]) = wm .one [c] := by
        show cj (L d) (M.one.mul (L c)) = M.one.mul (L c)
        rw [M.one_mul]
        rcases sd with rfl | rfl | rfl <;> rcases sc with rfl | rfl | rfl <;> first | decide | exact absurd k (by decide)
      refine conj_cyc r [c] z' s s' hr.tail hz hz' cz cz' hs hs' ?_
      have e : cj ((wr r).mul (L d)) _ = _ := e
      rw [cj_mul, cj_sg, comm] at e
      exact e
    · exfalso
      refine no_cyc (m := .one) (x := (d :: r).reverse ++ [c] ++ (d :: r).map iv) ?_ hz' (by simp; omega) ?_ cz' ((cj_word hr.1).symm.trans ?_)
      · refine aw_app (aw_app hr.rev hz fun x y hx hy => ?_) (aw_iv hr) fun x y hx hy => ?_
        · rw [lk_rev, hk_cons] at hx
          cases hx
          cases hy
          exact fun q => k q.symm
        · rw [lk_snoc] at hx
          rw [hk_iv, hk_cons] at hy
          cases hx
          cases hy
          exact k
      · rw [hk_app (by simp), hk_app (by simp), hk_rev, lk_app (by simp), lk_iv]
      · rw [cj_sg] at e
        exact pm_sg e
  | d :: r, c :: c2 :: z, z', s, s', hr, hz, hz', cz, cz', hs, hs', e => by
    have sd := hr.1 d List.mem_cons_self
    have sc := hz.1 c List.mem_cons_self
    have e' : cj ((wr r).mul (L d)) (sg s (wm .one (c :: c2 :: z))) = sg s' (wm .one z') := e
    have ep : pm (cj (wr (d :: r)) (wm .one (c :: c2 :: z))) (wm .one z') := by
      rw [cj_sg] at e
      exact pm_sg e
    rw [cj_mul] at e'
    have hcy : hk (c :: c2 :: z) ≠ lk (c :: c2 :: z) := by
      rcases cz with q | q
      · simp at q
      · exact q
    obtain ⟨z0, cn, ez⟩ : ∃ z0 cn, c2 :: z = z0 ++ [cn] := by
      rcases List.eq_nil_or_concat (c2 :: z) with q | ⟨z0, cn, q⟩
      · cases q
      · exact ⟨z0, cn, by rw [q, List.concat_eq_append]⟩
    have scn : swv cn := hz.1 cn (by rw [ez]; simp)
    rw [hk_cons, ez] at hcy
    have lkc : lk (c :: (z0 ++ [cn])) = some (decide (cn = 115)) := lk_snoc (c :: z0) cn
    rw [lkc] at hcy
    have kcn : ¬ decide (c = 115) = decide (cn = 115) := fun q => hcy (by rw [q])
    by_cases k : decide (c = 115) = decide (d = 115)
    · -- the letter meets the first one
      rcases merge sd sc k.symm with m1 | ⟨x, sx, xs, ds, mx⟩
      · -- it takes it away
        have ed : pm (L d) (L c).inv := by
          have := m1.mul (L c).inv
          rw [M.mul_assoc, M.mul_inv _ (L_det c), M.mul_one, M.one_mul] at this
          exact this
        rw [cj_sg, cj_pm ed, rot_l] at e'
        obtain ⟨a1, a2⟩ := cyc_rot hz cz
        obtain ⟨h1, h2⟩ := conj_cyc r _ z' s s' hr.tail a1 hz' a2 cz' hs hs' e'
        exact ⟨h1, rot_cons h2⟩
      · exfalso
        have cs : ¬ c = 115 := fun q => ds (by rw [q] at k; exact of_decide_eq_true k.symm)
        have ax : Aw (x :: c2 :: z) := hz.swap cs sx xs
        refine no_cyc (m := .one) (x := r.reverse ++ (x :: c2 :: z) ++ (d :: r).map iv) ?_ hz' (by simp; omega) ?_ cz' (pm.trans ?_ ep)
        · refine aw_app (aw_app hr.tail.rev ax fun a b ha hb => ?_) (aw_iv hr) fun a b ha hb => ?_
          · rw [lk_rev] at ha
            cases hb
            cases r with
            | nil => cases ha
            | cons d2 r =>
              cases ha
              have := hr.head
              have h2 : d2 = 115 := by omega
              show decide (d2 = 115) ≠ decide (x = 115)
              rw [h2, decide_eq_false xs]
              decide
          · rw [lk_app (by simp), show x :: c2 :: z = [x] ++ (c2 :: z) from rfl, lk_app (by simp), ez, lk_snoc] at ha
            rw [hk_iv, hk_cons] at hb
            cases ha
            cases hb
            rw [← k]
            exact fun q => kcn q.symm
        · rw [lk_app (by simp), lk_iv]
          cases r with
          | nil =>
            show some (decide (x = 115)) = some (decide (d = 115))
            rw [decide_eq_false xs, decide_eq_false ds]
          | cons d2 r =>
            rw [hk_app (by simp), hk_app (by simp), hk_rev]
            exact (lk_app (a := [d]) (by simp)).symm
        · refine pm.trans ?_ (cj_word (z := c :: c2 :: z) hr.1).symm
          rw [wm_append, wm_append, wm_append, wm_append, List.reverse_cons, wm_append]
          show pm (wm (wm ((wm .one r.reverse).mul (L x)) (c2 :: z)) _) (wm (wm (((wm .one r.reverse).mul (L d)).mul (L c)) (c2 :: z)) _)
          rw [wm_one (wm ((wm .one r.reverse).mul (L x)) (c2 :: z)) ((d :: r).map iv), wm_one ((wm .one r.reverse).mul (L x)) (c2 :: z), wm_one (wm (((wm .one r.reverse).mul (L d)).mul (L c)) (c2 :: z)) ((d :: r).map iv), wm_one (((wm .one r.reverse).mul (L d)).mul (L c)) (c2 :: z), M.mul_assoc (wm .one r.reverse) (L d)]
          exact ((pm_mul_l mx.symm).mul _).mul _
    · -- it meets the last one
      have kd : decide (cn = 115) = decide (d = 115) := by
        revert k kcn
        cases decide (c = 115) <;> cases decide (d = 115) <;> cases decide (cn = 115) <;> decide
      have kiv : decide (cn = 115) = decide (iv d = 115) := by rw [iv_s]; exact kd
      rcases merge scn (iv_swv sd) kiv with m1 | ⟨x, sx, xs, cns, mx⟩
      · have ed : cn = d := eq_letter scn sd (by
          refine pm.trans (pm_mul_l (L_iv sd).symm) m1)
        subst ed
        have hz1 : Aw ((c :: z0) ++ [cn]) := by
          have := hz
          rw [ez] at this
          exact this
        have cz1 : Cyc ((c :: z0) ++ [cn]) := by
          have := cz
          rw [ez] at this
          exact this
        rw [cj_sg, ez, show c :: (z0 ++ [cn]) = (c :: z0) ++ [cn] from rfl, rot_r] at e'
        obtain ⟨a1, a2⟩ := cyc_rot' hz1 cz1
        obtain ⟨h1, h2⟩ := conj_cyc r _ z' s s' hr.tail a1 hz' a2 cz' hs hs' e'
        refine ⟨h1, ?_⟩
        rw [ez]
        exact rot_snoc h2
      · exfalso
        have hz1 : Aw ((c :: z0) ++ [cn]) := by
          have := hz
          rw [ez] at this
          exact this
        have ds : ¬ d = 115 := fun q => cns (by rw [q] at kd; exact of_decide_eq_true kd)
        have ax : Aw ((c :: z0) ++ [x]) := by
          refine aw_app (aw_left hz1) (.one sx) fun a b ha hb => ?_
          cases hb
          rcases List.eq_nil_or_concat (c :: z0) with q | ⟨u, y, q⟩
          · cases q
          · rw [List.concat_eq_append] at q
            rw [q, lk_snoc] at ha
            cases ha
            rw [q] at hz1
            have := mid_ne (a := u) (b := []) (c := y) (d := cn) (by simpa using hz1)
            show decide (y = 115) ≠ decide (x = 115)
            rw [decide_eq_false xs, ← decide_eq_false cns]
            exact this
        refine no_cyc (m := .one) (x := (d :: r).reverse ++ ((c :: z0) ++ [x]) ++ r.map iv) ?_ hz' (by simp; omega) ?_ cz' (pm.trans ?_ ep)
        · refine aw_app (aw_app hr.rev ax fun a b ha hb => ?_) (aw_iv hr.tail) fun a b ha hb => ?_
          · rw [lk_rev, hk_cons] at ha
            cases ha
            cases hb
            exact fun q => k q.symm
          · rw [lk_app (by simp), lk_snoc] at ha
            rw [hk_iv] at hb
            cases ha
            cases r with
            | nil => cases hb
            | cons d2 r =>
              cases hb
              have := hr.head
              have h2 : d2 = 115 := by omega
              rw [h2, decide_eq_false xs]
              decide
        · rw [hk_app (by simp), hk_app (by simp), hk_rev]
          cases r with
          | nil =>
            rw [List.map_nil, List.append_nil, lk_app (by simp), lk_snoc]
            show some (decide (d = 115)) = _
            rw [decide_eq_false xs, decide_eq_false ds]
          | cons d2 r =>
            rw [lk_app (by simp), lk_iv]
            exact lk_app (a := [d]) (by simp)
        · refine pm.trans ?_ (cj_word (z := c :: c2 :: z) hr.1).symm
          rw [ez, show c :: (z0 ++ [cn]) = (c :: z0) ++ [cn] from rfl, List.map_cons, show iv d :: r.map iv = [iv d] ++ r.map iv from rfl]
          simp only [wm_append]
          show pm (wm ((wm (wm .one (d :: r).reverse) (c :: z0)).mul (L x)) (r.map iv)) (wm (((wm (wm .one (d :: r).reverse) (c :: z0)).mul (L cn)).mul (L (iv d))) (r.map iv))
          rw [wm_one _ (r.map iv), wm_one (((wm (wm .one (d :: r).reverse) (c :: z0)).mul (L cn)).mul (L (iv d))) (r.map iv), M.mul_assoc _ (L cn)]
          exact (pm_mul_l mx.symm).mul _
/-! ### the least rotation -/
def Minr (z : List Nat) : Prop := ∀ z', Rot z z' → ¬ z' < z
theorem minr_uniq {z z' : List Nat} (h : Minr z) (h' : Minr z') (r : Rot z z') : z = z' := by
  have h1 := h z' r
  have h2 := h' z r.symm
  exact List.le_antisymm (List.not_lt.mp h1) (List.not_lt.mp h2)
theorem Rot.trans {x y z : List Nat} (h : Rot x y) (g : Rot y z) : Rot x z := by
  obtain ⟨a, b, rfl, rfl⟩ := h
  obtain ⟨c, d, e, rfl⟩ := g
  rcases List.append_eq_append_iff.mp e with ⟨u, rfl, rfl⟩ | ⟨u, rfl, rfl⟩
  · exact ⟨u, d ++ b, by simp, by simp⟩
  · exact ⟨a ++ c, u, by simp, by simp⟩
theorem cyc_rotn : ∀ (u v : List Nat), Aw (u ++ v) → Cyc (u ++ v) → Aw (v ++ u) ∧ Cyc (v ++ u)
  | [], v, h, c => by rw [List.append_nil]; exact ⟨h, c⟩
  | x :: u, v, h, c => by
    obtain ⟨h1, h2⟩ := cyc_rot (c := x) (w := u ++ v) h c
    rw [List.append_assoc] at h1 h2
    have := cyc_rotn u (v ++ [x]) h1 h2
    rw [List.append_assoc] at this
    exact this
theorem cj_take (u v : List Nat) : cj (wm .one u).inv (wm .one (u ++ v)) = wm .one (v ++ u) := by
  unfold cj
  rw [wm_append, wm_append, wm_one (wm .one u) v, wm_one (wm .one v) u, ← M.mul_assoc, M.inv_mul _ (wm_det (by decide) u), M.one_mul, inv_inv]
/-- a round word with more than one letter has an even number of them -/
theorem kinds : ∀ (w : List Nat) (c : Nat), Aw (c :: w) → (lk (c :: w) = hk (c :: w) ↔ (c :: w).length % 2 = 1)
  | [], c, _ => by simp [lk, hk]
  | d :: w, c, h => by
    have ih := kinds w d h.tail
    have e1 : lk (c :: d :: w) = lk (d :: w) := lk_app (a := [c]) (by simp)
    rw [e1]
    have hcd := h.head
    rw [hk_cons] at ih ⊢
    rw [List.length_cons]
    obtain ⟨y, hy⟩ : ∃ y, lk (d :: w) = some y := by
      rcases List.eq_nil_or_concat (d :: w) with q | ⟨u, x, q⟩
      · cases q
      · rw [List.concat_eq_append] at q
        exact ⟨_, by rw [q, lk_snoc]⟩
    rw [hy] at ih ⊢
    have k : decide (c = 115) = !decide (d = 115) := by
      by_cases z1 : c = 115 <;> by_cases z2 : d = 115 <;> simp [z1, z2] at hcd ⊢
    rw [k]
    have ih' : y = decide (d = 115) ↔ (d :: w).length % 2 = 1 := by
      rw [← ih]
      simp
    constructor
    · intro z
      have z : y = !decide (d = 115) := Option.some.inj z
      have hy' : ¬ y = decide (d = 115) := by rw [z]; cases decide (d = 115) <;> decide
      have hl : ¬ (d :: w).length % 2 = 1 := fun q => hy' (ih'.mpr q)
      omega
    · intro z
      have : ¬ y = decide (d = 115) := fun q => by
        have := ih'.mp q
        omega
      congr 1
      revert this
      cases y <;> cases decide (d = 115) <;> decide
theorem cyc_even {w : List Nat} (h : Aw w) (c : Cyc w) : w.length ≤ 1 ∨ w.length % 2 = 0 := by
  rcases c with c | c
  · exact .inl c
  · right
    cases w with
    | nil => rfl
    | cons x w =>
      have := kinds w x h
      have hne : ¬ (x :: w).length % 2 = 1 := fun q => c (this.mpr q).symm
      omega
/-- rotations by their place -/
def rt (x : List Nat) (i : Nat) : List Nat := x.drop i ++ x.take i
theorem rt_rot (x : List Nat) (i : Nat) : Rot x (rt x i) := ⟨x.take i, x.drop i, (List.take_append_drop i x).symm, rfl⟩
theorem rot_rt {x z : List Nat} (h : Rot x z) : ∃ i, i ≤ x.length ∧ z = rt x i := by
  obtain ⟨a, b, rfl, rfl⟩ := h
  exact ⟨a.length, by simp, by unfold rt; simp⟩
theorem rt_len (x : List Nat) : rt x x.length = rt x 0 := by unfold rt; simp
theorem rt_zero (x : List Nat) : rt x 0 = x := by unfold rt; simp
theorem minr_of {x b : List Nat} (hr : Rot x b) (h : ∀ i, i < max 1 x.length → ¬ rt x i < b) : Minr b := fun z hz => by
  obtain ⟨i, hi, rfl⟩ := rot_rt (hr.trans hz)
  by_cases hl : i < max 1 x.length
  · exact h i hl
  · have : i = x.length := by omega
    rw [this, rt_len]
    exact h 0 (by omega)
/-- sign and round word of a table -/
structure Rd (m : M) (s : Int) (b : List Nat) : Prop where
  sign : s = 1 ∨ s = -1
  aw : Aw b
  cyc : Cyc b
  min : Minr b
  ex : ∃ C : M, C.det = 1 ∧ cj C m = sg s (wm .one b)
theorem rd_uniq {m m' D : M} {s s' : Int} {b b' : List Nat} (h : Rd m s b) (h' : Rd m' s' b') (hD : D.det = 1) (e : cj D m = m') : s = s' ∧ b = b' := by
  obtain ⟨C, c1, c2⟩ := h.ex
  obtain ⟨C', d1, d2⟩ := h'.ex
  have hd : ((C'.mul D).mul C.inv).det = 1 := by rw [M.det_mul, M.det_mul, M.det_inv, c1, d1, hD]; rfl
  obtain ⟨t, r, ht, hr, er⟩ := ex_nf hd
  have key : cj (wr r) (sg s (wm .one b)) = sg s' (wm .one b') := by
    have p : pm (wr r) ((C'.mul D).mul C.inv) := by
      rw [← er]
      exact (sg_pm t (wr r)).symm
    rw [cj_pm p, ← c2, cj_mul, cj_mul, cj_inv c1, e, d2]
  obtain ⟨h1, h2⟩ := conj_cyc r b b' s s' hr h.aw h'.aw h.cyc h'.cyc h.sign h'.sign key
  exact ⟨h1, minr_uniq h.min h'.min h2⟩
theorem Rd.neg {m : M} {s : Int} {b : List Nat} (h : Rd m s b) : Rd m.neg (-s) b := by
  refine ⟨sgn_neg h.sign, h.aw, h.cyc, h.min, ?_⟩
  obtain ⟨C, c1, c2⟩ := h.ex
  refine ⟨C, c1, ?_⟩
  rw [sg_neg h.sign, ← c2]
  unfold cj
  rw [mul_neg, neg_mul]
end Tz

/-! Powers of words: periods, and roots of tables. -/
namespace Tz
open PySem PySem.Spec PyProof.Rows L2
/-! ### periods -/
def PerS (f : Nat → Nat) (p : Nat) : Prop := ∀ i, f (i + p) = f i
theorem PerS.mul {f : Nat → Nat} {p : Nat} (h : PerS f p) (k : Nat) : ∀ i, f (i + p * k) = f i := by
  induction k with
  | zero => intro i; rfl
  | succ k ih =>
    intro i
    rw [Nat.mul_succ, ← Nat.add_assoc, h, ih]
theorem PerS.sub {f : Nat → Nat} {p q : Nat} (h : PerS f p) (g : PerS f q) (hpq : q ≤ p) : PerS f (p - q) := fun i => by
  have := g (i + (p - q))
  rw [show i + (p - q) + q = i + p by omega, h] at this
  exact this.symm
theorem PerS.mod {f : Nat → Nat} {p q : Nat} (h : PerS f p) (g : PerS f q) : PerS f (p % q) := fun i => by
  have := g.mul (p / q) (i + p % q)
  rw [Nat.add_assoc, Nat.add_comm (p % q), Nat.div_add_mod, h] at this
  exact this.symm
theorem PerS.gcd : ∀ (q p : Nat) {f : Nat → Nat}, PerS f p → PerS f q → PerS f (Nat.gcd p q) := by
  intro q
  induction q using Nat.strongRecOn with
  | _ q ih =>
    intro p f hp hq
    by_cases h : q = 0
    · rw [h, Nat.gcd_zero_right]
      exact hp
    · have := ih (p % q) (Nat.mod_lt _ (by omega)) q hq (hp.mod hq)
      rw [Nat.gcd_comm p q, Nat.gcd_rec q p, Nat.gcd_comm]
      exact this
/-- the letters again and again -/
def Fw (w : List Nat) (i : Nat) : Nat := w.getD (i % w.length) 0
theorem Fw_per (w : List Nat) : PerS (Fw w) w.length := fun i => by
  unfold Fw
  rw [Nat.add_mod_right]
theorem getD_app_l {a b : List Nat} {i : Nat} (h : i < a.length) : (a ++ b).getD i 0 = a.getD i 0 := by
  rw [List.getD_eq_getElem?_getD, List.getD_eq_getElem?_getD, List.getElem?_append_left h]
theorem getD_app_r {a b : List Nat} {i : Nat} (h : a.length ≤ i) : (a ++ b).getD i 0 = b.getD (i - a.length) 0 := by
  rw [List.getD_eq_getElem?_getD, List.getD_eq_getElem?_getD, List.getElem?_append_right h]
theorem rep_getD (u : List Nat) : ∀ (k j : Nat), j < u.length * k → (rep u k).getD j 0 = u.getD (j % u.length) 0
  | 0, j, h => by omega
  | k + 1, j, h => by
    rw [rep_succ]
    by_cases hj : j < u.length
    · rw [getD_app_l hj, Nat.mod_eq_of_lt hj]
    · rw [getD_app_r (by omega), rep_getD u k (j - u.length) (by rw [Nat.mul_succ] at h; omega)]
      congr 1
      rw [Nat.mod_eq_sub_mod (a := j) (by omega)]
theorem Fw_rep (u : List Nat) {k : Nat} (hk : 0 < k) (hu : 0 < u.length) : Fw (rep u k) = Fw u := by
  funext i
  unfold Fw
  rw [rep_len, rep_getD u k _ (Nat.mod_lt _ (Nat.mul_pos hu hk))]
  congr 1
  exact Nat.mod_mul_right_mod i u.length k
theorem ext_getD {a b : List Nat} (hl : a.length = b.length) (h : ∀ j, j < a.length → a.getD j 0 = b.getD j 0) : a = b := by
  apply List.ext_getElem hl
  intro i h1 h2
  have := h i h1
  rw [List.getD_eq_getElem?_getD, List.getD_eq_getElem?_getD, List.getElem?_eq_getElem h1, List.getElem?_eq_getElem h2] at this
  exact this
/-- a word is a power of its first p letters: p is a period -/
theorem rep_per {w : List Nat} {p : Nat} (hp : 0 < p) (hd : p ∣ w.length) (hw : 0 < w.length) : rep (w.take p) (w.length / p) = w ↔ PerS (Fw w) p := by
  have hle : p ≤ w.length := Nat.le_of_dvd hw hd
  have hk : 0 < w.length / p := Nat.div_pos hle hp
  have hl : (w.take p).length = p := by rw [List.length_take]; omega
  have hm : p * (w.length / p) = w.length := Nat.mul_div_cancel' hd
  constructor
  · intro h
    have e : Fw w = Fw (w.take p) := by
      have := Fw_rep (w.take p) hk (by omega)
      rw [h] at this
      exact this
    rw [e]
    have := Fw_per (w.take p)
    rw [hl] at this
    exact this
  · intro h
    refine ext_getD (by rw [rep_len, hl, hm]) fun j hj => ?_
    rw [rep_len, hl, hm] at hj
    rw [rep_getD _ _ _ (by rw [hl, hm]; exact hj), hl]
    have hjp : j % p < p := Nat.mod_lt _ hp
    have e1 : (w.take p).getD (j % p) 0 = w.getD (j % p) 0 := by
      rw [List.getD_eq_getElem?_getD, List.getD_eq_getElem?_getD, List.getElem?_take_of_lt hjp]
    have e2 : Fw w (j % p) = w.getD (j % p) 0 := by
      unfold Fw
      rw [Nat.mod_eq_of_lt (by omega)]
    have e3 : Fw w j = w.getD j 0 := by
      unfold Fw
      rw [Nat.mod_eq_of_lt hj]
    have := h.mul (j / p) (j % p)
    rw [Nat.add_comm, Nat.div_add_mod, e2, e3] at this
    rw [e1, ← this]
/-- the least period -/
def LP (f : Nat → Nat) (p : Nat) : Prop := 0 < p ∧ PerS f p ∧ ∀ q, 0 < q → PerS f q → p ≤ q
theorem LP.uniq {f : Nat → Nat} {p q : Nat} (h : LP f p) (g : LP f q) : p = q := Nat.le_antisymm (h.2.2 q g.1 g.2.1) (g.2.2 p h.1 h.2.1)
theorem LP.dvd {w : List Nat} {p : Nat} (h : LP (Fw w) p) (hw : 0 < w.length) : p ∣ w.length := by
  have g := PerS.gcd w.length p h.2.1 (Fw_per w)
  have g0 : 0 < Nat.gcd p w.length := Nat.gcd_pos_of_pos_left _ h.1
  have := h.2.2 _ g0 g
  have e : Nat.gcd p w.length = p := Nat.le_antisymm (Nat.le_of_dvd h.1 (Nat.gcd_dvd_left _ _)) this
  rw [← e]
  exact Nat.gcd_dvd_right _ _
theorem LP_of {w : List Nat} {p : Nat} (hw : 0 < w.length) (hp : 0 < p) (hd : p ∣ w.length) (h : PerS (Fw w) p) (hmin : ∀ q, 0 < q → q < p → q ∣ w.length → ¬ PerS (Fw w) q) : LP (Fw w) p := by
  refine ⟨hp, h, fun q q0 hq => Decidable.byContradiction fun z => ?_⟩
  have g := PerS.gcd w.length q hq (Fw_per w)
  have g0 : 0 < Nat.gcd q w.length := Nat.gcd_pos_of_pos_left _ q0
  have gle : Nat.gcd q w.length ≤ q := Nat.le_of_dvd q0 (Nat.gcd_dvd_left _ _)
  exact hmin _ g0 (by omega) (Nat.gcd_dvd_right _ _) g
theorem LP.rep {u : List Nat} {p k : Nat} (h : LP (Fw u) p) (hk : 0 < k) (hu : 0 < u.length) : LP (Fw (rep u k)) p := by
  rw [Fw_rep u hk hu]
  exact h
/-- a rotation -/
theorem Fw_rot1 (c : Nat) (w : List Nat) (i : Nat) : Fw (w ++ [c]) i = Fw (c :: w) (i + 1) := by
  unfold Fw
  rw [List.length_append, List.length_singleton, List.length_cons]
  have hlt : i % (w.length + 1) < w.length + 1 := Nat.mod_lt _ (by omega)
  have e : (i + 1) % (w.length + 1) = (i % (w.length + 1) + 1) % (w.length + 1) := by
    rw [Nat.mod_add_mod]
  rw [e]
  generalize i % (w.length + 1) = j at hlt
  by_cases hj : j < w.length
  · rw [getD_app_l hj, Nat.mod_eq_of_lt (by omega)]
    rfl
  · have hj : j = w.length := by omega
    rw [hj, getD_app_r (Nat.le_refl _), Nat.sub_self, Nat.mod_self]
    rfl
theorem Fw_rot : ∀ (a b : List Nat) (i : Nat), Fw (b ++ a) i = Fw (a ++ b) (i + a.length)
  | [], b, i => by rw [List.append_nil]; rfl
  | c :: a, b, i => by
    have h := Fw_rot a (b ++ [c]) i
    rw [List.append_assoc] at h
    have h : Fw (b ++ c :: a) i = Fw (a ++ (b ++ [c])) (i + a.length) := h
    rw [h, ← List.append_assoc, Fw_rot1]
    rfl
theorem LP.shift {f g : Nat → Nat} {p a n : Nat} (h : LP f p) (hg : ∀ i, g i = f (i + a)) (hn : 0 < n) (hf : PerS f n) : LP g p := by
  refine ⟨h.1, fun i => ?_, fun q q0 hq => h.2.2 q q0 fun i => ?_⟩
  · rw [hg, hg, show i + p + a = i + a + p by omega]
    exact h.2.1 _
  · -- f i = f (i + n * a) = g (i + n * a - a)
    have e : ∀ i, f i = g (i + (n * a - a)) := fun i => by
      rw [hg, ← hf.mul a i]
      congr 1
      have : a ≤ n * a := Nat.le_mul_of_pos_left a hn
      omega
    rw [e, e, show i + q + (n * a - a) = i + (n * a - a) + q by omega]
    exact hq _
theorem LP.rot {x y : List Nat} {p : Nat} (h : LP (Fw x) p) (r : Rot x y) (hx : 0 < x.length) : LP (Fw y) p := by
  obtain ⟨a, b, rfl, rfl⟩ := r
  exact h.shift (a := a.length) (fun i => Fw_rot a b i) hx (Fw_per _)
theorem Rot.len {x y : List Nat} (r : Rot x y) : x.length = y.length := by
  obtain ⟨a, b, rfl, rfl⟩ := r
  rw [List.length_append, List.length_append, Nat.add_comm]
/-! ### the inverse word -/
def ivw (x : List Nat) : List Nat := x.reverse.map iv
theorem ivw_len (x : List Nat) : (ivw x).length = x.length := by unfold ivw; rw [List.length_map, List.length_reverse]
theorem ivw_getD {x : List Nat} {i : Nat} (h : i < x.length) : (ivw x).getD i 0 = iv (x.getD (x.length - 1 - i) 0) := by
  unfold ivw
  rw [List.getD_eq_getElem?_getD, List.getD_eq_getElem?_getD, List.getElem?_map, List.getElem?_reverse h, List.getElem?_eq_getElem (show x.length - 1 - i < x.length by omega)]
  rfl
theorem iv_iv (c : Nat) : iv (iv c) = c := by
  unfold iv
  by_cases h1 : c = 119
  · rw [if_pos h1, h1]; rfl
  · rw [if_neg h1]
    by_cases h2 : c = 118
    · rw [if_pos h2, h2]; rfl
    · rw [if_neg h2, if_neg h1, if_neg h2]
theorem ivw_ivw (x : List Nat) : ivw (ivw x) = x := by
  unfold ivw
  rw [← List.map_reverse, List.reverse_reverse, List.map_map]
  have : iv ∘ iv = id := by funext c; exact iv_iv c
  rw [this, List.map_id]
theorem PerS.ivw {x : List Nat} {p : Nat} (h : PerS (Fw x) p) (hp : p ≤ x.length) (hx : 0 < x.length) : PerS (Fw (ivw x)) p := fun i => by
  unfold Fw
  rw [ivw_len]
  have hu : i % x.length < x.length := Nat.mod_lt _ hx
  have e : (i + p) % x.length = (i % x.length + p) % x.length := by rw [Nat.mod_add_mod]
  rw [e]
  generalize i % x.length = u at hu
  rw [ivw_getD (Nat.mod_lt _ hx), ivw_getD hu]
  congr 1
  have F1 : ∀ j, j < x.length → Fw x j = x.getD j 0 := fun j hj => by unfold Fw; rw [Nat.mod_eq_of_lt hj]
  by_cases hc : u + p < x.length
  · rw [Nat.mod_eq_of_lt hc, ← F1 _ (by omega), ← F1 _ (by omega), ← h]
    congr 1
    omega
  · rw [Nat.mod_eq_sub_mod (by omega), Nat.mod_eq_of_lt (by omega), ← F1 _ (by omega), ← F1 _ (by omega), ← h, ← Fw_per x (x.length - 1 - u)]
    congr 1
    omega
theorem LP.ivw {x : List Nat} {p : Nat} (h : LP (Fw x) p) (hx : 0 < x.length) : LP (Fw (ivw x)) p := by
  have pl : p ≤ x.length := h.2.2 _ hx (Fw_per x)
  refine ⟨h.1, h.2.1.ivw pl hx, fun q q0 hq => Decidable.byContradiction fun z => ?_⟩
  have := hq.ivw (by rw [ivw_len]; omega) (by rw [ivw_len]; exact hx)
  rw [ivw_ivw] at this
  have := h.2.2 q q0 this
  omega
theorem L_iv_e {c : Nat} (h : swv c) : L (iv c) = (L c).inv.neg := by
  rcases h with rfl | rfl | rfl <;> decide
theorem wm_iv_e : ∀ {r : List Nat}, (∀ c ∈ r, swv c) → wm .one (r.map iv) = if r.length % 2 = 0 then (wr r).inv else (wr r).inv.neg
  | [], _ => by decide
  | c :: r, h => by
    have ih := wm_iv_e (r := r) fun d hd => h d (List.mem_cons_of_mem _ hd)
    show wm (M.one.mul (L (iv c))) (r.map iv) = if (r.length + 1) % 2 = 0 then ((wr r).mul (L c)).inv else ((wr r).mul (L c)).inv.neg
    rw [M.one_mul, wm_one, ih, L_iv_e (h c List.mem_cons_self), M.inv_mul_rev]
    by_cases hp : r.length % 2 = 0
    · rw [if_pos hp, if_neg (by omega), neg_mul]
    · rw [if_neg hp, if_pos (by omega), neg_mul, mul_neg, neg_neg]
theorem inv_word {x : List Nat} (hx : ∀ c ∈ x, swv c) (he : x.length % 2 = 0) : (wm .one x).inv = wm .one (ivw x) := by
  unfold ivw
  rw [wm_iv_e (fun c hc => hx c (List.mem_reverse.mp hc)), List.length_reverse, if_pos he, wr_rev]
theorem ivw_aw {x : List Nat} (h : Aw x) : Aw (ivw x) := aw_iv h.rev
theorem ivw_cyc {x : List Nat} (h : Cyc x) : Cyc (ivw x) := by
  rcases h with h | h
  · exact .inl (by rw [ivw_len]; exact h)
  · right
    unfold ivw
    rw [hk_iv, lk_iv, lk_rev]
    exact fun z => h z.symm
/-! ### powers -/
theorem rep_snoc (u : List Nat) : ∀ k, rep u (k + 1) = rep u k ++ u
  | 0 => by simp [rep]
  | k + 1 => by
    have ih := rep_snoc u k
    rw [rep_succ u (k + 1), ih, ← List.append_assoc, ← rep_succ, ih]
theorem pow_word (u : List Nat) : ∀ k, powM (wm .one u) k = wm .one (rep u k)
  | 0 => rfl
  | k + 1 => by
    show (powM (wm .one u) k).mul (wm .one u) = _
    rw [pow_word u k, rep_snoc, wm_append, ← wm_one]
def sp (s : Int) (k : Nat) : Int := if s = 1 then 1 else if k % 2 = 0 then 1 else -1
theorem sp_sign (s : Int) (k : Nat) : sp s k = 1 ∨ sp s k = -1 := by
  unfold sp
  split
  · exact .inl rfl
  · split
    · exact .inl rfl
    · exact .inr rfl
theorem pow_sg {s : Int} (hs : s = 1 ∨ s = -1) (m : M) : ∀ k, powM (sg s m) k = sg (sp s k) (powM m k)
  | 0 => by
    rcases hs with rfl | rfl
    · rfl
    · rfl
  | k + 1 => by
    show (powM (sg s m) k).mul (sg s m) = sg (sp s (k + 1)) ((powM m k).mul m)
    rw [pow_sg hs m k, sg_mul, mul_sg]
    rcases hs with rfl | rfl
    · rfl
    · by_cases hk : k % 2 = 0
      · have e1 : sp (-1) k = 1 := by unfold sp; rw [if_neg (by decide), if_pos hk]
        have e2 : sp (-1) (k + 1) = -1 := by unfold sp; rw [if_neg (by decide), if_neg (by omega)]
        rw [e1, e2]
        rfl
      · have e1 : sp (-1) k = -1 := by unfold sp; rw [if_neg (by decide), if_neg hk]
        have e2 : sp (-1) (k + 1) = 1 := by unfold sp; rw [if_neg (by decide), if_pos (by omega)]
        rw [e1, e2]
        exact neg_neg _
theorem cj_pow {D : M} (hd : D.det = 1) (m : M) : ∀ k, powM (cj D m) k = cj D (powM m k)
  | 0 => by
    show M.one = cj D .one
    unfold cj
    rw [M.mul_one, M.mul_inv _ hd]
  | k + 1 => by
    show (powM (cj D m) k).mul (cj D m) = cj D ((powM m k).mul m)
    rw [cj_pow hd m k]
    unfold cj
    simp only [M.mul_assoc]
    rw [← M.mul_assoc D.inv D, M.inv_mul _ hd, M.one_mul]
theorem cyc_rep {x : List Nat} (h : Aw x) (c : Cyc x) (h2 : 2 ≤ x.length) : ∀ k, Aw (rep x (k + 1)) ∧ hk (rep x (k + 1)) = hk x ∧ lk (rep x (k + 1)) = lk x
  | 0 => by
    have : rep x 1 = x := by simp [rep]
    rw [this]
    exact ⟨h, rfl, rfl⟩
  | k + 1 => by
    obtain ⟨i1, i2, i3⟩ := cyc_rep h c h2 k
    have hne : hk x ≠ lk x := by
      rcases c with c | c
      · omega
      · exact c
    have xn : x ≠ [] := fun z => by rw [z] at h2; simp at h2
    have rn : rep x (k + 1) ≠ [] := fun z => by
      have := congrArg List.length z
      rw [rep_len, List.length_nil] at this
      have := Nat.mul_pos (show 0 < x.length by omega) (show 0 < k + 1 by omega)
      omega
    rw [rep_succ]
    refine ⟨aw_app h i1 fun a b ha hb => ?_, hk_app xn, ?_⟩
    · rw [i2] at hb
      intro z
      apply hne
      rw [ha, hb, z]
    · rw [lk_app rn, i3]
theorem cyc_repC {x : List Nat} {k : Nat} (h : Aw x) (c : Cyc x) (h2 : 2 ≤ x.length) (hk0 : 0 < k) : Aw (rep x k) ∧ Cyc (rep x k) ∧ 2 ≤ (rep x k).length := by
  obtain ⟨j, rfl⟩ : ∃ j, k = j + 1 := ⟨k - 1, by omega⟩
  obtain ⟨i1, i2, i3⟩ := cyc_rep h c h2 j
  refine ⟨i1, .inr ?_, ?_⟩
  · rw [i2, i3]
    rcases c with c | c
    · omega
    · exact c
  · rw [rep_len, Nat.mul_succ]
    have := Nat.zero_le (x.length * j)
    omega
/-- the first letters of a round power -/
theorem cyc_take {x u : List Nat} {k : Nat} (h : Aw x) (c : Cyc x) (h2 : 2 ≤ x.length) (e : rep u k = x) (hk0 : 0 < k) : Aw u ∧ Cyc u ∧ 2 ≤ u.length := by
  obtain ⟨j, rfl⟩ : ∃ j, k = j + 1 := ⟨k - 1, by omega⟩
  have un : u ≠ [] := fun z => by
    rw [z] at e
    have := congrArg List.length e
    rw [rep_len] at this
    simp at this
    omega
  have hne : hk x ≠ lk x := by
    rcases c with c | c
    · omega
    · exact c
  have e1 : hk x = hk u := by rw [← e, rep_succ, hk_app un]
  have e2 : lk x = lk u := by rw [← e, rep_snoc, lk_app un]
  have au : Aw u := by
    rw [← e, rep_succ] at h
    exact aw_left h
  rw [e1, e2] at hne
  refine ⟨au, .inr hne, ?_⟩
  cases u with
  | nil => exact (un rfl).elim
  | cons a u =>
    cases u with
    | nil => exact (hne rfl).elim
    | cons b u => simp
/-- a table with a round word of two letters or more has no finite order -/
theorem no_fin {m D : M} {s : Int} {x : List Nat} (hs : s = 1 ∨ s = -1) (hd : D.det = 1) (hx : Aw x) (cx : Cyc x) (h2 : 2 ≤ x.length) (e : cj D m = sg s (wm .one x)) (k : Nat) (hk0 : 0 < k) : powM m k ≠ .one := fun z => by
  have e1 : cj D (powM m k) = sg (sp s k) (wm .one (rep x k)) := by
    rw [← cj_pow hd, e, pow_sg hs, pow_word]
  rw [z] at e1
  have e2 : cj D .one = .one := by
    unfold cj
    rw [M.mul_one, M.mul_inv _ hd]
  rw [e2] at e1
  obtain ⟨a1, a2, a3⟩ := cyc_repC hx cx h2 hk0
  have p : pm .one (wm .one (rep x k)) := by
    have := sg_pm (sp s k) (wm .one (rep x k))
    rw [← e1] at this
    exact this
  rw [← wr_rev] at p
  cases hr : (rep x k).reverse with
  | nil =>
    have := congrArg List.length hr
    rw [List.length_reverse, List.length_nil] at this
    omega
  | cons c r =>
    rw [hr] at p
    have := a1.rev
    rw [hr] at this
    exact no_unit this p
/-- another round word of the same table -/
theorem rd_rot {m D : M} {s s' : Int} {x b : List Nat} (hs : s = 1 ∨ s = -1) (hd : D.det = 1) (hx : Aw x) (cx : Cyc x) (e : cj D m = sg s (wm .one x)) (r : Rd m s' b) : s = s' ∧ Rot x b := by
  obtain ⟨C, c1, c2⟩ := r.ex
  have hd' : (C.mul D.inv).det = 1 := by rw [M.det_mul, M.det_inv, c1, hd]; rfl
  obtain ⟨t, q, ht, hq, eq⟩ := ex_nf hd'
  have key : cj (wr q) (sg s (wm .one x)) = sg s' (wm .one b) := by
    have p : pm (wr q) (C.mul D.inv) := by
      rw [← eq]
      exact (sg_pm t (wr q)).symm
    rw [cj_pm p, ← e, cj_mul, cj_inv hd, c2]
  exact conj_cyc q x b s s' hq hx r.aw cx r.cyc hs r.sign key
/-! ### the number of a root -/
def oddp (n : Nat) : Nat := if h : 0 < n ∧ n % 2 = 0 then oddp (n / 2) else n
termination_by n
decreasing_by omega
theorem oddp_even {n : Nat} (h : 0 < n) (h2 : n % 2 = 0) : oddp n = oddp (n / 2) := by
  rw [oddp, dif_pos ⟨h, h2⟩]
theorem oddp_odd {n : Nat} (h2 : ¬ n % 2 = 0) : oddp n = n := by
  rw [oddp, dif_neg (fun z => h2 z.2)]
theorem oddp_spec : ∀ n, 0 < n → 0 < oddp n ∧ oddp n % 2 = 1 ∧ ∃ j, n = oddp n * 2 ^ j := by
  intro n
  induction n using Nat.strongRecOn with
  | _ n ih =>
    intro h
    by_cases h2 : n % 2 = 0
    · obtain ⟨a, b, j, c⟩ := ih (n / 2) (by omega) (by omega)
      rw [oddp_even h h2]
      refine ⟨a, b, j + 1, ?_⟩
      rw [Nat.pow_succ, ← Nat.mul_assoc, ← c]
      omega
    · rw [oddp_odd h2]
      exact ⟨h, by omega, 0, by simp⟩
theorem oddp_pow2 (a : Nat) (ha : a % 2 = 1) : ∀ j, oddp (a * 2 ^ j) = a
  | 0 => by rw [Nat.pow_zero, Nat.mul_one]; exact oddp_odd (by omega)
  | j + 1 => by
    have e : a * 2 ^ (j + 1) = 2 * (a * 2 ^ j) := by rw [Nat.pow_succ]; ac_rfl
    have pos : 0 < a * 2 ^ j := Nat.mul_pos (by omega) (Nat.pow_pos (by decide))
    rw [e, oddp_even (by omega) (by omega), Nat.mul_div_cancel_left _ (by decide), oddp_pow2 a ha j]
theorem oddp_mul3 {n : Nat} (h : 0 < n) : oddp (3 * n) = 3 * oddp n := by
  obtain ⟨a, b, j, c⟩ := oddp_spec n h
  generalize oddp n = o at a b c
  rw [c, ← Nat.mul_assoc]
  exact oddp_pow2 (3 * o) (by omega) j
def mn (s : Int) (e : Nat) : Nat := if 0 < s then e else oddp e
theorem mn_pos {s : Int} {e : Nat} (h : 0 < e) : 0 < mn s e := by
  unfold mn
  split
  · exact h
  · exact (oddp_spec e h).1
theorem mn_dvd {s : Int} {e : Nat} (h : 0 < e) : mn s e ∣ e := by
  unfold mn
  split
  · exact Nat.dvd_refl e
  · obtain ⟨_, _, j, c⟩ := oddp_spec e h
    exact ⟨2 ^ j, c⟩
theorem mn_sp {s : Int} {e : Nat} (hs : s = 1 ∨ s = -1) (h : 0 < e) : sp s (mn s e) = s := by
  rcases hs with rfl | rfl
  · rfl
  · have := (oddp_spec e h).2.1
    have e1 : mn (-1) e = oddp e := rfl
    rw [e1]
    unfold sp
    rw [if_neg (by decide), if_neg (by omega)]
/-- the root's own number is 1 -/
theorem mn_root {s : Int} {e : Nat} (hs : s = 1 ∨ s = -1) (h : 0 < e) : mn s (e / mn s e) = 1 := by
  rcases hs with rfl | rfl
  · show e / e = 1
    exact Nat.div_self h
  · obtain ⟨a, b, j, c⟩ := oddp_spec e h
    show oddp (e / oddp e) = 1
    have : e / oddp e = 1 * 2 ^ j := by
      rw [Nat.one_mul]
      exact Nat.div_eq_of_eq_mul_right a c
    rw [this]
    exact oddp_pow2 1 (by decide) j
end Tz

/-! A list that a loop appends to: it is hidden while it grows, its place marked in the environment. -/
namespace Tz
open PySem PySem.Spec PyProof.Rows L2
def plainO : Option PyData → Bool
  | some d => plain d
  | none => true
def plainR (r : Rho) : Bool := r.all plainO
theorem look_plain : ∀ {r : Rho} {i : Nat} {d : PyData}, plainR r = true → look r i = some d → plain d = true
  | [], _, _, _, h => by cases h
  | x :: r, 0, d, hp, h => by
    have hp : (plainO x && plainR r) = true := hp
    rw [Bool.and_eq_true] at hp
    have h : x = some d := h
    subst h
    exact hp.1
  | x :: r, i + 1, d, hp, h => by
    have hp : (plainO x && plainR r) = true := hp
    rw [Bool.and_eq_true] at hp
    exact look_plain (r := r) (i := i) hp.2 h
def openN (i : Nat) (c : DT) (pre : DS) (e : DE) (post : DS) (nx : Rho → Prop) : Nat → List PyData → Rho → Prop
  | 0, _, _ => False
  | n + 1, acc, r => c r (fun b => if b = true then pre r (fun r1 => look r1 i = some dice ∧ e r1 (fun y => plain y = true ∧ acc.length < 100000 ∧ post r1 (fun r2 => openN i c pre e post nx n (acc ++ [y]) r2) (fun _ => False) (fun _ => False)) (fun _ => False)) (fun _ => False) (fun _ => False)
      else look r i = some dice ∧ plainR (put r i (.list acc)) = true ∧ nx (put r i (.list acc))) (fun _ => False)
def dOpen (i0 i1 i2 i3 : Nat) (a : DE) (x : DA) (b cc : DE) (d6 : DS) (c : DT) (pre : DS) (e : DE) (post : DS) : DS := fun r nx rt E =>
  a r (fun v0 => plain v0 = true ∧ x r (fun xs => plains xs = true ∧ xs.length ≤ 100000 ∧ plainR r = true ∧ b r (fun v2 => cc r (fun v3 => d6 (put (put (put (put r i0 v0) i1 dice) i2 v2) i3 v3) (fun r1 => ∃ n, openN i1 c pre e post nx n xs r1) (fun _ => False) (fun _ => False)) (fun _ => False)) (fun _ => False)) E) E
/-- what is hidden beside: the open list, the only one that is marked -/
def opn (G : Hid) (p : Addr) (hp : ¬ G.D p) (xs : List V) : Hid := { G.add p hp xs with isO := fun _ v => v = .ref p }
theorem opn_vis {G : Hid} {p : Addr} {hp : ¬ G.D p} {xs : List V} {H : Hp} : Same (vis (opn G p hp xs) H) (vis G H) := fun a o h => by
  obtain ⟨n, t, q⟩ := vis_some h
  exact vis_of (fun d => n (.inl d)) t q
theorem vis_opn {G : Hid} {p : Addr} {hp : ¬ G.D p} {xs : List V} {H : Hp} {o : HO} (hn : H p = none) : Same (vis G H) (vis (opn G p hp xs) (upd H p o)) := fun a o' h => by
  obtain ⟨n, t, q⟩ := vis_some h
  have ne : a ≠ p := fun z => by rw [z, hn] at q; cases q
  refine vis_of (fun d => d.elim n ne) t ?_
  rw [upd_ne ne]
  exact q
theorem vis_step {G : Hid} {p : Addr} {hp : ¬ G.D p} {xs ys : List V} {H : Hp} {o : HO} : Same (vis (opn G p hp xs) H) (vis (opn G p hp ys) (upd H p o)) := fun a o' h => by
  obtain ⟨n, t, q⟩ := vis_some h
  have ne : a ≠ p := fun z => n (.inr z)
  refine vis_of n t ?_
  rw [upd_ne ne]
  exact q
theorem kxF {C : Cn} {G : Hid} {H : Hp} : KX1 C G H (fun _ => False) := fun _ _ _ _ z => z.elim
theorem kvF {C : Cn} {G : Hid} {H : Hp} {Q : VK} : KV1 C G H (fun _ => False) Q := fun _ _ _ _ _ _ z => z.elim
theorem rep_opn {K : PySem.W.Frag} {G : Hid} {p : Addr} {hp : ¬ G.D p} {xs : List V} {H : Hp} {v : V} (h : Rep K (opn G p hp xs) H v dice) : v = .ref p := by
  rcases h with h | h
  · cases h
  · exact h.2
theorem s_open {C : Cn} {i0 i1 i2 i3 : Nat} (hany : ∀ G, C.GP G) {ta tb tcc te : TE} {tx : TA} {t6 tpre tpost : TS} {tc : TT} {a b cc e : DE} {x : DA} {d6 pre post : DS} {c : DT} (ha : SimE C ta a) (hx : SimA C tx x) (hb : SimE C tb b) (hcc : SimE C tcc cc) (h6 : SimS C t6 d6) (hc : SimT C tc c) (hpre : SimS C tpre pre) (he : SimE C te e) (hpost : SimS C tpost post) :
    SimS C (tSeq (tAsg (tTup (tCons ta (tCons (tLst tx) (tCons tb (tCons tcc tNil))))) (gTup C.K 4 (gCons (gName i0) (gCons (gName i1) (gCons (gName i2) (gCons (gName i3) gNil)))))) (tSeq t6 (tWhile tc (tSeq tpre (tSeq (tDrop (tBM C.K "list" rAppend (tVar i1) (tCons te tNil))) tpost))))) (dOpen i0 i1 i2 i3 a x b cc d6 c pre e post) := by
  intro G ρ nx rt E gp h σ H D j rs k kx
  refine ha G ρ _ E gp h σ H _ j rs (fun v0 H1 x0 e1 j1 r1 h1 => ?_) kx
  obtain ⟨p0, h1⟩ := h1
  refine hx G ρ _ E gp h1 σ H1 _ j1 (rs.mono e1) (fun vs H2 xs e2 j2 r2 h2 => ?_) (kx.mono e1)
  obtain ⟨pl, hz, hnr, h2⟩ := h2
  refine ⟨by rw [r2.len]; exact small5 hz, fun p np => ?_⟩
  have nd : ¬ G.D p := fun z => G.live j2 z np
  have j3 : (opn G p nd vs).J (upd H2 p (.lst vs)) := Hid.add_new (hp := nd) j2 np
  have rs2 := rs.mono (e1.trans e2)
  have rs3 : RepS C.K (opn G p nd vs) (upd H2 p (.lst vs)) σ ρ := ⟨rs2.1, fun i d hd => by
    obtain ⟨v, hv, rv⟩ := rs2.2 i d hd
    exact ⟨v, hv, .inl (dq_same (vis_opn np) d v (rv.dp (look_plain hnr hd)))⟩⟩
  have r03 : Rep C.K (opn G p nd vs) (upd H2 p (.lst vs)) v0 x0 := .inl (dq_same (vis_opn np) x0 v0 ((r1.mono e2).dp p0))
  have d3 : DqAll C.K (vis (opn G p nd vs) (upd H2 p (.lst vs))) vs xs := dq_sameAll (vis_opn np) xs vs (r2.dp pl)
  refine hb (opn G p nd vs) ρ _ _ (hany _) h2 σ _ _ j3 rs3 (fun v2 H4 x2 e3 j4 r3 h3 => ?_) kxF
  refine hcc (opn G p nd vs) ρ _ _ (hany _) h3 σ H4 _ j4 (rs3.mono e3) (fun v3 H5 x3 e4 j5 r4 h4 => ?_) kxF
  refine ⟨by show 4 ≤ sizeLine; decide, fun q nq => ?_⟩
  obtain ⟨e6, j6, nd6⟩ := Ex.new (o := .tup [v0, .ref p, v2, v3]) j5 nq
  refine ⟨q, [v0, .ref p, v2, v3], rfl, .inl (.inl upd_same), rfl, v0, _, rfl, .ref p, _, rfl, v2, _, rfl, v3, _, rfl, rfl, ?_⟩
  have rs5 := rs3.mono (e3.trans (e4.trans e6))
  have rs6 := (((rs5.put (i := i0) (r03.mono (e3.trans (e4.trans e6)))).put (i := i1) (v := .ref p) (d := dice) (.inr ⟨rfl, rfl⟩)).put (i := i2) (r3.mono (e4.trans e6))).put (i := i3) (r4.mono e6)
  have d6' : DqAll C.K (vis (opn G p nd vs) (upd H5 q (.tup [v0, .ref p, v2, v3]))) vs xs := dq_sameAll (e3.trans (e4.trans e6)).same xs vs d3
  refine h6 (opn G p nd vs) _ _ _ _ (hany _) h4 _ _ _ j6 rs6 ⟨fun σ7 H7 r7 e7 j7 rs7 hl7 h7 => ?_, kvF⟩ kxF
  obtain ⟨n, h7⟩ := h7
  have hl7' : σ7.length = σ.length := by rw [hl7]; simp
  refine ⟨fun m σ' H' => ∃ (acc : List PyData) (us : List V) (ρ' : Rho), (opn G p nd us).J H' ∧ Ex (opn G p nd vs) (upd H2 p (.lst vs)) H' ∧ RepS C.K (opn G p nd us) H' σ' ρ' ∧ DqAll C.K (vis (opn G p nd us) H') us acc ∧ σ'.length = σ.length ∧ openN i1 c pre e post nx m acc ρ',
    ⟨n, xs, vs, r7, j7, e3.trans (e4.trans (e6.trans e7)), rs7, dq_sameAll e7.same xs vs d6', hl7', h7⟩, ?_⟩
  rintro m σ8 H8 ⟨acc, us, ρ8, j8, e8, rs8, dq8, hl8, h8⟩
  cases m with
  | zero => exact h8.elim
  | succ m =>
    refine hc (opn G p nd us) ρ8 _ _ (hany _) h8 σ8 H8 _ j8 rs8 (fun b' H9 e9 j9 h9 => ?_) kxF
    have e9' : Ex (opn G p nd vs) H8 H9 := e9
    cases b' with
    | true =>
      rw [if_pos rfl] at h9
      rw [if_pos rfl]
      refine ⟨fun σ' H' => ∃ (acc : List PyData) (us : List V) (ρ' : Rho), (opn G p nd us).J H' ∧ Ex (opn G p nd vs) (upd H2 p (.lst vs)) H' ∧ RepS C.K (opn G p nd us) H' σ' ρ' ∧ DqAll C.K (vis (opn G p nd us) H') us acc ∧ σ'.length = σ.length ∧ openN i1 c pre e post nx m acc ρ', fun σ' H' z => ⟨m, Nat.lt_succ_self m, z⟩, ?_⟩
      refine hpre (opn G p nd us) ρ8 _ _ _ (hany _) h9 σ8 H9 _ j9 (rs8.mono e9) ⟨fun σ10 H10 r10 e10 j10 rs10 hl10 h10 => ?_, kvF⟩ kxF
      obtain ⟨hdi, h10⟩ := h10
      obtain ⟨v, hv, rv⟩ := rs10.2 i1 _ hdi
      have ev := rep_opn rv
      subst ev
      refine ⟨.ref p, hv, .inl ⟨rfl, us, SqL.of j10.1⟩, ?_⟩
      refine he (opn G p nd us) r10 _ _ (hany _) h10 σ10 H10 _ j10 rs10 (fun y H11 dy e11 j11 r11 h11 => ?_) kxF
      obtain ⟨ply, hlen, h11⟩ := h11
      have dq11 : DqAll C.K (vis (opn G p nd us) H11) us acc := dq_sameAll (e9.trans (e10.trans e11)).same acc us dq8
      refine ⟨p, us, y, rfl, rfl, j11.1, ?_, ?_⟩
      · rw [dqAll_len dq11]
        exact Nat.lt_of_lt_of_le hlen (by decide)
      · have j12 : (opn G p nd (us ++ [y])).J (upd H11 p (.lst (us ++ [y]))) := Hid.add_upd (hp := nd) (xs := us) j11
        have e12 : Ex (opn G p nd vs) H11 (upd H11 p (.lst (us ++ [y]))) := fun a o na _ q => by
          have ne : a ≠ p := fun z => na (.inr z)
          rw [upd_ne ne]
          exact q
        have rs11 := rs10.mono e11
        have rs12 : RepS C.K (opn G p nd (us ++ [y])) (upd H11 p (.lst (us ++ [y]))) σ10 r10 := ⟨rs11.1, fun i d hd => by
          obtain ⟨w, hw, rw'⟩ := rs11.2 i d hd
          refine ⟨w, hw, ?_⟩
          rcases rw' with z | z
          · exact .inl (dq_same vis_step d w z)
          · exact .inr z⟩
        have dq12 : DqAll C.K (vis (opn G p nd (us ++ [y])) (upd H11 p (.lst (us ++ [y])))) (us ++ [y]) (acc ++ [dy]) := dqAll_app (dq_sameAll vis_step acc us dq11) (.cons (dq_same vis_step dy y (r11.dp ply)) .nil)
        refine hpost (opn G p nd (us ++ [y])) r10 _ _ _ (hany _) h11 σ10 _ _ j12 rs12 ⟨fun σ13 H13 r13 e13 j13 rs13 hl13 h13 => ?_, kvF⟩ kxF
        have e13' : Ex (opn G p nd vs) (upd H11 p (.lst (us ++ [y]))) H13 := e13
        have e10' : Ex (opn G p nd vs) H9 H10 := e10
        have e11' : Ex (opn G p nd vs) H10 H11 := e11
        exact ⟨acc ++ [dy], us ++ [y], r13, j13, e8.trans (e9'.trans (e10'.trans (e11'.trans (e12.trans e13')))), rs13, dq_sameAll e13.same _ _ dq12, by rw [hl13, hl10, hl8], h13⟩
    | false =>
      rw [if_neg Bool.false_ne_true] at h9
      rw [if_neg Bool.false_ne_true]
      obtain ⟨hdi, hpl, h9⟩ := h9
      have rs9 := rs8.mono e9
      obtain ⟨v, hv, rv⟩ := rs9.2 i1 _ hdi
      have ev := rep_opn rv
      subst ev
      have eG : Ex G H H9 := (e1.trans e2).trans fun a o na nt q => by
        have ne : a ≠ p := fun z => by rw [z, np] at q; cases q
        have q3 : upd H2 p (.lst vs) a = some o := by rw [upd_ne ne]; exact q
        exact e9' a o (fun z => z.elim na ne) nt (e8 a o (fun z => z.elim na ne) nt q3)
      refine k.nx σ8 H9 _ eG (Hid.add_J (hp := nd) (xs := us) j9) ⟨by rw [put_len]; exact rs9.1, fun i d hd => ?_⟩ hl8 h9
      rcases look_put hd with ⟨z1, z2, z3⟩ | ⟨z1, z2⟩
      · subst z1 z2
        exact ⟨.ref p, hv, .inl (.lst (vis_of nd nt_lst j9.1) (dq_sameAll opn_vis acc us (dq_sameAll e9.same acc us dq8)))⟩
      · obtain ⟨w, hw, rw'⟩ := rs9.2 i d z2
        exact ⟨w, hw, .inl (dq_same opn_vis d w (rw'.dp (look_plain hpl hd)))⟩
theorem s_open2 {C : Cn} {i0 i1 i2 i3 : Nat} (hany : ∀ G, C.GP G) {ta tb tcc te : TE} {tx : TA} {t6 tp1 tp2 tpost tr : TS} {tc : TT} {a b cc e : DE} {x : DA} {d6 p1 p2 post dr : DS} {c : DT} (ha : SimE C ta a) (hx : SimA C tx x) (hb : SimE C tb b) (hcc : SimE C tcc cc) (h6 : SimS C t6 d6) (hc : SimT C tc c) (hp1 : SimS C tp1 p1) (hp2 : SimS C tp2 p2) (he : SimE C te e) (hpost : SimS C tpost post) (hr : SimS C tr dr) :
    SimS C (tSeq (tAsg (tTup (tCons ta (tCons (tLst tx) (tCons tb (tCons tcc tNil))))) (gTup C.K 4 (gCons (gName i0) (gCons (gName i1) (gCons (gName i2) (gCons (gName i3) gNil)))))) (tSeq t6 (tSeq (tWhile tc (tSeq tp1 (tSeq tp2 (tSeq (tDrop (tBM C.K "list" rAppend (tVar i1) (tCons te tNil))) tpost)))) tr))) (dSeq (dOpen i0 i1 i2 i3 a x b cc d6 c (dSeq p1 p2) e post) dr) := by
  have h := s_seq (s_open (i0 := i0) (i1 := i1) (i2 := i2) (i3 := i3) hany ha hx hb hcc h6 hc (s_seq hp1 hp2) he hpost) hr
  exact h
theorem wipe_set2 {σ : L2.St} {i j : Nat} {v w : Option V} (h : i ≠ j) : wipe (((wipe σ [i, j]).set i v).set j w) [i, j] = wipe σ [i, j] := by
  apply List.ext_getElem?
  intro k
  simp only [wipe, List.getElem?_set, List.length_set]
  by_cases h1 : k = i
  · subst h1
    simp [h.symm]
  · by_cases h2 : k = j
    · subst h2
      simp [h]
    · simp [Ne.symm h1, Ne.symm h2]
theorem gin_tup2 {K : PySem.W.Frag} {i j : Nat} (h : i ≠ j) : GIn (gTup K 2 (gCons (gName i) (gCons (gName j) gNil))) [i, j] := by
  rintro v σ H Q ⟨a, xs, rfl, hs, hl, v1, r1, rfl, v2, r2, rfl, rfl, q⟩
  exact ⟨a, _, rfl, hs, hl, v1, _, rfl, v2, _, rfl, rfl, wipe_set2 h, q⟩
theorem openN_i {i : Nat} {c : DT} {pre : DS} {e : DE} {post : DS} {nx : Rho → Prop} (I : Nat → List PyData → Rho → Prop) (step : ∀ (n : Nat) (acc : List PyData) (r : Rho) (k : List PyData → Rho → Prop), I n acc r → (∀ j acc' r', j < n → I j acc' r' → k acc' r') → c r (fun b => if b = true then pre r (fun r1 => look r1 i = some dice ∧ e r1 (fun y => plain y = true ∧ acc.length < 100000 ∧ post r1 (fun r2 => k (acc ++ [y]) r2) (fun _ => False) (fun _ => False)) (fun _ => False)) (fun _ => False) (fun _ => False)
      else look r i = some dice ∧ plainR (put r i (.list acc)) = true ∧ nx (put r i (.list acc))) (fun _ => False)) : ∀ (n : Nat) (acc : List PyData) (r : Rho), I n acc r → ∀ m, n < m → openN i c pre e post nx m acc r
  | n, acc, r, h, m + 1, hm => step n acc r _ h fun j acc' r' hj h' => openN_i I step j acc' r' h' m (by omega)
theorem dOpen_e {i0 i1 i2 i3 : Nat} {a b cc e : DE} {x : DA} {d6 pre post : DS} {c : DT} {r : Rho} {nx : Rho → Prop} {rt : PyData → Prop} {E : Nat → Prop} : dOpen i0 i1 i2 i3 a x b cc d6 c pre e post r nx rt E = a r (fun v0 => plain v0 = true ∧ x r (fun xs => plains xs = true ∧ xs.length ≤ 100000 ∧ plainR r = true ∧ b r (fun v2 => cc r (fun v3 => d6 (put (put (put (put r i0 v0) i1 dice) i2 v2) i3 v3) (fun r1 => ∃ n, openN i1 c pre e post nx n xs r1) (fun _ => False) (fun _ => False)) (fun _ => False)) (fun _ => False)) E) E := propext Iff.rfl
end Tz

/-! A list comprehension whose element is a call that may raise: the exception leaves the block, held by the def's own frame. -/
namespace Tz
open PySem PySem.Spec PyProof.Rows L2
theorem traced_same {h h' base : Heap} {e C : Addr} {Z : Obj → Prop} {fl : Value} {m : Str → Option Value} (hn : h.Ns C m) (hs : Heap.SameBut C h h') (t : HandSPX.TracedZ h base e Z fl) : HandSPX.TracedZ h' base e Z fl := by
  obtain ⟨oe, vs, T, oT, ts, he, hz, hd, h1, hnT, hTe, hT, hdT, h3⟩ := t
  obtain ⟨oC, es, ep, hC, hdC, _⟩ := hn
  have n1 : e ≠ C := fun q => by rw [q, hC] at he; cases he; rw [hdC] at hd; cases hd
  have n2 : T ≠ C := fun q => by rw [q, hC] at hT; cases hT; rw [hdC] at hdT; cases hdT
  exact ⟨oe, vs, T, oT, ts, (hs.2 e n1).trans he, hz, hd, h1, hnT, hTe, (hs.2 T n2).trans hT, hdT, h3⟩
section
variable {M : Model} {A : Around} {E : Value → Shared → Prop} {s' : Shared} {base : Heap} {env cenv : Env} {outer l : List Env} {e L : Addr} {Z : Obj → Prop} {m : Str → Option Value}
theorem failsZ (hf : cenv.frame = some L) (hbC : base.get? cenv.locals = none) (hn : s'.heap.Ns cenv.locals m) (hh : HandSPX.HeldZ base l e Z L s'.heap)
    (hQ : ∀ h', HandSPX.HeldZ base l e Z L h' → (∀ b o, s'.heap.get? b = some o → b ≠ cenv.locals → (∀ vs, o.data ≠ .fields vs) → ∃ sl, h'.get? b = some { o with slots := sl }) → E (.ref e) { s' with heap := h' }) :
    CompFails M A E cenv (.ref e) s' := by
  refine ⟨m, hn, fun h₂ m₂ hn₂ hs₂ => ?_⟩
  obtain ⟨b1, b0, f1, t1⟩ := hh
  have b2 : base.StaysIn h₂ := fun b o hb => (hs₂.2 b fun q => by rw [q, hbC] at hb; cases hb).trans (b1 b o hb)
  have f2 : h₂.FunFrames base l := Heap.FunFrames.sameBut hs₂ hn₂ f1
  have t2 := traced_same hn hs₂ t1
  have t2' := t2
  obtain ⟨oe, vs, T, oT, ts, he, hz, hd, h1, r⟩ := t2
  unfold PySem.passOn
  refine wpAny_bind (wpAny_field he hd h1 ?_)
  rw [if_neg (show ¬ ((Value.ref T == Value.none) = true) from by simp), hf]
  exact wpAny_bind (HandSPX.setFlight_anyZ (l := l) b2 f2 t2' fun h₃ b3 f3 t3 k3 => wpAny_throw (hQ h₃ ⟨b3, b0, f3, t3⟩ fun b o hb hbL hnf => k3 b o ((hs₂.2 b hbL).trans hb) hnf))
theorem notedZ (hZ : PXN.Steady1 Z) (hfr : A.frames = some (env :: outer)) (hcf : cenv.frame = env.frame) (hf : env.frame = some L) (hbC : base.get? cenv.locals = none) (hn : s'.heap.Ns cenv.locals m) (hfl : HandSPX.FlyingZ base (env :: outer) e Z s'.heap)
    (hQ : ∀ h', HandSPX.HeldZ base (env :: outer) e Z L h' → (∀ b o, s'.heap.get? b = some o → b ≠ cenv.locals → (∀ vs, o.data ≠ .fields vs) → ∃ sl, h'.get? b = some { o with slots := sl }) → E (.ref e) { s' with heap := h' }) :
    notedBy M A cenv (CompFails M A E cenv) (.ref e) s' := by
  show wpAny M A (noteFrame (.ref e) cenv) _ _ s'
  rw [noteFrame_env _ hcf]
  refine PXN.looks_onZ hZ hfr hf hfl fun h' hH hk => ?_
  refine failsZ (l := env :: outer) (L := L) (hcf.trans hf) hbC (hn.upToSlots hk) hH fun h'' hH' hk' => hQ h'' hH' fun b o hb hbC' hnf => ?_
  obtain ⟨sl, e1⟩ := hk b o hb hnf
  obtain ⟨sl2, e2⟩ := hk' b { o with slots := sl } e1 hbC' hnf
  exact ⟨sl2, e2⟩
end
/-- what flies has a traceback, held by none -/
theorem sky_fl {B0 B h : Heap} {l0 l : List Env} {a L : Addr} {Z0 Z : Obj → Prop} (f : HandSPX.FlyingZ B0 l0 a Z0 h) (s : Sky B l a Z L h) : HandSPX.FlyingZ B l a Z h := by
  obtain ⟨_, _, _, oe, vs, T, oT, ts, he, hz, hd, h1, hnT, hTe, hT, hdT, h3⟩ := f
  rcases s with ⟨_, _, _, oe', vs', he', _, hd', h1'⟩ | s | ⟨_, _, _, oe', vs', T', oT', ts', he', _, hd', h1', _, _, hT', hdT', h3'⟩
  · rw [he] at he'; cases he'
    rw [hd] at hd'; cases hd'
    rw [h1] at h1'; cases h1'
  · exact s
  · rw [he] at he'; cases he'
    rw [hd] at hd'; cases hd'
    rw [h1] at h1'; cases h1'
    rw [hT] at hT'; cases hT'
    rw [hdT] at hdT'; cases hdT'
    rw [h3] at h3'
    exact absurd h3' (by simp [rawInt])
/-- the block's context, with its own wish about errors -/
abbrev blkX (X : Cx) (s : Shared) (H : Hp) (scope : Scope) (cenv : Env) (fp : List Addr) (xe : Value → Shared → Prop) : Cx := { X.blk s H scope cenv fp with xe := xe }
theorem inv_xe {X : Cx} {xe : Value → Shared → Prop} {pins : List (Addr × Obj)} {σ : L2.St} {H : Hp} {s : Shared} (I : Inv X pins σ H s) : Inv { X with xe := xe } pins σ H s := by
  obtain ⟨ok, i1, i2, i3, i4, i5, i6, i7, i8, i9, i10⟩ := I
  obtain ⟨o1, o2, o3, o4, o5, o6, o7, o8, o9, o10, o11, o12, o13, o14, o15, o16, o17, o18⟩ := ok
  exact ⟨⟨o1, o2, o3, o4, o5, o6, o7, o8, o9, o10, o11, o12, o13, o14, o15, o16, o17, o18⟩, i1, i2, i3, i4, i5, i6, i7, i8, i9, i10⟩
theorem blk_pass {X : Cx} {E : XK} {pins : List (Addr × Obj)} {σ : L2.St} {H3 : Hp} {s3 : Shared} {scope : Scope} {ce : Env} {fp : List Addr} (hs0 : X.stack = X.env :: X.outer) (hf0 : X.env.frame = some X.env.locals) (tk : L2N.Takes X (fun cls d _ H => E cls d H))
    (I3 : Inv X pins σ H3 s3) (f3 : ∀ b ∈ fp, FpOk X pins H3 b) (cL : ce.locals = s3.heap.objs.size) (cf : ce.frame = X.env.frame) :
    Passes (L2N.CX X.prog X.w) (blkX X s3 H3 scope ce fp (notedBy (model X.prog X.w) X.A ce (CompFails (model X.prog X.w) X.A X.xe ce))) E := by
  intro pins' σ' H s u s' I c
  have c0 := c
  obtain ⟨a0, B0, _, _, _, rfl, fl0, _⟩ := c0
  obtain ⟨a, B, sI, pins2, σ2, H', cls, d, ea, J, nb, up, sky, na, os, ag, w⟩ := L2N.XE.of_call (W := fun cls d _ H => E cls d H) I (fun _ _ _ h => h) c
  have ea : a0 = a := by cases ea; rfl
  subst ea
  have fl := sky_fl fl0 sky
  have I7 : Inv X pins σ H' sI := I3.call' (ch := fp) J.os J.base J.hok J.bare fun b hb => ⟨(f3 b hb).2.2.2.1, (f3 b hb).2.1, (f3 b hb).2.2.2.2.1, (f3 b hb).2.2.2.2.2⟩
  have nC : H' ce.locals = none := J.free
  obtain ⟨m, hn, _⟩ := J.loc
  have hn : sI.heap.Ns ce.locals m := hn
  have f := I3.fpOk (H' := H') (b := ce.locals) (Nat.le_of_eq cL.symm) nC
  obtain ⟨f0, f1, f2, f4, f5, f6⟩ := f
  have hfr : X.A.frames = some (X.env :: X.outer) := by rw [I3.ok.frames, hs0]
  have hfl : HandSPX.FlyingZ B (X.env :: X.outer) a0 (L2N.Zn cls d) s'.heap := by
    have z : HandSPX.FlyingZ B X.stack a0 (L2N.Zn cls d) s'.heap := fl
    rw [hs0] at z
    exact z
  obtain ⟨g1, g2, g3, g4⟩ := hfl
  have sub : ∀ {b : Addr} {o : Obj}, (PySem.W.hideAll B [ce.locals]).get? b = some o → B.get? b = some o := fun e => PySem.W.of_hideAll _ e
  have non : ∀ {b : Addr}, B.get? b = none → (PySem.W.hideAll B [ce.locals]).get? b = none := fun {b} e => by
    cases q : (PySem.W.hideAll B [ce.locals]).get? b with
    | none => rfl
    | some o => rw [sub q] at e; cases e
  have fl' : HandSPX.FlyingZ (PySem.W.hideAll B [ce.locals]) (X.env :: X.outer) a0 (L2N.Zn cls d) s'.heap := by
    refine ⟨fun b o e => g1 b o (sub e), non g2, funFrames_none g3 fun L hL => non ?_, ?_⟩
    · exact (g3.mem hL).1
    · obtain ⟨oe, vs, T, oT, ts, he, hz, hd, h1, hnT, r⟩ := g4
      exact ⟨oe, vs, T, oT, ts, he, hz, hd, h1, non hnT, r⟩
  show notedBy (model X.prog X.w) X.A ce (CompFails (model X.prog X.w) X.A X.xe ce) (.ref a0) s'
  refine notedZ L2N.Zn.steady hfr cf hf0 (PySem.W.hideAll_none _ (List.mem_singleton.mpr rfl)) (Heap.Ns.upToSlots hn up) fl' fun h' hH hk => ?_
  refine tk _ _ ⟨a0, PySem.W.hideAll B [ce.locals], { sI with heap := PySem.W.hideAll sI.heap [ce.locals] }, pins, σ, H', cls, d, rfl, I7.turned (t' := sI.toks) (fun b o hb e => PySem.W.hideAll_get _ e fun z => hb (List.mem_singleton.mp z)) f0 f1 f4 f5 f6, fun b o e hb => ?_, fun b o e hnf => ?_, .inr (.inr ?_), na, os, ag, w⟩
  · have e1 := PySem.W.of_hideAll _ e
    have ne : b ∉ [ce.locals] := fun z => by rw [PySem.W.hideAll_none _ z] at e; cases e
    exact PySem.W.hideAll_get _ (nb b o e1 hb) ne
  · have e1 := PySem.W.of_hideAll _ e
    have ne : b ∉ [ce.locals] := fun z => by rw [PySem.W.hideAll_none _ z] at e; cases e
    obtain ⟨sl, e2⟩ := up b o e1 hnf
    obtain ⟨sl2, e3⟩ := hk b { o with slots := sl } e2 (fun z => ne (List.mem_singleton.mpr z)) hnf
    exact ⟨sl2, e3⟩
  · rw [hs0]
    exact hH
/-- [call for target in iter if ..], the call may raise -/
theorem pe_lcX {X : Cx} {E : XK} {elt tg iter : Expr} {ifs : List Expr} {scope : Scope} {own : List (Str × Nat)} {pos : Pos} {wi : TI} {g : TG} {tt : TT} {te : TE} (hs0 : X.stack = X.env :: X.outer) (hf0 : X.env.frame = some X.env.locals) (tk : L2N.Takes X (fun cls d _ H => E cls d H))
    (hc : X.calm = true) (hN : X.N.Nodup) (hi : PI X tg iter wi) (ok : BlkOk X.N X.env.scope scope own)
    (hg : ∀ (s : Shared) (H : Hp) (C : Addr) (cl : List (Str × Addr)) (fp : List Addr), PG (X.blk s H scope (compEnvC scope cl C X.env) fp) tg g) (ht : ∀ (s : Shared) (H : Hp) (C : Addr) (cl : List (Str × Addr)) (fp : List Addr), PTs (X.blk s H scope (compEnvC scope cl C X.env) fp) ifs tt)
    (he : ∀ (s : Shared) (H : Hp) (C : Addr) (cl : List (Str × Addr)) (fp : List Addr) (xe : Value → Shared → Prop), Passes (L2N.CX X.prog X.w) (blkX X s H scope (compEnvC scope cl C X.env) fp xe) E → PE (blkX X s H scope (compEnvC scope cl C X.env) fp xe) elt te) (hs : ∀ x, foldedSetIterable iter X.env x = pure x := by intro _; rfl) :
    PE X (.ListComp elt [⟨tg, iter, ifs, 0⟩] scope pos) (tLc wi g tt te (own.map (·.2))) := by
  refine ⟨fun pins s σ H Q I h => ?_⟩
  rw [eval_ListComp]
  have hfree : ∀ y ∈ scope.names, y.2 = .free → ∃ c, X.env.cells.lookup y.1 = some c := fun y hy e => by
    rcases ok.free y hy e with k | k
    · exact I.ok.has _ (.inl k)
    · exact I.ok.has _ (.inr k)
  refine comprehension_at (use := none) rfl hs (closure_ok hfree) ok.kind (fun y hy e => by rw [ok.uniq y hy, e])
    (thn (hi.run pins s σ H _ I h) fun xv s1 hx => thn hx fun itv s2 h2 => ?_)
  obtain ⟨it, fp, tn, J, H2, e, I2, T, st2, f2, q⟩ := h2
  subst e
  refine wpAny_newObj_type (newEnv_comp ?_) (by show 0 ≤ sizeLine; decide)
  generalize hD : s2.heap.objs.size = D
  obtain ⟨W, ⟨m0, w0⟩, turn⟩ := q D (I2.hok.fresh (Nat.le_of_eq hD))
  generalize hs3 : ({ s2 with heap := s2.heap.push { cls := .type "list", data := .seq ([] : List Value).toArray } } : Shared) = s3
  have h3 : s3.heap = s2.heap.push { cls := .type "list", data := .seq ([] : List Value).toArray } := by rw [← hs3]
  have I3 : Inv X pins σ (upd H2 D (.lst [])) s3 := by
    rw [← hs3]
    refine I2.laid (t' := s2.toks) (fun b o e => Heap.get?_push_of_some _ e) (Nat.le_of_eq hD) ⟨Nat.zero_le _, [], 0, .nil, ?_⟩
    rw [← hD]
    exact Heap.get?_push_size _ rfl
  have f3 : ∀ b ∈ fp, FpOk X pins (upd H2 D (.lst [])) b ∧ b < s3.heap.objs.size := fun b hb => by
    obtain ⟨o, e, _⟩ := T.obj _ _ st2 b hb
    have hlt := Heap.lt_size e
    refine ⟨⟨?_, (f2 b hb).2⟩, by rw [h3, Heap.size_push]; exact Nat.lt_succ_of_lt hlt⟩
    rw [upd_ne (by rw [← hD]; exact Nat.ne_of_lt hlt)]
    exact (f2 b hb).1
  have st3 : tn 0 s3.heap := T.keep _ _ _ st2 fun b _ o e => by rw [h3]; exact Heap.get?_push_of_some _ e
  have I4 := block_start I3 ok hN f3
  have pg := hg s3 (upd H2 D (.lst [])) s3.heap.objs.size (cellsFrom (s3.heap.objs.size + 1) scope.names (cloFrom X.env.cells scope.names [])) fp
  have pt := ht s3 (upd H2 D (.lst [])) s3.heap.objs.size (cellsFrom (s3.heap.objs.size + 1) scope.names (cloFrom X.env.cells scope.names [])) fp
  have pe := fun xe => he s3 (upd H2 D (.lst [])) s3.heap.objs.size (cellsFrom (s3.heap.objs.size + 1) scope.names (cloFrom X.env.cells scope.names [])) fp xe
  show codeAny _ _ (.compStart (.ListComp elt [⟨tg, iter, ifs, 0⟩] scope pos) 0 (.ref it) (.ref D) (compEnvC scope (cellsFrom (s3.heap.objs.size + 1) scope.names (cloFrom X.env.cells scope.names [])) s3.heap.objs.size X.env)) (compEnds (model X.prog X.w) X.A X.xe none _ (.ref D) (compEnvC scope (cellsFrom (s3.heap.objs.size + 1) scope.names (cloFrom X.env.cells scope.names [])) s3.heap.objs.size X.env)) { s3 with heap := pushCells (s3.heap.push { cls := .type "dict", data := .dict #[] }) scope.names }
  have nfp : ∀ b ∈ fp, (upd H2 D (.lst [])) b = none := fun b hb => (f3 b hb).1.1
  generalize hce : compEnvC scope (cellsFrom (s3.heap.objs.size + 1) scope.names (cloFrom X.env.cells scope.names [])) s3.heap.objs.size X.env = ce at I4 pg pt pe ⊢
  have cL : ce.locals = s3.heap.objs.size := by subst hce; rfl
  have cf : ce.frame = X.env.frame := by subst hce; rfl
  generalize hH3 : upd H2 D (.lst []) = H3 at I3 I4 pg pt pe w0 nfp f3
  generalize hs4 : ({ s3 with heap := pushCells (s3.heap.push { cls := .type "dict", data := .dict #[] }) scope.names } : Shared) = s4 at I4 ⊢
  have pe := pe _ (blk_pass (scope := scope) hs0 hf0 tk I3 (fun b hb => (f3 b hb).1) cL cf)
  have st4 : tn 0 s4.heap := T.keep _ _ _ st3 fun b _ o e => by rw [← hs4]; exact pushCells_keeps _ _ _ _ (Heap.get?_push_of_some _ e)
  have stat : ∀ {σ' : L2.St} {H' : Hp} {s' : Shared}, Inv (X.blk s3 H3 scope ce fp) [] σ' H' s' → (∀ b ∈ fp, H' b = none) → ∀ b ∈ fp, FpOk (X.blk s3 H3 scope ce fp) [] H' b := fun {σ' H' s'} I' hn b hb =>
    ⟨hn b hb, (I'.ok.exf b hb).1, I'.ok.exfs b hb, .inl hb, fun x c e => (I'.ok.exf b hb).2 x c e, fun p hp => absurd (show p ∈ ([] : List (Addr × Obj)) ++ [] from hp) (by simp)⟩
  have loop : codeAny (model X.prog X.w) X.A (.compLoop (.ListComp elt [⟨tg, iter, ifs, 0⟩] scope pos) 0 (.ref it) (.ref D) ce) (compEnds (model X.prog X.w) X.A X.xe none (EP X pins σ Q) (.ref D) ce) s4 := by
    refine compLoop_any (fun n s' => ∃ i H', Inv (X.blk s3 H3 scope ce fp) [] (wipe σ (own.map (·.2))) H' s' ∧ tn i s'.heap ∧ (∀ b ∈ fp, H' b = none) ∧ W i n H') ?_ m0 ⟨0, H3, I4, st4, nfp, w0⟩
    rintro n s5 ⟨i, H5, I5, st5, n5, w5⟩
    rcases turn i n H5 w5 with ⟨stop, qq⟩ | ⟨go, Nx, hNx, step⟩
    · have td := T.done (X.blk s3 H3 scope ce fp) rfl rfl rfl hc i [] s5 _ H5 (fun _ _ => False) I5 (stat I5 n5) st5 stop
      refine thnF td fun r s6 ⟨hr, I6⟩ => ?_
      subst hr
      have I7 : Inv X pins σ H5 s6 := I3.call' (ch := fp) I6.os I6.base I6.hok I6.bare fun b hb => ⟨(f3 b hb).1.2.2.2.1, (f3 b hb).1.2.1, (f3 b hb).1.2.2.2.2.1, (f3 b hb).1.2.2.2.2.2⟩
      have nC : H5 ce.locals = none := I6.free
      obtain ⟨m, hn, _⟩ := I6.loc
      refine ⟨m, hn, fun h'' sb => ?_⟩
      obtain ⟨g0, g1, g2, g3, g4, g5⟩ := I3.fpOk (H' := H5) (b := ce.locals) (Nat.le_of_eq cL.symm) nC
      exact ⟨.ref D, H5, I7.turned (t' := s6.toks) (fun b o hb e => (sb.2 b hb).trans e) g0 g1 g3 g4 g5, rfl, qq⟩
    · have ti := T.item (X.blk s3 H3 scope ce fp) rfl rfl rfl hc i [] s5 _ H5 (fun _ _ => False) I5 (stat I5 n5) st5 go
      refine thnF ti fun r s6 ⟨u, hr, h6⟩ => ?_
      subst hr
      refine thnF h6 fun _ s7 ⟨x, H7, I7, r7, y7, st7, n7⟩ => ?_
      have I7' := I7.pinned (stat I7 n7) (T.obj _ _ st7)
      refine thnF (pg.run _ s7 _ H7 x u _ I7' r7 (step x H7 y7)) fun _ s8 ⟨σ8, H8, I8, hw8, q8⟩ => ?_
      refine thnF (pt.run _ s8 σ8 H8 _ I8 q8) fun b s9 ⟨H9, I9, q9⟩ => ?_
      have fin : ∀ {s' : Shared} {H' : Hp}, Inv (X.blk s3 H3 scope ce fp) ([] ++ pinsAt fp s7.heap) σ8 H' s' → Nx H' → ∃ m, m < n ∧ ∃ i H', Inv (X.blk s3 H3 scope ce fp) [] (wipe σ (own.map (·.2))) H' s' ∧ tn i s'.heap ∧ (∀ b ∈ fp, H' b = none) ∧ W i m H' := fun {s' H'} I' nx => by
        obtain ⟨m', hm, w'⟩ := hNx H' nx
        have pin' : ∀ b ∈ fp, ∀ o, s7.heap.get? b = some o → s'.heap.get? b = some o ∧ H' b = none := fun b hb o e =>
          let z := I'.pin (b, o) (List.mem_append_right _ (List.mem_append_right _ (mem_pinsAt hb e)))
          ⟨z.1, z.2.1⟩
        have hl : (wipe σ (own.map (·.2))).length = σ8.length := by rw [← hw8, wipe_length]
        refine ⟨m', hm, i + 1, H', (I'.unpinned (pins := [])).weak hl (fun j v e => ?_), T.keep _ _ _ st7 fun b hb o e => (pin' b hb o e).1, fun b hb => ?_, w'⟩
        · rw [← hw8] at e
          exact (wipe_some e).1
        · obtain ⟨o, e, _⟩ := T.obj _ _ st7 b hb
          exact (pin' b hb o e).2
      cases b with
      | false =>
        simp only [Bool.false_eq_true, if_false] at q9 ⊢
        exact fin I9 q9
      | true =>
        simp only [if_true] at q9 ⊢
        refine wpAny_mono (pe.run _ s9 σ8 H9 _ (inv_xe I9) q9) (fun z s10 ⟨yv, H10, I10, r10, acc, hD10, hz10, nx⟩ => ?_) (fun _ _ x => x)
        have I10' : Inv (X.blk s3 H3 scope ce fp) ([] ++ pinsAt fp s7.heap) σ8 H10 s10 := inv_xe (xe := fun _ _ => False) I10
        exact app_ok (X := X.blk s3 H3 scope ce fp) I10' hD10 hz10 r10 fun s11 I11 => fin I11 nx
  exact codeAny_compStart_list loop (T.self X.A 0 _ _ _ st4 loop)
/-- the same, by data -/
def lcX (g : DG) (t : DT) (e : DE) (r : Rho) (Q : List PyData → Prop) (E : Nat → Prop) : List PyData → List PyData → Prop
  | [], acc => Q acc
  | x :: xs, acc => g x r (fun r' => t r' (fun b => if b = true then e r' (fun y => plain y = true ∧ lcX g t e r Q E xs (acc ++ [y])) E else lcX g t e r Q E xs acc) (fun _ => False))
def dLcX (i : DI) (g : DG) (t : DT) (e : DE) (vs : List Nat) : DE := fun r Q E => i r (fun xs => xs.length ≤ 100000 ∧ lcX g t e (drps r vs) (fun ys => Q (.list ys)) E xs []) E
theorem dLcX_e {i : DI} {g : DG} {t : DT} {a : DE} {vs : List Nat} {r : Rho} {Q : PyData → Prop} {E : Nat → Prop} : dLcX i g t a vs r Q E = i r (fun xs => xs.length ≤ 100000 ∧ lcX g t a (drps r vs) (fun ys => Q (.list ys)) E xs []) E := propext Iff.rfl
theorem s_lcX {C : Cn} {wi : TI} {g : TG} {tt : TT} {te : TE} {vs : List Nat} {di : DI} {d : DG} {t : DT} {e : DE} (hi : SimI C wi di) (hgi : GIn g vs) (hg : SimG C.no g d) (ht : SimT C.no tt t) (he : SimE C te e) : SimE C (tLc wi g tt te vs) (dLcX di d t e vs) := by
  intro G ρ Q E gp h σ H Q' jj rs k kx
  refine hi G ρ _ E gp h σ H _ jj rs (fun J H1 xs e1 j1 wk h1 => ?_) kx
  intro p np
  obtain ⟨hlen, h1⟩ := h1
  have nd : ¬ G.D p := fun z => G.live j1 z np
  have e0 : Ex G H1 (upd H1 p (.lst [])) := (Ex.new (o := .lst []) j1 np).1
  refine ⟨fun i m H' => ∃ (acc : List V) (ds : List PyData), m = xs.length - i ∧ i ≤ xs.length ∧ Ex G H1 H' ∧ (G.add p nd acc).J H' ∧ acc.length ≤ i ∧ Reps C.K (G.add p nd acc) H' acc ds ∧ plains ds = true ∧ lcX d t e (drps ρ vs) (fun ys => Q (.list ys)) E (xs.drop i) ds,
    ⟨xs.length, [], [], by simp, Nat.zero_le _, e0, Hid.add_new j1 np, Nat.le_refl _, trivial, rfl, h1⟩, ?_⟩
  rintro i m H' ⟨acc, ds, rfl, hile, e2, j2, hal, ra, pl, h2⟩
  have gp' : C.no.GP (G.add p nd acc) := C.add G p nd acc gp
  have rs2 : RepS C.K (G.add p nd acc) H' (wipe σ vs) (drps ρ vs) := by
    refine ⟨by rw [drps_len, wipe_length]; exact rs.1, fun i d z => ?_⟩
    obtain ⟨v, x, y⟩ := ((rs.mono e1).wipe vs).2 i d z
    exact ⟨v, x, rep_in np e2 y⟩
  by_cases hlt : i < xs.length
  · have hd : xs.drop i = xs[i] :: xs.drop (i + 1) := List.drop_eq_getElem_cons hlt
    rw [hd] at h2
    obtain ⟨hgo, hy⟩ := (wk i H' e2 (Hid.add_J j2)).1 xs[i] (List.getElem?_eq_getElem hlt)
    refine .inr ⟨hgo, fun H3 => ∃ (acc : List V) (ds : List PyData), Ex G H1 H3 ∧ (G.add p nd acc).J H3 ∧ acc.length ≤ i + 1 ∧ Reps C.K (G.add p nd acc) H3 acc ds ∧ plains ds = true ∧ lcX d t e (drps ρ vs) (fun ys => Q (.list ys)) E (xs.drop (i + 1)) ds, ?_, fun x H3 y => ?_⟩
    · rintro H3 ⟨acc, ds, e3, j3, hal3, ra3, pl3, h3⟩
      exact ⟨xs.length - (i + 1), by omega, acc, ds, rfl, hlt, e3, j3, hal3, ra3, pl3, h3⟩
    · obtain ⟨rfl, r3⟩ := hy x H3 y
      have r3' : Rep C.K (G.add p nd acc) H3 x xs[i] := rep_in np e2 r3
      refine hgi x σ H3 _ ?_
      refine hg (G.add p nd acc) (drps ρ vs) _ xs[i] gp' h2 x (wipe σ vs) H3 _ j2 rs2 r3' fun σ4 ρ4 rs4 hl4 h4 => ?_
      have grow : ∀ {H5 : Hp}, Ex (G.add p nd acc) H3 H5 → Ex G H1 H5 := fun {H5} e5 a o na ta ha => by
        have ne : a ≠ p := ne_of_none ha np
        exact e5 a o (fun z => z.elim na ne) ta (e2 a o na ta ha)
      refine ht (G.add p nd acc) ρ4 _ _ gp' h4 σ4 H3 _ j2 rs4 (fun b H5 e5 j5 h5 => ?_) (fun c H5 _ _ z => z.elim)
      cases b with
      | false => exact ⟨acc, ds, grow e5, j5, by omega, ra.mono e5, pl, h5⟩
      | true =>
        refine he (G.add p nd acc) ρ4 _ _ gp' h5 σ4 H5 _ j5 (rs4.mono e5) (fun v H6 z e6 j6 r6 h6 => ?_) (fun c H6 e6 j6 z => kx c H6 (e1.trans (grow (e5.trans e6))) (Hid.add_J j6) z)
        have ra6 := (ra.mono e5).mono e6
        refine ⟨acc, j6.1, Nat.lt_of_le_of_lt (Nat.le_trans hal hile) (Nat.lt_of_le_of_lt hlen (by decide)), acc ++ [v], ds ++ [z], fun a o na ta ha => ?_, Hid.add_upd j6, ?_, reps_upd (reps_snoc ra6 r6), plains_snoc pl h6.1, h6.2⟩
        · have ne : a ≠ p := ne_of_none ha np
          rw [upd_ne ne]
          exact grow (e5.trans e6) a o na ta ha
        · rw [List.length_append]
          show acc.length + 1 ≤ i + 1
          omega
  · have hd : xs.drop i = [] := List.drop_eq_nil_of_le (by omega)
    rw [hd] at h2
    refine .inl ⟨(wk i H' e2 (Hid.add_J j2)).2 (by omega), ?_⟩
    exact k _ H' _ (e1.trans e2) (Hid.add_J j2) (.inl (.lst (vis_of nd nt_lst j2.1) ((reps_out ra).dp pl))) h2
/-- a call in such an element -/
theorem pe_clX {X : Cx} {E : XK} {k : Nat} {x : Str} {ps : List Str} {sp : Sp} {e : Expr} {es : List Expr} {t : TA} {p pos : Pos} (D : Dfn X.prog X.w X.K X.mg X.base k x ps sp) (pa : Passes (L2N.CX X.prog X.w) X E) (hr : Room k X.A) (hg : Gl X x) (ha : PA X (e :: es) t)
    (hdb : (x == ("__debug__" : Str)) = false := by decide) (he : starEach (e :: es) X.env = (false, eval e X.env) :: starEach es X.env := by rfl) (hpl : (backTo pos (starEach es X.env)).any (·.1) = false := by rfl) :
    PE X (.Call (.Name x p) (e :: es) [] pos) (tCallS sp (fun _ => E) t) := by
  obtain ⟨f, fd, F, hm, hk, hb⟩ := D
  exact pe_callS F hr hg hm hk hb (fun σ => fun pins H s e s' I c => pa pins σ H s e s' I c) ha hdb he hpl
/-- int of a text -/
def rIntT : List V → Hp → VK → Prop := fun xs H Q => ∃ a n, xs = [.str a] ∧ PySem.intText? a = some n ∧ a.length ≤ 640 ∧ Q (.int n) H
def oIntT : List PyData → (PyData → Prop) → Prop := fun ds Q => match ds with
  | [.str a] => a.length ≤ 640 ∧ onS (PySem.intText? a) fun n => Q (.int n)
  | _ => False
theorem oIntT_s {a : Str} {Q : PyData → Prop} : oIntT [.str a] Q = (a.length ≤ 640 ∧ onS (PySem.intText? a) fun n => Q (.int n)) := propext Iff.rfl
theorem call_intT {X : Cx} : CallR X (.type "int") rIntT := call_int_str
theorem s_intT {C : Cn} : SimC C rIntT oIntT := by
  intro G xs ds Q H Q' gp j r h k
  match ds, r, h with
  | [.str a], r, h =>
    obtain ⟨v, rfl, rv⟩ := reps1 r
    obtain ⟨hl, h⟩ := h
    cases e : PySem.intText? a with
    | none => rw [e] at h; exact h.elim
    | some n =>
      rw [e] at h
      refine ⟨a, n, ?_, e, hl, k _ H _ (Ex.refl G H) j (.inl (.int _)) h⟩
      rw [rep_str rv]
end Tz

/-! Numbers as texts, in plain Lean. -/
namespace Tz
open PySem PySem.Spec PyProof.Rows L2 TL
/-- the signs of an integer -/
def tx (n : Int) : List Nat := if n < 0 then 45 :: numL n.natAbs else numL n.natAbs
theorem tl_int (n : Int) : tl (Str.ofString (toString n)) = tx n := by
  unfold tx
  by_cases h : n < 0
  · rw [if_pos h, PyProof.Rows.toString_neg h]
    have e : (0 - n) = ((n.natAbs : Nat) : Int) := by omega
    rw [e, tl_ofString, String.toList_append, List.map_append]
    have e2 := tl_num n.natAbs
    rw [tl_ofString] at e2
    rw [e2]
    rfl
  · rw [if_neg h]
    have e : n = ((n.natAbs : Nat) : Int) := by omega
    rw [e]
    exact tl_num n.natAbs
/-- digits with no zero ahead -/
def canon (ds : List Nat) : Prop := NumText.AllDigits ds ∧ ds ≠ [] ∧ ∀ r, ds = 48 :: r → r = []
theorem val_snoc (ds : List Nat) (c : Nat) : NumText.digitsVal (ds ++ [c]) = NumText.digitsVal ds * 10 + (c - 48) := by
  unfold NumText.digitsVal
  rw [List.foldl_append]
  rfl
theorem numL_head (n : Nat) : ∀ r, numL n = 48 :: r → r = [] := by
  induction n using Nat.strongRecOn with
  | _ n ih =>
    intro r hr
    by_cases h : n < 10
    · rw [numL_lt h] at hr
      exact (List.cons.inj hr).2.symm
    · rw [numL_step (by omega)] at hr
      cases hq : numL (n / 10) with
      | nil => exact (numL_ne _ hq).elim
      | cons c t =>
        rw [hq, List.cons_append] at hr
        obtain ⟨rfl, rfl⟩ := List.cons.inj hr
        have ht := ih (n / 10) (by omega) t hq
        subst ht
        have e := numL_val (n / 10)
        rw [hq] at e
        have : n / 10 = 0 := by rw [← e]; rfl
        omega
theorem numL_canon (n : Nat) : canon (numL n) := ⟨numL_digits n, numL_ne n, numL_head n⟩
theorem canon_num : ∀ (k : Nat) (ds : List Nat), ds.length = k → canon ds → numL (NumText.digitsVal ds) = ds := by
  intro k
  induction k with
  | zero =>
    intro ds hl h
    exact (h.2.1 (List.eq_nil_of_length_eq_zero hl)).elim
  | succ k ih =>
    intro ds hl h
    have hne := h.2.1
    have hd := (List.dropLast_concat_getLast hne).symm
    generalize ds.dropLast = ps at hd
    generalize ds.getLast hne = c at hd
    subst hd
    have hc := h.1 c (List.mem_append_right _ (List.mem_singleton.mpr rfl))
    rw [val_snoc]
    by_cases hp : ps = []
    · subst hp
      show numL (0 * 10 + (c - 48)) = [c]
      rw [numL_lt (by omega)]
      congr 1
      omega
    · have cp : canon ps := by
        refine ⟨fun d hd => h.1 d (List.mem_append_left _ hd), hp, fun r hr => ?_⟩
        have := h.2.2 (r ++ [c]) (by rw [hr]; rfl)
        simp at this
      have e := ih ps (by rw [List.length_append, List.length_singleton] at hl; omega) cp
      have pos : 0 < NumText.digitsVal ps := by
        refine Nat.pos_of_ne_zero fun z => ?_
        rw [z, numL_lt (by decide)] at e
        have := h.2.2 [c] (by rw [← e]; rfl)
        simp at this
      rw [numL_step (by omega), show (NumText.digitsVal ps * 10 + (c - 48)) / 10 = NumText.digitsVal ps by omega, e, show 48 + (NumText.digitsVal ps * 10 + (c - 48)) % 10 = c by omega]
theorem canon_val {ds : List Nat} (h : canon ds) : numL (NumText.digitsVal ds) = ds := canon_num _ ds rfl h
theorem tx_inj {m n : Int} (h : tx m = tx n) : m = n := by
  unfold tx at h
  have no : ∀ {a b : Nat}, 45 :: numL a ≠ numL b := fun {a b} e => numL_free (n := b) (s := 45) (.inl (by decide)) (by rw [← e]; exact List.mem_cons_self)
  split at h <;> split at h
  · have := numL_inj (List.cons.inj h).2
    omega
  · exact (no h).elim
  · exact (no h.symm).elim
  · have := numL_inj h
    omega
theorem tx_free {n : Int} {s : Nat} (h : s ≠ 45) (h2 : s < 48 ∨ 57 < s) : s ∉ tx n := by
  unfold tx
  split
  · intro z
    rcases List.mem_cons.mp z with z | z
    · exact h z
    · exact numL_free h2 z
  · exact numL_free h2
end Tz

/-! An object that changes: what is hidden goes by a state; expressions and statements by data and state. -/
namespace Tz
open PySem PySem.Spec PyProof.Rows L2
abbrev GS := List PyData
/-- what is hidden, by a state -/
structure Fam where
  at_ : GS → Hid
  D : Addr → Prop
  isO : PyData → V → Prop
  hD : ∀ s, (at_ s).D = D
  hI : ∀ s, (at_ s).isO = isO
def ExG (F : Fam) (H H' : Hp) : Prop := ∀ a o, ¬ F.D a → NT o → H a = some o → H' a = some o
theorem ExG.refl (F : Fam) (H : Hp) : ExG F H H := fun _ _ _ _ h => h
theorem ExG.trans {F : Fam} {H H1 H2 : Hp} (a : ExG F H H1) (b : ExG F H1 H2) : ExG F H H2 := fun x o n t h => b x o n t (a x o n t h)
theorem exF {F : Fam} {H H' : Hp} (s : GS) : ExG F H H' ↔ Ex (F.at_ s) H H' := by
  unfold ExG Ex
  rw [F.hD s]
theorem visF {F : Fam} (s s' : GS) (H : Hp) : vis (F.at_ s) H = vis (F.at_ s') H := by
  unfold vis
  rw [F.hD s, F.hD s']
theorem repF {K : PySem.W.Frag} {F : Fam} {H : Hp} {v : V} {d : PyData} (s s' : GS) (h : Rep K (F.at_ s) H v d) : Rep K (F.at_ s') H v d := by
  unfold Rep at h ⊢
  rw [visF s' s, F.hI s', ← F.hI s]
  exact h
theorem repsF {K : PySem.W.Frag} {F : Fam} {H : Hp} (s s' : GS) : ∀ {vs : List V} {ds : List PyData}, Reps K (F.at_ s) H vs ds → Reps K (F.at_ s') H vs ds
  | [], [], _ => trivial
  | _ :: _, _ :: _, h => ⟨repF s s' h.1, repsF s s' h.2⟩
  | [], _ :: _, h => h.elim
  | _ :: _, [], h => h.elim
theorem repSF {K : PySem.W.Frag} {F : Fam} {H : Hp} {σ : L2.St} {r : Rho} (s s' : GS) (h : RepS K (F.at_ s) H σ r) : RepS K (F.at_ s') H σ r := ⟨h.1, fun i d q => by
  obtain ⟨v, a, b⟩ := h.2 i d q
  exact ⟨v, a, repF s s' b⟩⟩
/-- where a body stands, what is hidden by a state -/
structure Cz where
  K : PySem.W.Frag
  ec : Nat → Addr
  FP : Fam → Prop
  E0 : XK
  add : ∀ (F : Fam) (s : GS) (p : Addr) (h : ¬ (F.at_ s).D p) (xs : List V), FP F → ∃ F', FP F' ∧ (F.at_ s).add p h xs = F'.at_ s
theorem Cz.add' (C : Cz) (s : GS) (G : Hid) (p : Addr) (h : ¬ G.D p) (xs : List V) (g : ∃ F, C.FP F ∧ G = F.at_ s) : ∃ F, C.FP F ∧ G.add p h xs = F.at_ s := by
  obtain ⟨F, f, e⟩ := g
  subst e
  obtain ⟨F', f', e'⟩ := C.add F s p h xs f
  exact ⟨F', f', e'⟩
abbrev Cz.at_ (C : Cz) (s : GS) : Cn := ⟨C.K, C.ec, fun G => ∃ F, C.FP F ∧ G = F.at_ s, C.E0, C.add' s⟩
abbrev DEz := GS → Rho → (GS → PyData → Prop) → (GS → Nat → Prop) → Prop
abbrev DZ := GS → Rho → (GS → Rho → Prop) → (GS → PyData → Prop) → (GS → Nat → Prop) → Prop
abbrev DFz := GS → List PyData → (GS → PyData → Prop) → (GS → Nat → Prop) → Prop
section
variable (C : Cz) (F : Fam) (H : Hp)
def KVz (Q : GS → PyData → Prop) (Q' : VK) : Prop := ∀ v H' x s, ExG F H H' → (F.at_ s).J H' → Rep C.K (F.at_ s) H' v x → Q s x → Q' v H'
def KXz (E : GS → Nat → Prop) : Prop := ∀ c H' s, ExG F H H' → (F.at_ s).J H' → E s c → C.E0 (.ref (C.ec c)) none H'
structure KSz (n : Nat) (nx : GS → Rho → Prop) (rt : GS → PyData → Prop) (D : Ends) : Prop where
  nx : ∀ σ' H' r' s', ExG F H H' → (F.at_ s').J H' → RepS C.K (F.at_ s') H' σ' r' → σ'.length = n → nx s' r' → D.nx σ' H'
  rt : KVz C F H rt D.rt
end
def SimEz (C : Cz) (t : TE) (d : DEz) : Prop := ∀ (F : Fam) (s : GS) (r : Rho) (Q : GS → PyData → Prop) (E : GS → Nat → Prop), C.FP F → d s r Q E → ∀ (σ : L2.St) (H : Hp) (Q' : VK), (F.at_ s).J H → RepS C.K (F.at_ s) H σ r → KVz C F H Q Q' → KXz C F H E → t σ H Q'
def SimZ (C : Cz) (t : TS) (d : DZ) : Prop := ∀ (F : Fam) (s : GS) (r : Rho) (nx : GS → Rho → Prop) (rt : GS → PyData → Prop) (E : GS → Nat → Prop), C.FP F → d s r nx rt E → ∀ (σ : L2.St) (H : Hp) (D : Ends), (F.at_ s).J H → RepS C.K (F.at_ s) H σ r → KSz C F H σ.length nx rt D → KXz C F H E → t D σ H
theorem KXz.mono {C : Cz} {F : Fam} {H H1 : Hp} {E : GS → Nat → Prop} (k : KXz C F H E) (e : ExG F H H1) : KXz C F H1 E := fun c H' s e' j h => k c H' s (e.trans e') j h
theorem KVz.mono {C : Cz} {F : Fam} {H H1 : Hp} {Q : GS → PyData → Prop} {Q' : VK} (k : KVz C F H Q Q') (e : ExG F H H1) : KVz C F H1 Q Q' := fun v H' x s e' j r h => k v H' x s (e.trans e') j r h
theorem KSz.mono {C : Cz} {F : Fam} {H H1 : Hp} {n : Nat} {nx : GS → Rho → Prop} {rt : GS → PyData → Prop} {D : Ends} (k : KSz C F H n nx rt D) (e : ExG F H H1) : KSz C F H1 n nx rt D :=
  ⟨fun σ' H' r' s' e' j r hl h => k.nx σ' H' r' s' (e.trans e') j r hl h, k.rt.mono e⟩
/-! ### between the two levels -/
def zE (d : GS → DE) : DEz := fun s r Q E => d s r (Q s) (E s)
def zS (d : GS → DS) : DZ := fun s r nx rt E => d s r (nx s) (rt s) (E s)
/-- what leaves the state as it was -/
def dK (d : DEz) (s : GS) : DE := fun r Q E => d s r (fun s' x => s' = s ∧ Q x) (fun s' c => s' = s ∧ E c)
section
variable {C : Cz}
theorem kx_at {F : Fam} {H : Hp} {E : GS → Nat → Prop} (k : KXz C F H E) (s : GS) : KX1 (C.at_ s) (F.at_ s) H (E s) := fun c H' e j h => k c H' s ((exF s).mpr e) j h
theorem kv_at {F : Fam} {H : Hp} {Q : GS → PyData → Prop} {Q' : VK} (k : KVz C F H Q Q') (s : GS) : KV1 (C.at_ s) (F.at_ s) H (Q s) Q' := fun v H' x e j r h => k v H' x s ((exF s).mpr e) j r h
theorem ez_keep {t : TE} {d : GS → DE} (h : ∀ s, SimE (C.at_ s) t (d s)) : SimEz C t (zE d) := by
  intro F s r Q E fp q σ H Q' j rs k kx
  exact h s (F.at_ s) r (Q s) (E s) ⟨F, fp, rfl⟩ q σ H Q' j rs (kv_at k s) (kx_at kx s)
theorem s_K {t : TE} {d : DEz} (h : SimEz C t d) (s : GS) : SimE (C.at_ s) t (dK d s) := by
  intro G r Q E gp q σ H Q' j rs k kx
  obtain ⟨F, fp, e⟩ := gp
  subst e
  refine h F s r _ _ fp q σ H Q' j rs (fun v H' x s' e j' r' z => ?_) fun c H' s' e j' z => ?_
  · obtain ⟨es, z⟩ := z
    subst es
    exact k v H' x ((exF s').mp e) j' r' z
  · obtain ⟨es, z⟩ := z
    subst es
    exact kx c H' ((exF s').mp e) j' z
theorem z_lift {t : TS} {d : GS → DS} (h : ∀ s, SimS (C.at_ s) t (d s)) : SimZ C t (zS d) := by
  intro F s r nx rt E fp q σ H D j rs k kx
  exact h s (F.at_ s) r (nx s) (rt s) (E s) ⟨F, fp, rfl⟩ q σ H D j rs ⟨fun σ' H' r' e j' rs' hl z => k.nx σ' H' r' s ((exF s).mpr e) j' rs' hl z, kv_at k.rt s⟩ (kx_at kx s)
/-! ### calls -/
def liftZ (K : PySem.W.Frag) (ec : Nat → Addr) (FP : Fam → Prop) (n : Nat) (f : DFz) : Sp := fun vs H Q' E' => ∃ (F : Fam) (s : GS) (ds : List PyData) (Q : GS → PyData → Prop) (E : GS → Nat → Prop), FP F ∧ (F.at_ s).J H ∧ Reps K (F.at_ s) H vs ds ∧ ds.length = n ∧ f s ds Q E ∧
  (∀ v H' x s', ExG F H H' → (F.at_ s').J H' → Rep K (F.at_ s') H' v x → Q s' x → Q' v H') ∧ ∀ c H' s', ExG F H H' → (F.at_ s').J H' → E s' c → E' (.ref (ec c)) none H'
def zCall (n : Nat) (f : DFz) (a : GS → DA) : DEz := fun s r Q E => a s r (fun ds => ds.length = n ∧ f s ds Q E) (E s)
theorem ez_call {n : Nat} {f : DFz} {FP : Fam → Prop} {ts : TA} {a : GS → DA} (hg : ∀ F, C.FP F → FP F) (hs : ∀ s, SimA (C.at_ s) ts (a s)) : SimEz C (tCallS (liftZ C.K C.ec FP n f) (fun _ => C.E0) ts) (zCall n f a) := by
  intro F s r Q E fp q σ H Q' j rs k kx
  refine hs s (F.at_ s) r _ (E s) ⟨F, fp, rfl⟩ q σ H _ j rs (fun vs H1 xs e1 j1 r1 h1 => ?_) (kx_at kx s)
  have e1 := (exF s).mpr e1
  exact ⟨F, s, xs, Q, E, hg F fp, j1, r1, h1.1, h1.2, k.mono e1, kx.mono e1⟩
/-! ### statements -/
def zSeq (a b : DZ) : DZ := fun s r nx rt E => a s r (fun s' r' => b s' r' nx rt E) rt E
def zIfS (t : GS → DT) (a b : DZ) : DZ := fun s r nx rt E => t s r (fun c => if c = true then a s r nx rt E else b s r nx rt E) (E s)
def zRet (a : DEz) : DZ := fun s r _ rt E => a s r rt E
def zDrop (a : DEz) : DZ := fun s r nx _ E => a s r (fun s' _ => nx s' r) E
def zAsg (a : DEz) (g : DG) : DZ := fun s r nx _ E => a s r (fun s' x => g x r (nx s')) E
def zNext : DZ := fun s r nx _ _ => nx s r
theorem z_next : SimZ C tNext zNext := by
  intro F s r nx rt E fp q σ H D j rs k kx
  exact k.nx σ H r s (ExG.refl F H) j rs rfl q
theorem z_seq {t u : TS} {a b : DZ} (ha : SimZ C t a) (hb : SimZ C u b) : SimZ C (tSeq t u) (zSeq a b) := by
  intro F s r nx rt E fp q σ H D j rs k kx
  refine ha F s r _ rt E fp q σ H _ j rs ⟨fun σ' H' r' s' e1 j1 rs1 hl h1 => ?_, k.rt⟩ kx
  refine hb F s' r' nx rt E fp h1 σ' H' D j1 rs1 ?_ (kx.mono e1)
  rw [hl]
  exact k.mono e1
theorem z_ifS {t : TT} {u w : TS} {c : GS → DT} {a b : DZ} (hc : ∀ s, SimT (C.at_ s) t (c s)) (ha : SimZ C u a) (hb : SimZ C w b) : SimZ C (tIfS t u w) (zIfS c a b) := by
  intro F s r nx rt E fp q σ H D j rs k kx
  refine hc s (F.at_ s) r _ (E s) ⟨F, fp, rfl⟩ q σ H _ j rs (fun c H1 e1 j1 h1 => ?_) (kx_at kx s)
  have e2 := (exF s).mpr e1
  cases c with
  | true => exact ha F s r nx rt E fp h1 σ H1 D j1 (rs.mono e1) (k.mono e2) (kx.mono e2)
  | false => exact hb F s r nx rt E fp h1 σ H1 D j1 (rs.mono e1) (k.mono e2) (kx.mono e2)
theorem z_ret {ta : TE} {a : DEz} (ha : SimEz C ta a) : SimZ C (tRet ta) (zRet a) := by
  intro F s r nx rt E fp q σ H D j rs k kx
  exact ha F s r rt E fp q σ H _ j rs k.rt kx
theorem rs_mono {K : PySem.W.Frag} {F : Fam} {H H1 : Hp} {σ : L2.St} {r : Rho} {s s' : GS} (rs : RepS K (F.at_ s) H σ r) (e : ExG F H H1) : RepS K (F.at_ s') H1 σ r := repSF s s' (rs.mono ((exF s).mp e))
theorem z_drop {ta : TE} {a : DEz} (ha : SimEz C ta a) : SimZ C (tDrop ta) (zDrop a) := by
  intro F s r nx rt E fp q σ H D j rs k kx
  exact ha F s r _ E fp q σ H _ j rs (fun v H1 x s1 e1 j1 r1 h1 => k.nx σ H1 r s1 e1 j1 (rs_mono rs e1) rfl h1) kx
theorem z_asg {ta : TE} {a : DEz} {g : TG} {d : DG} (ha : SimEz C ta a) (hg : ∀ s, SimG (C.at_ s) g d) : SimZ C (tAsg ta g) (zAsg a d) := by
  intro F s r nx rt E fp q σ H D j rs k kx
  refine ha F s r _ E fp q σ H _ j rs (fun v H1 x s1 e1 j1 r1 h1 => ?_) kx
  exact hg s1 (F.at_ s1) r (nx s1) x ⟨F, fp, rfl⟩ h1 v σ H1 _ j1 (rs_mono rs e1) r1 fun σ' r' rs' hl z => k.nx σ' H1 r' s1 e1 j1 rs' hl z
def forZ (g : DG) (b : DZ) (nx : GS → Rho → Prop) (rt : GS → PyData → Prop) (E : GS → Nat → Prop) : List PyData → GS → Rho → Prop
  | [], s, r => nx s r
  | x :: xs, s, r => g x r (fun r' => b s r' (fun s' r'' => forZ g b nx rt E xs s' r'') rt E)
/-- for .. in range(n), n written -/
def zForR (n : Nat) (g : DG) (b : DZ) : DZ := fun s r nx rt E => forZ g b nx rt E (rangeD 0 n) s r
theorem z_forR {n : Nat} (hn : n < 100000) {g : TG} {t : TS} {d : DG} {b : DZ} (hg : ∀ s, SimG (C.at_ s) g d) (hb : SimZ C t b) : SimZ C (tFor (iRng1 (tCons (tC (.int n)) tNil)) g t) (zForR n d b) := by
  intro F s r nx rt E fp h σ H D jj rs k kx
  have hlen : (rangeD 0 n).length = n := by simp [rangeD]
  refine ⟨n, rfl, by omega, by omega, ?_⟩
  have tn : (n : Int).toNat = n := Int.toNat_natCast n
  rw [tn]
  have h : forZ d b nx rt E (rangeD 0 n) s r := h
  refine ⟨fun i m σ' H' => ∃ s' ρ', m = n - i ∧ i ≤ n ∧ ExG F H H' ∧ (F.at_ s').J H' ∧ RepS C.K (F.at_ s') H' σ' ρ' ∧ σ'.length = σ.length ∧ forZ d b nx rt E ((rangeD 0 n).drop i) s' ρ',
    ⟨n, s, r, by simp, Nat.zero_le _, ExG.refl F H, jj, rs, rfl, h⟩, ?_⟩
  rintro i m σ' H' ⟨s', ρ', rfl, hile, e2, j2, rs2, hl2, h2⟩
  have wk := wlk_range (K := C.K) (G := F.at_ s') (H := H') 0 n
  by_cases hlt : i < (rangeD 0 n).length
  · have hd : (rangeD 0 n).drop i = (rangeD 0 n)[i] :: (rangeD 0 n).drop (i + 1) := List.drop_eq_getElem_cons hlt
    rw [hd] at h2
    obtain ⟨hgo, hy⟩ := (wk i H' (Ex.refl _ _) j2).1 (rangeD 0 n)[i] (List.getElem?_eq_getElem hlt)
    refine .inr ⟨hgo, fun σ3 H3 => ∃ s3 ρ3, ExG F H H3 ∧ (F.at_ s3).J H3 ∧ RepS C.K (F.at_ s3) H3 σ3 ρ3 ∧ σ3.length = σ.length ∧ forZ d b nx rt E ((rangeD 0 n).drop (i + 1)) s3 ρ3, ?_, fun x H3 y => ?_⟩
    · rintro σ3 H3 ⟨s3, ρ3, e3, j3, rs3, hl3, h3⟩
      exact ⟨n - (i + 1), by omega, s3, ρ3, rfl, by omega, e3, j3, rs3, hl3, h3⟩
    · obtain ⟨rfl, r3⟩ := hy x H3 y
      refine hg s' (F.at_ s') ρ' _ (rangeD 0 n)[i] ⟨F, fp, rfl⟩ h2 x σ' H3 _ j2 rs2 r3 fun σ4 ρ4 rs4 hl4 h4 => ?_
      refine hb F s' ρ4 _ rt E fp h4 σ4 H3 _ j2 rs4 ⟨fun σ5 H5 r5 s5 e5 j5 rs5 hl5 h5 => ?_, k.rt.mono e2⟩ (kx.mono e2)
      exact ⟨s5, r5, e2.trans e5, j5, rs5, (hl5.trans hl4).trans hl2, h5⟩
  · have hd : (rangeD 0 n).drop i = [] := List.drop_eq_nil_of_le (by omega)
    rw [hd] at h2
    exact .inl ⟨(wk i H' (Ex.refl _ _) j2).2 (by omega), k.nx σ' H' ρ' s' e2 j2 rs2 hl2 h2⟩
end
/-! ### defs -/
def zFn (n : Nat) (b : DZ) : DFz := fun s ds Q E => b s (startR n ds) (fun s' _ => Q s' .none) Q E
section
variable {P : Program} {w : World} {K : PySem.W.Frag} {mg : Str → Option Value} {base : Heap}
/-- a def that keeps its promise by data and state -/
theorem fnz_ok {x q : Str} {st : Stmt} {f : Addr} {fd : FuncData} {N ps : List Str} {k n m : Nat} {ec : Nat → Addr} {FP : Fam → Prop} {hadd : ∀ (F : Fam) (s : GS) (p : Addr) (h : ¬ (F.at_ s).D p) (xs : List V), FP F → ∃ F', FP F' ∧ (F.at_ s).add p h xs = F'.at_ s} {t : XK → TS} {b : DZ}
    (F : Fun K x q st f fd) (S : FnScope N ps (defScope st)) (hn : N.length = n) (hm : ps.length = m) (hle : m ≤ n)
    (der : ∀ (cdv : Value) (A : Around) (outer : List Env) (s : Shared) (H : Hp) (E : XK), Room k (A.deeper (envOfC q (defScope st) s.heap.objs.size f cdv)) → PSs (bcx P w K mg base N q (defScope st) f cdv A outer s H E) (defBody st) (t E))
    (sim : ∀ E : XK, SimZ ⟨K, ec, FP, E, hadd⟩ (t E) b) : FnOk P w K mg base (L2N.CX P w) (k + 1) f fd ps (liftZ K ec FP m (zFn n b)) := by
  obtain ⟨oc, od, kV, doc, pm, an, cdv, ct, osl, rfl, lk, hcd⟩ := F.ex
  refine fn_of lk hcd S (fun vs H Q E h => ?_) (fun A outer s H vs Q E hr h => ?_)
  · obtain ⟨G, s, ds, Q0, E0, gp, j, r, hl, _⟩ := h
    rw [r.len, hl, hm]
  · obtain ⟨G, s0, ds, Q0, E0, gp, j, r, hl, hf, kq, ke⟩ := h
    have hlen := r.len
    refine ⟨t E, der cdv A outer s H E hr, ?_⟩
    have rs : RepS K (G.at_ s0) H (L2.start N vs) (startR n ds) := by
      rw [← hn]
      exact RepS.start r (by omega)
    refine sim E G s0 (startR n ds) (fun s' _ => Q0 s' .none) Q0 E0 gp hf (L2.start N vs) H _ j rs ⟨fun σ' H' r' s' e j' rs' hl' z => ?_, fun v H' x s' e j' rv z => kq v H' x s' e j' rv z⟩ fun c H' s' e j' h => ke c H' s' e j' h
    exact kq .non H' .none s' e j' (.inl .non) z
end
end Tz

/-! Pairs of ints: the least of a list of them; a def that hands out a tuple of its own making. -/
namespace Tz
open PySem PySem.Spec PyProof.Rows L2
abbrev I2 := Int × Int
abbrev plt (p q : I2) : Bool := SrtO.lexB p q
abbrev pD (p : I2) : PyData := .tuple [.int p.1, .int p.2]
theorem plt_lex (p q : I2) : HT.lexLt [p.1, p.2] [q.1, q.2] = plt p q := by
  unfold plt SrtO.lexB
  rw [HT.lexLt_cons]
  by_cases h : p.1 = q.1
  · rw [if_pos h, if_pos h, HT.lexLt_cons]
    by_cases h2 : p.2 = q.2
    · rw [if_pos h2, HT.lexLt_nil_nil, h2]
      exact (decide_eq_false (Int.lt_irrefl _)).symm
    · rw [if_neg h2]
  · rw [if_neg h, if_neg h]
theorem plt_nl (a b c : I2) (h1 : plt a b = false) (h2 : plt b c = false) : plt a c = false := by
  have a1 := SrtO.lexB_no.mp h1
  have a2 := SrtO.lexB_no.mp h2
  refine SrtO.lexB_no.mpr ?_
  omega
theorem plt_asy (a b : I2) (h : plt a b = true) : plt b a = false := by
  have a1 := SrtO.lexB_iff.mp h
  refine SrtO.lexB_no.mpr ?_
  omega
theorem plt_irr (a : I2) : plt a a = false := by
  refine SrtO.lexB_no.mpr ?_
  omega
section
variable {prog : Program} {w : World} {A : Around} {E : Value → Shared → Prop} {s : Shared} {l : Addr}
theorem min_rawP {its : List Value} {bps : List (Addr × I2)} {Q : Value → Shared → Prop} (hh : A.handled = none) (hu : A.units + 1 < cLine) (hl : s.heap.IsList l its.toArray) (hi : its = bps.map fun q => Value.ref q.1)
    (ht : ∀ q ∈ bps, ∃ us, IsTup s.heap q.1 us ∧ IntsAre us.toList [q.2.1, q.2.2]) (hne : bps ≠ [])
    (h : ∀ h' tk q, (∀ b o, s.heap.get? b = some o → h'.get? b = some o) → q ∈ bps → (∀ r ∈ bps, plt r.2 q.2 = false) → Q (.ref q.1) { s with heap := h', toks := tk }) : wpAny (model prog w) A (call (.builtin "min") [.ref l]) Q E s := by
  have hpos := List.length_pos_iff.mpr hne
  have hsz : its.toArray.size = bps.length := by rw [hi]; simp
  have get : ∀ (i : Nat) (v : Value), its.toArray[i]? = some v → ∃ q, bps[i]? = some q ∧ v = .ref q.1 := fun i v hv => by
    have hv : its[i]? = some v := by simpa using hv
    rw [hi, List.getElem?_map] at hv
    cases e : bps[i]? with
    | none => rw [e] at hv; cases hv
    | some q =>
      rw [e] at hv
      exact ⟨q, rfl, (Option.some.inj hv).symm⟩
  have gd : ∀ {i : Nat} {q : Addr × I2}, bps[i]? = some q → bps.getD i default = q := fun {i q} e => by rw [List.getD_eq_getElem?_getD, e] <;> rfl
  refine call_min_walkH (PySem.W.iter_listW (A := A.in1) hh hl fun s₂ e W st hfp hw hk => ?_)
  refine ⟨_, _, _, _, _, _, _, s.heap, fun i j => plt (bps.getD i default).2 (bps.getD j default).2, rfl, W, st, hfp, by omega, hw, hk, fun i j vi vj s3 Q3 E3 k3 h1 h2 q3 => ?_, fun v s' hP m => ?_⟩
  · obtain ⟨a, ea, rfl⟩ := get i vi h1
    obtain ⟨b, eb, rfl⟩ := get j vj h2
    have q3 : Q3 (.bool (plt (bps.getD i default).2 (bps.getD j default).2)) s3 := q3
    rw [gd ea, gd eb, ← plt_lex] at q3
    obtain ⟨us, t1, i1⟩ := ht a (List.mem_of_getElem? ea)
    obtain ⟨vs, t2, i2⟩ := ht b (List.mem_of_getElem? eb)
    have kp : ∀ {x : Addr} {us : Array Value}, IsTup s.heap x us → IsTup s3.heap x us := fun t => by
      obtain ⟨o, ho, r⟩ := t
      exact ⟨o, k3 _ _ ho, r⟩
    exact HT.lt_tupInts (A := A.in1) (kp t1) (kp t2) i1 i2 hu q3
  · obtain ⟨h', tk, rfl, hk'⟩ := PySem.W.moved_old e rfl m
    obtain ⟨q, eq, rfl⟩ := get _ v hP
    have hP : its.toArray[argBest (fun i j => plt (bps.getD i default).2 (bps.getD j default).2) (its.toArray.size - 1)]? = some (.ref q.1) := hP
    obtain ⟨b1, b2⟩ := argBest_of (fun a b : I2 => plt a b) plt_nl plt_asy plt_irr (fun i => (bps.getD i default).2) (its.toArray.size - 1)
    refine h h' tk q hk' (List.mem_of_getElem? eq) fun r hr => ?_
    obtain ⟨j, hj, rfl⟩ := List.getElem_of_mem hr
    have := b2 j (by omega)
    rw [gd eq, gd (List.getElem?_eq_getElem hj)] at this
    exact this
end
/-- the least of a list of pairs -/
def rMinP (K : PySem.W.Frag) : List V → Hp → VK → Prop := fun vs H Q => ∃ (a : Addr) (bps : List (Addr × I2)), vs = [V.ref a] ∧ SqL K H a (bps.map fun q => V.ref q.1) ∧ (∀ q ∈ bps, SqT K H q.1 [.int q.2.1, .int q.2.2]) ∧ bps ≠ [] ∧
  ∀ q ∈ bps, (∀ r ∈ bps, plt r.2 q.2 = false) → Q (.ref q.1) H
theorem vals_rf : ∀ {bps : List (Addr × I2)} {us : List Value}, Vals (bps.map fun q => V.ref q.1) us → us = bps.map fun q => Value.ref q.1
  | [], _, .nil => rfl
  | _ :: _, _, .cons r t => by
    cases r
    rw [vals_rf t] <;> rfl
theorem cr_minP {X : Cx} (hc : X.calm = true) (hu : X.A.units + 1 < cLine) : CallR X (.builtin "min") (rMinP X.K) := by
  intro pins s σ H vs us Q I r h
  obtain ⟨a, bps, rfl, hs, ht, hne, q⟩ := h
  obtain ⟨its, rv, hl, _⟩ := I.list hs
  rw [Vals.ref1 r]
  refine min_rawP (I.ok.hd hc) hu hl.isList (vals_rf rv) (fun q hq => ?_) hne fun h' tk p hk hp hm => ⟨.ref p.1, H, I.kept hk, rfl, q p hp hm⟩
  obtain ⟨us, rs, ts, _⟩ := I.tuple (ht q hq)
  refine ⟨us.toArray, ts, ?_⟩
  have : Vals ([q.2.1, q.2.2].map V.int) us := rs
  simpa using this.ints
def asPair : PyData → Option I2
  | .tuple [.int x, .int y] => some (x, y)
  | _ => none
def asPairs : List PyData → Option (List I2)
  | [] => some []
  | x :: xs => match asPair x, asPairs xs with
    | some p, some ps => some (p :: ps)
    | _, _ => none
theorem asPair_eq {x : PyData} {p : I2} (h : asPair x = some p) : x = pD p := by
  unfold asPair at h
  split at h
  · cases h
    rfl
  · cases h
theorem asPairs_eq : ∀ {xs : List PyData} {ps : List I2}, asPairs xs = some ps → xs = ps.map pD
  | [], ps, h => by cases h; rfl
  | x :: xs, ps, h => by
    unfold asPairs at h
    split at h
    · rename_i p qs e1 e2
      cases h
      rw [asPair_eq e1, asPairs_eq e2]
      rfl
    · cases h
theorem asPairs_map : ∀ ps : List I2, asPairs (ps.map pD) = some ps
  | [] => rfl
  | p :: ps => by
    show (match asPair (pD p), asPairs (ps.map pD) with
      | some p, some ps => some (p :: ps)
      | _, _ => none) = _
    rw [asPairs_map ps]
    rfl
theorem dq_pair {K : PySem.W.Frag} {H : Hp} {v : V} {p : I2} (h : Dq K H v (pD p)) : ∃ b, v = .ref b ∧ SqT K H b [.int p.1, .int p.2] := by
  cases h with
  | tup a b =>
    cases b with
    | cons c d =>
      cases c
      cases d with
      | cons c d =>
        cases c
        cases d
        exact ⟨_, rfl, a⟩
theorem dq_pairs {K : PySem.W.Frag} {H : Hp} : ∀ {ps : List I2} {vs : List V}, DqAll K H vs (ps.map pD) → ∃ bps : List (Addr × I2), vs = bps.map (fun q => V.ref q.1) ∧ bps.map (·.2) = ps ∧ ∀ q ∈ bps, SqT K H q.1 [.int q.2.1, .int q.2.2]
  | [], _, h => by
    cases h
    exact ⟨[], rfl, rfl, fun q hq => nomatch hq⟩
  | p :: ps, _, h => by
    cases h with
    | cons a b =>
      obtain ⟨bps, rfl, e, hs⟩ := dq_pairs b
      obtain ⟨t, rfl, ht⟩ := dq_pair a
      refine ⟨(t, p) :: bps, rfl, by rw [List.map_cons, e], fun q hq => ?_⟩
      rcases List.mem_cons.mp hq with z | z
      · rw [z]; exact ht
      · exact hs q z
theorem dq_ofPair {K : PySem.W.Frag} {H : Hp} {b : Addr} {p : I2} (h : SqT K H b [.int p.1, .int p.2]) : Dq K H (.ref b) (pD p) := .tup h (.cons (.int _) (.cons (.int _) .nil))
def oMinP : List PyData → (PyData → Prop) → Prop := fun ds Q => match ds with
  | [.list xs] => onS (asPairs xs) fun ps => ps ≠ [] ∧ ∀ m, m ∈ ps → (∀ y ∈ ps, plt y m = false) → Q (pD m)
  | _ => False
/-- a pair that stands on the heap -/
def Trk (H : Hp) (v : V) (d : PyData) : Prop := ∃ b p, v = .ref b ∧ d = pD p ∧ H b = some (.tup [.int p.1, .int p.2])
theorem Trk.mono {G : Hid} {H H' : Hp} {v : V} {d : PyData} (j : G.J H) (e : Ex G H H') (h : Trk H v d) : Trk H' v d := by
  obtain ⟨b, p, rfl, rfl, hb⟩ := h
  exact ⟨b, p, rfl, rfl, e b _ (fun d => G.ntup j d hb) nt_tup hb⟩
def TrkA (H : Hp) : List V → List PyData → Prop
  | [], [] => True
  | v :: vs, d :: ds => Trk H v d ∧ TrkA H vs ds
  | _, _ => False
theorem TrkA.imp {H H' : Hp} (h : ∀ v d, Trk H v d → Trk H' v d) : ∀ {vs : List V} {ds : List PyData}, TrkA H vs ds → TrkA H' vs ds
  | [], [], _ => trivial
  | _ :: _, _ :: _, q => ⟨h _ _ q.1, TrkA.imp h q.2⟩
  | [], _ :: _, q => q.elim
  | _ :: _, [], q => q.elim
theorem TrkA.snoc {H : Hp} : ∀ {vs : List V} {ds : List PyData} {v : V} {d : PyData}, TrkA H vs ds → Trk H v d → TrkA H (vs ++ [v]) (ds ++ [d])
  | [], [], _, _, _, h => ⟨h, trivial⟩
  | _ :: _, _ :: _, _, _, q, h => ⟨q.1, TrkA.snoc q.2 h⟩
  | [], _ :: _, _, _, q, _ => q.elim
  | _ :: _, [], _, _, q, _ => q.elim
theorem TrkA.at_ {H : Hp} : ∀ {bps : List (Addr × I2)}, TrkA H (bps.map fun q => V.ref q.1) ((bps.map (·.2)).map pD) → ∀ q ∈ bps, Trk H (.ref q.1) (pD q.2)
  | _ :: _, h, q, hq => by
    rcases List.mem_cons.mp hq with z | z
    · rw [z]; exact h.1
    · exact TrkA.at_ h.2 q z
section
variable (C : Cn) (G : Hid) (H : Hp)
def KVt (Q : PyData → Prop) (Q' : VK) : Prop := ∀ v H' x, Ex G H H' → G.J H' → Rep C.K G H' v x → Trk H' v x → Q x → Q' v H'
def KLt (Q : PyData → Prop) (Q' : VK) : Prop := ∀ a vs H' xs, Ex G H H' → G.J H' → H' a = some (.lst vs) → TrkA H' vs xs → Rep C.K G H' (.ref a) (.list xs) → Q (.list xs) → Q' (.ref a) H'
end
def SimTr (C : Cn) (t : TE) (d : DE) : Prop := ∀ (G : Hid) (r : Rho) (Q : PyData → Prop) (E : Nat → Prop), C.GP G → d r Q E → ∀ (σ : L2.St) (H : Hp) (Q' : VK), G.J H → RepS C.K G H σ r → KVt C G H Q Q' → KX1 C G H E → t σ H Q'
def SimLt (C : Cn) (t : TE) (d : DE) : Prop := ∀ (G : Hid) (r : Rho) (Q : PyData → Prop) (E : Nat → Prop), C.GP G → d r Q E → ∀ (σ : L2.St) (H : Hp) (Q' : VK), G.J H → RepS C.K G H σ r → KLt C G H Q Q' → KX1 C G H E → t σ H Q'
section
variable {C : Cn}
theorem s_ofT {t : TE} {d : DE} (h : SimTr C t d) : SimE C t d := fun G r Q E gp q σ H Q' j rs k kx => h G r Q E gp q σ H Q' j rs (fun v H' x e j' r' _ z => k v H' x e j' r' z) kx
def dTup2 (s : DA) : DE := fun r Q E => s r (fun xs => ∃ p : I2, xs = [.int p.1, .int p.2] ∧ Q (pD p)) E
theorem st_tup {ts : TA} {s : DA} (hs : SimA C ts s) : SimTr C (tTup ts) (dTup2 s) := by
  intro G ρ Q E gp h σ H Q' j rs k kx
  refine hs G ρ _ E gp h σ H _ j rs (fun vs H1 xs e1 j1 r1 h1 => ?_) kx
  obtain ⟨q2, rfl, q⟩ := h1
  refine ⟨by rw [r1.len]; show 2 ≤ sizeLine; decide, fun p np => ?_⟩
  obtain ⟨e2, j2, r2⟩ := new_tup j1 np r1 rfl
  have ev : vs = [.int q2.1, .int q2.2] := by
    match vs, r1 with
    | [a, b], r1 => rw [rep_int r1.1, rep_int r1.2.1]
    | [], r1 => exact r1.elim
    | [_], r1 => exact r1.2.elim
    | _ :: _ :: _ :: _, r1 => exact r1.2.2.elim
  exact k _ _ _ (e1.trans e2) j2 r2 ⟨p, q2, rfl, rfl, by rw [ev]; exact upd_same⟩ q
theorem st_lc {wi : TI} {g : TG} {tt : TT} {te : TE} {vs : List Nat} {di : DI} {d : DG} {t : DT} {e : DE} (hi : SimI C wi di) (hgi : GIn g vs) (hg : SimG C.no g d) (ht : SimT C.no tt t) (he : SimTr C.no te e) : SimLt C (tLc wi g tt te vs) (dLc di d t e vs) := by
  intro G ρ Q E gp h σ H Q' jj rs k kx
  refine hi G ρ _ E gp h σ H _ jj rs (fun J H1 xs e1 j1 wk h1 => ?_) kx
  intro p np
  obtain ⟨hlen, h1⟩ := h1
  have nd : ¬ G.D p := fun z => G.live j1 z np
  have e0 : Ex G H1 (upd H1 p (.lst [])) := (Ex.new (o := .lst []) j1 np).1
  refine ⟨fun i m H' => ∃ (acc : List V) (ds : List PyData), m = xs.length - i ∧ i ≤ xs.length ∧ Ex G H1 H' ∧ (G.add p nd acc).J H' ∧ acc.length ≤ i ∧ Reps C.K (G.add p nd acc) H' acc ds ∧ plains ds = true ∧ TrkA H' acc ds ∧ lcL d t e (drps ρ vs) (fun ys => Q (.list ys)) (xs.drop i) ds,
    ⟨xs.length, [], [], by simp, Nat.zero_le _, e0, Hid.add_new j1 np, Nat.le_refl _, trivial, rfl, trivial, h1⟩, ?_⟩
  rintro i m H' ⟨acc, ds, rfl, hile, e2, j2, hal, ra, pl, tr, h2⟩
  have gp' : C.no.GP (G.add p nd acc) := C.add G p nd acc gp
  have rs2 : RepS C.K (G.add p nd acc) H' (wipe σ vs) (drps ρ vs) := by
    refine ⟨by rw [drps_len, wipe_length]; exact rs.1, fun i d z => ?_⟩
    obtain ⟨v, x, y⟩ := ((rs.mono e1).wipe vs).2 i d z
    exact ⟨v, x, rep_in np e2 y⟩
  by_cases hlt : i < xs.length
  · have hd : xs.drop i = xs[i] :: xs.drop (i + 1) := List.drop_eq_getElem_cons hlt
    rw [hd] at h2
    obtain ⟨hgo, hy⟩ := (wk i H' e2 (Hid.add_J j2)).1 xs[i] (List.getElem?_eq_getElem hlt)
    refine .inr ⟨hgo, fun H3 => ∃ (acc : List V) (ds : List PyData), Ex G H1 H3 ∧ (G.add p nd acc).J H3 ∧ acc.length ≤ i + 1 ∧ Reps C.K (G.add p nd acc) H3 acc ds ∧ plains ds = true ∧ TrkA H3 acc ds ∧ lcL d t e (drps ρ vs) (fun ys => Q (.list ys)) (xs.drop (i + 1)) ds, ?_, fun x H3 y => ?_⟩
    · rintro H3 ⟨acc, ds, e3, j3, hal3, ra3, pl3, tr3, h3⟩
      exact ⟨xs.length - (i + 1), by omega, acc, ds, rfl, hlt, e3, j3, hal3, ra3, pl3, tr3, h3⟩
    · obtain ⟨rfl, r3⟩ := hy x H3 y
      have r3' : Rep C.K (G.add p nd acc) H3 x xs[i] := rep_in np e2 r3
      refine hgi x σ H3 _ ?_
      refine hg (G.add p nd acc) (drps ρ vs) _ xs[i] gp' h2 x (wipe σ vs) H3 _ j2 rs2 r3' fun σ4 ρ4 rs4 hl4 h4 => ?_
      have grow : ∀ {H5 : Hp}, Ex (G.add p nd acc) H3 H5 → Ex G H1 H5 := fun {H5} e5 a o na ta ha => by
        have ne : a ≠ p := ne_of_none ha np
        exact e5 a o (fun z => z.elim na ne) ta (e2 a o na ta ha)
      refine ht (G.add p nd acc) ρ4 _ _ gp' h4 σ4 H3 _ j2 rs4 (fun b H5 e5 j5 h5 => ?_) (fun c H5 _ _ z => z.elim)
      have tr5 : TrkA H5 acc ds := tr.imp fun v d z => z.mono j2 e5
      cases b with
      | false => exact ⟨acc, ds, grow e5, j5, by omega, ra.mono e5, pl, tr5, h5⟩
      | true =>
        refine he (G.add p nd acc) ρ4 _ _ gp' h5 σ4 H5 _ j5 (rs4.mono e5) (fun v H6 z e6 j6 r6 t6 h6 => ?_) (fun c H6 _ _ z => z.elim)
        have ra6 := (ra.mono e5).mono e6
        refine ⟨acc, j6.1, Nat.lt_of_le_of_lt (Nat.le_trans hal hile) (Nat.lt_of_le_of_lt hlen (by decide)), acc ++ [v], ds ++ [z], fun a o na ta ha => ?_, Hid.add_upd j6, ?_, reps_upd (reps_snoc ra6 r6), plains_snoc pl h6.1, ?_, h6.2⟩
        · have ne : a ≠ p := ne_of_none ha np
          rw [upd_ne ne]
          exact grow (e5.trans e6) a o na ta ha
        · rw [List.length_append]
          show acc.length + 1 ≤ i + 1
          omega
        · refine TrkA.imp (fun u d z => ?_) ((tr5.imp fun v d z => z.mono j5 e6).snoc t6)
          obtain ⟨b, q, rfl, rfl, hb⟩ := z
          refine ⟨b, q, rfl, rfl, ?_⟩
          rw [upd_ne (ne_of hb j6.1 fun z => nomatch z)]
          exact hb
  · have hd : xs.drop i = [] := List.drop_eq_nil_of_le (by omega)
    rw [hd] at h2
    refine .inl ⟨(wk i H' e2 (Hid.add_J j2)).2 (by omega), ?_⟩
    exact k p acc H' _ (e1.trans e2) (Hid.add_J j2) j2.1 tr (.inl (.lst (vis_of nd nt_lst j2.1) ((reps_out ra).dp pl))) h2
theorem st_min {ta : TE} {a : DE} (ha : SimLt C ta a) : SimTr C (tCB (rMinP C.K) (tCons ta tNil)) (dCB oMinP (dCons a dNil)) := by
  intro G ρ Q E gp h σ H Q' j rs k kx
  refine ha G ρ _ E gp h σ H _ j rs (fun p vs H1 xs e1 j1 hp tr r1 h1 => ?_) kx
  have h1 : oMinP [.list xs] Q := h1
  obtain ⟨ps, e, hn, q⟩ := onS_some (show onS (asPairs xs) _ from h1)
  rw [asPairs_eq e] at r1 tr
  obtain ⟨p', zs, ep, hp', nd, hd⟩ := rep_lst r1
  cases ep
  have ez : zs = vs := by
    rw [hp] at hp'
    cases hp'
    rfl
  subst ez
  obtain ⟨bps, rfl, e2, hs⟩ := dq_pairs hd
  subst e2
  refine ⟨p, bps, rfl, SqL.of hp', fun q hq => Same.seqT vis_same (hs q hq), fun z => hn (by rw [z]; rfl), fun q' hq' hm => ?_⟩
  refine k (.ref q'.1) H1 (pD q'.2) e1 j1 (.inl (dq_ofPair (hs q' hq'))) (TrkA.at_ tr q' hq') (q _ (List.mem_map.mpr ⟨q', hq', rfl⟩) fun y hy => ?_)
  obtain ⟨z, hz, rfl⟩ := List.mem_map.mp hy
  exact hm z hz
theorem s_minP : SimC C (rMinP C.K) oMinP := by
  intro G xs ds Q H Q' gp j r h k
  match ds, r, h with
  | [.list ys], r, h =>
    obtain ⟨v, rfl, rv⟩ := reps1 r
    obtain ⟨ps, e, hn, q⟩ := onS_some (show onS (asPairs ys) _ from h)
    rw [asPairs_eq e] at rv
    obtain ⟨p', zs, rfl, hp', nd, hd⟩ := rep_lst rv
    obtain ⟨bps, rfl, e2, hs⟩ := dq_pairs hd
    subst e2
    refine ⟨p', bps, rfl, SqL.of hp', fun q hq => Same.seqT vis_same (hs q hq), fun z => hn (by rw [z]; rfl), fun q' hq' hm => ?_⟩
    refine k (.ref q'.1) H (pD q'.2) (Ex.refl G H) j (.inl (dq_ofPair (hs q' hq'))) (q _ (List.mem_map.mpr ⟨q', hq', rfl⟩) fun y hy => ?_)
    obtain ⟨z, hz, rfl⟩ := List.mem_map.mp hy
    exact hm z hz
end
/-- a def's promise by data, its result a tuple on the heap -/
def liftT (K : PySem.W.Frag) (ec : Nat → Addr) (GP : Hid → Prop) (n : Nat) (f : DF) : Sp := fun vs H Q' E' => ∃ (G : Hid) (ds : List PyData) (Q : PyData → Prop) (E : Nat → Prop), GP G ∧ G.J H ∧ Reps K G H vs ds ∧ ds.length = n ∧ f ds Q E ∧
  (∀ v H' x, Ex G H H' → G.J H' → Rep K G H' v x → Trk H' v x → Q x → Q' v H') ∧ ∀ c H', Ex G H H' → G.J H' → E c → E' (.ref (ec c)) none H'
theorem st_call {C : Cn} {n : Nat} {f : DF} {GP : Hid → Prop} {ts : TA} {s : DA} (hg : ∀ G, C.GP G → GP G) (hs : SimA C ts s) : SimTr C (tCallS (liftT C.K C.ec GP n f) (fun _ => C.E0) ts) (dCall n f s) := by
  intro G ρ Q E gp h σ H Q' j rs k kx
  refine hs G ρ _ E gp h σ H _ j rs (fun vs H1 xs e1 j1 r1 h1 => ?_) kx
  exact ⟨G, xs, Q, E, hg G gp, j1, r1, h1.1, h1.2, fun v H' x e j' r t q => k v H' x (e1.trans e) j' r t q, kx.mono e1⟩
section
variable {P : Program} {w : World} {K : PySem.W.Frag} {mg : Str → Option Value} {base : Heap}
/-- a def whose body returns such a tuple -/
theorem dfn_ofT {x : Str} {st : Stmt} {N ps : List Str} {k n m : Nat} {ec : Nat → Addr} {GP : Hid → Prop} {hadd : ∀ (G : Hid) (p : Addr) (h : ¬ G.D p) (xs : List V), GP G → GP (G.add p h xs)} {t : XK → TE} {b : DE}
    (D : Def0 K mg x st) (S : FnScope N ps (defScope st)) (hn : N.length = n) (hm : ps.length = m) (hle : m ≤ n)
    (hb : ∀ (kV doc pm : Value) (an : Option Addr) (cdv ct : Value) (us : List Value), us.length = ps.length → bindArgs (PySem.W.fnOf x x (defArgs st) (defBody st) (defScope st) .none kV doc pm an cdv ct) ⟨us, []⟩ = pure (ps.zip us))
    (der : ∀ (f : Addr) (cdv : Value) (A : Around) (outer : List Env) (s : Shared) (H : Hp) (E : XK), Room k (A.deeper (envOfC x (defScope st) s.heap.objs.size f cdv)) → PSs (bcx P w K mg base N x (defScope st) f cdv A outer s H E) (defBody st) (tRet (t E)))
    (sim : ∀ E : XK, SimTr ⟨K, ec, GP, E, hadd⟩ (t E) b) : Dfn P w K mg base (k + 1) x ps (liftT K ec GP m (dFn n (dRet b))) := by
  obtain ⟨f, fd, F, hg⟩ := D
  have hbn := F.binds (ps := ps) hb
  refine ⟨f, fd, ?_, hg, F.kp, hbn⟩
  obtain ⟨oc, od, kV, doc, pm, an, cdv, ct, osl, rfl, lk, hcd⟩ := F.ex
  refine fn_of lk hcd S (fun vs H Q E h => ?_) (fun A outer s H vs Q E hr h => ?_)
  · obtain ⟨G, ds, Q0, E0, gp, j, r, hl, _⟩ := h
    rw [r.len, hl, hm]
  · obtain ⟨G, ds, Q0, E0, gp, j, r, hl, hf, kq, ke⟩ := h
    have hlen := r.len
    refine ⟨tRet (t E), der f cdv A outer s H E hr, ?_⟩
    have rs : RepS K G H (L2.start N vs) (startR n ds) := by
      rw [← hn]
      exact RepS.start r (by omega)
    exact sim E G (startR n ds) Q0 E0 gp hf (L2.start N vs) H _ j rs (fun v H' x e j' rv tv q => kq v H' x e j' rv tv q) fun c H' e j' h => ke c H' e j' h
/-- the same without that -/
theorem dfn_un {x : Str} {ps : List Str} {k n : Nat} {ec : Nat → Addr} {GP : Hid → Prop} {f : DF} (D : Dfn P w K mg base k x ps (liftT K ec GP n f)) : Dfn P w K mg base k x ps (lift K ec GP n f) := by
  obtain ⟨a, fd, F, r⟩ := D
  refine ⟨a, fd, F.imp fun vs H Q E h => ?_, r⟩
  obtain ⟨G, ds, Q0, E0, gp, j, rr, hl, hf, kq, ke⟩ := h
  exact ⟨G, ds, Q0, E0, gp, j, rr, hl, hf, fun v H' x e j' rv _ q => kq v H' x e j' rv q, ke⟩
end
end Tz

/-! A table whose keys are pairs of ints: it is hidden, the state is the list of its keys. -/
namespace Tz
open PySem PySem.Spec PyProof.Rows L2
/-- the table: a stand-in datum that no object represents -/
abbrev dctD : PyData := .dict [(.none, .none)]
def unP : PyData → I2
  | .tuple [.int x, .int y] => (x, y)
  | _ => (0, 0)
def psOf (s : GS) : List I2 := s.map unP
theorem psOf_map (ps : List I2) : psOf (ps.map pD) = ps := by
  unfold psOf
  rw [List.map_map]
  exact List.map_id _
def keyP (p : I2) : List L2.Key := [Sum.inl p.1, Sum.inl p.2]
theorem keyP_inj {p q : I2} (h : keyP p = keyP q) : p = q := by
  unfold keyP at h
  injection h with h1 h2
  injection h2 with h2 h3
  injection h1 with h1
  injection h2 with h2
  exact Prod.ext h1 h2
theorem keyP_V (p : I2) : (keyP p).map kV = [.int p.1, .int p.2] := rfl
def putP (ps : List I2) (p : I2) : List I2 := if p ∈ ps then ps else ps ++ [p]
theorem putK_keys {kvs : List (List L2.Key × V)} {ps : List I2} {p : I2} {v : V} (h : kvs.map (·.1) = ps.map keyP) : (putK kvs (keyP p) v).map (·.1) = (putP ps p).map keyP := by
  have hm : (kvs.any fun kv => decide (kv.1 = keyP p)) = true ↔ p ∈ ps := by
    rw [List.any_eq_true]
    constructor
    · rintro ⟨kv, hk, e⟩
      have e : kv.1 = keyP p := of_decide_eq_true e
      have : keyP p ∈ ps.map keyP := by rw [← h, ← e]; exact List.mem_map.mpr ⟨kv, hk, rfl⟩
      obtain ⟨q, hq, eq⟩ := List.mem_map.mp this
      rw [← keyP_inj eq]
      exact hq
    · intro hp
      have : keyP p ∈ kvs.map (·.1) := by rw [h]; exact List.mem_map.mpr ⟨p, hp, rfl⟩
      obtain ⟨kv, hk, e⟩ := List.mem_map.mp this
      exact ⟨kv, hk, decide_eq_true e⟩
  unfold putK putP
  by_cases c : p ∈ ps
  · rw [if_pos (hm.mpr c), if_pos c, ← h, List.map_map]
    refine List.map_congr_left fun kv _ => ?_
    show (if kv.1 = keyP p then (kv.1, v) else kv).1 = kv.1
    split <;> rfl
  · rw [if_neg (fun z => c (hm.mp z)), if_neg c, List.map_append, List.map_append, h] <;> rfl
def DctF (F : Fam) : Prop := ∀ v : V, F.isO dctD v → ∃ p, v = .ref p ∧ F.D p ∧
  (∀ s H, (F.at_ s).J H → ∃ kvs, H p = some (.dT kvs) ∧ kvs.map (·.1) = (psOf s).map keyP) ∧
  ∀ s H kvs s', (F.at_ s).J H → kvs.map (·.1) = (psOf s').map keyP → (F.at_ s').J (upd H p (.dT kvs))
theorem dct_is {K : PySem.W.Frag} {F : Fam} {s : GS} {H : Hp} {v : V} (r : Rep K (F.at_ s) H v dctD) : F.isO dctD v := by
  rcases r with r | r
  · cases r
  · have := r.2
    rw [F.hI s] at this
    exact this
/-! ### the family of a new table -/
def dctFam (G : Hid) (p : Addr) (hp : ¬ G.D p) (s : GS) : Hid where
  D := fun a => G.D a ∨ a = p
  J := fun H => (∃ kvs, H p = some (.dT kvs) ∧ kvs.map (·.1) = (psOf s).map keyP) ∧ G.J (era p H)
  live := by
    rintro H a ⟨⟨kvs, e, _⟩, j⟩ (d | d)
    · have ne : a ≠ p := fun z => hp (by rw [← z]; exact d)
      have := G.live j d
      rw [era_ne ne] at this
      exact this
    · rw [d, e]
      exact fun z => nomatch z
  ntup := by
    rintro H a ys ⟨⟨kvs, e, _⟩, j⟩ (d | d)
    · have ne : a ≠ p := fun z => hp (by rw [← z]; exact d)
      have := G.ntup (xs := ys) j d
      rw [era_ne ne] at this
      exact this
    · rw [d, e]
      exact fun z => nomatch z
  keep := by
    rintro H H' ⟨⟨kvs, e, dq⟩, j⟩ hd hx
    refine ⟨⟨kvs, by rw [hd p (.inr rfl)]; exact e, dq⟩, G.keep j (fun a d => ?_) fun a o nd nt ha => ?_⟩
    · have ne : a ≠ p := fun z => hp (by rw [← z]; exact d)
      rw [era_ne ne, era_ne ne]
      exact hd a (.inl d)
    · obtain ⟨ne, ha⟩ := era_some ha
      rw [era_ne ne]
      exact hx a o (fun z => z.elim nd ne) nt ha
  isO := fun d v => (d = dctD ∧ v = .ref p) ∨ (d ≠ dctD ∧ G.isO d v)
  T := G.T
  tab := by
    rintro H ⟨_, j⟩
    exact (G.tab j).ext fun b o e => (era_some e).2
  tabs := by
    rintro H H' ⟨⟨kvs, e, dq⟩, j⟩ hx ht
    have e' : H' p = some (.dT kvs) := hx p _ e fun ps z => nomatch z
    refine ⟨⟨kvs, e', dq⟩, G.tabs j (fun b o hb no => ?_) fun q hq => ?_⟩
    · obtain ⟨ne, hb⟩ := era_some hb
      rw [era_ne ne]
      exact hx b o hb no
    · obtain ⟨ps, h1, h2, h3⟩ := ht q hq
      have ne : q.1 ≠ p := ne_of h1 e' fun z => nomatch z
      refine ⟨ps, by rw [era_ne ne]; exact h1, h2, fun pos cv hc => ?_⟩
      obtain ⟨c, e1, e2⟩ := h3 pos cv hc
      have ne2 : c ≠ p := ne_of e2 e' fun z => by
        unfold LamX.CodeO at z
        cases z
      exact ⟨c, e1, by rw [era_ne ne2]; exact e2⟩
def dctOf (G : Hid) (p : Addr) (hp : ¬ G.D p) : Fam := ⟨dctFam G p hp, fun a => G.D a ∨ a = p, fun d v => (d = dctD ∧ v = .ref p) ∨ (d ≠ dctD ∧ G.isO d v), fun _ => rfl, fun _ => rfl⟩
theorem dctOf_dct {G : Hid} {p : Addr} {hp : ¬ G.D p} : DctF (dctOf G p hp) := by
  intro v hv
  rcases hv with ⟨_, rfl⟩ | ⟨z, _⟩
  · refine ⟨p, rfl, .inr rfl, fun s H j => j.1, fun s H kvs s' j dq => ⟨⟨kvs, upd_same, dq⟩, ?_⟩⟩
    rw [era_upd]
    exact j.2
  · exact absurd rfl z
/-- one more that is hidden beside the family -/
def Fam.addL (F : Fam) (p : Addr) (hp : ¬ F.D p) (xs : List V) : Fam :=
  ⟨fun s => (F.at_ s).add p (by rw [F.hD s]; exact hp) xs, fun a => F.D a ∨ a = p, F.isO, fun s => by show (fun a => (F.at_ s).D a ∨ a = p) = _; rw [F.hD s], fun s => F.hI s⟩
theorem era_updN {p q : Addr} {H : Hp} {o : HO} (ne : q ≠ p) : era p (upd H q o) = upd (era p H) q o := by
  funext a
  by_cases h : a = p
  · rw [h, era_self, upd_ne (Ne.symm ne), era_self]
  · rw [era_ne h]
    by_cases h' : a = q
    · rw [h', upd_same, upd_same]
    · rw [upd_ne h', upd_ne h', era_ne h]
theorem addL_dct {F : Fam} {p : Addr} {hp : ¬ F.D p} {xs : List V} (h : DctF F) : DctF (F.addL p hp xs) := by
  intro v hv
  obtain ⟨q, rfl, dq, rd, wr⟩ := h v hv
  have ne : q ≠ p := fun z => hp (by rw [← z]; exact dq)
  refine ⟨q, rfl, .inl dq, fun s H j => ?_, fun s H kvs s' j z => ?_⟩
  · obtain ⟨kvs, e, z⟩ := rd s _ j.2
    rw [era_ne ne] at e
    exact ⟨kvs, e, z⟩
  · refine ⟨by rw [upd_ne (Ne.symm ne)]; exact j.1, ?_⟩
    rw [era_updN ne]
    exact wr s _ kvs s' j.2 z
theorem addDct : ∀ (F : Fam) (s : GS) (p : Addr) (h : ¬ (F.at_ s).D p) (xs : List V), DctF F → ∃ F', DctF F' ∧ (F.at_ s).add p h xs = F'.at_ s := fun F s p h xs f => by
  have hp : ¬ F.D p := by
    rw [← F.hD s]
    exact h
  exact ⟨F.addL p hp xs, addL_dct f, rfl⟩
/-! ### what is done with it -/
def zDput (i : Nat) (dk : GS → DE) : DZ := fun s r nx _ E => look r i = some dctD ∧ s.length ≤ 10000 ∧ dk s r (fun d => ∃ p, d = pD p ∧ nx ((putP (psOf s) p).map pD) r) (E s)
section
variable {C : Cz}
theorem z_dput {i : Nat} {ty : TE} {dk : GS → DE} (hF : ∀ F, C.FP F → DctF F) (hk : ∀ s, SimTr (C.at_ s) ty (dk s)) : SimZ C (sDPut (tVar i) ty (tC (.bl true))) (zDput i dk) := by
  intro F s r nx rt E fp q σ H D j rs k kx
  obtain ⟨hi, hl, q⟩ := q
  obtain ⟨v, hv, rv⟩ := rs.2 i _ hi
  obtain ⟨p, rfl, dp, rd, wr⟩ := hF F fp v (dct_is rv)
  refine ⟨_, hv, ?_⟩
  refine hk s (F.at_ s) r _ (E s) ⟨F, fp, rfl⟩ q σ H _ j rs (fun y H1 d e1 j1 r1 t1 h1 => ?_) (kx_at kx s)
  obtain ⟨kp, rfl, h1⟩ := h1
  have g1 := (exF s).mpr e1
  obtain ⟨kvs, hkv, ek⟩ := rd s H1 j1
  obtain ⟨b, kp', rfl, ep, hb⟩ := t1
  have ep : kp' = kp := by
    injection ep with ep
    injection ep with e1 ep
    injection ep with e2 ep
    injection e1 with e1
    injection e2 with e2
    exact (Prod.ext e1 e2).symm
  subst ep
  have hlen : kvs.length < sizeLine := by
    have := congrArg List.length ek
    rw [List.length_map, List.length_map] at this
    unfold psOf at this
    rw [List.length_map] at this
    exact Nat.lt_of_le_of_lt (by omega : kvs.length ≤ 10000) (by decide)
  refine ⟨p, _, rfl, DPut.t (k := keyP kp') hkv (by rw [keyP_V]; exact hb) hlen, ?_⟩
  have j2 := wr s H1 (putK kvs (keyP kp') (.bl true)) ((putP (psOf s) kp').map pD) j1 (by rw [psOf_map]; exact putK_keys ek)
  have g2 : ExG F H1 (upd H1 p (.dT (putK kvs (keyP kp') (.bl true)))) := fun a o n t h => by
    rw [upd_ne fun z => n (by rw [z]; exact dp)]
    exact h
  exact k.nx σ _ r _ (g1.trans g2) j2 (rs_mono (rs_mono (s' := s) rs g1) g2) rfl h1
/-- for .. in range(a) -/
def zForV (a : GS → DE) (g : DG) (b : DZ) : DZ := fun s r nx rt E => a s r (fun x => match x with
  | .int j => (0 ≤ j ∧ j < 100000) ∧ forZ g b nx rt E (rangeD 0 j.toNat) s r
  | _ => False) (E s)
theorem z_forV {ta : TE} {a : GS → DE} {g : TG} {t : TS} {d : DG} {b : DZ} (ha : ∀ s, SimE (C.at_ s) ta (a s)) (hg : ∀ s, SimG (C.at_ s) g d) (hb : SimZ C t b) : SimZ C (tFor (iRng1 (tCons ta tNil)) g t) (zForV a d b) := by
  intro F s r nx rt E fp h σ H D jj rs k kx
  refine ha s (F.at_ s) r _ (E s) ⟨F, fp, rfl⟩ h σ H _ jj rs (fun v H1 x e1 j1 r1 h1 => ?_) (kx_at kx s)
  have g1 := (exF s).mpr e1
  match x, r1, h1 with
  | .int j, r1, h1 =>
    have rv := rep_int r1
    subst rv
    obtain ⟨n, rfl⟩ : ∃ n : Nat, j = (n : Int) := ⟨j.toNat, by omega⟩
    have hn : n < 100000 := by omega
    have tn : (n : Int).toNat = n := Int.toNat_natCast n
    refine z_forR (C := C) hn hg hb F s r nx rt E fp ?_ σ H1 D j1 (rs.mono e1) (k.mono g1) (kx.mono g1)
    have h2 := h1.2
    rw [tn] at h2
    exact h2
  | .none, _, h1 => exact h1.elim
  | .bool _, _, h1 => exact h1.elim
  | .str _, _, h1 => exact h1.elim
  | .list _, _, h1 => exact h1.elim
  | .tuple _, _, h1 => exact h1.elim
  | .dict _, _, h1 => exact h1.elim
end
/-! ### the table is made; what is done with it at last -/
def noDct : Option PyData → Bool
  | some (.dict _) => false
  | _ => true
def dctFree (r : Rho) : Bool := r.all noDct
theorem look_nd : ∀ {r : Rho} {i : Nat} {d : PyData}, dctFree r = true → look r i = some d → plain d = true
  | [], _, _, _, h => by cases h
  | x :: r, 0, d, hp, h => by
    have hp : (noDct x && dctFree r) = true := hp
    rw [Bool.and_eq_true] at hp
    have h : x = some d := h
    subst h
    cases d <;> first | rfl | exact nomatch hp.1
  | x :: r, i + 1, d, hp, h => by
    have hp : (noDct x && dctFree r) = true := hp
    rw [Bool.and_eq_true] at hp
    exact look_nd (r := r) (i := i) hp.2 h
def dDct (i : Nat) (rest : DZ) : DS := fun r _ rt E => dctFree r = true ∧ rest [] (put r i dctD) (fun _ _ => False) (fun _ x => plain x = true ∧ rt x) (fun _ c => E c)
theorem s_dct {C : Cn} {i : Nat} {tr : TS} {rest : DZ} (hr : SimZ ⟨C.K, C.ec, DctF, C.E0, addDct⟩ tr rest) :
    SimS C (tSeq (tAsg tDNewT (gName i)) tr) (dDct i rest) := by
  intro G ρ nx rt E gp h σ H D j rs k kx
  obtain ⟨hf, h⟩ := h
  intro p np
  have nd : ¬ G.D p := fun z => G.live j z np
  have j1 : ((dctOf G p nd).at_ []).J (upd H p (.dT [])) := ⟨⟨[], upd_same, rfl⟩, by rw [era_upd, era_none np]; exact j⟩
  have ex1 : Ex G H (upd H p (.dT [])) := (Ex.new (o := .dT []) j np).1
  have bk : ∀ {s : GS} {H' : Hp}, ExG (dctOf G p nd) (upd H p (.dT [])) H' → ((dctOf G p nd).at_ s).J H' → Ex G H H' ∧ G.J H' := fun {s H'} g js => by
    refine ⟨fun a o n t z => ?_, G.keep js.2 (fun a da => ?_) fun a o _ _ z => (era_some z).2⟩
    · have na : a ≠ p := ne_of_none z np
      exact g a o (fun w => w.elim n na) t (ex1 a o n t z)
    · have na : a ≠ p := fun w => nd (by rw [← w]; exact da)
      rw [era_ne na]
  have rs1 : RepS C.K ((dctOf G p nd).at_ []) (upd H p (.dT [])) (σ.set i (some (.ref p))) (put ρ i dctD) := by
    refine RepS.put ?_ (.inr ⟨rfl, .inl ⟨rfl, rfl⟩⟩)
    refine ⟨rs.1, fun i d q => ?_⟩
    obtain ⟨v, a, b⟩ := rs.2 i d q
    refine ⟨v, a, .inl (dq_same (fun c o z => ?_) d v (b.dp (look_nd hf q)))⟩
    obtain ⟨n, t, w⟩ := vis_some z
    have na : c ≠ p := ne_of_none w np
    refine vis_of (fun y => y.elim n na) t ?_
    rw [upd_ne na]
    exact w
  refine hr (dctOf G p nd) [] _ _ _ _ dctOf_dct h _ _ _ j1 rs1 ⟨fun _ _ _ _ _ _ _ _ z => z.elim, fun v H' x s' g' j' rv z => ?_⟩ fun c H' s' g' j' z => ?_
  · obtain ⟨e2, j2⟩ := bk g' j'
    refine k.rt v H' x e2 j2 (.inl (dq_same (fun c o w => ?_) x v (rv.dp z.1))) z.2
    obtain ⟨n, t, w⟩ := vis_some w
    exact vis_of (fun y => n (.inl y)) t w
  · obtain ⟨e2, j2⟩ := bk g' j'
    exact kx c H' e2 j2 z
def rListT : List V → Hp → VK → Prop := fun xs H Q => ∃ d kvs, xs = [V.ref d] ∧ L2.Rd H d (.dT kvs) ∧ ∀ p bs, H p = none → IsKeys H kvs bs → Q (.ref p) (upd H p (.lst (bs.map V.ref)))
theorem cr_listT {X : Cx} (hc : X.calm = true) : CallR X (.type "list") rListT := call_list_dT hc
/-- which pair stands where -/
def prAt (H : Hp) : V → I2
  | .ref b => match H b with
    | some (.tup [.int x, .int y]) => (x, y)
    | _ => (0, 0)
  | _ => (0, 0)
theorem prAt_of {H : Hp} {b : Addr} {p : I2} (h : H b = some (.tup [.int p.1, .int p.2])) : prAt H (.ref b) = p := by
  show (match H b with
    | some (.tup [.int x, .int y]) => (x, y)
    | _ => (0, 0)) = p
  rw [h]
theorem prKeys {H : Hp} : ∀ {kvs : List (List L2.Key × V)} {bs : List Addr} {ps : List I2}, IsKeys H kvs bs → kvs.map (·.1) = ps.map keyP → (∀ b ∈ bs, ∃ p : I2, H b = some (.tup [.int p.1, .int p.2])) ∧ (bs.map V.ref).map (prAt H) = ps
  | _, _, [], .nil, _ => ⟨fun b hb => (nomatch hb), rfl⟩
  | _, _, _ :: _, .nil, h => by cases h
  | _, _, [], .cons _ _, h => by cases h
  | _, _, p :: ps, .cons (a := kv) (b := b) hb r, h => by
    rw [List.map_cons, List.map_cons] at h
    injection h with h1 h2
    obtain ⟨a1, a2⟩ := prKeys r h2
    rw [h1, keyP_V] at hb
    refine ⟨fun c hc => ?_, ?_⟩
    · rcases List.mem_cons.mp hc with z | z
      · rw [z]; exact ⟨p, hb⟩
      · exact a1 c z
    · rw [List.map_cons, List.map_cons, prAt_of hb, a2]
theorem dq_prs {K : PySem.W.Frag} {H H' : Hp} : ∀ {ys : List V}, (∀ y ∈ ys, ∃ b, ∃ p : I2, y = V.ref b ∧ H b = some (.tup [.int p.1, .int p.2]) ∧ H' b = some (.tup [.int p.1, .int p.2])) → DqAll K H' ys ((ys.map (prAt H)).map pD)
  | [], _ => .nil
  | y :: ys, h => by
    obtain ⟨b, p, rfl, hb, hb'⟩ := h y List.mem_cons_self
    refine .cons ?_ (dq_prs fun z hz => h z (List.mem_cons_of_mem _ hz))
    rw [prAt_of hb]
    exact dq_ofPair (.inl (.inl hb'))
def zEnd (i : Nat) : DZ := fun s r _ rt _ => look r i = some dctD ∧ ∀ ps : List I2, ps.Perm (psOf s) → ps.Pairwise (fun p q => plt q p = false) → rt s (.tuple (ps.map pD))
section
variable {C : Cz}
theorem z_end {i : Nat} (hF : ∀ F, C.FP F → DctF F) : SimZ C (tRet (tCB (rTupleU C.K) (tCons (tCB (rSortedPO C.K) (tCons (tCB rListT (tCons (tVar i) tNil)) tNil)) tNil))) (zEnd i) := by
  intro F s r nx rt E fp q σ H D j rs k kx
  obtain ⟨hi, q⟩ := q
  obtain ⟨v, hv, rv⟩ := rs.2 i _ hi
  obtain ⟨p, rfl, dp, rd, wr⟩ := hF F fp v (dct_is rv)
  obtain ⟨kvs, hkv, ek⟩ := rd s H j
  refine ⟨_, hv, p, kvs, rfl, .inl hkv, fun p1 bs n1 ik => ?_⟩
  obtain ⟨ik1, ik2⟩ := prKeys ik ek
  obtain ⟨e1, j1, nd1⟩ := Ex.new (o := .lst (bs.map V.ref)) j n1
  have up : ∀ {H : Hp} {q b : Addr} {o o' : HO}, H q = none → H b = some o → upd H q o' b = some o := fun {H q b o o'} n h => by
    rw [upd_ne (ne_of_none h n)]
    exact h
  have pr1 : ∀ b ∈ bs, prAt (upd H p1 (.lst (bs.map V.ref))) (.ref b) = prAt H (.ref b) := fun b hb => by
    obtain ⟨x, hx⟩ := ik1 b hb
    rw [prAt_of hx, prAt_of (up n1 hx)]
  refine ⟨p1, bs.map V.ref, prAt (upd H p1 (.lst (bs.map V.ref))), rfl, SqL.of upd_same, fun x hx => ?_, fun ys p2 h1 h2 n2 => ?_⟩
  · obtain ⟨b, hb, rfl⟩ := List.mem_map.mp hx
    obtain ⟨y, hy⟩ := ik1 b hb
    refine ⟨b, rfl, ?_⟩
    rw [prAt_of (up n1 hy)]
    exact up n1 hy
  obtain ⟨e2, j2, nd2⟩ := Ex.new (o := .lst ys) j1 n2
  refine ⟨p2, ys, rfl, .inl ⟨SqL.of upd_same, fun p3 n3 => ?_⟩⟩
  obtain ⟨e3, j3, nd3⟩ := Ex.new (o := .tup ys) j2 n3
  have mem : ∀ y ∈ ys, ∃ b, ∃ x : I2, y = V.ref b ∧ b ∈ bs ∧ H b = some (.tup [.int x.1, .int x.2]) := fun y hy => by
    obtain ⟨b, hb, rfl⟩ := List.mem_map.mp (h2.perm.mem_iff.mp hy)
    obtain ⟨x, hx⟩ := ik1 b hb
    exact ⟨b, x, rfl, hb, hx⟩
  have eqm : ys.map (prAt (upd H p1 (.lst (bs.map V.ref)))) = ys.map (prAt H) := List.map_congr_left fun y hy => by
    obtain ⟨b, x, rfl, hb, hx⟩ := mem y hy
    exact pr1 b hb
  have g := (exF s).mpr (e1.trans (e2.trans e3))
  refine k.rt (.ref p3) _ (.tuple ((ys.map (prAt H)).map pD)) s g j3 (.inl (.tup (.inl (.inl (vis_of nd3 nt_tup upd_same))) (dq_prs (H := H) fun y hy => ?_))) (q _ ?_ ?_)
  · obtain ⟨b, x, rfl, hb, hx⟩ := mem y hy
    have hx3 := up (o' := .tup ys) n3 (up (o' := .lst ys) n2 (up (o' := .lst (bs.map V.ref)) n1 hx))
    exact ⟨b, x, rfl, hx, vis_of (fun d => (F.at_ s).ntup j3 d hx3) nt_tup hx3⟩
  · rw [← ik2]
    exact h2.perm.map _
  · rw [← eqm]
    exact List.pairwise_map.mpr h1
end
end Tz

/-! A set of at most 75 tuples of ints whose hashes all differ: made of a tuple, and sorted. -/
namespace Tz
open PySem PySem.Spec PyProof.Rows L2
abbrev Kz := Addr × List Int
section
variable {P : Program} {w : World} {A : Around} {E : Value → Shared → Prop} {s : Shared}
abbrev hz (P : Program) (w : World) (L : List Kz) : List Int := L.map fun q => thash P w q.2
theorem hz_perm {L N : List Kz} (h : L.Perm N) : (hz P w L).Perm (hz P w N) := List.Perm.map (fun q : Kz => thash P w q.2) h
theorem hz_cons {L : List Kz} {q : Kz} : hz P w (q :: L) = thash P w q.2 :: hz P w L := List.map_cons ..
structure Big (P : Program) (w : World) (hp : Heap) (S : Addr) (L : List Kz) (rs : Array (Int × Value)) (en : Nat) (tb : SetTable) : Prop where
  at_ : ∃ x, hp.get? S = some x ∧ x.ExactSet ∧ x.data = .set rs en tb
  rw_ : rs.toList = rowsOf P w L
  tb_ : TabOk tb (hz P w L)
  df : (hz P w L).Nodup
  is_ : ∀ q ∈ L, IsT P w hp q.2 q.1
  pl : tb.plain = true
  ld : w.params.followText "set-order" = true ∨ tb.led = true
  rm : L.length * 5 < tb.mask * 3
variable {S : Addr} {L : List Kz} {rs : Array (Int × Value)} {en : Nat} {tb : SetTable}
theorem Big.len {hp : Heap} (B : Big P w hp S L rs en tb) : rs.size = L.length := by
  rw [← Array.length_toList, B.rw_]
  exact List.length_map _
theorem Big.fit {hp : Heap} (B : Big P w hp S L rs en tb) : tb.fits rs.size = true := by
  have a1 : tb.place.size = L.length := B.tb_.sz.trans (List.length_map _)
  have a2 := B.rm
  have a3 := B.len
  unfold SetTable.fits SetTable.fill
  rw [B.tb_.dm, Bool.and_eq_true, beq_iff_eq, decide_eq_true_eq]
  refine ⟨by omega, ?_⟩
  show tb.place.size + 0 ≤ tb.mask
  omega
theorem Big.whole {hp : Heap} (B : Big P w hp S L rs en tb) : ¬ tb.gaveWay = true := by
  have a := mask_odd B.tb_.mok
  unfold SetTable.gaveWay
  rw [a]
  exact fun z => nomatch z
theorem Big.hash {hp : Heap} (B : Big P w hp S L rs en tb) {i : Nat} (hi : i < L.length) : ((rs[i]?.map (·.1)).getD 0) ∈ hz P w L := by
  have e : rs[i]? = some (thash P w L[i].2, Value.ref L[i].1) := by
    rw [← Array.getElem?_toList, B.rw_]
    unfold rowsOf
    rw [List.getElem?_map, List.getElem?_eq_getElem hi] <;> rfl
  rw [e]
  exact List.mem_map.mpr ⟨L[i], List.getElem_mem hi, rfl⟩
/-- who has a hash of his own finds a free place -/
theorem Big.seek (B : Big P w s.heap S L rs en tb) {x : Addr} {k : List Int} (hk : thash P w k ∉ hz P w L) {Q : SetFound → Shared → Prop}
    (q : ∀ c, way tb.mask (thash P w k) c ∉ tb.place.toList → (∀ d, d < c → way tb.mask (thash P w k) d ∈ tb.place.toList) → Q (.free (way tb.mask (thash P w k) c) false) s) :
    wpAny (model P w) A (setSearch S (.ref x) (thash P w k) true) Q E s := by
  have rm := B.rm
  obtain ⟨c, c1, c2, c3⟩ := B.tb_.first (by rw [List.length_map]; omega) (thash P w k)
  obtain ⟨o, o1, o2, o3⟩ := B.at_
  unfold setSearch
  have hf : (100000 : Nat) = 99999 + 1 := rfl
  rw [hf, setSearchFrom_succ]
  refine wpAny_bind (wpAny_setState_of o1 o3 B.fit ?_)
  dsimp only
  refine wp_if_neg B.whole ?_
  try refine wpAny_bind (wpAny_pure ?_)
  rcases go_spec tb B.tb_.ris B.tb_.dm (fun i => (rs[i]?.map (·.1)).getD 0) (thash P w k) (10 * SetTable.turns tb.mask) c (runAt tb.mask (SetTable.bits (thash P w k) % (tb.mask + 1)) (SetTable.bits (thash P w k))) rfl c1 c3 c2 with ⟨d, i, d1, d2, d3, _⟩ | ⟨_, d⟩
  · refine absurd (B.hash (i := i) ?_) (by rw [show (rs[i]?.map (·.1)).getD 0 = thash P w k from d3]; exact hk)
    have a1 : tb.place.size = L.length := B.tb_.sz.trans (List.length_map _)
    have a2 := (List.getElem?_eq_some_iff.mp d2).1
    rw [Array.length_toList] at a2
    omega
  · have d : tb.probe (fun i => (rs[i]?.map (·.1)).getD 0) (thash P w k) ((none : Option SetTable.Probe).getD (tb.probeStart (thash P w k))) = some (.empty (way tb.mask (thash P w k) c) none) := d
    rw [d]
    dsimp only
    exact wpAny_pure (q c c2 c3)
theorem Big.of_tr {hp : Heap} (R : SetTR P w hp S L rs en tb) (df : (hz P w L).Nodup) : Big P w hp S L rs en tb := ⟨R.ob, R.rows, R.tab, df, R.tup, R.plain, R.led, R.room⟩
/-- one is added -/
theorem Big.put (B : Big P w s.heap S L rs en tb) {x : Addr} {k : List Int} (hx : IsT P w s.heap k x) (hk : thash P w k ∉ hz P w L) (h75 : L.length + 1 ≤ 75) {Q : Bool → Shared → Prop}
    (q : ∀ b h' L' rs' en' tb', Heap.SameBut S s.heap h' → Big P w h' S L' rs' en' tb' → L'.Perm ((x, k) :: L) → Q b { s with heap := h' }) :
    wpAny (model P w) A (setAddHashed S (.ref x) (thash P w k)) Q E s := by
  have z1 := B.len
  have z2 := B.rm
  obtain ⟨o, o1, o2, o3⟩ := B.at_
  unfold setAddHashed
  refine wpAny_holding ?_
  have hf : (100000 : Nat) = 99999 + 1 := rfl
  rw [hf, setAddHashedIn_succ]
  refine wpAny_bind (wpAny_setState_of o1 o3 B.fit ?_)
  dsimp only
  refine wp_if_neg (fun z => by simp [byScan, Value.scannable] at z) ?_
  try refine wpAny_bind (wpAny_pure ?_)
  refine wpAny_bind (B.seek hk fun c c1 c2 => ?_)
  dsimp only
  refine wpAny_bind (wpAny_setState_of o1 o3 B.fit ?_)
  dsimp only
  obtain ⟨p1, p2, p3, p4, p5, p6, p7, p8, p9⟩ := B.tb_.put c1 c2
  have p0 : (tb.put (way tb.mask (thash P w k) c)).1.plain = true := p6.trans B.pl
  generalize tb.put (way tb.mask (thash P w k) c) = nt at p1 p3 p4 p5 p6 p7 p8 p9 p0 ⊢
  obtain ⟨tn, at_⟩ := nt
  dsimp only at p1 p3 p4 p5 p6 p7 p8 p9 p0 ⊢
  subst p1
  first
    | (refine wpAny_bind ?_; refine wp_if_pos p0 ?_; refine hashBy_tup hx ?_)
    | refine wp_if_pos p0 (wpAny_bind (hashBy_tup hx ?_))
  rw [if_pos rfl]
  generalize SetTable.below tb.place (way tb.mask (thash P w k) c) = n at p2 p3 ⊢
  have r1 : (SetTable.insertAt rs n (thash P w k, Value.ref x)).toList = rowsOf P w (L.take n ++ (x, k) :: L.drop n) := by
    rw [SetTable.toList_insertAt, rows_put, B.rw_]
  have pm : (L.take n ++ (x, k) :: L.drop n).Perm ((x, k) :: L) := put_perm L n (x, k)
  have r2 : hz P w (L.take n ++ (x, k) :: L.drop n) = (hz P w L).take n ++ thash P w k :: (hz P w L).drop n := by
    unfold hz
    rw [List.map_append, List.map_cons, List.map_take, List.map_drop]
  have p3 : TabOk tn (hz P w (L.take n ++ (x, k) :: L.drop n)) := by rw [r2]; exact p3
  generalize L.take n ++ (x, k) :: L.drop n = N at r1 pm p3
  have ln : N.length = L.length + 1 := pm.length_eq
  have df : (hz P w N).Nodup := by
    rw [(hz_perm pm).nodup_iff, hz_cons, List.nodup_cons]
    exact ⟨hk, B.df⟩
  generalize SetTable.insertAt rs n (thash P w k, Value.ref x) = rn at r1 ⊢
  have lr : rn.size = L.length + 1 := by
    have e := congrArg List.length r1
    unfold rowsOf at e
    rw [Array.length_toList, List.length_map] at e
    exact e.trans ln
  refine wpAny_bind (wpAny_storeSet_of o1 o3 ?_ (by rw [lr, sizeLine_eq]; omega))
  have sm : Heap.SameBut S s.heap (s.heap.update S (Obj.putSet rn tn)) := Heap.SameBut.update ..
  have on := store_at (es' := rn) (t' := tn) o1 o3
  generalize s.heap.update S (Obj.putSet rn tn) = hn at sm on ⊢
  have iT : ∀ y ∈ N, IsT P w hn y.2 y.1 := fun y hy => by
    rcases List.mem_cons.mp (pm.mem_iff.mp hy) with z | z
    · rw [z]
      exact isT_same hx o1 o3 sm
    · exact isT_same (B.is_ y z) o1 o3 sm
  have lN : w.params.followText "set-order" = true ∨ tn.led = true := p5.symm ▸ B.ld
  have full : tn.tooFull = true ↔ (L.length + 1) * 5 ≥ tb.mask * 3 := by
    unfold SetTable.tooFull
    rw [decide_eq_true_eq, p9, p4, List.length_map]
  by_cases tf : tn.tooFull = true
  · first
      | (refine wpAny_bind ?_; refine wp_if_pos (by simp [tf]) ?_)
      | (refine wp_if_pos (by simp [tf]) ?_; refine wpAny_bind ?_)
    have f2 := full.mp tf
    rw [z1]
    have two : (tb.mask = 7 ∧ L.length = 4) ∨ (tb.mask = 31 ∧ L.length = 18) := by
      rcases B.tb_.mok with e | e | e <;> rw [e] at f2 z2
      · exact .inl ⟨e, by omega⟩
      · exact .inr ⟨e, by omega⟩
      · omega
    have sz : tn.place.size = rn.size := p3.sz.trans ((List.length_map _).trans (ln.trans lr.symm))
    have nd : (N.map (·.2)).Nodup := by
      refine L2.nodup_of_map (f := thash P w) ?_
      rw [List.map_map]
      exact df
    have wide : ∀ M, SetTable.sizeAbove (SetTable.grown (L.length + 1)) - 1 = M → MaskOk M → SetTable.sizeAbove (SetTable.grown (L.length + 1)) ≤ 128 → N.length * 5 < M * 3 → N.length < 64 → rn.size ≤ tn.mask →
        wpAny (model P w) A (setRelay S (SetTable.grown (L.length + 1))) (fun _ s' => wpAny (model P w) A (pure true) Q E s') E { s with heap := hn } := fun M m1 m2 m3 m4 m5 m6 => by
      refine relay_at (s := { s with heap := hn }) on ⟨o2.1, o2.2.1, o2.2.2⟩ rfl r1 sz p3.dm m6 nd iT p0 lN m5 m1 m2 m3 m4 fun h2 L2 rs2 en2 tb2 sm2 R2 pm2 => ?_
      have df2 : (hz P w L2).Nodup := by
        rw [(hz_perm pm2).nodup_iff]
        exact df
      exact wpAny_pure (q true h2 L2 rs2 en2 tb2 (sm.trans sm2) (Big.of_tr R2 df2) (pm2.trans pm))
    rcases two with ⟨e1, e2⟩ | ⟨e1, e2⟩
    · exact wide 31 (by rw [e2, size_20]) (.inr (.inl rfl)) (by rw [e2, size_20]; decide) (by omega) (by omega) (by rw [lr, p4]; omega)
    · exact wide 127 (by rw [e2, size_76]) (.inr (.inr rfl)) (by rw [e2, size_76]; decide) (by omega) (by omega) (by rw [lr, p4]; omega)
  · first
      | refine wp_if_neg (by simp [tf]) ?_
      | (refine wpAny_bind ?_; refine wp_if_neg (by simp [tf]) ?_; refine wpAny_pure ?_)
    have f2 : ¬ (L.length + 1) * 5 ≥ tb.mask * 3 := fun z => tf (full.mpr z)
    refine wpAny_pure (q true hn N rn (en + 1) tn sm ⟨⟨_, on, ⟨o2.1, o2.2.1, o2.2.2⟩, rfl⟩, r1, p3, df, iT, p0, lN, ?_⟩ pm)
    rw [ln, p4]
    omega
end
end Tz

/-! set(t), t a tuple of such tuples; sorted of that set. -/
namespace Tz
open PySem PySem.Spec PyProof.Rows L2
section
variable {P : Program} {w : World} {A : Around} {E : Value → Shared → Prop} {s : Shared}
theorem Big.stay {h1 h2 : Heap} {S : Addr} {L : List Kz} {rs : Array (Int × Value)} {en : Nat} {tb : SetTable} (B : Big P w h1 S L rs en tb) (a : ∀ o, h1.get? S = some o → h2.get? S = some o) (b : ∀ q ∈ L, IsT P w h2 q.2 q.1) : Big P w h2 S L rs en tb := by
  obtain ⟨o, e, r⟩ := B.at_
  exact ⟨⟨o, a o e, r⟩, B.rw_, B.tb_, B.df, b, B.pl, B.ld, B.rm⟩
/-- an empty set, as it is made -/
abbrev emptyS (w : World) : Obj := { cls := .type "set", dict := none, data := .set #[] 0 (.fresh 0 0 (!w.params.followText "set-order")) }
theorem Big.none_ {hp : Heap} {S : Addr} (h : hp.get? S = some (emptyS w)) : Big P w hp S [] #[] 0 (.fresh 0 0 (!w.params.followText "set-order")) := Big.of_tr (setTR_fresh h) List.nodup_nil
theorem loop_set {I : Addr} {fp wr : List Addr} {G : Array GenState → Array GenState → Prop} {n : Nat} {Pv : Nat → Value → Prop} {St : Nat → Shared → Prop} {R : Result → Shared → Prop}
    (W : WalksS P w A.in1 I fp wr G n Pv St) (S : Addr) (nS : S ∉ fp) (ks : List Kz) (hn : n = ks.length) (h75 : ks.length ≤ 75) (df : (hz P w ks).Nodup) (val : ∀ i v, Pv i v → ∃ q, ks[i]? = some q ∧ v = .ref q.1)
    (h0 : Heap) (hk : ∀ q ∈ ks, IsT P w h0 q.2 q.1) (S0 : h0.get? S = none) (w0 : ∀ b ∈ wr, h0.get? b = none) (hu : A.in1.units < cLine) :
    ∀ (k i : Nat) (s : Shared), i + k = n → St i s → (∀ b o, h0.get? b = some o → s.heap.get? b = some o) → (∃ L rs en tb, Big P w s.heap S L rs en tb ∧ L.Perm (ks.take i)) →
      (∀ s' L rs en tb, Moved (S :: wr) G s s' → Big P w s'.heap S L rs en tb → L.Perm ks → (∀ b o, h0.get? b = some o → s'.heap.get? b = some o) → R (.ok (.ret .none)) s') →
      codeAny (model P w) A (.builtin "set.update.loop" ⟨[.ref S, .ref I], []⟩) R s := by
  have nw : S ∉ wr := fun z => nS (W.sub _ z)
  have up : ∀ b ∈ wr, b ∈ S :: wr := fun b hb => List.mem_cons_of_mem _ hb
  have old : ∀ {s s' : Shared}, Moved wr G s s' → (∀ b o, h0.get? b = some o → s.heap.get? b = some o) → ∀ b o, h0.get? b = some o → s'.heap.get? b = some o := fun mv kp b o e =>
    mv.heap b o (fun z => by rw [w0 b z] at e; exact nomatch e) (kp b o e)
  intro k
  induction k with
  | zero =>
    intro i s ik st kp hL fin
    obtain ⟨L, rs, en, tb, B, pm⟩ := hL
    have ei : i = n := ik
    subst ei
    refine codeAny_builtin PyProof.Rows.F.entry_set_update_loop ?_
    rw [Around.under_plainId PyProof.Rows.F.plain_set_update_loop _]
    refine wpAny_bind (m := pyNext (.ref I)) (W.done s _ _ st fun s' mv => ?_)
    have kp' := old mv kp
    rw [hn, List.take_length] at pm
    refine wpAny_pure (fin s' L rs en tb (mv.mono up) (B.stay (fun o e => mv.heap S o nw e) fun q hq => ?_) pm kp')
    exact isT_keep (hk q (pm.mem_iff.mp hq)) kp'
  | succ k ih =>
    intro i s ik st kp hL fin
    obtain ⟨L, rs, en, tb, B, pm⟩ := hL
    have il : i < n := by omega
    refine codeAny_builtin PyProof.Rows.F.entry_set_update_loop ?_
    rw [Around.under_plainId PyProof.Rows.F.plain_set_update_loop _]
    refine wpAny_bind (m := pyNext (.ref I)) (W.item i s _ _ il st fun v s' pv st' mv => ?_)
    obtain ⟨q, eq, rfl⟩ := val i v pv
    have kp' := old mv kp
    have B' : Big P w s'.heap S L rs en tb := B.stay (fun o e => mv.heap S o nw e) fun y hy => isT_keep (hk y (List.mem_of_mem_take (pm.mem_iff.mp hy))) kp'
    have hx : IsT P w s'.heap q.2 q.1 := isT_keep (hk q (List.mem_of_getElem? eq)) kp'
    have et : ks.take (i + 1) = ks.take i ++ [q] := by rw [List.take_succ, eq] <;> rfl
    have nh : thash P w q.2 ∉ hz P w L := fun z => by
      rw [(hz_perm pm).mem_iff] at z
      have d1 : (hz P w (ks.take (i + 1))).Nodup := by
        have : hz P w (ks.take (i + 1)) = (hz P w ks).take (i + 1) := List.map_take ..
        rw [this]
        exact df.sublist (List.take_sublist ..)
      rw [et, (hz_perm (List.perm_append_singleton q (ks.take i))).nodup_iff, hz_cons, List.nodup_cons] at d1
      exact d1.1 z
    have ll : L.length = i := by rw [pm.length_eq, List.length_take]; omega
    refine wpAny_bind (m := holding [Value.ref q.1] (setAdd S (.ref q.1))) (wpAny_holding ?_)
    unfold setAdd
    refine wpAny_holding (wpAny_bind (wpAny_pyHash_tuple hu hx ?_))
    refine Big.put (s := { s' with toks := s'.toks + (q.2.length + 1) }) B' hx nh (by omega) fun b h' L' rs' en' tb' sm B2 pm2 => ?_
    have kp2 : ∀ b o, h0.get? b = some o → h'.get? b = some o := fun b o e => by
      refine (sm.2 b fun z => ?_).trans (kp' b o e)
      rw [z, S0] at e
      exact nomatch e
    have pm3 : L'.Perm (ks.take (i + 1)) := by
      rw [et]
      exact pm2.trans ((pm.cons q).trans (List.perm_append_singleton q (ks.take i)).symm)
    refine wpAny_pure ⟨plainId_quiet PyProof.Rows.F.plain_set_update_loop _, ih (i + 1) _ (by omega) (W.frame _ s' _ _ st' (Nat.le_add_right _ _) fun b hb o e => ?_) kp2 ⟨L', rs', en', tb', B2, pm3⟩ fun s2 L2 rs2 en2 tb2 mv2 C pc kp3 => ?_⟩
    · rw [sm.2 b fun z => nS (z ▸ hb)]
      exact e
    · refine fin s2 L2 rs2 en2 tb2 (Moved.trans W.gtrans ((mv.mono up).then_heap (Nat.le_add_right _ _) fun b o hb e => ?_) mv2) C pc kp3
      rw [sm.2 b fun z => hb (z ▸ List.mem_cons_self)]
      exact e
end
end Tz

/-! set(t) and sorted(set(t)) as rules. -/
namespace Tz
open PySem PySem.Spec PyProof.Rows L2
section
variable {P : Program} {w : World} {A : Around} {E : Value → Shared → Prop} {s : Shared}
/-- the update of the new set at S from the tuple l -/
theorem fill_set {S l : Addr} {its : Array Value} {ks : List Kz} {R : Result → Shared → Prop} (h0 : Heap) (hh : A.in1.handled = none) (hS : s.heap.get? S = some (emptyS w)) (hl : s.heap.IsTuple l its) (e : its.toList = ks.map fun q => Value.ref q.1) (h75 : ks.length ≤ 75) (df : (hz P w ks).Nodup)
    (kp : ∀ b o, h0.get? b = some o → s.heap.get? b = some o) (S0 : h0.get? S = none) (big : ∀ b o, h0.get? b = some o → b < s.heap.objs.size) (hk : ∀ q ∈ ks, IsT P w h0 q.2 q.1) (hu : A.in1.units < cLine)
    (q : ∀ h' tk L rs en tb, Big P w h' S L rs en tb → L.Perm ks → (∀ b o, h0.get? b = some o → h'.get? b = some o) → R (.ok (.ret .none)) { s with heap := h', toks := tk }) :
    codeAny (model P w) A (.builtin "set.update.loop" ⟨[.ref S, .ref s.heap.objs.size], []⟩) R { s with heap := s.heap.push { cls := .type "tuple_iterator", data := .fields #[.ref l, .int 0 0] } } := by
  have ll : l < s.heap.objs.size := by
    obtain ⟨_, z, _⟩ := hl
    exact Heap.lt_size z
  have sl : S < s.heap.objs.size := Heap.lt_size hS
  have nl : l ≠ s.heap.objs.size := Nat.ne_of_lt ll
  have lS : l ≠ S := fun z => by
    obtain ⟨o, z1, z2, _⟩ := hl
    rw [z, hS] at z1
    cases z1
    exact absurd (Value.type.inj z2) (by decide)
  have nS : S ∉ [s.heap.objs.size, l] := fun z => by
    rcases List.mem_cons.mp z with z | z
    · exact absurd z (Nat.ne_of_lt sl)
    · exact lS (List.mem_singleton.mp z).symm
  have sz : its.size = ks.length := by
    rw [← Array.length_toList, e, List.length_map]
  refine loop_set (P := P) (w := w) (A := A) (Walks.tuple (A := A.in1) hh s.heap.objs.size l nl its).toS S nS ks sz h75 df (fun i v hv => ?_) h0 hk S0 (fun b hb => ?_) hu its.size 0 _ (Nat.zero_add _) ?_ ?_ ⟨[], #[], 0, _, Big.none_ (Heap.get?_push_of_some _ hS), .refl _⟩ ?_
  · have hv : its.toList[i]? = some v := by rw [Array.getElem?_toList]; exact hv
    rw [e, List.getElem?_map] at hv
    cases z : ks[i]? with
    | none => rw [z] at hv; exact nomatch hv
    | some y =>
      rw [z] at hv
      exact ⟨y, rfl, (Option.some.inj hv).symm⟩
  · rw [List.mem_singleton.mp hb]
    cases z : h0.get? s.heap.objs.size with
    | none => rfl
    | some o => exact absurd (big _ _ z) (Nat.lt_irrefl _)
  · exact ⟨⟨_, Heap.get?_push_size _ rfl, rfl, rfl⟩, hl.push _⟩
  · exact fun b o z => Heap.get?_push_of_some _ (kp b o z)
  · intro s' L rs en tb mv B pm kp'
    have e' : s' = { s with heap := s'.heap, toks := s'.toks } := by
      have g1 : s'.gens = s.gens := mv.gens
      have g2 : s'.drawn = s.drawn := mv.drawn
      have g3 : s'.os = s.os := mv.os
      cases s'
      cases s
      cases g1
      cases g2
      cases g3
      rfl
    rw [e']
    exact q _ _ L rs en tb B pm kp'
theorem call_setB {l : Addr} {its : Array Value} {ks : List Kz} {Q : Value → Shared → Prop} (hh : A.handled = none) (hl : s.heap.IsTuple l its) (e : its.toList = ks.map fun q => Value.ref q.1) (h75 : ks.length ≤ 75) (df : (hz P w ks).Nodup) (hk : ∀ q ∈ ks, IsT P w s.heap q.2 q.1) (hu : A.units + 3 < cLine)
    (q : ∀ h' tk L rs en tb, Big P w h' s.heap.objs.size L rs en tb → L.Perm ks → (∀ b o, s.heap.get? b = some o → h'.get? b = some o) → Q (.ref s.heap.objs.size) { s with heap := h', toks := tk }) :
    wpAny (model P w) A (call (.type "set") [.ref l]) Q E s := by
  obtain ⟨c0, t0, z1⟩ := PySem.F.called_set.mro
  have z2 := PySem.F.called_set.made
  have z3 := PySem.F.called_set.sub
  refine wpAny_call (codeAny_of_tree (show wpAny _ _ (callAny (.type "set") _) _ _ _ from ?_))
  refine wpAny_pure ⟨Code.quiet_builtin _ (by decide +kernel), codeAny_builtin PySem.F.entry_type_call ?_⟩
  rw [Around.under_plain (weight_type_call_type "set" [Value.ref l] []) rfl]
  have z4 := PySem.F.called_set.notType
  have z5 := PySem.F.called_set.canCreate
  have z6 := PySem.F.typeCall_set_1 (Value.ref l)
  repeat (any_goals (first | assumption | wp_step))
  refine codeAny_mono (code_set_led1 (Value.ref l) (Q₁ := fun u s1 => u = .ref s.heap.objs.size ∧ s1 = { s with heap := s.heap.push (emptyS w) }) (E := E) ⟨rfl, rfl⟩) fun r s1 hr => ?_
  match r, hr with
  | .error x, hr => exact hr
  | .ok .next, hr => exact hr.elim
  | .ok .brk, hr => exact hr.elim
  | .ok .cont, hr => exact hr.elim
  | .ok (.ret u), hr =>
    obtain ⟨e1, e2⟩ := hr
    subst e1
    subst e2
    have o1 : (s.heap.push (emptyS w)).get? s.heap.objs.size = some (emptyS w) := Heap.get?_push_size _ rfl
    have o2 : Shared.TypeIs { s with heap := s.heap.push (emptyS w) } (.ref s.heap.objs.size) "set" := ⟨_, o1, rfl⟩
    have z7 := PySem.F.called_set.init.lookup
    have z8 := PySem.F.called_set.init.bind (.ref s.heap.objs.size)
    repeat (any_goals (first | assumption | wp_step))
    refine codeAny_mono (codeAny_call_builtin (R := wants (fun r s2 => r = .none ∧ ∃ h' tk L rs en tb, s2 = { s with heap := h', toks := tk } ∧ Big P w h' s.heap.objs.size L rs en tb ∧ L.Perm ks ∧ ∀ b o, s.heap.get? b = some o → h'.get? b = some o) E) PySem.F.called_set.init.plain PySem.F.entry_set_init (check_set_init_1 o2 ?_)) fun r s2 hr => ?_
    · obtain ⟨⟨k1, k2, k3, k4⟩, k5, k6, n, k7⟩ := id hl
      dsimp only at k6 k7
      subst k6
      subst k7
      have k5' : (s.heap.push (emptyS w)).get? l = some { cls := .type "tuple", dict := k2, data := .seq its n, slots := k4 } := Heap.get?_push_of_some _ k5
      have y1 := PySem.F.sub_tuple_set
      have y2 := PySem.F.sub_tuple_frozenset
      have y3 : (Value.type "tuple" == Value.type "dict") = false := by decide
      have hl1 : (s.heap.push (emptyS w)).IsTuple l its := ⟨_, k5', rfl, n, rfl⟩
      unfold Builtin.«set.__init__» noKeywords Builtin.Frozenset.updateFrom
      generalize hI : pyIter = It0
      wp_walk
      subst hI
      refine wpAny_pyIter_tuple hl1 (wpAny_bind (wpAny_runValue ?_))
      refine fill_set (s := { s with heap := s.heap.push (emptyS w) }) s.heap (by simp [hh]) o1 hl1 e h75 df (fun b o z => Heap.get?_push_of_some _ z) ?_ (fun b o z => ?_) hk hu fun h' tk L rs en tb B pm kp => ?_
      · cases z : s.heap.get? s.heap.objs.size with
        | none => rfl
        | some o => exact absurd (Heap.lt_size z) (Nat.lt_irrefl _)
      · show b < (s.heap.push _).objs.size
        rw [Heap.size_push]
        exact Nat.lt_succ_of_lt (Heap.lt_size z)
      · show wpAny _ _ _ _ _ _
        refine wpAny_pure ?_
        exact wpAny_pure ⟨rfl, h', tk, L, rs, en, tb, rfl, B, pm, kp⟩
    · match r, hr with
      | .error x, hr => exact hr
      | .ok .next, hr => exact hr.elim
      | .ok .brk, hr => exact hr.elim
      | .ok .cont, hr => exact hr.elim
      | .ok (.ret u), hr =>
        obtain ⟨e1, h', tk, L, rs, en, tb, e2, B, pm, kp⟩ := hr
        subst e1
        subst e2
        repeat (any_goals (first | assumption | wp_step))
        exact q h' tk L rs en tb B pm kp
end
end Tz

/-! sorted(set(t)), t a tuple of pairs of ints, as one rule. -/
namespace Tz
open PySem PySem.Spec PyProof.Rows L2
/-- the hash of a pair, whatever the program -/
def hash0 (p : I2) : Int := reduceHash (Builtin.Tuple.tupleHashOf [hashInt p.1, hashInt p.2])
theorem hash0_eq (P : Program) (w : World) (p : I2) : thash P w [p.1, p.2] = hash0 p := by
  unfold hash0
  show tupleKeyHash (PySem.intKind P w) [p.1, p.2] = _
  unfold tupleKeyHash
  rfl
abbrev Pz := Addr × I2
abbrev kz (q : Pz) : Kz := (q.1, [q.2.1, q.2.2])
theorem hash0_kz (P : Program) (w : World) (q : Pz) : thash P w (kz q).2 = hash0 q.2 := hash0_eq P w q.2
theorem hz_kz (P : Program) (w : World) : ∀ bps : List Pz, hz P w (bps.map kz) = (bps.map (·.2)).map hash0
  | [] => rfl
  | q :: r => by rw [List.map_cons, hz_cons, hash0_kz, hz_kz P w r, List.map_cons, List.map_cons]
/-- which pair a value is -/
def prV (h : Heap) : Value → I2
  | .ref a => match h.get? a with
    | some o => match o.data with
      | .seq xs _ => match xs.toList with
        | [.int x _, .int y _] => (x, y)
        | _ => (0, 0)
      | _ => (0, 0)
    | none => (0, 0)
  | _ => (0, 0)
theorem prV_of {h : Heap} {v : Value} {x y : Int} (p : Srt.IsPair h v x y) : prV h v = (x, y) := by
  obtain ⟨a, o, t, u, n, rfl, ho, hc, hd⟩ := p
  unfold prV
  dsimp only
  rw [ho]
  dsimp only
  rw [hd]
def adV : Value → Addr
  | .ref a => a
  | _ => 0
section
variable {P : Program} {w : World} {A : Around} {E : Value → Shared → Prop} {s : Shared}
theorem pair_isT {h : Heap} {q : Pz} (t : IsT P w h [q.2.1, q.2.2] q.1) : Srt.IsPair h (.ref q.1) q.2.1 q.2.2 := by
  obtain ⟨o, its, n, ho, hc, hd, hi⟩ := t
  have hi : ItemsAre (PySem.intKind P w) [q.2.1, q.2.2] its.toList := hi
  generalize el : its.toList = l at hi
  cases hi with
  | cons a r =>
    cases r with
    | cons b r =>
      cases r
      obtain ⟨t1, rfl⟩ := Value.isInt_shape a
      obtain ⟨t2, rfl⟩ := Value.isInt_shape b
      refine ⟨q.1, o, t1, t2, n, rfl, ho, hc, ?_⟩
      rw [hd]
      congr 1
      exact Array.toList_inj.mp el
theorem sort_big {S : Addr} {L : List Pz} {rs : Array (Int × Value)} {en : Nat} {tb : SetTable} {Q : Value → Shared → Prop} (B : Big P w s.heap S (L.map kz) rs en tb) (hh : A.handled = none) (h75 : L.length ≤ 75)
    (q : ∀ s' p (N : List Pz) c, (∀ b o, s.heap.get? b = some o → s'.heap.get? b = some o) → s'.gens = s.gens → s'.os = s.os → s.heap.objs.size ≤ p → s'.heap.get? p = some (seqObj "list" (N.map fun y => Value.ref y.1).toArray c) →
      N.Perm L → N.Pairwise (fun a b => plt b.2 a.2 = false) → Q (.ref p) s') :
    wpAny (model P w) A (call (.builtin "sorted") [.ref S]) Q E s := by
  obtain ⟨o, o1, o2, o3⟩ := B.at_
  have lr := B.len
  rw [List.length_map] at lr
  refine Calls.call_function_entry kind_sorted plain_sorted entry_sorted (args_sorted1 _) ?_
  unfold Builtin.«sorted»
  refine wpAny_bind (m := checkCount "sorted" 1 1 _) (wpAny_pure (wpAny_bind ?_))
  refine collect_set (A := A.in1) hh ⟨o, o1, o2.1, o3⟩ B.fit (by unfold scanBound; omega) B.tb_.ris B.ld fun s1 vs k1 k2 k3 k4 pm => ?_
  have er : rs.toList.map (·.2) = L.map fun y => Value.ref y.1 := by
    rw [B.rw_]
    unfold rowsOf
    rw [List.map_map, List.map_map] <;> rfl
  rw [er] at pm
  have lv : vs.length ≤ 75 := by rw [pm.length_eq, List.length_map]; exact h75
  have pr : ∀ y ∈ L, Srt.IsPair s.heap (.ref y.1) y.2.1 y.2.2 := fun y hy => pair_isT (B.is_ (kz y) (List.mem_map.mpr ⟨y, hy, rfl⟩))
  have prk : ∀ y ∈ L, prV s.heap (.ref y.1) = y.2 := fun y hy => prV_of (pr y hy)
  have isv : ∀ v ∈ vs, ∃ y ∈ L, v = Value.ref y.1 := fun v hv => by
    obtain ⟨y, hy, e⟩ := List.mem_map.mp (pm.mem_iff.mp hv)
    exact ⟨y, hy, e.symm⟩
  refine wpAny_bind (wpAny_newList ?_ (by rw [sizeLine_eq]; omega))
  have oL : (s1.heap.push (seqObj "list" vs.toArray 0)).get? s1.heap.objs.size = some (seqObj "list" vs.toArray 0) := Heap.get?_push_size _ rfl
  have kL : ∀ b x, s.heap.get? b = some x → (s1.heap.push (seqObj "list" vs.toArray 0)).get? b = some x := fun b x e => Heap.get?_push_of_some _ (k1 b x e)
  refine wpAny_bind (wpAny_holding (wpAny_call_entry slot_list_sort ⟨_, oL, rfl⟩ entry_list_sort (SrtO.list_sort_ord (s := { s1 with heap := s1.heap.push (seqObj "list" vs.toArray 0) }) (SrtO.swo_lex (prV s.heap)) oL (by rw [sizeLine_eq]; omega) (fun h2 => ?_) fun out hs hb => ⟨_, rfl, ?_⟩) (args_list_sort _)))
  · refine SrtO.pairs_sortableO (by omega) (fun v hv => ?_) fun x e => ?_
    · obtain ⟨y, hy, rfl⟩ := isv v hv
      rw [prk y hy]
      exact (pr y hy).keeps fun b x e _ => kL b x e
    · have e : some x = some (seqObj "list" vs.toArray 0) := e.symm.trans oL
      cases e
      exact fun z => absurd (Value.type.inj z) (by decide)
  · have iso : ∀ v ∈ out, ∃ y ∈ L, v = Value.ref y.1 := fun v hv => isv v (hb.perm.mem_iff.mp hv)
    have eo : out = (out.map fun v => (adV v, prV s.heap v)).map fun y => Value.ref y.1 := by
      rw [List.map_map]
      refine (List.map_id out).symm.trans (List.map_congr_left fun v hv => ?_)
      obtain ⟨y, hy, rfl⟩ := iso v hv
      rfl
    have pN : (out.map fun v => (adV v, prV s.heap v)).Perm L := by
      have a := (hb.perm.trans pm).map fun v => (adV v, prV s.heap v)
      rw [List.map_map] at a
      refine a.trans (List.Perm.of_eq ?_)
      refine (List.map_congr_left fun y hy => ?_).trans (List.map_id L)
      show (adV (Value.ref y.1), prV s.heap (Value.ref y.1)) = y
      rw [prk y hy] <;> rfl
    obtain ⟨c, hc⟩ := sortedHeap_at (vs := vs) (out := out.toArray) oL
    rw [eo] at hc
    refine wpAny_pure ⟨_, rfl, q _ s1.heap.objs.size _ c (fun b x e => ?_) k3 k4 k2 (by rw [← eo]; rw [← eo] at hc; exact hc) pN (List.pairwise_map.mpr hs)⟩
    have e1 := k1 b x e
    have lt := Heap.lt_size e1
    show (sortedHeap (s1.heap.push (seqObj "list" vs.toArray 0)) s1.heap.objs.size vs out.toArray).get? b = some x
    rw [sortedHeap_old (Nat.ne_of_lt lt) (by rw [size_push']; exact Nat.lt_succ_of_lt lt)]
    exact kL b x e
end
end Tz

/-! sorted(set(t)): the rule, and what it says of data. -/
namespace Tz
open PySem PySem.Spec PyProof.Rows L2
/-- the set at a, the tuples left out -/
def Big0 (P : Program) (w : World) (a : Addr) (L : List Kz) (h : Heap) : Prop := ∃ rs en tb, (∃ x, h.get? a = some x ∧ x.ExactSet ∧ x.data = .set rs en tb) ∧ rs.toList = rowsOf P w L ∧ TabOk tb (hz P w L) ∧ (hz P w L).Nodup ∧ tb.plain = true ∧
  (w.params.followText "set-order" = true ∨ tb.led = true) ∧ L.length * 5 < tb.mask * 3
def BigO (P : Program) (w : World) (a : Addr) (L : List Kz) : HO := .ext (Big0 P w a L)
theorem bigO_ok {P : Program} {w : World} {H : Hp} {h : Heap} {a : Addr} {L : List Kz} {rs : Array (Int × Value)} {en : Nat} {tb : SetTable} (B : Big P w h a L rs en tb) : ObjOk P w H h a (BigO P w a L) := by
  have b : Big0 P w a L h := ⟨rs, en, tb, B.at_, B.rw_, B.tb_, B.df, B.pl, B.ld, B.rm⟩
  obtain ⟨x, hx, _⟩ := B.at_
  refine ⟨b, ⟨x, hx⟩, fun h1 h2 p k => ?_⟩
  obtain ⟨rs, en, tb, ⟨y, y1, y2⟩, r⟩ := p
  exact ⟨rs, en, tb, ⟨y, k y y1, y2⟩, r⟩
theorem nt_big {P : Program} {w : World} {a : Addr} {L : List Kz} : NT (BigO P w a L) := fun _ z => nomatch z
section
variable {X : Cx}
def rSetB (K : PySem.W.Frag) (P : Program) (w : World) : List V → Hp → VK → Prop := fun xs H Q => ∃ (l : Addr) (bps : List Pz), xs = [V.ref l] ∧ SqT K H l (bps.map fun q => V.ref q.1) ∧ (∀ q ∈ bps, SqT K H q.1 [.int q.2.1, .int q.2.2]) ∧ bps.length ≤ 75 ∧ ((bps.map (·.2)).map hash0).Nodup ∧
  ∀ (a : Addr) (L : List Pz), H a = none → L.Perm bps → Q (.ref a) (upd H a (BigO P w a (L.map kz)))
theorem isT_sq {pins : List (Addr × Obj)} {σ : L2.St} {H : Hp} {s : Shared} {q : Pz} (I : Inv X pins σ H s) (h : SqT X.K H q.1 [.int q.2.1, .int q.2.2]) : IsT X.prog X.w s.heap (kz q).2 (kz q).1 := I.isT (k := [q.2.1, q.2.2]) h
theorem back_kz : ∀ {L : List Kz} {bps : List Pz}, L.Perm (bps.map kz) → ∃ N : List Pz, L = N.map kz ∧ N.Perm bps := fun {L bps} h => by
  have f : ∀ L : List Kz, (∀ y ∈ L, y ∈ bps.map kz) → L = (L.map fun y => ((y.1, (y.2.getD 0 0, y.2.getD 1 0)) : Pz)).map kz := fun L hL => by
    rw [List.map_map]
    refine (List.map_id L).symm.trans (List.map_congr_left fun y hy => ?_)
    obtain ⟨q, _, rfl⟩ := List.mem_map.mp (hL y hy)
    rfl
  refine ⟨_, f L fun y hy => h.mem_iff.mp hy, ?_⟩
  have g := h.map fun y => ((y.1, (y.2.getD 0 0, y.2.getD 1 0)) : Pz)
  rw [List.map_map] at g
  exact g.trans (List.Perm.of_eq ((List.map_congr_left fun q _ => rfl).trans (List.map_id bps)))
theorem cr_setB (hc : X.calm = true) (hu : X.A.units + 65 < cLine) : CallR X (.type "set") (rSetB X.K X.prog X.w) := by
  intro pins s σ H xs us Q I r h
  obtain ⟨l, bps, rfl, hl, hk, h75, df, q⟩ := h
  rw [Vals.ref1 r]
  obtain ⟨its, rv, pl, _⟩ := I.tuple hl
  have hn : H s.heap.objs.size = none := I.hok.fresh (Nat.le_refl _)
  refine call_setB (P := X.prog) (w := X.w) (ks := bps.map kz) (I.ok.hd hc) (show s.heap.IsTuple l its.toArray from pl) ?_ (by rw [List.length_map]; exact h75) (by rw [hz_kz]; exact df) (fun y hy => ?_) (by omega) fun h' tk L rs en tb B pm k => ?_
  · rw [List.map_map]
    exact vals_rf rv
  · obtain ⟨p, hp, rfl⟩ := List.mem_map.mp hy
    exact isT_sq I (hk p hp)
  · obtain ⟨N, rfl, pN⟩ := back_kz pm
    exact ⟨.ref s.heap.objs.size, _, I.laid (t' := tk) k (Nat.le_refl _) (bigO_ok B), rfl, q _ N hn pN⟩
def rSortB (K : PySem.W.Frag) (P : Program) (w : World) : List V → Hp → VK → Prop := fun vs H Q => ∃ (a : Addr) (L : List Pz), vs = [V.ref a] ∧ H a = some (BigO P w a (L.map kz)) ∧ (∀ q ∈ L, SqT K H q.1 [.int q.2.1, .int q.2.2]) ∧ L.length ≤ 75 ∧
  ∀ (N : List Pz) (p : Addr), N.Perm L → N.Pairwise (fun a b => plt b.2 a.2 = false) → H p = none → Q (.ref p) (upd H p (.lst (N.map fun q => V.ref q.1)))
theorem vals_pz : ∀ N : List Pz, Vals (N.map fun q => V.ref q.1) (N.map fun q => Value.ref q.1)
  | [] => .nil
  | _ :: r => .cons rfl (vals_pz r)
theorem cr_sortB (hc : X.calm = true) : CallR X (.builtin "sorted") (rSortB X.K X.prog X.w) := by
  intro pins s σ H vs us Q I r h
  obtain ⟨a, L, rfl, ha, hk, h75, q⟩ := h
  obtain ⟨rs, en, tb, b1, b2, b3, b4, b5, b6, b7⟩ := (show Big0 X.prog X.w a (L.map kz) s.heap from (I.hok a _ ha).1)
  have B : Big X.prog X.w s.heap a (L.map kz) rs en tb := ⟨b1, b2, b3, b4, fun y hy => by
    obtain ⟨p, hp, rfl⟩ := List.mem_map.mp hy
    exact isT_sq I (hk p hp), b5, b6, b7⟩
  rw [Vals.ref1 r]
  refine sort_big B (I.ok.hd hc) h75 fun s' p N c k g o hp hg pm pw => ?_
  have hn : H p = none := I.hok.fresh hp
  have ll : (N.map fun q => V.ref q.1).length ≤ sizeLine := by rw [List.length_map, pm.length_eq, sizeLine_eq]; omega
  have ok : ObjOk X.prog X.w (upd H p (.lst (N.map fun q => V.ref q.1))) s'.heap p (.lst (N.map fun q => V.ref q.1)) := ⟨ll, N.map fun q => Value.ref q.1, c, vals_pz N, hg⟩
  have J : Inv X pins σ (upd H p (.lst (N.map fun q => V.ref q.1))) { s with heap := s'.heap, gens := s'.gens, drawn := s'.drawn, toks := s'.toks } :=
    I.call (ch := []) (Un.laid k hp hn) (I.hok.laid k hp ok) (by rw [g]; exact I.bare) fun _ z => nomatch z
  have es : s' = { s with heap := s'.heap, gens := s'.gens, drawn := s'.drawn, toks := s'.toks } := by
    obtain ⟨x1, x2, x3, x4, x5⟩ := s'
    have o : x5 = s.os := o
    subst o
    rfl
  rw [es]
  exact ⟨.ref p, _, J, rfl, q N p pm pw hn⟩
/-- what a reading says, what is wished less exactly -/
def tUp (ta : TE) : TE := fun σ H Q => ∃ Q0, ta σ H Q0 ∧ ∀ v H', Q0 v H' → Q v H'
theorem pe_up {e : Expr} {ta : TE} (h : PE X e ta) : PE X e (tUp ta) := ⟨fun pins s σ H Q I q => by
  obtain ⟨Q0, q, k⟩ := q
  refine wpAny_mono (h.run pins s σ H Q0 I q) (fun v s' z => ?_) fun _ _ z => z
  obtain ⟨x, H1, I1, r1, z⟩ := z
  exact ⟨x, H1, I1, r1, k x H1 z⟩⟩
theorem pe_less {e : Expr} {t t' : TE} (h : PE X e t) (k : ∀ σ H Q, t' σ H Q → t σ H Q) : PE X e t' := ⟨fun pins s σ H Q I q => h.run pins s σ H Q I (k σ H Q q)⟩
def tSS (K : PySem.W.Frag) (ta : TE) : TE := fun σ H Q => ta σ H fun x H1 => ∃ (l : Addr) (bps : List Pz), x = V.ref l ∧ SqT K H1 l (bps.map fun q => V.ref q.1) ∧ (∀ q ∈ bps, SqT K H1 q.1 [.int q.2.1, .int q.2.2]) ∧ bps.length ≤ 75 ∧ ((bps.map (·.2)).map hash0).Nodup ∧
  ∀ (a p : Addr) (o : HO) (N : List Pz), H1 a = none → upd H1 a o p = none → N.Perm bps → N.Pairwise (fun a b => plt b.2 a.2 = false) → Q (.ref p) (upd (upd H1 a o) p (.lst (N.map fun q => V.ref q.1)))
theorem pe_ss {e : Expr} {ta : TE} {p p2 pos pos2 : Pos} (hc : X.calm = true) (hu : X.A.units + 65 < cLine) (hg : Gl X "sorted") (hm : X.mg "sorted" = none) (hg2 : Gl X "set") (hm2 : X.mg "set" = none) (he : PE X e ta)
    (hs : starEach [e] X.env = (false, eval e X.env) :: starEach [] X.env := by rfl) :
    PE X (.Call (.Name "sorted" p) [.Call (.Name "set" p2) [e] [] pos2] [] pos) (tSS X.K ta) := by
  have h1 : PE X (.Call (.Name "set" p2) [e] [] pos2) (tCB (rSetB X.K X.prog X.w) (tCons (tUp ta) tNil)) := pe_callTy (cr_setB hc hu) hg2 hm2 (by decide +kernel) (pa_cons (pe_up he) pa_nil (hs := hs)) (he := hs)
  refine pe_less (pe_callB (cr_sortB hc) hg hm (by decide +kernel) (pa_cons h1 pa_nil (hs := by rfl)) (he := by rfl)) fun σ H Q q => ⟨_, q, fun x H1 z => ?_⟩
  obtain ⟨l, bps, rfl, hl, hk, h75, df, z⟩ := z
  refine ⟨l, bps, rfl, hl, hk, h75, df, fun a L na pL => ?_⟩
  have sm : Same H1 (upd H1 a (BigO X.prog X.w a (L.map kz))) := same_upd na
  refine ⟨a, L, rfl, upd_same, fun y hy => Same.seqT sm (hk y (pL.mem_iff.mp hy)), by rw [pL.length_eq]; exact h75, fun N p3 pN so np => ?_⟩
  exact z a p3 _ N na np (pN.trans pL) so
end
def dSS (a : DE) : DE := fun r Q E => a r (fun x => match x with
  | .tuple xs => onS (asPairs xs) fun ps => ps.length ≤ 75 ∧ (ps.map hash0).Nodup ∧ ∀ qs : List I2, qs.Perm ps → qs.Pairwise (fun a b => plt b a = false) → Q (.list (qs.map pD))
  | _ => False) E
theorem s_ss {C : Cn} {ta : TE} {a : DE} (ha : SimE C ta a) : SimE C (tSS C.K ta) (dSS a) := by
  intro G ρ Q E gp h σ H Q' j rs k kx
  refine ha G ρ _ E gp h σ H _ j rs (fun v H1 x e1 j1 r1 h1 => ?_) kx
  match x, r1, h1 with
  | .tuple xs, r1, h1 =>
    obtain ⟨ps, e, h75, df, q⟩ := onS_some (show onS (asPairs xs) _ from h1)
    rw [asPairs_eq e] at r1
    obtain ⟨l, zs, rfl, hl, hv, hd⟩ := rep_tup r1
    obtain ⟨bps, rfl, e2, hs⟩ := dq_pairs hd
    subst e2
    refine ⟨l, bps, rfl, hl, fun y hy => Same.seqT vis_same (hs y hy), by rw [List.length_map] at h75; exact h75, df, fun b p o N na np pN so => ?_⟩
    obtain ⟨e2, j2, nd2⟩ := Ex.new (o := o) j1 na
    obtain ⟨e3, j3, nd3⟩ := Ex.new (o := .lst (N.map fun q => V.ref q.1)) j2 np
    have rp : Dq C.K (vis G (upd (upd H1 b o) p (.lst (N.map fun q => V.ref q.1)))) (.ref p) (.list ((N.map (·.2)).map pD)) := by
      refine .lst (vis_of nd3 nt_lst upd_same) ?_
      have al : ∀ M : List Pz, (∀ y ∈ M, y ∈ bps) → DqAll C.K (vis G (upd (upd H1 b o) p (.lst (N.map fun q => V.ref q.1)))) (M.map fun q => V.ref q.1) ((M.map (·.2)).map pD) := by
        intro M
        induction M with
        | nil => exact fun _ => .nil
        | cons y M ih => exact fun hM => .cons (dq_ofPair (Same.seqT (Ex.same (e2.trans e3)) (hs y (hM y List.mem_cons_self)))) (ih fun z hz => hM z (List.mem_cons_of_mem _ hz))
      exact al N fun y hy => pN.mem_iff.mp hy
    exact k _ _ _ (e1.trans (e2.trans e3)) j3 (.inl rp) (q _ (pN.map _) (List.pairwise_map.mpr so))
  | .none, _, h1 => exact h1.elim
  | .bool _, _, h1 => exact h1.elim
  | .int _, _, h1 => exact h1.elim
  | .str _, _, h1 => exact h1.elim
  | .list _, _, h1 => exact h1.elim
  | .dict _, _, h1 => exact h1.elim
end Tz

/-! Units of a modulus, multiples of a pair, the first of them; the first pairs of all classes. -/
namespace Tz
open PySem PySem.Spec PyProof.Rows L2
def us (m : Int) : List Int := ((List.range (m - 1).toNat).map fun (i : Nat) => 1 + (i : Int)).filter fun u => decide ((Int.gcd u m : Int) = 1)
def mulm (m u : Int) (p : I2) : I2 := (u * p.1 % m, u * p.2 % m)
def mp (m : Int) (p : I2) : List I2 := (us m).map fun u => mulm m u p
def minP : List I2 → I2
  | [] => (0, 0)
  | [x] => x
  | x :: y :: r => if plt (minP (y :: r)) x = true then minP (y :: r) else x
def lp (m : Int) (p : I2) : I2 := minP (mp m p)
theorem plt_anti {a b : I2} (h1 : plt a b = false) (h2 : plt b a = false) : a = b := by
  have a1 := SrtO.lexB_no.mp h1
  have a2 := SrtO.lexB_no.mp h2
  exact Prod.ext (by omega) (by omega)
theorem minP_ok : ∀ (l : List I2), l ≠ [] → minP l ∈ l ∧ ∀ y ∈ l, plt y (minP l) = false
  | [], h => (h rfl).elim
  | [x], _ => ⟨List.mem_singleton.mpr rfl, fun y hy => by rw [List.mem_singleton.mp hy]; exact plt_irr _⟩
  | x :: y :: r, _ => by
    obtain ⟨a, b⟩ := minP_ok (y :: r) (by simp)
    show (if plt (minP (y :: r)) x = true then minP (y :: r) else x) ∈ _ ∧ ∀ z ∈ x :: y :: r, plt z (if plt (minP (y :: r)) x = true then minP (y :: r) else x) = false
    generalize minP (y :: r) = k at a b
    by_cases c : plt k x = true
    · rw [if_pos c]
      refine ⟨List.mem_cons_of_mem _ a, fun z hz => ?_⟩
      rcases List.mem_cons.mp hz with e | e
      · rw [e]; exact plt_asy _ _ c
      · exact b z e
    · rw [if_neg c]
      refine ⟨List.mem_cons_self, fun z hz => ?_⟩
      rcases List.mem_cons.mp hz with e | e
      · rw [e]; exact plt_irr _
      · exact plt_nl _ _ _ (b z e) (Bool.eq_false_iff.mpr c)
theorem minP_uniq {l : List I2} {q : I2} (h1 : q ∈ l) (h2 : ∀ y ∈ l, plt y q = false) : q = minP l := by
  obtain ⟨a, b⟩ := minP_ok l (fun z => by rw [z] at h1; exact nomatch h1)
  exact plt_anti (b q h1) (h2 _ a)
theorem mem_us {m u : Int} : u ∈ us m ↔ 1 ≤ u ∧ u < m ∧ Int.gcd u m = 1 := by
  unfold us
  rw [List.mem_filter, List.mem_map]
  constructor
  · rintro ⟨⟨i, hi, rfl⟩, h⟩
    have := List.mem_range.mp hi
    have g : ((Int.gcd (1 + (i : Int)) m : Nat) : Int) = 1 := of_decide_eq_true h
    exact ⟨by omega, by omega, by omega⟩
  · rintro ⟨h1, h2, h3⟩
    refine ⟨⟨(u - 1).toNat, List.mem_range.mpr (by omega), by omega⟩, decide_eq_true ?_⟩
    omega
theorem one_us {m : Int} (h : 2 ≤ m) : (1 : Int) ∈ us m := mem_us.mpr ⟨by omega, by omega, by simp⟩
theorem mem_mp {m : Int} {p q : I2} : q ∈ mp m p ↔ ∃ u, (1 ≤ u ∧ u < m ∧ Int.gcd u m = 1) ∧ q = mulm m u p := by
  unfold mp
  rw [List.mem_map]
  constructor
  · rintro ⟨u, hu, rfl⟩
    exact ⟨u, mem_us.mp hu, rfl⟩
  · rintro ⟨u, hu, rfl⟩
    exact ⟨u, mem_us.mpr hu, rfl⟩
theorem mp_ne {m : Int} {p : I2} (h : 2 ≤ m) : mp m p ≠ [] := fun z => by
  have : mulm m 1 p ∈ mp m p := List.mem_map.mpr ⟨1, one_us h, rfl⟩
  rw [z] at this
  exact nomatch this
theorem lp_ok {m : Int} (h : 2 ≤ m) (p : I2) : lp m p ∈ mp m p ∧ ∀ y ∈ mp m p, plt y (lp m p) = false := minP_ok _ (mp_ne h)
/-! ### by remainders -/
theorem em_eq {a b m : Int} (k : Int) (h : a = b + m * k) : a % m = b % m := by rw [h, Int.add_mul_emod_self_left]
theorem em_of {a m : Int} : ∃ k, a = a % m + m * k := ⟨a / m, (Int.emod_add_mul_ediv a m).symm⟩
theorem gcd_em {a m : Int} : Int.gcd (a % m) m = Int.gcd a m := by
  have h : a % m + m * (a / m) = a := Int.emod_add_mul_ediv a m
  have := Int.gcd_add_mul_left_left m (a % m) (a / m)
  rw [h] at this
  exact this.symm
theorem gcd_mul1 {a b m : Int} (h1 : Int.gcd a m = 1) (h2 : Int.gcd b m = 1) : Int.gcd (a * b) m = 1 := by
  unfold Int.gcd at *
  rw [Int.natAbs_mul]
  exact Nat.Coprime.mul_left h1 h2
/-- v = u s, as a unit -/
theorem unit_mul {m u s : Int} (h : 2 ≤ m) (h1 : Int.gcd u m = 1) (h2 : Int.gcd s m = 1) : 1 ≤ u * s % m ∧ u * s % m < m ∧ Int.gcd (u * s % m) m = 1 := by
  have g : Int.gcd (u * s % m) m = 1 := by rw [gcd_em]; exact gcd_mul1 h1 h2
  have a := Int.emod_nonneg (u * s) (show m ≠ 0 by omega)
  have b := Int.emod_lt_of_pos (u * s) (show 0 < m by omega)
  refine ⟨?_, b, g⟩
  by_cases z : u * s % m = 0
  · rw [z, Int.gcd_zero_left] at g
    omega
  · omega
theorem mulm_mul {m u s : Int} {p g : I2} (e1 : ∃ k, p.1 = s * g.1 + m * k) (e2 : ∃ k, p.2 = s * g.2 + m * k) : mulm m u p = mulm m (u * s % m) g := by
  have one : ∀ x y : Int, (∃ k, x = s * y + m * k) → u * x % m = u * s % m * y % m := fun x y ⟨k, hk⟩ => by
    obtain ⟨j, hj⟩ := em_of (a := u * s) (m := m)
    have : u * x = u * s % m * y + m * (j * y + u * k) := by
      have e : u * x = u * s * y + m * (u * k) := by
        rw [hk, Int.mul_add, Int.mul_assoc]
        congr 1
        ac_rfl
      have e2 : u * s * y = u * s % m * y + m * (j * y) := by
        conv => lhs; rw [hj]
        rw [Int.add_mul, Int.mul_assoc m j y]
      rw [e, e2, Int.mul_add, Int.add_assoc]
    exact em_eq _ this
  unfold mulm
  rw [one p.1 g.1 e1, one p.2 g.2 e2]
theorem mp_sub {m s : Int} {p g : I2} (h : 2 ≤ m) (hs : Int.gcd s m = 1) (e1 : ∃ k, p.1 = s * g.1 + m * k) (e2 : ∃ k, p.2 = s * g.2 + m * k) {q : I2} (hq : q ∈ mp m p) : q ∈ mp m g := by
  obtain ⟨u, ⟨u1, u2, u3⟩, rfl⟩ := mem_mp.mp hq
  exact mem_mp.mpr ⟨u * s % m, unit_mul h u3 hs, mulm_mul e1 e2⟩
theorem lp_eq {m s t : Int} {p g : I2} (h : 2 ≤ m) (hs : Int.gcd s m = 1) (e1 : ∃ k, p.1 = s * g.1 + m * k) (e2 : ∃ k, p.2 = s * g.2 + m * k) (ht : Int.gcd t m = 1) (f1 : ∃ k, g.1 = t * p.1 + m * k) (f2 : ∃ k, g.2 = t * p.2 + m * k) : lp m p = lp m g := by
  obtain ⟨a1, a2⟩ := lp_ok h p
  obtain ⟨b1, b2⟩ := lp_ok h g
  exact plt_anti (b2 _ (mp_sub h hs e1 e2 a1)) (a2 _ (mp_sub h ht f1 f2 b1))
/-- by the remainders alone -/
theorem lp_mod {m : Int} (h : 2 ≤ m) (p : I2) : lp m p = lp m (p.1 % m, p.2 % m) := by
  have w : ∀ x : Int, ∃ k, x = 1 * (x % m) + m * k := fun x => ⟨x / m, by rw [Int.one_mul]; exact (Int.emod_add_mul_ediv x m).symm⟩
  have v : ∀ x : Int, ∃ k, x % m = 1 * x + m * k := fun x => ⟨-(x / m), by
    have := Int.emod_add_mul_ediv x m
    rw [Int.mul_neg]
    omega⟩
  exact lp_eq (s := 1) (t := 1) h (by simp) (w _) (w _) (by simp) (v _) (v _)
/-! ### who shares a class -/
theorem dvd_unit {m u x : Int} (hu : Int.gcd u m = 1) (h : m ∣ u * x) : m ∣ x := by
  rw [← Int.natAbs_dvd_natAbs] at h ⊢
  rw [Int.natAbs_mul] at h
  exact Nat.Coprime.dvd_of_dvd_mul_left (Nat.Coprime.symm hu) h
theorem lp_dvd {m c d g e : Int} (h : 2 ≤ m) (hl : lp m (c, d) = lp m (g, e)) : m ∣ c * e - d * g := by
  obtain ⟨a1, _⟩ := lp_ok h (c, d)
  obtain ⟨b1, _⟩ := lp_ok h (g, e)
  rw [hl] at a1
  obtain ⟨u, ⟨_, _, u3⟩, eu⟩ := mem_mp.mp a1
  obtain ⟨v, ⟨_, _, v3⟩, ev⟩ := mem_mp.mp b1
  rw [eu] at ev
  have e1 : u * c % m = v * g % m := congrArg Prod.fst ev
  have e2 : u * d % m = v * e % m := congrArg Prod.snd ev
  have d1 : m ∣ u * c - v * g := Int.dvd_of_emod_eq_zero (Int.emod_eq_emod_iff_emod_sub_eq_zero.mp e1)
  have d2 : m ∣ u * d - v * e := Int.dvd_of_emod_eq_zero (Int.emod_eq_emod_iff_emod_sub_eq_zero.mp e2)
  refine dvd_unit v3 (dvd_unit u3 ?_)
  obtain ⟨x, hx⟩ := d1
  obtain ⟨y, hy⟩ := d2
  refine ⟨x * (v * e) - y * (v * g), ?_⟩
  have f1 : u * c = v * g + m * x := by omega
  have f2 : u * d = v * e + m * y := by omega
  have : u * (v * (c * e - d * g)) = (u * c) * (v * e) - (u * d) * (v * g) := by
    rw [Int.mul_sub, Int.mul_sub]
    congr 1 <;> ac_rfl
  rw [this, f1, f2, Int.add_mul, Int.add_mul, Int.mul_sub, Int.mul_assoc m x, Int.mul_assoc m y, Int.mul_comm (v * e) (v * g)]
  omega
theorem unit_of_det {m a b c s : Int} (h : a * s - b * c = 1) (hc : m ∣ c) : Int.gcd s m = 1 := by
  have d1 : ((Int.gcd s m : Nat) : Int) ∣ s := Int.gcd_dvd_left ..
  have d2 : ((Int.gcd s m : Nat) : Int) ∣ m := Int.gcd_dvd_right ..
  have d3 : ((Int.gcd s m : Nat) : Int) ∣ 1 := by
    rw [← h]
    exact Int.dvd_sub (Int.dvd_trans d1 (Int.dvd_mul_left _ _)) (Int.dvd_trans (Int.dvd_trans d2 hc) (Int.dvd_mul_left _ _))
  have := Int.natAbs_dvd_natAbs.mpr d3
  simpa using this
theorem dvd_lp {m : Int} {A B : M} (h : 2 ≤ m) (ha : A.det = 1) (hb : B.det = 1) (hd : m ∣ A.c * B.d - A.d * B.c) : lp m (A.c, A.d) = lp m (B.c, B.d) := by
  have key : ∀ {A B : M}, A.det = 1 → B.det = 1 → m ∣ A.c * B.d - A.d * B.c → ∃ s, Int.gcd s m = 1 ∧ (∃ k, A.c = s * B.c + m * k) ∧ ∃ k, A.d = s * B.d + m * k := fun {A B} ha hb hd => by
    have e : (A.mul B.inv).det = 1 := by rw [M.det_mul, M.det_inv, ha, hb] <;> rfl
    have e0 : A = (A.mul B.inv).mul B := by rw [M.mul_assoc, M.inv_mul B hb, M.mul_one]
    have c1 : (A.mul B.inv).c = A.c * B.d - A.d * B.c := by
      show A.c * B.d + A.d * -B.c = _
      rw [Int.mul_neg]
      omega
    rw [← c1] at hd
    generalize A.mul B.inv = P at e e0 hd
    refine ⟨P.d, unit_of_det (a := P.a) (b := P.b) (c := P.c) e hd, ?_, ?_⟩
    · obtain ⟨k, hk⟩ := hd
      refine ⟨k * B.a, ?_⟩
      have : A.c = P.c * B.a + P.d * B.c := congrArg M.c e0
      rw [this, hk, Int.add_comm, Int.mul_assoc]
    · obtain ⟨k, hk⟩ := hd
      refine ⟨k * B.b, ?_⟩
      have : A.d = P.c * B.b + P.d * B.d := congrArg M.d e0
      rw [this, hk, Int.add_comm, Int.mul_assoc]
  obtain ⟨s, s1, s2, s3⟩ := key ha hb hd
  have hd' : m ∣ B.c * A.d - B.d * A.c := by
    obtain ⟨k, hk⟩ := hd
    refine ⟨-k, ?_⟩
    rw [Int.mul_neg, ← hk, Int.mul_comm B.c, Int.mul_comm B.d]
    omega
  obtain ⟨t, t1, t2, t3⟩ := key hb ha hd'
  exact lp_eq h s1 s2 s3 t1 t2 t3
/-! ### all classes -/
def grid (m : Int) : List I2 := (List.range m.toNat).flatMap fun (c : Nat) => (List.range m.toNat).map fun (d : Nat) => ((c : Int), (d : Int))
def ok1 (m : Int) (p : I2) : Bool := decide ((Int.gcd ((Int.gcd p.1 p.2 : Nat) : Int) m : Int) = 1)
def frst (m : Int) (p : I2) : Bool := (us m).all fun u => !(plt (mulm m u p) p)
def cls (m : Int) : List I2 := (grid m).filter fun p => ok1 m p && frst m p
def primeB (p : Int) : Bool := ((List.range (p - 2).toNat).map fun (i : Nat) => !decide (p % (2 + (i : Int)) = 0)).all id
def manyF (m : Int) : Int := (List.range (m - 1).toNat).foldl (fun f (i : Nat) => if (decide (m % (2 + (i : Int)) = 0) && primeB (2 + (i : Int))) = true then f / (2 + (i : Int)) * (2 + (i : Int) + 1) else f) m
def facts (m : Int) : Bool := decide (((cls m).length : Int) = manyF m) && decide (((cls m).map hash0).Nodup) && decide ((cls m).length ≤ 75) && decide (lp m (0, 1) = (0, 1)) && decide ((0, 1) ∈ cls m) && decide ((1, 0) ∈ cls m) && decide ((cls m).Pairwise fun a b => plt a b = true)
theorem facts_all : ((List.range 29).all fun (i : Nat) => facts (2 + (i : Int))) = true := by decide +kernel
structure Facts (m : Int) : Prop where
  many : ((cls m).length : Int) = manyF m
  hash : ((cls m).map hash0).Nodup
  few : (cls m).length ≤ 75
  l01 : lp m (0, 1) = (0, 1)
  m01 : (0, 1) ∈ cls m
  m10 : (1, 0) ∈ cls m
  srt : (cls m).Pairwise fun a b => plt a b = true
theorem facts_at {m : Int} (h1 : 2 ≤ m) (h2 : m ≤ 30) : Facts m := by
  have h := List.all_eq_true.mp facts_all (m - 2).toNat (List.mem_range.mpr (by omega))
  have e : 2 + (((m - 2).toNat : Nat) : Int) = m := by omega
  rw [e] at h
  unfold facts at h
  simp only [Bool.and_eq_true] at h
  obtain ⟨⟨⟨⟨⟨⟨a, b⟩, c⟩, d⟩, e⟩, f⟩, g⟩ := h
  exact ⟨of_decide_eq_true a, of_decide_eq_true b, of_decide_eq_true c, of_decide_eq_true d, of_decide_eq_true e, of_decide_eq_true f, of_decide_eq_true g⟩
theorem mem_grid {m : Int} {q : I2} : q ∈ grid m ↔ (0 ≤ q.1 ∧ q.1 < m) ∧ 0 ≤ q.2 ∧ q.2 < m := by
  unfold grid
  rw [List.mem_flatMap]
  constructor
  · rintro ⟨c, hc, h⟩
    obtain ⟨d, hd, rfl⟩ := List.mem_map.mp h
    have := List.mem_range.mp hc
    have := List.mem_range.mp hd
    exact ⟨⟨by show (0 : Int) ≤ (c : Int); omega, by show (c : Int) < m; omega⟩, by show (0 : Int) ≤ (d : Int); omega, by show (d : Int) < m; omega⟩
  · rintro ⟨⟨a, b⟩, c, d⟩
    exact ⟨q.1.toNat, List.mem_range.mpr (by omega), List.mem_map.mpr ⟨q.2.toNat, List.mem_range.mpr (by omega), Prod.ext (by show ((q.1.toNat : Nat) : Int) = q.1; omega) (by show ((q.2.toNat : Nat) : Int) = q.2; omega)⟩⟩
theorem mem_cls {m : Int} {q : I2} : q ∈ cls m ↔ ((0 ≤ q.1 ∧ q.1 < m) ∧ 0 ≤ q.2 ∧ q.2 < m) ∧ ok1 m q = true ∧ frst m q = true := by
  unfold cls
  rw [List.mem_filter, mem_grid, Bool.and_eq_true]
theorem ok1_iff {m : Int} {p : I2} : ok1 m p = true ↔ ∀ g : Int, g ∣ p.1 → g ∣ p.2 → g ∣ m → g ∣ 1 := by
  unfold ok1
  rw [decide_eq_true_eq]
  constructor
  · intro h g h1 h2 h3
    have a : g ∣ ((Int.gcd p.1 p.2 : Nat) : Int) := Int.dvd_coe_gcd h1 h2
    have b := Int.dvd_coe_gcd a h3
    rw [h] at b
    exact b
  · intro h
    have d1 : ((Int.gcd ((Int.gcd p.1 p.2 : Nat) : Int) m : Nat) : Int) ∣ ((Int.gcd p.1 p.2 : Nat) : Int) := Int.gcd_dvd_left ..
    have d2 : ((Int.gcd ((Int.gcd p.1 p.2 : Nat) : Int) m : Nat) : Int) ∣ m := Int.gcd_dvd_right ..
    have d := h _ (Int.dvd_trans d1 (Int.gcd_dvd_left ..)) (Int.dvd_trans d1 (Int.gcd_dvd_right ..)) d2
    have := Int.natAbs_dvd_natAbs.mpr d
    have : Int.gcd ((Int.gcd p.1 p.2 : Nat) : Int) m = 1 := by simpa using this
    omega
theorem dvd_em {g x m : Int} (h : g ∣ m) : g ∣ x % m ↔ g ∣ x := by
  have e := Int.emod_add_mul_ediv x m
  have d : g ∣ m * (x / m) := Int.dvd_trans h (Int.dvd_mul_right _ _)
  constructor
  · intro z
    rw [← e]
    exact Int.dvd_add z d
  · intro z
    have : x % m = x - m * (x / m) := by omega
    rw [this]
    exact Int.dvd_sub z d
theorem dvd_umul {g u x m : Int} (hu : Int.gcd u m = 1) (hg : g ∣ m) (h : g ∣ u * x) : g ∣ x := by
  refine dvd_unit (u := u) ?_ h
  have d1 : ((Int.gcd u g : Nat) : Int) ∣ u := Int.gcd_dvd_left ..
  have d2 : ((Int.gcd u g : Nat) : Int) ∣ m := Int.dvd_trans (Int.gcd_dvd_right ..) hg
  have d := Int.dvd_coe_gcd d1 d2
  rw [hu] at d
  have := Int.natAbs_dvd_natAbs.mpr d
  simpa using this
theorem lp_cls {m : Int} {p : I2} (h : 2 ≤ m) (hp : ok1 m p = true) : lp m p ∈ cls m := by
  obtain ⟨a, b⟩ := lp_ok h p
  obtain ⟨u, ⟨u1, u2, u3⟩, e⟩ := mem_mp.mp a
  refine mem_cls.mpr ⟨?_, ?_, ?_⟩
  · rw [e]
    have m0 : m ≠ 0 := by omega
    have mp : 0 < m := by omega
    exact ⟨⟨Int.emod_nonneg _ m0, Int.emod_lt_of_pos _ mp⟩, Int.emod_nonneg _ m0, Int.emod_lt_of_pos _ mp⟩
  · rw [e]
    refine ok1_iff.mpr fun g g1 g2 g3 => ok1_iff.mp hp g ?_ ?_ g3
    · exact dvd_umul u3 g3 ((dvd_em g3).mp g1)
    · exact dvd_umul u3 g3 ((dvd_em g3).mp g2)
  · unfold frst
    rw [List.all_eq_true]
    intro v hv
    obtain ⟨v1, v2, v3⟩ := mem_us.mp hv
    have ev : mulm m v (lp m p) ∈ mp m p := by
      have w : ∀ x : Int, ∃ k, u * x % m = u * x + m * k := fun x => ⟨-(u * x / m), by
        have := Int.emod_add_mul_ediv (u * x) m
        rw [Int.mul_neg]
        omega⟩
      rw [e]
      exact mem_mp.mpr ⟨v * u % m, unit_mul h v3 u3, mulm_mul (w _) (w _)⟩
    rw [b _ ev]
    rfl
theorem cls_lp {m : Int} {q : I2} (h : 2 ≤ m) (hq : q ∈ cls m) : lp m q = q := by
  obtain ⟨⟨⟨a, b⟩, c, d⟩, _, f⟩ := mem_cls.mp hq
  refine (minP_uniq (mem_mp.mpr ⟨1, ⟨by omega, by omega, by simp⟩, ?_⟩) fun y hy => ?_).symm
  · unfold mulm
    rw [Int.one_mul, Int.one_mul, Int.emod_eq_of_lt a b, Int.emod_eq_of_lt c d]
  · obtain ⟨u, hu, rfl⟩ := List.mem_map.mp hy
    have := List.all_eq_true.mp f u hu
    exact Bool.not_eq_true' _ |>.mp this
theorem srt_uniq : ∀ {l k : List I2}, l.Perm k → l.Pairwise (fun a b => plt b a = false) → k.Pairwise (fun a b => plt b a = false) → l = k
  | [], k, h, _, _ => (List.Perm.eq_nil h.symm).symm
  | x :: l, [], h, _, _ => absurd h.length_eq (by simp)
  | x :: l, y :: k, h, hl, hk => by
    have e : x = y := by
      rcases List.mem_cons.mp (h.mem_iff.mp List.mem_cons_self) with z | z
      · exact z
      · rcases List.mem_cons.mp (h.mem_iff.mpr (List.mem_cons_self (a := y) (l := k))) with w | w
        · exact w.symm
        · exact plt_anti ((List.pairwise_cons.mp hk).1 x z) ((List.pairwise_cons.mp hl).1 y w)
    subst e
    rw [srt_uniq h.cons_inv (List.pairwise_cons.mp hl).2 (List.pairwise_cons.mp hk).2]
theorem Facts.le {m : Int} (F : Facts m) : (cls m).Pairwise fun a b => plt b a = false := F.srt.imp fun h => plt_asy _ _ h
theorem Facts.nodup {m : Int} (F : Facts m) : (cls m).Nodup := F.srt.imp fun {a b} h e => by
  rw [e, plt_irr] at h
  exact nomatch h
/-- what is sorted and has these is the list of all classes -/
theorem Facts.only {m : Int} (F : Facts m) {l : List I2} (h : l.Perm (cls m)) (s : l.Pairwise fun a b => plt b a = false) : l = cls m := srt_uniq h s F.le
end Tz

/-! What the transformers over the hidden table say; comprehensions with a test. -/
namespace Tz
open PySem PySem.Spec PyProof.Rows L2
section
variable {s : GS} {r : Rho} {nx : GS → Rho → Prop} {rt : GS → PyData → Prop} {E : GS → Nat → Prop} {a b : DZ}
theorem zSeq_q : zSeq a b s r nx rt E = a s r (fun s' r' => b s' r' nx rt E) rt E := propext Iff.rfl
theorem zIfS_q {t : GS → DT} : zIfS t a b s r nx rt E = t s r (fun c => if c = true then a s r nx rt E else b s r nx rt E) (E s) := propext Iff.rfl
theorem zNext_q : zNext s r nx rt E = nx s r := propext Iff.rfl
theorem zForV_q {d : GS → DE} {g : DG} : zForV d g b s r nx rt E = d s r (fun x => onI x fun j => (0 ≤ j ∧ j < 100000) ∧ forZ g b nx rt E (rangeD 0 j.toNat) s r) (E s) := propext Iff.rfl
theorem zDput_q {i : Nat} {d : GS → DE} : zDput i d s r nx rt E = (look r i = some dctD ∧ s.length ≤ 10000 ∧ d s r (fun x => ∃ p, x = pD p ∧ nx ((putP (psOf s) p).map pD) r) (E s)) := propext Iff.rfl
theorem zEnd_q {i : Nat} : zEnd i s r nx rt E = (look r i = some dctD ∧ ∀ ps : List I2, ps.Perm (psOf s) → ps.Pairwise (fun p q => plt q p = false) → rt s (.tuple (ps.map pD))) := propext Iff.rfl
theorem forZ_qn {g : DG} : forZ g b nx rt E [] s r = nx s r := propext Iff.rfl
theorem forZ_qc {g : DG} {x : PyData} {xs : List PyData} : forZ g b nx rt E (x :: xs) s r = g x r (fun r' => b s r' (fun s' r'' => forZ g b nx rt E xs s' r'') rt E) := propext Iff.rfl
theorem dDct_q {i : Nat} {nx : Rho → Prop} {rt : PyData → Prop} {E : Nat → Prop} : dDct i a r nx rt E = (dctFree r = true ∧ a [] (put r i dctD) (fun _ _ => False) (fun _ x => plain x = true ∧ rt x) (fun _ c => E c)) := propext Iff.rfl
end
theorem forZ_i {g : DG} {b : DZ} {nx : GS → Rho → Prop} {rt : GS → PyData → Prop} {E : GS → Nat → Prop} (I : List PyData → GS → Rho → Prop) (step : ∀ (x : PyData) (xs : List PyData) (s : GS) (r : Rho) (K : GS → Rho → Prop), I (x :: xs) s r → (∀ s' r', I xs s' r' → K s' r') → g x r (fun r' => b s r' K rt E))
    (fin : ∀ s r, I [] s r → nx s r) : ∀ (xs : List PyData) (s : GS) (r : Rho), I xs s r → forZ g b nx rt E xs s r
  | [], s, r, h => by
    rw [forZ_qn]
    exact fin s r h
  | x :: xs, s, r, h => by
    rw [forZ_qc]
    exact step x xs s r _ h fun s' r' h' => forZ_i I step fin xs s' r' h'
/-- a comprehension with a test -/
theorem lc_sel {g : DG} {t : DT} {e : DE} {r : Rho} {Q : List PyData → Prop} (B : PyData → Bool) (Y : PyData → PyData) (hY : ∀ x, B x = true → plain (Y x) = true) : ∀ (xs acc : List PyData),
    (∀ x ∈ xs, ∀ (K1 : PyData → Prop) (K2 : Prop), (B x = true → K1 (Y x)) → (B x = false → K2) → g x r (fun r' => t r' (fun b => if b = true then e r' K1 (fun _ => False) else K2) (fun _ => False))) →
    Q (acc ++ (xs.filter B).map Y) → lcL g t e r Q xs acc
  | [], acc, _, h => by
    rw [lcL_n]
    simpa using h
  | x :: xs, acc, st, h => by
    rw [lcL_c]
    refine st x List.mem_cons_self _ _ (fun hb => ⟨hY x hb, ?_⟩) fun hb => ?_
    · refine lc_sel B Y hY xs _ (fun y hy => st y (List.mem_cons_of_mem _ hy)) ?_
      rw [List.filter_cons_of_pos hb, List.map_cons] at h
      rw [List.append_assoc]
      exact h
    · refine lc_sel B Y hY xs _ (fun y hy => st y (List.mem_cons_of_mem _ hy)) ?_
      rw [List.filter_cons_of_neg (by rw [hb]; exact Bool.false_ne_true)] at h
      exact h
theorem rngD (lo : Int) (n : Nat) : rangeD lo n = ((List.range n).map fun (i : Nat) => lo + (i : Int)).map .int := by
  unfold rangeD
  rw [List.map_map]
  rfl
def isU (m : Int) : PyData → Bool
  | .int u => decide ((Int.gcd u m : Int) = 1)
  | _ => false
theorem sel_us (m : Int) : ((rangeD 1 (m - 1).toNat).filter (isU m)).map id = (us m).map .int := by
  rw [rngD, List.filter_map, List.map_id]
  rfl
def mulD (m : Int) (p : I2) : PyData → PyData
  | .int u => pD (mulm m u p)
  | x => .tuple []
theorem map_mp (m : Int) (p : I2) : ((((us m).map PyData.int).filter fun _ => true).map (mulD m p)) = (mp m p).map pD := by
  rw [List.filter_eq_self.mpr fun _ _ => rfl]
  unfold mp
  rw [List.map_map, List.map_map]
  rfl
theorem dTup2_q {s : DA} {r : Rho} {Q : PyData → Prop} {E : Nat → Prop} : dTup2 s r Q E = s r (fun xs => ∃ p : I2, xs = [.int p.1, .int p.2] ∧ Q (pD p)) E := propext Iff.rfl
theorem oMinP_q {xs : List PyData} {Q : PyData → Prop} : oMinP [.list xs] Q = onS (asPairs xs) fun ps => ps ≠ [] ∧ ∀ m, m ∈ ps → (∀ y ∈ ps, plt y m = false) → Q (pD m) := propext Iff.rfl
theorem dSS_q {a : DE} {r : Rho} {Q : PyData → Prop} {E : Nat → Prop} {i : Nat} {xs : List PyData} (h : look r i = some (.tuple xs)) : dSS (dVar i) r Q E = onS (asPairs xs) fun ps => ps.length ≤ 75 ∧ (ps.map hash0).Nodup ∧ ∀ qs : List I2, qs.Perm ps → qs.Pairwise (fun a b => plt b a = false) → Q (.list (qs.map pD)) := by
  show onS (look r i) _ = _
  rw [h]
  exact propext Iff.rfl
/-- the least of the multiples -/
theorem min_mp {m : Int} {p : I2} {Q : PyData → Prop} (h : 2 ≤ m) (q : Q (pD (lp m p))) : oMinP [.list ((mp m p).map pD)] Q := by
  rw [oMinP_q, asPairs_map, onS_s]
  refine ⟨mp_ne h, fun y hy hm => ?_⟩
  rw [minP_uniq hy hm]
  exact q
/-! ### the table's keys, step by step -/
def KInv (m : Int) (n i j : Nat) (ps : List I2) : Prop := ps.Nodup ∧ ps.length ≤ i * n + j ∧ ∀ q, q ∈ ps ↔ ∃ c d : Nat, (c < i ∨ c = i ∧ d < j) ∧ c < n ∧ d < n ∧ ok1 m ((c : Int), (d : Int)) = true ∧ lp m ((c : Int), (d : Int)) = q
theorem kinv_0 {m : Int} {n : Nat} : KInv m n 0 0 [] := ⟨List.nodup_nil, Nat.zero_le _, fun q => ⟨fun z => (nomatch z), fun ⟨c, d, h, _⟩ => by omega⟩⟩
theorem kinv_row {m : Int} {n i : Nat} {ps : List I2} (h : KInv m n i n ps) : KInv m n (i + 1) 0 ps := by
  refine ⟨h.1, by rw [Nat.succ_mul]; exact h.2.1, fun q => (h.2.2 q).trans ⟨fun ⟨c, d, a, b⟩ => ⟨c, d, by omega, b⟩, fun ⟨c, d, a, b, b2, b3⟩ => ⟨c, d, by omega, b, b2, b3⟩⟩⟩
theorem kinv_skip {m : Int} {n i j : Nat} {ps : List I2} (h : KInv m n i j ps) (hk : ok1 m ((i : Int), (j : Int)) = false) : KInv m n i (j + 1) ps := by
  refine ⟨h.1, Nat.le_succ_of_le h.2.1, fun q => (h.2.2 q).trans ⟨fun ⟨c, d, a, b⟩ => ⟨c, d, by omega, b⟩, fun ⟨c, d, a, b1, b2, b3, b4⟩ => ⟨c, d, ?_, b1, b2, b3, b4⟩⟩⟩
  rcases Nat.lt_or_ge c i with z | z
  · exact .inl z
  · have e : c = i := by omega
    by_cases ed : d = j
    · subst e
      subst ed
      rw [hk] at b3
      exact nomatch b3
    · omega
theorem kinv_put {m : Int} {n i j : Nat} {ps : List I2} (h : KInv m n i j ps) (hi : i < n) (hj : j < n) (hk : ok1 m ((i : Int), (j : Int)) = true) : KInv m n i (j + 1) (putP ps (lp m ((i : Int), (j : Int)))) := by
  have mem : ∀ q, q ∈ putP ps (lp m ((i : Int), (j : Int))) ↔ q ∈ ps ∨ q = lp m ((i : Int), (j : Int)) := fun q => by
    unfold putP
    split
    · rename_i z
      exact ⟨fun y => .inl y, fun y => y.elim id fun y => by rw [y]; exact z⟩
    · rw [List.mem_append, List.mem_singleton]
  refine ⟨?_, ?_, fun q => ?_⟩
  · unfold putP
    split
    · exact h.1
    · rename_i z
      refine List.nodup_append.mpr ⟨h.1, List.nodup_cons.mpr ⟨List.not_mem_nil, List.nodup_nil⟩, fun a ha b hb e => z ?_⟩
      rw [List.mem_singleton.mp hb] at e
      rw [← e]
      exact ha
  · have : (putP ps (lp m ((i : Int), (j : Int)))).length ≤ ps.length + 1 := by
      unfold putP
      split
      · omega
      · rw [List.length_append]
        exact Nat.le_refl _
    have := h.2.1
    omega
  · rw [mem, h.2.2 q]
    constructor
    · rintro (⟨c, d, a, b⟩ | rfl)
      · exact ⟨c, d, by omega, b⟩
      · exact ⟨i, j, by omega, hi, hj, hk, rfl⟩
    · rintro ⟨c, d, a, b1, b2, b3, b4⟩
      by_cases e : c = i ∧ d = j
      · obtain ⟨rfl, rfl⟩ := e
        exact .inr b4.symm
      · exact .inl ⟨c, d, by omega, b1, b2, b3, b4⟩
theorem kinv_perm {m : Int} {n : Nat} {ps : List I2} (h2 : 2 ≤ m) (hn : (n : Int) = m) (F : Facts m) (h : KInv m n n 0 ps) : ps.Perm (cls m) := by
  refine (List.perm_ext_iff_of_nodup h.1 F.nodup).mpr fun q => (h.2.2 q).trans ⟨fun ⟨c, d, _, _, _, b3, b4⟩ => ?_, fun hq => ?_⟩
  · rw [← b4]
    exact lp_cls h2 b3
  · obtain ⟨⟨⟨a, b⟩, c, d⟩, e, _⟩ := mem_cls.mp hq
    have eq : (((q.1.toNat : Nat) : Int), ((q.2.toNat : Nat) : Int)) = q := Prod.ext (by show ((q.1.toNat : Nat) : Int) = q.1; omega) (by show ((q.2.toNat : Nat) : Int) = q.2; omega)
    refine ⟨q.1.toNat, q.2.toNat, .inl (by omega), by omega, by omega, ?_, ?_⟩
    · rw [eq]
      exact e
    · rw [eq]
      exact cls_lp h2 hq
theorem fmq {n : Int} (h : 0 < n) (a : Int) : a.fmod n = a % n := Int.fmod_eq_emod_of_nonneg _ (by omega)
theorem dRng2_q {r : Rho} {i : Nat} {lo m : Int} {Q : List PyData → Prop} {E : Nat → Prop} (h : look r i = some (.int m)) (b1 : -(2 ^ 62) ≤ lo ∧ lo < 2 ^ 62) (b2 : -(2 ^ 62) ≤ m ∧ m < 2 ^ 62) (q : Q (rangeD lo (m - lo).toNat)) : dRng2 (dC (.int lo)) (dVar i) r Q E := by
  show onS (look r i) _
  rw [h]
  exact ⟨⟨b1.1, b1.2, b2.1, b2.2⟩, q⟩
/-! ### pairs compared -/
theorem eqv2 (p q : I2) : PyData.eqv (pD p) (pD q) = decide (p = q) := by
  have e : PyData.eqv (pD p) (pD q) = (decide (p.1 = q.1) && (decide (p.2 = q.2) && true)) := rfl
  rw [e]
  by_cases h : p = q
  · subst h
    simp
  · rw [decide_eq_false h]
    by_cases h1 : p.1 = q.1 <;> by_cases h2 : p.2 = q.2 <;> simp only [h1, h2, decide_true, decide_false, Bool.and_true, Bool.true_and, Bool.false_and, Bool.and_false, Bool.false_eq_true] <;> first | rfl | (exact (h (Prod.ext h1 h2)).elim)
theorem lay_prs : ∀ l : List I2, PyData.canLayAll0 (l.map pD) = true
  | [] => by
    show PyData.canLayAll0 [] = true
    unfold PyData.canLayAll0
    rfl
  | p :: l => by
    show PyData.canLayAll0 (pD p :: l.map pD) = true
    unfold PyData.canLayAll0
    rw [lay_prs l]
    rfl
theorem dep_prs : ∀ l : List I2, PyData.depthAll (l.map pD) ≤ 1
  | [] => by
    show PyData.depthAll [] ≤ 1
    unfold PyData.depthAll
    omega
  | p :: l => by
    have h := dep_prs l
    have d : (pD p).depth ≤ 1 := Nat.le_refl 1
    show PyData.depthAll (pD p :: l.map pD) ≤ 1
    unfold PyData.depthAll
    omega
theorem shp_t (l : List I2) : SeqAt.shaped (.tuple (l.map pD)) = true := by
  have h := dep_prs l
  unfold SeqAt.shaped
  rw [Bool.and_eq_true]
  constructor
  · unfold PyData.canLay0
    exact lay_prs l
  · unfold PyData.depth
    exact decide_eq_true (by omega)
theorem shp_l (l : List I2) : SeqAt.shaped (.list (l.map pD)) = true := by
  have h := dep_prs l
  unfold SeqAt.shaped
  rw [Bool.and_eq_true]
  constructor
  · unfold PyData.canLay0
    exact lay_prs l
  · unfold PyData.depth
    exact decide_eq_true (by omega)
theorem ne_pp {p q : I2} {k : Bool → Prop} (h : k (!decide (p = q))) : oNe (pD p) (pD q) (fun x => onB x k) := ⟨rfl, rfl, by rw [eqv2]; exact h⟩
theorem eq_pp {p q : I2} {Q : PyData → Prop} (h : Q (.bool (decide (p = q)))) : oEq (pD p) (pD q) Q := ⟨rfl, rfl, by rw [eqv2]; exact h⟩
theorem ne_ll {l : List I2} {k : Bool → Prop} (h : k false) : oNe (.list (l.map pD)) (.list (l.map pD)) (fun x => onB x k) := by
  have e : PyData.eqv (.list (l.map pD)) (.list (l.map pD)) = true := PySem.SeqAt.eqv_refl _ (SeqAt.canLay_of_shaped (shp_l l))
  refine ⟨shp_l l, shp_l l, ?_⟩
  rw [e]
  exact h
theorem any_prs (p : I2) : ∀ l : List I2, ((l.map pD).any fun z => PyData.eqv z (pD p)) = decide (p ∈ l)
  | [] => rfl
  | q :: l => by
    rw [List.map_cons, List.any_cons, any_prs p l, eqv2]
    by_cases h : q = p
    · subst h
      simp
    · have h' : ¬ p = q := fun z => h z.symm
      simp [h, h']
theorem nin_pp {p : I2} {l : List I2} {k : Bool → Prop} (h : k (!decide (p ∈ l))) : oNotIn (pD p) (.tuple (l.map pD)) (fun x => onB x k) := by
  refine ⟨rfl, shp_t l, ?_⟩
  rw [any_prs]
  exact h
/-! ### the classes of tables -/
theorem ok1_det {T : M} {m : Int} (h : T.det = 1) : ok1 m (T.c % m, T.d % m) = true := by
  refine ok1_iff.mpr fun g g1 g2 g3 => ?_
  have d1 : g ∣ T.c := (dvd_em g3).mp g1
  have d2 : g ∣ T.d := (dvd_em g3).mp g2
  rw [← h]
  exact Int.dvd_sub (Int.dvd_trans d2 (Int.dvd_mul_left _ _)) (Int.dvd_trans d1 (Int.dvd_mul_left _ _))
theorem lp_in {T : M} {m : Int} (h1 : 2 ≤ m) (h : T.det = 1) : lp m (T.c, T.d) ∈ cls m := by
  rw [lp_mod h1]
  exact lp_cls h1 (ok1_det h)
theorem lp_same {A B : M} {m : Int} (h1 : 2 ≤ m) (ha : A.det = 1) (hb : B.det = 1) : decide (lp m (A.c, A.d) = lp m (B.c, B.d)) = decide ((A.mul B.inv).c % m = 0) := by
  have c1 : (A.mul B.inv).c = A.c * B.d - A.d * B.c := by
    show A.c * B.d + A.d * -B.c = _
    rw [Int.mul_neg]
    omega
  rw [c1, decide_eq_decide]
  exact ⟨fun z => Int.emod_eq_zero_of_dvd (lp_dvd h1 z), fun z => dvd_lp h1 ha hb (Int.dvd_of_emod_eq_zero z)⟩
end Tz

namespace Tz
open PySem PySem.Spec PyProof.Rows L2
def b_is_number : DS := (dRet (dAndV (dIsi "int" (dVar 0)) (dNotV (dIsi "bool" (dVar 0)))))
def f_is_number : DF := dFn 1 b_is_number
def t_is_number (C : Cn) (A : Ga) : TS := (tRet (tAndV (tIsi C.K "int" (tVar 0)) (tNotV (tIsi C.K "bool" (tVar 0)))))
theorem sim_is_number (C : Cn) (A : Ga) : SimS C (t_is_number C A) b_is_number := (s_ret (s_andV (s_isi (s_var 0)) (s_notV (s_isi (s_var 0)))))
def b_are_four : DS := (dSeq (dIfS (dOr (dNot (dTest (dIsi "tuple" (dVar 0)))) (dOr (dTest (dOp oNe (dCB oLen (dCons (dVar 0) dNil)) (dC (.int 4)))) (dNot (dTest (dCB oAll (dCons (dLc (dOver (dVar 0)) (dgName 1) dYes (dCall 1 f_is_number (dCons (dVar 1) dNil)) [1]) dNil)))))) (dRet (dC (.bool false))) dNext) (dRet (dOp oEq (dOp oSub (dOp oMul (dOp oIx (dVar 0) (dC (.int 0))) (dOp oIx (dVar 0) (dC (.int 3)))) (dOp oMul (dOp oIx (dVar 0) (dC (.int 1))) (dOp oIx (dVar 0) (dC (.int 2))))) (dC (.int 1)))))
def f_are_four : DF := dFn 2 b_are_four
def t_are_four (C : Cn) (A : Ga) : TS := (tSeq (tIfS (tOr (tNot (tB (tIsi C.K "tuple" (tVar 0)))) (tOr (tTest (tOp (rNeU C.K) (tCB (rLenU C.K) (tCons (tVar 0) tNil)) (tC (.int 4)))) (tNot (tB (tCB (rAll C.K) (tCons (tLc (iAny C.K (tVar 0)) (gName 1) tYes (tCallS (lift C.K C.ec GPany 1 f_is_number) (fun _ => C.no.E0) (tCons (tVar 1) tNil)) [1]) tNil)))))) (tRet (tC (.bl false))) tNext) (tRet (tOp (rEqU C.K) (tOp rSubU (tOp rMulU (tOp (rIx C.K) (tVar 0) (tC (.int 0))) (tOp (rIx C.K) (tVar 0) (tC (.int 3)))) (tOp rMulU (tOp (rIx C.K) (tVar 0) (tC (.int 1))) (tOp (rIx C.K) (tVar 0) (tC (.int 2))))) (tC (.int 1)))))
theorem sim_are_four (C : Cn) (A : Ga) : SimS C (t_are_four C A) b_are_four := (s_seq (s_ifS (s_or (s_not (s_B (s_isi (s_var 0)))) (s_or (s_test (s_op s_ne (s_cb s_len (s_cons (s_var 0) s_nil)) s_int)) (s_not (s_B (s_cb s_all (s_cons (s_lc (i_over (s_var 0)) (gin_name 1) (g_name 1) s_yes (s_call (fun _ _ => trivial) (s_cons (s_var 1) s_nil))) s_nil)))))) (s_ret s_bl) s_next) (s_ret (s_op s_eq (s_op s_sub (s_op s_mul (s_op s_ix (s_var 0) s_int) (s_op s_ix (s_var 0) s_int)) (s_op s_mul (s_op s_ix (s_var 0) s_int) (s_op s_ix (s_var 0) s_int))) s_int)))
def b_is_table : DS := (dRet (dAndV (dCall 1 f_are_four (dCons (dVar 0) dNil)) (dOp oLe (dCB oMaxU (dCons (dLc (dOver (dVar 0)) (dgName 1) dYes (dCB oAbs (dCons (dVar 1) dNil)) [1]) dNil)) (dOp oPow (dC (.int 10)) (dC (.int 6))))))
def f_is_table : DF := dFn 2 b_is_table
def t_is_table (C : Cn) (A : Ga) : TS := (tRet (tAndV (tCallS (lift C.K C.ec GPany 1 f_are_four) (fun _ => C.E0) (tCons (tVar 0) tNil)) (tOp rLeU (tCB (rMaxU C.K) (tCons (tLc (iAny C.K (tVar 0)) (gName 1) tYes (tCB rAbsU (tCons (tVar 1) tNil)) [1]) tNil)) (tOp rPowU (tC (.int 10)) (tC (.int 6))))))
theorem sim_is_table (C : Cn) (A : Ga) : SimS C (t_is_table C A) b_is_table := (s_ret (s_andV (s_call (fun _ _ => trivial) (s_cons (s_var 0) s_nil)) (s_op s_le (s_cb s_maxU (s_cons (s_lc (i_over (s_var 0)) (gin_name 1) (g_name 1) s_yes (s_cb s_abs (s_cons (s_var 1) s_nil))) s_nil)) (s_op s_pow s_int s_int))))
def b_need_table : DS := (dIfS (dNot (dTest (dCall 1 f_is_table (dCons (dVar 0) dNil)))) (dRaise 0) dNext)
def f_need_table : DF := dFn 1 b_need_table
def t_need_table (C : Cn) (A : Ga) : TS := (tIfS (tNot (tB (tCallS (lift C.K C.ec GPany 1 f_is_table) (fun _ => C.E0) (tCons (tVar 0) tNil)))) (tRaise C 0) tNext)
theorem sim_need_table (C : Cn) (A : Ga) : SimS C (t_need_table C A) b_need_table := (s_ifS (s_not (s_B (s_call (fun _ _ => trivial) (s_cons (s_var 0) s_nil)))) (s_raise 0) s_next)
def b_is_whole : DS := (dRet (dAndV (dCall 1 f_is_number (dCons (dVar 0) dNil)) (dChain oLe oLe (dVar 1) (dVar 0) (dVar 2))))
def f_is_whole : DF := dFn 3 b_is_whole
def t_is_whole (C : Cn) (A : Ga) : TS := (tRet (tAndV (tCallS (lift C.K C.ec GPany 1 f_is_number) (fun _ => C.E0) (tCons (tVar 0) tNil)) (tChain rLeU rLeU (tVar 1) (tVar 0) (tVar 2))))
theorem sim_is_whole (C : Cn) (A : Ga) : SimS C (t_is_whole C A) b_is_whole := (s_ret (s_andV (s_call (fun _ _ => trivial) (s_cons (s_var 0) s_nil)) (s_chain s_le s_le (s_var 1) (s_var 0) (s_var 2))))
def b_need_modulus : DS := (dIfS (dNot (dTest (dCall 3 f_is_whole (dCons (dVar 0) (dCons (dC (.int 2)) (dCons (dC (.int 30)) dNil)))))) (dRaise 7) dNext)
def f_need_modulus : DF := dFn 1 b_need_modulus
def t_need_modulus (C : Cn) (A : Ga) : TS := (tIfS (tNot (tB (tCallS (lift C.K C.ec GPany 3 f_is_whole) (fun _ => C.E0) (tCons (tVar 0) (tCons (tC (.int 2)) (tCons (tC (.int 30)) tNil)))))) (tRaise C 7) tNext)
theorem sim_need_modulus (C : Cn) (A : Ga) : SimS C (t_need_modulus C A) b_need_modulus := (s_ifS (s_not (s_B (s_call (fun _ _ => trivial) (s_cons (s_var 0) (s_cons s_int (s_cons s_int s_nil)))))) (s_raise 7) s_next)
def b_divisor : DS := (dSeq (dPar 0 1 (dCons (dCB oAbs (dCons (dVar 0) dNil)) (dCons (dCB oAbs (dCons (dVar 1) dNil)) dNil))) (dSeq (dWhile (dTru (dVar 1)) (dPar 0 1 (dCons (dVar 1) (dCons (dOp oMod (dVar 0) (dVar 1)) dNil)))) (dRet (dVar 0))))
def f_divisor : DF := dFn 2 b_divisor
def t_divisor (C : Cn) (A : Ga) : TS := (tSeq (tPar 0 1 (tCons (tCB rAbsU (tCons (tVar 0) tNil)) (tCons (tCB rAbsU (tCons (tVar 1) tNil)) tNil))) (tSeq (tWhile (tTru C.K (tVar 1)) (tPar 0 1 (tCons (tVar 1) (tCons (tOp rModU (tVar 0) (tVar 1)) tNil)))) (tRet (tVar 0))))
theorem sim_divisor (C : Cn) (A : Ga) : SimS C (t_divisor C A) b_divisor := (s_seq (s_par (s_cons (s_cb s_abs (s_cons (s_var 0) s_nil)) (s_cons (s_cb s_abs (s_cons (s_var 1) s_nil)) s_nil))) (s_seq (s_while (s_tru (s_var 1)) (s_par (s_cons (s_var 1) (s_cons (s_op s_mod (s_var 0) (s_var 1)) s_nil)))) (s_ret (s_var 0))))
def b_units_of : DS := (dRet (dLc (dRng2 (dC (.int 1)) (dVar 0)) (dgName 1) (dTest (dOp oEq (dCall 2 f_divisor (dCons (dVar 1) (dCons (dVar 0) dNil))) (dC (.int 1)))) (dVar 1) [1]))
def f_units_of : DF := dFn 2 b_units_of
def t_units_of (C : Cn) (A : Ga) : TS := (tRet (tLc (iRng2 (tCons (tC (.int 1)) (tCons (tVar 0) tNil))) (gName 1) (tTest (tOp (rEqU C.K) (tCallS (lift C.K C.ec GPany 2 f_divisor) (fun _ => C.no.E0) (tCons (tVar 1) (tCons (tVar 0) tNil))) (tC (.int 1)))) (tVar 1) [1]))
theorem sim_units_of (C : Cn) (A : Ga) : SimS C (t_units_of C A) b_units_of := (s_ret (s_lc (i_rng2 s_int (s_var 0)) (gin_name 1) (g_name 1) (s_test (s_op s_eq (s_call (fun _ _ => trivial) (s_cons (s_var 1) (s_cons (s_var 0) s_nil))) s_int)) (s_var 1)))
def b_first_pair : DE := (dCB oMinP (dCons (dLc (dOver (dCall 1 f_units_of (dCons (dVar 2) dNil))) (dgName 3) dYes (dTup2 (dCons (dOp oMod (dOp oMul (dVar 3) (dVar 0)) (dVar 2)) (dCons (dOp oMod (dOp oMul (dVar 3) (dVar 1)) (dVar 2)) dNil))) [3]) dNil))
def f_first_pair : DF := dFn 4 (dRet b_first_pair)
def t_first_pair (C : Cn) (A : Ga) : TE := (tCB (rMinP C.K) (tCons (tLc (iAny C.K (tCallS (lift C.K C.ec GPany 1 f_units_of) (fun _ => C.E0) (tCons (tVar 2) tNil))) (gName 3) tYes (tTup (tCons (tOp rModU (tOp rMulU (tVar 3) (tVar 0)) (tVar 2)) (tCons (tOp rModU (tOp rMulU (tVar 3) (tVar 1)) (tVar 2)) tNil))) [3]) tNil))
theorem sim_first_pair (C : Cn) (A : Ga) : SimTr C (t_first_pair C A) b_first_pair := (st_min (st_lc (i_over (s_call (fun _ _ => trivial) (s_cons (s_var 2) s_nil))) (gin_name 3) (g_name 3) s_yes (st_tup (s_cons (s_op s_mod (s_op s_mul (s_var 3) (s_var 0)) (s_var 2)) (s_cons (s_op s_mod (s_op s_mul (s_var 3) (s_var 1)) (s_var 2)) s_nil)))))
def b_class_of : DS := (dSeq (dDrop (dCall 1 f_need_table (dCons (dVar 0) dNil))) (dSeq (dDrop (dCall 1 f_need_modulus (dCons (dVar 1) dNil))) (dRet (dCall 3 f_first_pair (dCons (dOp oIx (dVar 0) (dC (.int 2))) (dCons (dOp oIx (dVar 0) (dC (.int 3))) (dCons (dVar 1) dNil)))))))
def f_class_of : DF := dFn 2 b_class_of
def t_class_of (C : Cn) (A : Ga) : TS := (tSeq (tDrop (tCallS (lift C.K C.ec GPany 1 f_need_table) (fun _ => C.E0) (tCons (tVar 0) tNil))) (tSeq (tDrop (tCallS (lift C.K C.ec GPany 1 f_need_modulus) (fun _ => C.E0) (tCons (tVar 1) tNil))) (tRet (tCallS (lift C.K C.ec GPany 3 f_first_pair) (fun _ => C.E0) (tCons (tOp (rIx C.K) (tVar 0) (tC (.int 2))) (tCons (tOp (rIx C.K) (tVar 0) (tC (.int 3))) (tCons (tVar 1) tNil)))))))
theorem sim_class_of (C : Cn) (A : Ga) : SimS C (t_class_of C A) b_class_of := (s_seq (s_drop (s_call (fun _ _ => trivial) (s_cons (s_var 0) s_nil))) (s_seq (s_drop (s_call (fun _ _ => trivial) (s_cons (s_var 1) s_nil))) (s_ret (s_call (fun _ _ => trivial) (s_cons (s_op s_ix (s_var 0) s_int) (s_cons (s_op s_ix (s_var 0) s_int) (s_cons (s_var 1) s_nil)))))))
def b_all_classes : DS := (dSeq (dDrop (dCall 1 f_need_modulus (dCons (dVar 0) dNil))) (dDct 1 (zSeq (zForV (fun _ => (dVar 0)) (dgName 2) (zForV (fun _ => (dVar 0)) (dgName 3) (zIfS (fun _ => (dTest (dOp oEq (dCall 2 f_divisor (dCons (dCall 2 f_divisor (dCons (dVar 2) (dCons (dVar 3) dNil))) (dCons (dVar 0) dNil))) (dC (.int 1))))) (zDput 1 (fun _ => (dCall 3 f_first_pair (dCons (dVar 2) (dCons (dVar 3) (dCons (dVar 0) dNil)))))) zNext))) (zEnd 1))))
def f_all_classes : DF := dFn 4 b_all_classes
def t_all_classes (C : Cn) (A : Ga) : TS := (tSeq (tDrop (tCallS (lift C.K C.ec GPany 1 f_need_modulus) (fun _ => C.E0) (tCons (tVar 0) tNil))) (tSeq (tAsg tDNewT (gName 1)) (tSeq (tFor (iRng1 (tCons (tVar 0) tNil)) (gName 2) (tFor (iRng1 (tCons (tVar 0) tNil)) (gName 3) (tIfS (tTest (tOp (rEqU C.K) (tCallS (lift C.K C.ec GPany 2 f_divisor) (fun _ => C.E0) (tCons (tCallS (lift C.K C.ec GPany 2 f_divisor) (fun _ => C.E0) (tCons (tVar 2) (tCons (tVar 3) tNil))) (tCons (tVar 0) tNil))) (tC (.int 1)))) (sDPut (tVar 1) (tCallS (liftT C.K C.ec GPany 3 f_first_pair) (fun _ => C.E0) (tCons (tVar 2) (tCons (tVar 3) (tCons (tVar 0) tNil)))) (tC (.bl true))) tNext))) (tRet (tCB (rTupleU C.K) (tCons (tCB (rSortedPO C.K) (tCons (tCB rListT (tCons (tVar 1) tNil)) tNil)) tNil))))))
theorem sim_all_classes (C : Cn) (A : Ga) : SimS C (t_all_classes C A) b_all_classes := (s_seq (s_drop (s_call (fun _ _ => trivial) (s_cons (s_var 0) s_nil))) (s_dct (z_seq (z_forV (fun _ => (s_var 0)) (fun _ => g_name 2) (z_forV (fun _ => (s_var 0)) (fun _ => g_name 3) (z_ifS (fun _ => (s_test (s_op s_eq (s_call (fun _ _ => trivial) (s_cons (s_call (fun _ _ => trivial) (s_cons (s_var 2) (s_cons (s_var 3) s_nil))) (s_cons (s_var 0) s_nil))) s_int))) (z_dput (fun _ h => h) (fun _ => st_call (fun _ _ => trivial) (s_cons (s_var 2) (s_cons (s_var 3) (s_cons (s_var 0) s_nil))))) z_next))) (z_end (fun _ h => h)))))
def b_law_times : DS := (dSeq (dAsg (dTup (dCons (dVar 0) (dCons (dVar 1) dNil))) (dgTup 2 (dgCons (dgTup 4 (dgCons (dgName 2) (dgCons (dgName 3) (dgCons (dgName 4) (dgCons (dgName 5) dgNil))))) (dgCons (dgTup 4 (dgCons (dgName 6) (dgCons (dgName 7) (dgCons (dgName 8) (dgCons (dgName 9) dgNil))))) dgNil)))) (dRet (dTup (dCons (dOp oAdd (dOp oMul (dVar 2) (dVar 6)) (dOp oMul (dVar 3) (dVar 8))) (dCons (dOp oAdd (dOp oMul (dVar 2) (dVar 7)) (dOp oMul (dVar 3) (dVar 9))) (dCons (dOp oAdd (dOp oMul (dVar 4) (dVar 6)) (dOp oMul (dVar 5) (dVar 8))) (dCons (dOp oAdd (dOp oMul (dVar 4) (dVar 7)) (dOp oMul (dVar 5) (dVar 9))) dNil)))))))
def f_law_times : DF := dFn 10 b_law_times
def t_law_times (C : Cn) (A : Ga) : TS := (tSeq (tAsg (tTup (tCons (tVar 0) (tCons (tVar 1) tNil))) (gTup C.K 2 (gCons (gTup C.K 4 (gCons (gName 2) (gCons (gName 3) (gCons (gName 4) (gCons (gName 5) gNil))))) (gCons (gTup C.K 4 (gCons (gName 6) (gCons (gName 7) (gCons (gName 8) (gCons (gName 9) gNil))))) gNil)))) (tRet (tTup (tCons (tOp rAddU (tOp rMulU (tVar 2) (tVar 6)) (tOp rMulU (tVar 3) (tVar 8))) (tCons (tOp rAddU (tOp rMulU (tVar 2) (tVar 7)) (tOp rMulU (tVar 3) (tVar 9))) (tCons (tOp rAddU (tOp rMulU (tVar 4) (tVar 6)) (tOp rMulU (tVar 5) (tVar 8))) (tCons (tOp rAddU (tOp rMulU (tVar 4) (tVar 7)) (tOp rMulU (tVar 5) (tVar 9))) tNil)))))))
theorem sim_law_times (C : Cn) (A : Ga) : SimS C (t_law_times C A) b_law_times := (s_seq (s_asg (s_tup (s_cons (s_var 0) (s_cons (s_var 1) s_nil))) (g_tup (g_cons (g_tup (g_cons (g_name 2) (g_cons (g_name 3) (g_cons (g_name 4) (g_cons (g_name 5) g_nil))))) (g_cons (g_tup (g_cons (g_name 6) (g_cons (g_name 7) (g_cons (g_name 8) (g_cons (g_name 9) g_nil))))) g_nil)))) (s_ret (s_tup (s_cons (s_op s_add (s_op s_mul (s_var 2) (s_var 6)) (s_op s_mul (s_var 3) (s_var 8))) (s_cons (s_op s_add (s_op s_mul (s_var 2) (s_var 7)) (s_op s_mul (s_var 3) (s_var 9))) (s_cons (s_op s_add (s_op s_mul (s_var 4) (s_var 6)) (s_op s_mul (s_var 5) (s_var 8))) (s_cons (s_op s_add (s_op s_mul (s_var 4) (s_var 7)) (s_op s_mul (s_var 5) (s_var 9))) s_nil)))))))
def b_law_inverse : DS := (dSeq (dAsg (dVar 0) (dgTup 4 (dgCons (dgName 1) (dgCons (dgName 2) (dgCons (dgName 3) (dgCons (dgName 4) dgNil)))))) (dRet (dTup (dCons (dVar 4) (dCons (dUn oNeg (dVar 2)) (dCons (dUn oNeg (dVar 3)) (dCons (dVar 1) dNil)))))))
def f_law_inverse : DF := dFn 5 b_law_inverse
def t_law_inverse (C : Cn) (A : Ga) : TS := (tSeq (tAsg (tVar 0) (gTup C.K 4 (gCons (gName 1) (gCons (gName 2) (gCons (gName 3) (gCons (gName 4) gNil)))))) (tRet (tTup (tCons (tVar 4) (tCons (tUn rNegU (tVar 2)) (tCons (tUn rNegU (tVar 3)) (tCons (tVar 1) tNil)))))))
theorem sim_law_inverse (C : Cn) (A : Ga) : SimS C (t_law_inverse C A) b_law_inverse := (s_seq (s_asg (s_var 0) (g_tup (g_cons (g_name 1) (g_cons (g_name 2) (g_cons (g_name 3) (g_cons (g_name 4) g_nil)))))) (s_ret (s_tup (s_cons (s_var 4) (s_cons (s_un s_neg (s_var 2)) (s_cons (s_un s_neg (s_var 3)) (s_cons (s_var 1) s_nil)))))))
def b_law_negative : DS := (dRet (dCB oTuple (dCons (dLc (dOver (dVar 0)) (dgName 1) dYes (dUn oNeg (dVar 1)) [1]) dNil)))
def f_law_negative : DF := dFn 2 b_law_negative
def t_law_negative (C : Cn) (A : Ga) : TS := (tRet (tCB (rTupleU C.K) (tCons (tLc (iAny C.K (tVar 0)) (gName 1) tYes (tUn rNegU (tVar 1)) [1]) tNil)))
theorem sim_law_negative (C : Cn) (A : Ga) : SimS C (t_law_negative C A) b_law_negative := (s_ret (s_cb s_tuple (s_cons (s_lc (i_over (s_var 0)) (gin_name 1) (g_name 1) s_yes (s_un s_neg (s_var 1))) s_nil)))
def b_law_letter : DS := (dSeq (dAsg (dLst (dCons (dTup (dCons (dC (.int 0)) (dCons (dUn oNeg (dC (.int 1))) (dCons (dC (.int 1)) (dCons (dC (.int 0)) dNil))))) (dCons (dTup (dCons (dC (.int 1)) (dCons (dC (.int 1)) (dCons (dC (.int 0)) (dCons (dC (.int 1)) dNil))))) (dCons (dTup (dCons (dC (.int 1)) (dCons (dUn oNeg (dC (.int 1))) (dCons (dC (.int 0)) (dCons (dC (.int 1)) dNil))))) (dCons (dTup (dCons (dC (.int 0)) (dCons (dUn oNeg (dC (.int 1))) (dCons (dC (.int 1)) (dCons (dC (.int 1)) dNil))))) (dCons (dTup (dCons (dUn oNeg (dC (.int 1))) (dCons (dUn oNeg (dC (.int 1))) (dCons (dC (.int 1)) (dCons (dC (.int 0)) dNil))))) (dCons (dTup (dCons (dC (.int 1)) (dCons (dC (.int 0)) (dCons (dC (.int 1)) (dCons (dC (.int 1)) dNil))))) dNil))))))) (dgName 1)) (dRet (dOp oIx (dVar 1) (dMs oSindex (dC (.str ("stTwvl" : Str))) (dVar 0)))))
def f_law_letter : DF := dFn 2 b_law_letter
def t_law_letter (C : Cn) (A : Ga) : TS := (tSeq (tAsg (tLst (tCons (tTup (tCons (tC (.int 0)) (tCons (tUn rNegU (tC (.int 1))) (tCons (tC (.int 1)) (tCons (tC (.int 0)) tNil))))) (tCons (tTup (tCons (tC (.int 1)) (tCons (tC (.int 1)) (tCons (tC (.int 0)) (tCons (tC (.int 1)) tNil))))) (tCons (tTup (tCons (tC (.int 1)) (tCons (tUn rNegU (tC (.int 1))) (tCons (tC (.int 0)) (tCons (tC (.int 1)) tNil))))) (tCons (tTup (tCons (tC (.int 0)) (tCons (tUn rNegU (tC (.int 1))) (tCons (tC (.int 1)) (tCons (tC (.int 1)) tNil))))) (tCons (tTup (tCons (tUn rNegU (tC (.int 1))) (tCons (tUn rNegU (tC (.int 1))) (tCons (tC (.int 1)) (tCons (tC (.int 0)) tNil))))) (tCons (tTup (tCons (tC (.int 1)) (tCons (tC (.int 0)) (tCons (tC (.int 1)) (tCons (tC (.int 1)) tNil))))) tNil))))))) (gName 1)) (tRet (tOp (rIx C.K) (tVar 1) (tM1 rSindexU (tC (.str ("stTwvl" : Str))) (tVar 0)))))
theorem sim_law_letter (C : Cn) (A : Ga) : SimS C (t_law_letter C A) b_law_letter := (s_seq (s_asg (s_lst (s_cons (s_tup (s_cons s_int (s_cons (s_un s_neg s_int) (s_cons s_int (s_cons s_int s_nil))))) (s_cons (s_tup (s_cons s_int (s_cons s_int (s_cons s_int (s_cons s_int s_nil))))) (s_cons (s_tup (s_cons s_int (s_cons (s_un s_neg s_int) (s_cons s_int (s_cons s_int s_nil))))) (s_cons (s_tup (s_cons s_int (s_cons (s_un s_neg s_int) (s_cons s_int (s_cons s_int s_nil))))) (s_cons (s_tup (s_cons (s_un s_neg s_int) (s_cons (s_un s_neg s_int) (s_cons s_int (s_cons s_int s_nil))))) (s_cons (s_tup (s_cons s_int (s_cons s_int (s_cons s_int (s_cons s_int s_nil))))) s_nil))))))) (g_name 1)) (s_ret (s_op s_ix (s_var 1) (s_ms s_sindex s_str (s_var 0)))))
def b_law_product : DS := (dSeq (dAsg (dTup (dCons (dC (.int 1)) (dCons (dC (.int 0)) (dCons (dC (.int 0)) (dCons (dC (.int 1)) dNil))))) (dgName 1)) (dSeq (dFor (dOver (dVar 0)) (dgName 2) (dAsg (dCall 2 f_law_times (dCons (dVar 1) (dCons (dCall 1 f_law_letter (dCons (dVar 2) dNil)) dNil))) (dgName 1))) (dRet (dVar 1))))
def f_law_product : DF := dFn 3 b_law_product
def t_law_product (C : Cn) (A : Ga) : TS := (tSeq (tAsg (tTup (tCons (tC (.int 1)) (tCons (tC (.int 0)) (tCons (tC (.int 0)) (tCons (tC (.int 1)) tNil))))) (gName 1)) (tSeq (tFor (iAny C.K (tVar 0)) (gName 2) (tAsg (tCallS (lift C.K C.ec GPany 2 f_law_times) (fun _ => C.E0) (tCons (tVar 1) (tCons (tCallS (lift C.K C.ec GPany 1 f_law_letter) (fun _ => C.E0) (tCons (tVar 2) tNil)) tNil))) (gName 1))) (tRet (tVar 1))))
theorem sim_law_product (C : Cn) (A : Ga) : SimS C (t_law_product C A) b_law_product := (s_seq (s_asg (s_tup (s_cons s_int (s_cons s_int (s_cons s_int (s_cons s_int s_nil))))) (g_name 1)) (s_seq (s_for (i_over (s_var 0)) (g_name 2) (s_asg (s_call (fun _ _ => trivial) (s_cons (s_var 1) (s_cons (s_call (fun _ _ => trivial) (s_cons (s_var 2) s_nil)) s_nil))) (g_name 1))) (s_ret (s_var 1))))
def b_law_any_word : DS := (dRet (dMs oJoin (dC (.str ("" : Str))) (dLc (dRng1 (dCall 2 f_law_roll (dCons (dVar 0) (dCons (dOp oAdd (dVar 1) (dC (.int 1))) dNil)))) (dgName 2) dYes (dOp oIx (dC (.str ("stT" : Str))) (dCall 2 f_law_roll (dCons (dVar 0) (dCons (dC (.int 3)) dNil)))) [2])))
def f_law_any_word : DF := dFn 3 b_law_any_word
def t_law_any_word (C : Cn) (A : Ga) : TS := (tRet (tM1 (rJoinU C.K) (tC (.str ("" : Str))) (tLc (iRng1 (tCons (tCallS (lift C.K C.ec GPr 2 f_law_roll) (fun _ => C.E0) (tCons (tVar 0) (tCons (tOp rAddU (tVar 1) (tC (.int 1))) tNil))) tNil)) (gName 2) tYes (tOp (rIx C.K) (tC (.str ("stT" : Str))) (tCallS (lift C.K C.ec GPr 2 f_law_roll) (fun _ => C.no.E0) (tCons (tVar 0) (tCons (tC (.int 3)) tNil)))) [2])))
theorem sim_law_any_word (C : Cn) (A : Ga) (hR : ∀ G, C.GP G → GPr G) : SimS C (t_law_any_word C A) b_law_any_word := (s_ret (s_ms s_join s_str (s_lc (i_rng1 (s_call hR (s_cons (s_var 0) (s_cons (s_op s_add (s_var 1) s_int) s_nil)))) (gin_name 2) (g_name 2) s_yes (s_op s_ix s_str (s_call hR (s_cons (s_var 0) (s_cons s_int s_nil)))))))
def b_law_small : DS := (dSeq (dAsg (dLst (dCons (dTup (dCons (dC (.int 1)) (dCons (dC (.int 0)) (dCons (dC (.int 0)) (dCons (dC (.int 1)) dNil))))) (dCons (dTup (dCons (dC (.int 0)) (dCons (dUn oNeg (dC (.int 1))) (dCons (dC (.int 1)) (dCons (dC (.int 0)) dNil))))) (dCons (dTup (dCons (dC (.int 1)) (dCons (dC (.int 1)) (dCons (dC (.int 0)) (dCons (dC (.int 1)) dNil))))) (dCons (dTup (dCons (dC (.int 1)) (dCons (dC (.int 0)) (dCons (dC (.int 1)) (dCons (dC (.int 1)) dNil))))) (dCons (dTup (dCons (dC (.int 2)) (dCons (dC (.int 1)) (dCons (dC (.int 1)) (dCons (dC (.int 1)) dNil))))) (dCons (dTup (dCons (dC (.int 1)) (dCons (dUn oNeg (dC (.int 1))) (dCons (dC (.int 0)) (dCons (dC (.int 1)) dNil))))) (dCons (dTup (dCons (dC (.int 1)) (dCons (dC (.int 1)) (dCons (dC (.int 1)) (dCons (dC (.int 2)) dNil))))) dNil)))))))) (dgName 1)) (dSeq (dAsg (dOp oAdd (dVar 1) (dLst (dCons (dTup (dCons (dC (.int 0)) (dCons (dC (.int 1)) (dCons (dUn oNeg (dC (.int 1))) (dCons (dC (.int 1)) dNil))))) (dCons (dTup (dCons (dUn oNeg (dC (.int 1))) (dCons (dC (.int 0)) (dCons (dC (.int 0)) (dCons (dUn oNeg (dC (.int 1))) dNil))))) (dCons (dTup (dCons (dC (.int 1)) (dCons (dC (.int 2)) (dCons (dC (.int 0)) (dCons (dC (.int 1)) dNil))))) (dCons (dTup (dCons (dC (.int 1)) (dCons (dC (.int 0)) (dCons (dUn oNeg (dC (.int 2))) (dCons (dC (.int 1)) dNil))))) (dCons (dTup (dCons (dUn oNeg (dC (.int 1))) (dCons (dC (.int 1)) (dCons (dUn oNeg (dC (.int 1))) (dCons (dC (.int 0)) dNil))))) dNil))))))) (dgName 1)) (dRet (dOp oIx (dVar 1) (dCall 2 f_law_roll (dCons (dVar 0) (dCons (dC (.int 12)) dNil)))))))
def f_law_small : DF := dFn 2 b_law_small
def t_law_small (C : Cn) (A : Ga) : TS := (tSeq (tAsg (tLst (tCons (tTup (tCons (tC (.int 1)) (tCons (tC (.int 0)) (tCons (tC (.int 0)) (tCons (tC (.int 1)) tNil))))) (tCons (tTup (tCons (tC (.int 0)) (tCons (tUn rNegU (tC (.int 1))) (tCons (tC (.int 1)) (tCons (tC (.int 0)) tNil))))) (tCons (tTup (tCons (tC (.int 1)) (tCons (tC (.int 1)) (tCons (tC (.int 0)) (tCons (tC (.int 1)) tNil))))) (tCons (tTup (tCons (tC (.int 1)) (tCons (tC (.int 0)) (tCons (tC (.int 1)) (tCons (tC (.int 1)) tNil))))) (tCons (tTup (tCons (tC (.int 2)) (tCons (tC (.int 1)) (tCons (tC (.int 1)) (tCons (tC (.int 1)) tNil))))) (tCons (tTup (tCons (tC (.int 1)) (tCons (tUn rNegU (tC (.int 1))) (tCons (tC (.int 0)) (tCons (tC (.int 1)) tNil))))) (tCons (tTup (tCons (tC (.int 1)) (tCons (tC (.int 1)) (tCons (tC (.int 1)) (tCons (tC (.int 2)) tNil))))) tNil)))))))) (gName 1)) (tSeq (tAsg (tOp rAddU (tVar 1) (tLst (tCons (tTup (tCons (tC (.int 0)) (tCons (tC (.int 1)) (tCons (tUn rNegU (tC (.int 1))) (tCons (tC (.int 1)) tNil))))) (tCons (tTup (tCons (tUn rNegU (tC (.int 1))) (tCons (tC (.int 0)) (tCons (tC (.int 0)) (tCons (tUn rNegU (tC (.int 1))) tNil))))) (tCons (tTup (tCons (tC (.int 1)) (tCons (tC (.int 2)) (tCons (tC (.int 0)) (tCons (tC (.int 1)) tNil))))) (tCons (tTup (tCons (tC (.int 1)) (tCons (tC (.int 0)) (tCons (tUn rNegU (tC (.int 2))) (tCons (tC (.int 1)) tNil))))) (tCons (tTup (tCons (tUn rNegU (tC (.int 1))) (tCons (tC (.int 1)) (tCons (tUn rNegU (tC (.int 1))) (tCons (tC (.int 0)) tNil))))) tNil))))))) (gName 1)) (tRet (tOp (rIx C.K) (tVar 1) (tCallS (lift C.K C.ec GPr 2 f_law_roll) (fun _ => C.E0) (tCons (tVar 0) (tCons (tC (.int 12)) tNil)))))))
theorem sim_law_small (C : Cn) (A : Ga) (hR : ∀ G, C.GP G → GPr G) : SimS C (t_law_small C A) b_law_small := (s_seq (s_asg (s_lst (s_cons (s_tup (s_cons s_int (s_cons s_int (s_cons s_int (s_cons s_int s_nil))))) (s_cons (s_tup (s_cons s_int (s_cons (s_un s_neg s_int) (s_cons s_int (s_cons s_int s_nil))))) (s_cons (s_tup (s_cons s_int (s_cons s_int (s_cons s_int (s_cons s_int s_nil))))) (s_cons (s_tup (s_cons s_int (s_cons s_int (s_cons s_int (s_cons s_int s_nil))))) (s_cons (s_tup (s_cons s_int (s_cons s_int (s_cons s_int (s_cons s_int s_nil))))) (s_cons (s_tup (s_cons s_int (s_cons (s_un s_neg s_int) (s_cons s_int (s_cons s_int s_nil))))) (s_cons (s_tup (s_cons s_int (s_cons s_int (s_cons s_int (s_cons s_int s_nil))))) s_nil)))))))) (g_name 1)) (s_seq (s_asg (s_op s_add (s_var 1) (s_lst (s_cons (s_tup (s_cons s_int (s_cons s_int (s_cons (s_un s_neg s_int) (s_cons s_int s_nil))))) (s_cons (s_tup (s_cons (s_un s_neg s_int) (s_cons s_int (s_cons s_int (s_cons (s_un s_neg s_int) s_nil))))) (s_cons (s_tup (s_cons s_int (s_cons s_int (s_cons s_int (s_cons s_int s_nil))))) (s_cons (s_tup (s_cons s_int (s_cons s_int (s_cons (s_un s_neg s_int) (s_cons s_int s_nil))))) (s_cons (s_tup (s_cons (s_un s_neg s_int) (s_cons s_int (s_cons (s_un s_neg s_int) (s_cons s_int s_nil))))) s_nil))))))) (g_name 1)) (s_ret (s_op s_ix (s_var 1) (s_call hR (s_cons (s_var 0) (s_cons s_int s_nil)))))))
def b_law_any_table : DS := (dSeq (dAsg (dCall 2 f_law_roll (dCons (dVar 0) (dCons (dC (.int 4)) dNil))) (dgName 1)) (dSeq (dIfS (dTest (dOp oEq (dVar 1) (dC (.int 0)))) (dRet (dCall 1 f_law_product (dCons (dCall 2 f_law_any_word (dCons (dVar 0) (dCons (dC (.int 6)) dNil))) dNil))) dNext) (dSeq (dAsg (dCall 1 f_law_small (dCons (dVar 0) dNil)) (dgName 2)) (dSeq (dIfS (dTest (dOp oEq (dVar 1) (dC (.int 1)))) (dSeq (dAsg (dTup (dCons (dC (.int 1)) (dCons (dOp oSub (dCall 2 f_law_roll (dCons (dVar 0) (dCons (dC (.int 19)) dNil))) (dC (.int 9))) (dCons (dC (.int 0)) (dCons (dC (.int 1)) dNil))))) (dgName 3)) (dSeq (dAsg (dCall 2 f_law_times (dCons (dCall 2 f_law_times (dCons (dVar 2) (dCons (dVar 3) dNil))) (dCons (dCall 1 f_law_inverse (dCons (dVar 2) dNil)) dNil))) (dgName 4)) (dRet (dIf (dTest (dOp oEq (dCall 2 f_law_roll (dCons (dVar 0) (dCons (dC (.int 2)) dNil))) (dC (.int 0)))) (dVar 4) (dCall 1 f_law_negative (dCons (dVar 4) dNil)))))) dNext) (dRet (dCall 2 f_law_times (dCons (dVar 2) (dCons (dCall 1 f_law_product (dCons (dMs oJoin (dC (.str ("" : Str))) (dLc (dRng1 (dCall 2 f_law_roll (dCons (dVar 0) (dCons (dC (.int 9)) dNil)))) (dgName 5) dYes (dOp oIx (dC (.str ("tl" : Str))) (dCall 2 f_law_roll (dCons (dVar 0) (dCons (dC (.int 2)) dNil)))) [5])) dNil)) dNil))))))))
def f_law_any_table : DF := dFn 6 b_law_any_table
def t_law_any_table (C : Cn) (A : Ga) : TS := (tSeq (tAsg (tCallS (lift C.K C.ec GPr 2 f_law_roll) (fun _ => C.E0) (tCons (tVar 0) (tCons (tC (.int 4)) tNil))) (gName 1)) (tSeq (tIfS (tTest (tOp (rEqU C.K) (tVar 1) (tC (.int 0)))) (tRet (tCallS (lift C.K C.ec GPany 1 f_law_product) (fun _ => C.E0) (tCons (tCallS (lift C.K C.ec GPr 2 f_law_any_word) (fun _ => C.E0) (tCons (tVar 0) (tCons (tC (.int 6)) tNil))) tNil))) tNext) (tSeq (tAsg (tCallS (lift C.K C.ec GPr 1 f_law_small) (fun _ => C.E0) (tCons (tVar 0) tNil)) (gName 2)) (tSeq (tIfS (tTest (tOp (rEqU C.K) (tVar 1) (tC (.int 1)))) (tSeq (tAsg (tTup (tCons (tC (.int 1)) (tCons (tOp rSubU (tCallS (lift C.K C.ec GPr 2 f_law_roll) (fun _ => C.E0) (tCons (tVar 0) (tCons (tC (.int 19)) tNil))) (tC (.int 9))) (tCons (tC (.int 0)) (tCons (tC (.int 1)) tNil))))) (gName 3)) (tSeq (tAsg (tCallS (lift C.K C.ec GPany 2 f_law_times) (fun _ => C.E0) (tCons (tCallS (lift C.K C.ec GPany 2 f_law_times) (fun _ => C.E0) (tCons (tVar 2) (tCons (tVar 3) tNil))) (tCons (tCallS (lift C.K C.ec GPany 1 f_law_inverse) (fun _ => C.E0) (tCons (tVar 2) tNil)) tNil))) (gName 4)) (tRet (tIf (tTest (tOp (rEqU C.K) (tCallS (lift C.K C.ec GPr 2 f_law_roll) (fun _ => C.E0) (tCons (tVar 0) (tCons (tC (.int 2)) tNil))) (tC (.int 0)))) (tVar 4) (tCallS (lift C.K C.ec GPany 1 f_law_negative) (fun _ => C.E0) (tCons (tVar 4) tNil)))))) tNext) (tRet (tCallS (lift C.K C.ec GPany 2 f_law_times) (fun _ => C.E0) (tCons (tVar 2) (tCons (tCallS (lift C.K C.ec GPany 1 f_law_product) (fun _ => C.E0) (tCons (tM1 (rJoinU C.K) (tC (.str ("" : Str))) (tLc (iRng1 (tCons (tCallS (lift C.K C.ec GPr 2 f_law_roll) (fun _ => C.E0) (tCons (tVar 0) (tCons (tC (.int 9)) tNil))) tNil)) (gName 5) tYes (tOp (rIx C.K) (tC (.str ("tl" : Str))) (tCallS (lift C.K C.ec GPr 2 f_law_roll) (fun _ => C.no.E0) (tCons (tVar 0) (tCons (tC (.int 2)) tNil)))) [5])) tNil)) tNil))))))))
theorem sim_law_any_table (C : Cn) (A : Ga) (hR : ∀ G, C.GP G → GPr G) : SimS C (t_law_any_table C A) b_law_any_table := (s_seq (s_asg (s_call hR (s_cons (s_var 0) (s_cons s_int s_nil))) (g_name 1)) (s_seq (s_ifS (s_test (s_op s_eq (s_var 1) s_int)) (s_ret (s_call (fun _ _ => trivial) (s_cons (s_call hR (s_cons (s_var 0) (s_cons s_int s_nil))) s_nil))) s_next) (s_seq (s_asg (s_call hR (s_cons (s_var 0) s_nil)) (g_name 2)) (s_seq (s_ifS (s_test (s_op s_eq (s_var 1) s_int)) (s_seq (s_asg (s_tup (s_cons s_int (s_cons (s_op s_sub (s_call hR (s_cons (s_var 0) (s_cons s_int s_nil))) s_int) (s_cons s_int (s_cons s_int s_nil))))) (g_name 3)) (s_seq (s_asg (s_call (fun _ _ => trivial) (s_cons (s_call (fun _ _ => trivial) (s_cons (s_var 2) (s_cons (s_var 3) s_nil))) (s_cons (s_call (fun _ _ => trivial) (s_cons (s_var 2) s_nil)) s_nil))) (g_name 4)) (s_ret (s_if (s_test (s_op s_eq (s_call hR (s_cons (s_var 0) (s_cons s_int s_nil))) s_int)) (s_var 4) (s_call (fun _ _ => trivial) (s_cons (s_var 4) s_nil)))))) s_next) (s_ret (s_call (fun _ _ => trivial) (s_cons (s_var 2) (s_cons (s_call (fun _ _ => trivial) (s_cons (s_ms s_join s_str (s_lc (i_rng1 (s_call hR (s_cons (s_var 0) (s_cons s_int s_nil)))) (gin_name 5) (g_name 5) s_yes (s_op s_ix s_str (s_call hR (s_cons (s_var 0) (s_cons s_int s_nil)))))) s_nil)) s_nil))))))))
def b_law_divisor : DS := (dSeq (dPar 0 1 (dCons (dCB oAbs (dCons (dVar 0) dNil)) (dCons (dCB oAbs (dCons (dVar 1) dNil)) dNil))) (dSeq (dWhile (dTest (dOp oNe (dVar 1) (dC (.int 0)))) (dPar 0 1 (dCons (dVar 1) (dCons (dOp oMod (dVar 0) (dVar 1)) dNil)))) (dRet (dVar 0))))
def f_law_divisor : DF := dFn 2 b_law_divisor
def t_law_divisor (C : Cn) (A : Ga) : TS := (tSeq (tPar 0 1 (tCons (tCB rAbsU (tCons (tVar 0) tNil)) (tCons (tCB rAbsU (tCons (tVar 1) tNil)) tNil))) (tSeq (tWhile (tTest (tOp (rNeU C.K) (tVar 1) (tC (.int 0)))) (tPar 0 1 (tCons (tVar 1) (tCons (tOp rModU (tVar 0) (tVar 1)) tNil)))) (tRet (tVar 0))))
theorem sim_law_divisor (C : Cn) (A : Ga) : SimS C (t_law_divisor C A) b_law_divisor := (s_seq (s_par (s_cons (s_cb s_abs (s_cons (s_var 0) s_nil)) (s_cons (s_cb s_abs (s_cons (s_var 1) s_nil)) s_nil))) (s_seq (s_while (s_test (s_op s_ne (s_var 1) s_int)) (s_par (s_cons (s_var 1) (s_cons (s_op s_mod (s_var 0) (s_var 1)) s_nil)))) (s_ret (s_var 0))))
def b_law_pair : DS := (dSeq (dAsg (dLc (dRng2 (dC (.int 1)) (dVar 1)) (dgName 3) (dTest (dOp oEq (dCall 2 f_law_divisor (dCons (dVar 3) (dCons (dVar 1) dNil))) (dC (.int 1)))) (dVar 3) [3]) (dgName 2)) (dRet (dCB oMinP (dCons (dLc (dOver (dVar 2)) (dgName 3) dYes (dTup (dCons (dOp oMod (dOp oMul (dVar 3) (dOp oIx (dVar 0) (dC (.int 2)))) (dVar 1)) (dCons (dOp oMod (dOp oMul (dVar 3) (dOp oIx (dVar 0) (dC (.int 3)))) (dVar 1)) dNil))) [3]) dNil))))
def f_law_pair : DF := dFn 4 b_law_pair
def t_law_pair (C : Cn) (A : Ga) : TS := (tSeq (tAsg (tLc (iRng2 (tCons (tC (.int 1)) (tCons (tVar 1) tNil))) (gName 3) (tTest (tOp (rEqU C.K) (tCallS (lift C.K C.ec GPany 2 f_law_divisor) (fun _ => C.no.E0) (tCons (tVar 3) (tCons (tVar 1) tNil))) (tC (.int 1)))) (tVar 3) [3]) (gName 2)) (tRet (tCB (rMinP C.K) (tCons (tLc (iAny C.K (tVar 2)) (gName 3) tYes (tTup (tCons (tOp rModU (tOp rMulU (tVar 3) (tOp (rIx C.K) (tVar 0) (tC (.int 2)))) (tVar 1)) (tCons (tOp rModU (tOp rMulU (tVar 3) (tOp (rIx C.K) (tVar 0) (tC (.int 3)))) (tVar 1)) tNil))) [3]) tNil))))
theorem sim_law_pair (C : Cn) (A : Ga) : SimS C (t_law_pair C A) b_law_pair := (s_seq (s_asg (s_lc (i_rng2 s_int (s_var 1)) (gin_name 3) (g_name 3) (s_test (s_op s_eq (s_call (fun _ _ => trivial) (s_cons (s_var 3) (s_cons (s_var 1) s_nil))) s_int)) (s_var 3)) (g_name 2)) (s_ret (s_cb s_minP (s_cons (s_lc (i_over (s_var 2)) (gin_name 3) (g_name 3) s_yes (s_tup (s_cons (s_op s_mod (s_op s_mul (s_var 3) (s_op s_ix (s_var 0) s_int)) (s_var 1)) (s_cons (s_op s_mod (s_op s_mul (s_var 3) (s_op s_ix (s_var 0) s_int)) (s_var 1)) s_nil)))) s_nil))))
def b_law_many : DS := (dSeq (dAsg (dVar 0) (dgName 1)) (dSeq (dFor (dRng2 (dC (.int 2)) (dOp oAdd (dVar 0) (dC (.int 1)))) (dgName 2) (dIfS (dAnd (dTest (dOp oEq (dOp oMod (dVar 0) (dVar 2)) (dC (.int 0)))) (dTest (dCB oAll (dCons (dLc (dRng2 (dC (.int 2)) (dVar 2)) (dgName 3) dYes (dOp oNe (dOp oMod (dVar 2) (dVar 3)) (dC (.int 0))) [3]) dNil)))) (dAsg (dOp oMul (dOp oDiv (dVar 1) (dVar 2)) (dOp oAdd (dVar 2) (dC (.int 1)))) (dgName 1)) dNext)) (dRet (dVar 1))))
def f_law_many : DF := dFn 4 b_law_many
def t_law_many (C : Cn) (A : Ga) : TS := (tSeq (tAsg (tVar 0) (gName 1)) (tSeq (tFor (iRng2 (tCons (tC (.int 2)) (tCons (tOp rAddU (tVar 0) (tC (.int 1))) tNil))) (gName 2) (tIfS (tAnd (tTest (tOp (rEqU C.K) (tOp rModU (tVar 0) (tVar 2)) (tC (.int 0)))) (tB (tCB (rAll C.K) (tCons (tLc (iRng2 (tCons (tC (.int 2)) (tCons (tVar 2) tNil))) (gName 3) tYes (tOp (rNeU C.K) (tOp rModU (tVar 2) (tVar 3)) (tC (.int 0))) [3]) tNil)))) (tAsg (tOp rMulU (tOp rDivU (tVar 1) (tVar 2)) (tOp rAddU (tVar 2) (tC (.int 1)))) (gName 1)) tNext)) (tRet (tVar 1))))
theorem sim_law_many (C : Cn) (A : Ga) : SimS C (t_law_many C A) b_law_many := (s_seq (s_asg (s_var 0) (g_name 1)) (s_seq (s_for (i_rng2 s_int (s_op s_add (s_var 0) s_int)) (g_name 2) (s_ifS (s_and (s_test (s_op s_eq (s_op s_mod (s_var 0) (s_var 2)) s_int)) (s_B (s_cb s_all (s_cons (s_lc (i_rng2 s_int (s_var 2)) (gin_name 3) (g_name 3) s_yes (s_op s_ne (s_op s_mod (s_var 2) (s_var 3)) s_int)) s_nil)))) (s_asg (s_op s_mul (s_op s_div (s_var 1) (s_var 2)) (s_op s_add (s_var 2) s_int)) (g_name 1)) s_next)) (s_ret (s_var 1))))
def b_law_body : DS := (dSeq (dAsg (dOp oAdd (dC (.int 2)) (dCall 2 f_law_roll (dCons (dVar 1) (dCons (dC (.int 29)) dNil)))) (dgName 2)) (dSeq (dAsg (dCall 1 f_all_classes (dCons (dVar 2) dNil)) (dgName 3)) (dSeq (dIfS (dOr (dTest (dOp oNe (dCB oLen (dCons (dVar 3) dNil)) (dCall 1 f_law_many (dCons (dVar 2) dNil)))) (dTest (dOp oNe (dCB oList (dCons (dVar 3) dNil)) (dSS (dVar 3))))) (dRet (dC (.bool false))) dNext) (dSeq (dAsg (dLc (dRng1 (dC (.int 5))) (dgName 9) dYes (dCall 1 f_law_any_table (dCons (dVar 1) dNil)) [9]) (dgName 4)) (dSeq (dFor (dOver (dVar 4)) (dgName 5) (dSeq (dIfS (dOr (dTest (dOp oNe (dCall 2 f_class_of (dCons (dVar 5) (dCons (dVar 2) dNil))) (dCall 2 f_law_pair (dCons (dVar 5) (dCons (dVar 2) dNil))))) (dTest (dOp oNotIn (dCall 2 f_class_of (dCons (dVar 5) (dCons (dVar 2) dNil))) (dVar 3)))) (dRet (dC (.bool false))) dNext) (dFor (dOver (dVar 4)) (dgName 7) (dSeq (dAsg (dOp oEq (dOp oMod (dOp oIx (dCall 2 f_law_times (dCons (dVar 5) (dCons (dCall 1 f_law_inverse (dCons (dVar 7) dNil)) dNil))) (dC (.int 2))) (dVar 2)) (dC (.int 0))) (dgName 8)) (dIfS (dTest (dOp oNe (dOp oEq (dCall 2 f_class_of (dCons (dVar 5) (dCons (dVar 2) dNil))) (dCall 2 f_class_of (dCons (dVar 7) (dCons (dVar 2) dNil)))) (dVar 8))) (dRet (dC (.bool false))) dNext))))) (dSeq (dIfS (dOr (dTest (dOp oNe (dCall 2 f_class_of (dCons (dTup (dCons (dC (.int 1)) (dCons (dC (.int 0)) (dCons (dC (.int 0)) (dCons (dC (.int 1)) dNil))))) (dCons (dVar 2) dNil))) (dTup (dCons (dC (.int 0)) (dCons (dC (.int 1)) dNil))))) (dOr (dTest (dOp oNotIn (dTup (dCons (dC (.int 0)) (dCons (dC (.int 1)) dNil))) (dVar 3))) (dTest (dOp oNotIn (dTup (dCons (dC (.int 1)) (dCons (dC (.int 0)) dNil))) (dVar 3))))) (dRet (dC (.bool false))) dNext) (dFor (dOver (dLst (dCons (dC (.int 1)) (dCons (dC (.int 31)) (dCons (dC (.bool true)) (dCons (dC .none) dNil)))))) (dgName 6) (dSeq (dIfS (dTest (dOp oNe (dTold (dCall 2 f_class_of (dCons (dOp oIx (dVar 4) (dC (.int 0))) (dCons (dVar 6) dNil)))) (dTup (dCons (dC (.str ("error" : Str))) (dCons (dC (.str ("InvalidModulus" : Str))) dNil))))) (dRet (dC (.bool false))) dNext) (dIfS (dTest (dOp oNe (dTold (dCall 1 f_all_classes (dCons (dVar 6) dNil))) (dTup (dCons (dC (.str ("error" : Str))) (dCons (dC (.str ("InvalidModulus" : Str))) dNil))))) (dRet (dC (.bool false))) dNext)))))))))
def t_law_body (C : Cn) (A : Ga) (T : List (Addr × Str)) : TS := (tSeq (tAsg (tOp rAddU (tC (.int 2)) (tCallS (lift C.K C.ec GPr 2 f_law_roll) (fun _ => C.E0) (tCons (tVar 1) (tCons (tC (.int 29)) tNil)))) (gName 2)) (tSeq (tAsg (tCallS (lift C.K C.ec GPany 1 f_all_classes) (fun _ => C.E0) (tCons (tVar 2) tNil)) (gName 3)) (tSeq (tIfS (tOr (tTest (tOp (rNeU C.K) (tCB (rLenU C.K) (tCons (tVar 3) tNil)) (tCallS (lift C.K C.ec GPany 1 f_law_many) (fun _ => C.E0) (tCons (tVar 2) tNil)))) (tTest (tOp (rNeU C.K) (tCB (rListU C.K) (tCons (tVar 3) tNil)) (tSS C.K (tVar 3))))) (tRet (tC (.bl false))) tNext) (tSeq (tAsg (tLc (iRng1 (tCons (tC (.int 5)) tNil)) (gName 9) tYes (tCallS (lift C.K C.ec GPr 1 f_law_any_table) (fun _ => C.no.E0) (tCons (tVar 1) tNil)) [9]) (gName 4)) (tSeq (tFor (iAny C.K (tVar 4)) (gName 5) (tSeq (tIfS (tOr (tTest (tOp (rNeU C.K) (tCallS (lift C.K C.ec GPany 2 f_class_of) (fun _ => C.E0) (tCons (tVar 5) (tCons (tVar 2) tNil))) (tCallS (lift C.K C.ec GPany 2 f_law_pair) (fun _ => C.E0) (tCons (tVar 5) (tCons (tVar 2) tNil))))) (tTest (tOp (rNotInU C.K) (tCallS (lift C.K C.ec GPany 2 f_class_of) (fun _ => C.E0) (tCons (tVar 5) (tCons (tVar 2) tNil))) (tVar 3)))) (tRet (tC (.bl false))) tNext) (tFor (iAny C.K (tVar 4)) (gName 7) (tSeq (tAsg (tOp (rEqU C.K) (tOp rModU (tOp (rIx C.K) (tCallS (lift C.K C.ec GPany 2 f_law_times) (fun _ => C.E0) (tCons (tVar 5) (tCons (tCallS (lift C.K C.ec GPany 1 f_law_inverse) (fun _ => C.E0) (tCons (tVar 7) tNil)) tNil))) (tC (.int 2))) (tVar 2)) (tC (.int 0))) (gName 8)) (tIfS (tTest (tOp (rNeU C.K) (tOp (rEqU C.K) (tCallS (lift C.K C.ec GPany 2 f_class_of) (fun _ => C.E0) (tCons (tVar 5) (tCons (tVar 2) tNil))) (tCallS (lift C.K C.ec GPany 2 f_class_of) (fun _ => C.E0) (tCons (tVar 7) (tCons (tVar 2) tNil)))) (tVar 8))) (tRet (tC (.bl false))) tNext))))) (tSeq (tIfS (tOr (tTest (tOp (rNeU C.K) (tCallS (lift C.K C.ec GPany 2 f_class_of) (fun _ => C.E0) (tCons (tTup (tCons (tC (.int 1)) (tCons (tC (.int 0)) (tCons (tC (.int 0)) (tCons (tC (.int 1)) tNil))))) (tCons (tVar 2) tNil))) (tTup (tCons (tC (.int 0)) (tCons (tC (.int 1)) tNil))))) (tOr (tTest (tOp (rNotInU C.K) (tTup (tCons (tC (.int 0)) (tCons (tC (.int 1)) tNil))) (tVar 3))) (tTest (tOp (rNotInU C.K) (tTup (tCons (tC (.int 1)) (tCons (tC (.int 0)) tNil))) (tVar 3))))) (tRet (tC (.bl false))) tNext) (tFor (iAny C.K (tLst (tCons (tC (.int 1)) (tCons (tC (.int 31)) (tCons (tC (.bl true)) (tCons (tC .non) tNil)))))) (gName 6) (tSeq (tIfS (tTest (tOp (rNeU C.K) (tTold C.ec T (toldT C.K C.ec) (fun Ex => (tCallS (lift C.K C.ec GPany 2 f_class_of) (fun _ => Ex) (tCons (tOp (rIx C.K) (tVar 4) (tC (.int 0))) (tCons (tVar 6) tNil))))) (tTup (tCons (tC (.str ("error" : Str))) (tCons (tC (.str ("InvalidModulus" : Str))) tNil))))) (tRet (tC (.bl false))) tNext) (tIfS (tTest (tOp (rNeU C.K) (tTold C.ec T (toldT C.K C.ec) (fun Ex => (tCallS (lift C.K C.ec GPany 1 f_all_classes) (fun _ => Ex) (tCons (tVar 6) tNil)))) (tTup (tCons (tC (.str ("error" : Str))) (tCons (tC (.str ("InvalidModulus" : Str))) tNil))))) (tRet (tC (.bl false))) tNext)))))))))
theorem sim_law_body (C : Cn) (A : Ga) (T : List (Addr × Str)) (hR : ∀ G, C.GP G → GPr G) (hT : ∀ G, C.GP G → G.T = T) {TE' : Addr} (EO : ErrsOk C.K C.ec TE') : SimS C (t_law_body C A T) b_law_body := (s_seq (s_asg (s_op s_add s_int (s_call hR (s_cons (s_var 1) (s_cons s_int s_nil)))) (g_name 2)) (s_seq (s_asg (s_call (fun _ _ => trivial) (s_cons (s_var 2) s_nil)) (g_name 3)) (s_seq (s_ifS (s_or (s_test (s_op s_ne (s_cb s_len (s_cons (s_var 3) s_nil)) (s_call (fun _ _ => trivial) (s_cons (s_var 2) s_nil)))) (s_test (s_op s_ne (s_cb s_list (s_cons (s_var 3) s_nil)) (s_ss (s_var 3))))) (s_ret s_bl) s_next) (s_seq (s_asg (s_lc (i_rng1 s_int) (gin_name 9) (g_name 9) s_yes (s_call hR (s_cons (s_var 1) s_nil))) (g_name 4)) (s_seq (s_for (i_over (s_var 4)) (g_name 5) (s_seq (s_ifS (s_or (s_test (s_op s_ne (s_call (fun _ _ => trivial) (s_cons (s_var 5) (s_cons (s_var 2) s_nil))) (s_call (fun _ _ => trivial) (s_cons (s_var 5) (s_cons (s_var 2) s_nil))))) (s_test (s_op s_notIn (s_call (fun _ _ => trivial) (s_cons (s_var 5) (s_cons (s_var 2) s_nil))) (s_var 3)))) (s_ret s_bl) s_next) (s_for (i_over (s_var 4)) (g_name 7) (s_seq (s_asg (s_op s_eq (s_op s_mod (s_op s_ix (s_call (fun _ _ => trivial) (s_cons (s_var 5) (s_cons (s_call (fun _ _ => trivial) (s_cons (s_var 7) s_nil)) s_nil))) s_int) (s_var 2)) s_int) (g_name 8)) (s_ifS (s_test (s_op s_ne (s_op s_eq (s_call (fun _ _ => trivial) (s_cons (s_var 5) (s_cons (s_var 2) s_nil))) (s_call (fun _ _ => trivial) (s_cons (s_var 7) (s_cons (s_var 2) s_nil)))) (s_var 8))) (s_ret s_bl) s_next))))) (s_seq (s_ifS (s_or (s_test (s_op s_ne (s_call (fun _ _ => trivial) (s_cons (s_tup (s_cons s_int (s_cons s_int (s_cons s_int (s_cons s_int s_nil))))) (s_cons (s_var 2) s_nil))) (s_tup (s_cons s_int (s_cons s_int s_nil))))) (s_or (s_test (s_op s_notIn (s_tup (s_cons s_int (s_cons s_int s_nil))) (s_var 3))) (s_test (s_op s_notIn (s_tup (s_cons s_int (s_cons s_int s_nil))) (s_var 3))))) (s_ret s_bl) s_next) (s_for (i_over (s_lst (s_cons s_int (s_cons s_int (s_cons s_bl (s_cons s_non s_nil)))))) (g_name 6) (s_seq (s_ifS (s_test (s_op s_ne (s_told hT (term_tells EO) (fun Ex => (s_call (fun _ _ => trivial) (s_cons (s_op s_ix (s_var 4) s_int) (s_cons (s_var 6) s_nil))))) (s_tup (s_cons s_str (s_cons s_str s_nil))))) (s_ret s_bl) s_next) (s_ifS (s_test (s_op s_ne (s_told hT (term_tells EO) (fun Ex => (s_call (fun _ _ => trivial) (s_cons (s_var 6) s_nil)))) (s_tup (s_cons s_str (s_cons s_str s_nil))))) (s_ret s_bl) s_next)))))))))
abbrev law_plain : Prop := b_law_body (put (List.replicate 10 none) 1 dice) (fun _ => True) (fun _ => False) (fun _ => False)
end Tz

namespace Tz
open PySem PySem.Spec PyProof.Rows L2
theorem is_number_i {i : Int} {Q : PyData → Prop} {E : Nat → Prop} : f_is_number [.int i] Q E = Q (.bool true) := by
  simp only [f_is_number, b_is_number, ↓onB_b, ↓onI_i, ↓onStr_s, ↓onSeq_l, ↓onSeq_t, ↓onSeq_s, ↓onS_s, ↓dFn_e, ↓dVar_e, ↓dC_e, ↓dOp_e, ↓dUn_e, ↓dNil_e, ↓dCons_e, ↓dTup_e, ↓dLst_e, ↓dTest_e, ↓dAnd_e, ↓dOr_e, ↓dNot_e, ↓dAndV_e, ↓dOrV_e, ↓dNotV_e, ↓dIf_e, ↓dChain_e, ↓dCall_e, ↓dCB_e, ↓dNext_e, ↓dSeq_e, ↓dRet_e, ↓dDrop_e, ↓dAsg_e, ↓dIfS_e, ↓dRaise_e, ↓dgName_e, ↓dgNil_e, ↓dgCons_e, ↓dgTup_e, ↓dPar_e, ↓dPar3_e, ↓dFor_e, ↓dLc_e, lcL_n, lcL_c, ↓dYes_e, ↓dOver_e, ↓dRng1_e, ↓dRng2_e, ↓dPart_e, ↓dNoPart_e, ↓dMs_e, ↓dIsi_e, ↓dToldC_e, oAdd_ii, oAdd_ss, oAdd_ll, oSub_ii, oMul_ii, oMul_si, oDiv_ii, oMod_ii, oPow_ii, oNeg_i, oEq_ii, oNe_ii, oLt_ii, oLe_ii, oGt_ii, oGe_ii, oIs_e, oIsN_e, oIx_l, oIx_t, oIx_s, oLen_t, oLen_l, oAbs_i, oMax_l, oMin_l, oMin_t, oMax_t, oMax2_ii, oMin2_ii, oAll_l, oSum_l, oTuple_l, oSindex_ss, roll_e, ↓if_t, ↓if_f, if_T, if_F, Bool.false_eq_true, oLen_s, oList_t, oList_l, ↓dSl_e, onSl_l, onSl_s, isi_tt, isi_lt, isi_nt, isi_it, isi_bt, isi_st, isi_ii, isi_ib, isi_bi, isi_bb, isi_si, isi_ni, isi_ti, isi_li, isi_ss, isi_is, isi_bs, isi_ns, isi_ts, isi_ls, pl4, atI4_0, atI4_1, atI4_2, atI4_3, asInts, asBools, asStrs, Option.map, look, put, drp, drps, startR, List.length_cons, List.length_nil, List.map_cons, List.map_nil, List.replicate, List.append, List.cons_append, List.nil_append, List.append_nil, plain, true_and, and_true, Bool.not_true, Bool.not_false, Nat.zero_add, Nat.reduceAdd, Nat.reduceSub, Nat.reduceLeDiff, Nat.reduceEqDiff, ten6]
theorem is_number_b {i : Bool} {Q : PyData → Prop} {E : Nat → Prop} : f_is_number [.bool i] Q E = Q (.bool false) := by
  simp only [f_is_number, b_is_number, ↓onB_b, ↓onI_i, ↓onStr_s, ↓onSeq_l, ↓onSeq_t, ↓onSeq_s, ↓onS_s, ↓dFn_e, ↓dVar_e, ↓dC_e, ↓dOp_e, ↓dUn_e, ↓dNil_e, ↓dCons_e, ↓dTup_e, ↓dLst_e, ↓dTest_e, ↓dAnd_e, ↓dOr_e, ↓dNot_e, ↓dAndV_e, ↓dOrV_e, ↓dNotV_e, ↓dIf_e, ↓dChain_e, ↓dCall_e, ↓dCB_e, ↓dNext_e, ↓dSeq_e, ↓dRet_e, ↓dDrop_e, ↓dAsg_e, ↓dIfS_e, ↓dRaise_e, ↓dgName_e, ↓dgNil_e, ↓dgCons_e, ↓dgTup_e, ↓dPar_e, ↓dPar3_e, ↓dFor_e, ↓dLc_e, lcL_n, lcL_c, ↓dYes_e, ↓dOver_e, ↓dRng1_e, ↓dRng2_e, ↓dPart_e, ↓dNoPart_e, ↓dMs_e, ↓dIsi_e, ↓dToldC_e, oAdd_ii, oAdd_ss, oAdd_ll, oSub_ii, oMul_ii, oMul_si, oDiv_ii, oMod_ii, oPow_ii, oNeg_i, oEq_ii, oNe_ii, oLt_ii, oLe_ii, oGt_ii, oGe_ii, oIs_e, oIsN_e, oIx_l, oIx_t, oIx_s, oLen_t, oLen_l, oAbs_i, oMax_l, oMin_l, oMin_t, oMax_t, oMax2_ii, oMin2_ii, oAll_l, oSum_l, oTuple_l, oSindex_ss, roll_e, ↓if_t, ↓if_f, if_T, if_F, Bool.false_eq_true, oLen_s, oList_t, oList_l, ↓dSl_e, onSl_l, onSl_s, isi_tt, isi_lt, isi_nt, isi_it, isi_bt, isi_st, isi_ii, isi_ib, isi_bi, isi_bb, isi_si, isi_ni, isi_ti, isi_li, isi_ss, isi_is, isi_bs, isi_ns, isi_ts, isi_ls, pl4, atI4_0, atI4_1, atI4_2, atI4_3, asInts, asBools, asStrs, Option.map, look, put, drp, drps, startR, List.length_cons, List.length_nil, List.map_cons, List.map_nil, List.replicate, List.append, List.cons_append, List.nil_append, List.append_nil, plain, true_and, and_true, Bool.not_true, Bool.not_false, Nat.zero_add, Nat.reduceAdd, Nat.reduceSub, Nat.reduceLeDiff, Nat.reduceEqDiff, ten6]
theorem is_number_s {i : Str} {Q : PyData → Prop} {E : Nat → Prop} : f_is_number [.str i] Q E = Q (.bool false) := by
  simp only [f_is_number, b_is_number, ↓onB_b, ↓onI_i, ↓onStr_s, ↓onSeq_l, ↓onSeq_t, ↓onSeq_s, ↓onS_s, ↓dFn_e, ↓dVar_e, ↓dC_e, ↓dOp_e, ↓dUn_e, ↓dNil_e, ↓dCons_e, ↓dTup_e, ↓dLst_e, ↓dTest_e, ↓dAnd_e, ↓dOr_e, ↓dNot_e, ↓dAndV_e, ↓dOrV_e, ↓dNotV_e, ↓dIf_e, ↓dChain_e, ↓dCall_e, ↓dCB_e, ↓dNext_e, ↓dSeq_e, ↓dRet_e, ↓dDrop_e, ↓dAsg_e, ↓dIfS_e, ↓dRaise_e, ↓dgName_e, ↓dgNil_e, ↓dgCons_e, ↓dgTup_e, ↓dPar_e, ↓dPar3_e, ↓dFor_e, ↓dLc_e, lcL_n, lcL_c, ↓dYes_e, ↓dOver_e, ↓dRng1_e, ↓dRng2_e, ↓dPart_e, ↓dNoPart_e, ↓dMs_e, ↓dIsi_e, ↓dToldC_e, oAdd_ii, oAdd_ss, oAdd_ll, oSub_ii, oMul_ii, oMul_si, oDiv_ii, oMod_ii, oPow_ii, oNeg_i, oEq_ii, oNe_ii, oLt_ii, oLe_ii, oGt_ii, oGe_ii, oIs_e, oIsN_e, oIx_l, oIx_t, oIx_s, oLen_t, oLen_l, oAbs_i, oMax_l, oMin_l, oMin_t, oMax_t, oMax2_ii, oMin2_ii, oAll_l, oSum_l, oTuple_l, oSindex_ss, roll_e, ↓if_t, ↓if_f, if_T, if_F, Bool.false_eq_true, oLen_s, oList_t, oList_l, ↓dSl_e, onSl_l, onSl_s, isi_tt, isi_lt, isi_nt, isi_it, isi_bt, isi_st, isi_ii, isi_ib, isi_bi, isi_bb, isi_si, isi_ni, isi_ti, isi_li, isi_ss, isi_is, isi_bs, isi_ns, isi_ts, isi_ls, pl4, atI4_0, atI4_1, atI4_2, atI4_3, asInts, asBools, asStrs, Option.map, look, put, drp, drps, startR, List.length_cons, List.length_nil, List.map_cons, List.map_nil, List.replicate, List.append, List.cons_append, List.nil_append, List.append_nil, plain, true_and, and_true, Bool.not_true, Bool.not_false, Nat.zero_add, Nat.reduceAdd, Nat.reduceSub, Nat.reduceLeDiff, Nat.reduceEqDiff, ten6]
theorem is_number_n {Q : PyData → Prop} {E : Nat → Prop} : f_is_number [.none] Q E = Q (.bool false) := by
  simp only [f_is_number, b_is_number, ↓onB_b, ↓onI_i, ↓onStr_s, ↓onSeq_l, ↓onSeq_t, ↓onSeq_s, ↓onS_s, ↓dFn_e, ↓dVar_e, ↓dC_e, ↓dOp_e, ↓dUn_e, ↓dNil_e, ↓dCons_e, ↓dTup_e, ↓dLst_e, ↓dTest_e, ↓dAnd_e, ↓dOr_e, ↓dNot_e, ↓dAndV_e, ↓dOrV_e, ↓dNotV_e, ↓dIf_e, ↓dChain_e, ↓dCall_e, ↓dCB_e, ↓dNext_e, ↓dSeq_e, ↓dRet_e, ↓dDrop_e, ↓dAsg_e, ↓dIfS_e, ↓dRaise_e, ↓dgName_e, ↓dgNil_e, ↓dgCons_e, ↓dgTup_e, ↓dPar_e, ↓dPar3_e, ↓dFor_e, ↓dLc_e, lcL_n, lcL_c, ↓dYes_e, ↓dOver_e, ↓dRng1_e, ↓dRng2_e, ↓dPart_e, ↓dNoPart_e, ↓dMs_e, ↓dIsi_e, ↓dToldC_e, oAdd_ii, oAdd_ss, oAdd_ll, oSub_ii, oMul_ii, oMul_si, oDiv_ii, oMod_ii, oPow_ii, oNeg_i, oEq_ii, oNe_ii, oLt_ii, oLe_ii, oGt_ii, oGe_ii, oIs_e, oIsN_e, oIx_l, oIx_t, oIx_s, oLen_t, oLen_l, oAbs_i, oMax_l, oMin_l, oMin_t, oMax_t, oMax2_ii, oMin2_ii, oAll_l, oSum_l, oTuple_l, oSindex_ss, roll_e, ↓if_t, ↓if_f, if_T, if_F, Bool.false_eq_true, oLen_s, oList_t, oList_l, ↓dSl_e, onSl_l, onSl_s, isi_tt, isi_lt, isi_nt, isi_it, isi_bt, isi_st, isi_ii, isi_ib, isi_bi, isi_bb, isi_si, isi_ni, isi_ti, isi_li, isi_ss, isi_is, isi_bs, isi_ns, isi_ts, isi_ls, pl4, atI4_0, atI4_1, atI4_2, atI4_3, asInts, asBools, asStrs, Option.map, look, put, drp, drps, startR, List.length_cons, List.length_nil, List.map_cons, List.map_nil, List.replicate, List.append, List.cons_append, List.nil_append, List.append_nil, plain, true_and, and_true, Bool.not_true, Bool.not_false, Nat.zero_add, Nat.reduceAdd, Nat.reduceSub, Nat.reduceLeDiff, Nat.reduceEqDiff, ten6]
theorem is_number_t {i : List PyData} {Q : PyData → Prop} {E : Nat → Prop} : f_is_number [.tuple i] Q E = Q (.bool false) := by
  simp only [f_is_number, b_is_number, ↓onB_b, ↓onI_i, ↓onStr_s, ↓onSeq_l, ↓onSeq_t, ↓onSeq_s, ↓onS_s, ↓dFn_e, ↓dVar_e, ↓dC_e, ↓dOp_e, ↓dUn_e, ↓dNil_e, ↓dCons_e, ↓dTup_e, ↓dLst_e, ↓dTest_e, ↓dAnd_e, ↓dOr_e, ↓dNot_e, ↓dAndV_e, ↓dOrV_e, ↓dNotV_e, ↓dIf_e, ↓dChain_e, ↓dCall_e, ↓dCB_e, ↓dNext_e, ↓dSeq_e, ↓dRet_e, ↓dDrop_e, ↓dAsg_e, ↓dIfS_e, ↓dRaise_e, ↓dgName_e, ↓dgNil_e, ↓dgCons_e, ↓dgTup_e, ↓dPar_e, ↓dPar3_e, ↓dFor_e, ↓dLc_e, lcL_n, lcL_c, ↓dYes_e, ↓dOver_e, ↓dRng1_e, ↓dRng2_e, ↓dPart_e, ↓dNoPart_e, ↓dMs_e, ↓dIsi_e, ↓dToldC_e, oAdd_ii, oAdd_ss, oAdd_ll, oSub_ii, oMul_ii, oMul_si, oDiv_ii, oMod_ii, oPow_ii, oNeg_i, oEq_ii, oNe_ii, oLt_ii, oLe_ii, oGt_ii, oGe_ii, oIs_e, oIsN_e, oIx_l, oIx_t, oIx_s, oLen_t, oLen_l, oAbs_i, oMax_l, oMin_l, oMin_t, oMax_t, oMax2_ii, oMin2_ii, oAll_l, oSum_l, oTuple_l, oSindex_ss, roll_e, ↓if_t, ↓if_f, if_T, if_F, Bool.false_eq_true, oLen_s, oList_t, oList_l, ↓dSl_e, onSl_l, onSl_s, isi_tt, isi_lt, isi_nt, isi_it, isi_bt, isi_st, isi_ii, isi_ib, isi_bi, isi_bb, isi_si, isi_ni, isi_ti, isi_li, isi_ss, isi_is, isi_bs, isi_ns, isi_ts, isi_ls, pl4, atI4_0, atI4_1, atI4_2, atI4_3, asInts, asBools, asStrs, Option.map, look, put, drp, drps, startR, List.length_cons, List.length_nil, List.map_cons, List.map_nil, List.replicate, List.append, List.cons_append, List.nil_append, List.append_nil, plain, true_and, and_true, Bool.not_true, Bool.not_false, Nat.zero_add, Nat.reduceAdd, Nat.reduceSub, Nat.reduceLeDiff, Nat.reduceEqDiff, ten6]
theorem is_number_l {i : List PyData} {Q : PyData → Prop} {E : Nat → Prop} : f_is_number [.list i] Q E = Q (.bool false) := by
  simp only [f_is_number, b_is_number, ↓onB_b, ↓onI_i, ↓onStr_s, ↓onSeq_l, ↓onSeq_t, ↓onSeq_s, ↓onS_s, ↓dFn_e, ↓dVar_e, ↓dC_e, ↓dOp_e, ↓dUn_e, ↓dNil_e, ↓dCons_e, ↓dTup_e, ↓dLst_e, ↓dTest_e, ↓dAnd_e, ↓dOr_e, ↓dNot_e, ↓dAndV_e, ↓dOrV_e, ↓dNotV_e, ↓dIf_e, ↓dChain_e, ↓dCall_e, ↓dCB_e, ↓dNext_e, ↓dSeq_e, ↓dRet_e, ↓dDrop_e, ↓dAsg_e, ↓dIfS_e, ↓dRaise_e, ↓dgName_e, ↓dgNil_e, ↓dgCons_e, ↓dgTup_e, ↓dPar_e, ↓dPar3_e, ↓dFor_e, ↓dLc_e, lcL_n, lcL_c, ↓dYes_e, ↓dOver_e, ↓dRng1_e, ↓dRng2_e, ↓dPart_e, ↓dNoPart_e, ↓dMs_e, ↓dIsi_e, ↓dToldC_e, oAdd_ii, oAdd_ss, oAdd_ll, oSub_ii, oMul_ii, oMul_si, oDiv_ii, oMod_ii, oPow_ii, oNeg_i, oEq_ii, oNe_ii, oLt_ii, oLe_ii, oGt_ii, oGe_ii, oIs_e, oIsN_e, oIx_l, oIx_t, oIx_s, oLen_t, oLen_l, oAbs_i, oMax_l, oMin_l, oMin_t, oMax_t, oMax2_ii, oMin2_ii, oAll_l, oSum_l, oTuple_l, oSindex_ss, roll_e, ↓if_t, ↓if_f, if_T, if_F, Bool.false_eq_true, oLen_s, oList_t, oList_l, ↓dSl_e, onSl_l, onSl_s, isi_tt, isi_lt, isi_nt, isi_it, isi_bt, isi_st, isi_ii, isi_ib, isi_bi, isi_bb, isi_si, isi_ni, isi_ti, isi_li, isi_ss, isi_is, isi_bs, isi_ns, isi_ts, isi_ls, pl4, atI4_0, atI4_1, atI4_2, atI4_3, asInts, asBools, asStrs, Option.map, look, put, drp, drps, startR, List.length_cons, List.length_nil, List.map_cons, List.map_nil, List.replicate, List.append, List.cons_append, List.nil_append, List.append_nil, plain, true_and, and_true, Bool.not_true, Bool.not_false, Nat.zero_add, Nat.reduceAdd, Nat.reduceSub, Nat.reduceLeDiff, Nat.reduceEqDiff, ten6]

theorem are_four_ok {m : M} {Q : PyData → Prop} {E : Nat → Prop} (hm : m.le 9223372036854775808) (h : Q (.bool (decide (m.det = 1)))) : f_are_four [m.p] Q E := by
  simp only [f_are_four, b_are_four, is_number_i, ↓onB_b, ↓onI_i, ↓onStr_s, ↓onSeq_l, ↓onSeq_t, ↓onSeq_s, ↓onS_s, ↓dFn_e, ↓dVar_e, ↓dC_e, ↓dOp_e, ↓dUn_e, ↓dNil_e, ↓dCons_e, ↓dTup_e, ↓dLst_e, ↓dTest_e, ↓dAnd_e, ↓dOr_e, ↓dNot_e, ↓dAndV_e, ↓dOrV_e, ↓dNotV_e, ↓dIf_e, ↓dChain_e, ↓dCall_e, ↓dCB_e, ↓dNext_e, ↓dSeq_e, ↓dRet_e, ↓dDrop_e, ↓dAsg_e, ↓dIfS_e, ↓dRaise_e, ↓dgName_e, ↓dgNil_e, ↓dgCons_e, ↓dgTup_e, ↓dPar_e, ↓dPar3_e, ↓dFor_e, ↓dLc_e, lcL_n, lcL_c, ↓dYes_e, ↓dOver_e, ↓dRng1_e, ↓dRng2_e, ↓dPart_e, ↓dNoPart_e, ↓dMs_e, ↓dIsi_e, ↓dToldC_e, oAdd_ii, oAdd_ss, oAdd_ll, oSub_ii, oMul_ii, oMul_si, oDiv_ii, oMod_ii, oPow_ii, oNeg_i, oEq_ii, oNe_ii, oLt_ii, oLe_ii, oGt_ii, oGe_ii, oIs_e, oIsN_e, oIx_l, oIx_t, oIx_s, oLen_t, oLen_l, oAbs_i, oMax_l, oMin_l, oMin_t, oMax_t, oMax2_ii, oMin2_ii, oAll_l, oSum_l, oTuple_l, oSindex_ss, roll_e, ↓if_t, ↓if_f, if_T, if_F, Bool.false_eq_true, oLen_s, oList_t, oList_l, ↓dSl_e, onSl_l, onSl_s, isi_tt, isi_lt, isi_nt, isi_it, isi_bt, isi_st, isi_ii, isi_ib, isi_bi, isi_bb, isi_si, isi_ni, isi_ti, isi_li, isi_ss, isi_is, isi_bs, isi_ns, isi_ts, isi_ls, pl4, atI4_0, atI4_1, atI4_2, atI4_3, asInts, asBools, asStrs, Option.map, look, put, drp, drps, startR, List.length_cons, List.length_nil, List.map_cons, List.map_nil, List.replicate, List.append, List.cons_append, List.nil_append, List.append_nil, plain, true_and, and_true, Bool.not_true, Bool.not_false, Nat.zero_add, Nat.reduceAdd, Nat.reduceSub, Nat.reduceLeDiff, Nat.reduceEqDiff, ten6]
  exact ⟨mok hm.1, mok hm.2.1, h⟩
theorem are_four_b {m : M} {Q : PyData → Prop} {E : Nat → Prop} (hm : m.le (2 ^ 9000)) (h : Q (.bool (decide (m.det = 1)))) : f_are_four [m.p] Q E := by
  simp only [f_are_four, b_are_four, is_number_i, ↓onB_b, ↓onI_i, ↓onStr_s, ↓onSeq_l, ↓onSeq_t, ↓onSeq_s, ↓onS_s, ↓dFn_e, ↓dVar_e, ↓dC_e, ↓dOp_e, ↓dUn_e, ↓dNil_e, ↓dCons_e, ↓dTup_e, ↓dLst_e, ↓dTest_e, ↓dAnd_e, ↓dOr_e, ↓dNot_e, ↓dAndV_e, ↓dOrV_e, ↓dNotV_e, ↓dIf_e, ↓dChain_e, ↓dCall_e, ↓dCB_e, ↓dNext_e, ↓dSeq_e, ↓dRet_e, ↓dDrop_e, ↓dAsg_e, ↓dIfS_e, ↓dRaise_e, ↓dgName_e, ↓dgNil_e, ↓dgCons_e, ↓dgTup_e, ↓dPar_e, ↓dPar3_e, ↓dFor_e, ↓dLc_e, lcL_n, lcL_c, ↓dYes_e, ↓dOver_e, ↓dRng1_e, ↓dRng2_e, ↓dPart_e, ↓dNoPart_e, ↓dMs_e, ↓dIsi_e, ↓dToldC_e, oAdd_ii, oAdd_ss, oAdd_ll, oSub_ii, oMul_ii, oMul_si, oDiv_ii, oMod_ii, oPow_ii, oNeg_i, oEq_ii, oNe_ii, oLt_ii, oLe_ii, oGt_ii, oGe_ii, oIs_e, oIsN_e, oIx_l, oIx_t, oIx_s, oLen_t, oLen_l, oAbs_i, oMax_l, oMin_l, oMin_t, oMax_t, oMax2_ii, oMin2_ii, oAll_l, oSum_l, oTuple_l, oSindex_ss, roll_e, ↓if_t, ↓if_f, if_T, if_F, Bool.false_eq_true, oLen_s, oList_t, oList_l, ↓dSl_e, onSl_l, onSl_s, isi_tt, isi_lt, isi_nt, isi_it, isi_bt, isi_st, isi_ii, isi_ib, isi_bi, isi_bb, isi_si, isi_ni, isi_ti, isi_li, isi_ss, isi_is, isi_bs, isi_ns, isi_ts, isi_ls, pl4, atI4_0, atI4_1, atI4_2, atI4_3, asInts, asBools, asStrs, Option.map, look, put, drp, drps, startR, List.length_cons, List.length_nil, List.map_cons, List.map_nil, List.replicate, List.append, List.cons_append, List.nil_append, List.append_nil, plain, true_and, and_true, Bool.not_true, Bool.not_false, Nat.zero_add, Nat.reduceAdd, Nat.reduceSub, Nat.reduceLeDiff, Nat.reduceEqDiff, ten6]
  exact ⟨mokb hm.1 hm.2.2.2, mokb hm.2.1 hm.2.2.1, h⟩

theorem abs_eq (x : Int) : (if x < 0 then -x else x) = (x.natAbs : Int) := by split <;> omega
theorem is_table_ok {m : M} {Q : PyData → Prop} {E : Nat → Prop} (hm : m.le 9223372036854775808) (h : Q (.bool (decide (m.det = 1 ∧ m.le 1000000)))) : f_is_table [m.p] Q E := by
  simp only [f_is_table, b_is_table, ↓onB_b, ↓onI_i, ↓onStr_s, ↓onSeq_l, ↓onSeq_t, ↓onSeq_s, ↓onS_s, ↓dFn_e, ↓dVar_e, ↓dC_e, ↓dOp_e, ↓dUn_e, ↓dNil_e, ↓dCons_e, ↓dTup_e, ↓dLst_e, ↓dTest_e, ↓dAnd_e, ↓dOr_e, ↓dNot_e, ↓dAndV_e, ↓dOrV_e, ↓dNotV_e, ↓dIf_e, ↓dChain_e, ↓dCall_e, ↓dCB_e, ↓dNext_e, ↓dSeq_e, ↓dRet_e, ↓dDrop_e, ↓dAsg_e, ↓dIfS_e, ↓dRaise_e, ↓dgName_e, ↓dgNil_e, ↓dgCons_e, ↓dgTup_e, ↓dPar_e, ↓dPar3_e, ↓dFor_e, ↓dLc_e, lcL_n, lcL_c, ↓dYes_e, ↓dOver_e, ↓dRng1_e, ↓dRng2_e, ↓dPart_e, ↓dNoPart_e, ↓dMs_e, ↓dIsi_e, ↓dToldC_e, oAdd_ii, oAdd_ss, oAdd_ll, oSub_ii, oMul_ii, oMul_si, oDiv_ii, oMod_ii, oPow_ii, oNeg_i, oEq_ii, oNe_ii, oLt_ii, oLe_ii, oGt_ii, oGe_ii, oIs_e, oIsN_e, oIx_l, oIx_t, oIx_s, oLen_t, oLen_l, oAbs_i, oMax_l, oMin_l, oMin_t, oMax_t, oMax2_ii, oMin2_ii, oAll_l, oSum_l, oTuple_l, oSindex_ss, roll_e, ↓if_t, ↓if_f, if_T, if_F, Bool.false_eq_true, oLen_s, oList_t, oList_l, ↓dSl_e, onSl_l, onSl_s, isi_tt, isi_lt, isi_nt, isi_it, isi_bt, isi_st, isi_ii, isi_ib, isi_bi, isi_bb, isi_si, isi_ni, isi_ti, isi_li, isi_ss, isi_is, isi_bs, isi_ns, isi_ts, isi_ls, pl4, atI4_0, atI4_1, atI4_2, atI4_3, asInts, asBools, asStrs, Option.map, look, put, drp, drps, startR, List.length_cons, List.length_nil, List.map_cons, List.map_nil, List.replicate, List.append, List.cons_append, List.nil_append, List.append_nil, plain, true_and, and_true, Bool.not_true, Bool.not_false, Nat.zero_add, Nat.reduceAdd, Nat.reduceSub, Nat.reduceLeDiff, Nat.reduceEqDiff, ten6]
  refine are_four_ok hm ?_
  rw [onB_b]
  by_cases hd : m.det = 1
  · rw [if_pos (decide_eq_true hd)]
    refine ⟨nofun, fun z hz hy => ⟨⟨by decide, by decide, by decide⟩, ?_⟩⟩
    simp only [abs_eq, List.mem_cons, List.not_mem_nil, or_false, forall_eq_or_imp, forall_eq] at hz hy
    have e : decide (z ≤ 1000000) = decide (m.det = 1 ∧ m.le 1000000) := by
      rw [decide_eq_decide]
      constructor
      · intro hz'
        exact ⟨hd, by omega, by omega, by omega, by omega⟩
      · rintro ⟨_, h1, h2, h3, h4⟩
        omega
    rw [e]
    exact h
  · rw [if_neg (by simp [hd])]
    have e : decide (m.det = 1 ∧ m.le 1000000) = false := decide_eq_false fun z => hd z.1
    rw [e] at h
    exact h
/-- what is no table -/
def Bad (d : PyData) : Prop := plain d = true ∧ ∀ (Q : PyData → Prop) (E : Nat → Prop), Q (.bool false) → f_is_table [d] Q E
theorem bad_m {m : M} (hm : m.le 9223372036854775808) (h : ¬ (m.det = 1 ∧ m.le 1000000)) : Bad m.p := ⟨rfl, fun Q E q => is_table_ok hm (by rw [decide_eq_false h]; exact q)⟩

theorem need_table_ok {m : M} {Q : PyData → Prop} {E : Nat → Prop} (h1 : m.det = 1) (h2 : m.le 1000000) (h : Q .none) : f_need_table [m.p] Q E := by
  simp only [f_need_table, b_need_table, ↓onB_b, ↓onI_i, ↓onStr_s, ↓onSeq_l, ↓onSeq_t, ↓onSeq_s, ↓onS_s, ↓dFn_e, ↓dVar_e, ↓dC_e, ↓dOp_e, ↓dUn_e, ↓dNil_e, ↓dCons_e, ↓dTup_e, ↓dLst_e, ↓dTest_e, ↓dAnd_e, ↓dOr_e, ↓dNot_e, ↓dAndV_e, ↓dOrV_e, ↓dNotV_e, ↓dIf_e, ↓dChain_e, ↓dCall_e, ↓dCB_e, ↓dNext_e, ↓dSeq_e, ↓dRet_e, ↓dDrop_e, ↓dAsg_e, ↓dIfS_e, ↓dRaise_e, ↓dgName_e, ↓dgNil_e, ↓dgCons_e, ↓dgTup_e, ↓dPar_e, ↓dPar3_e, ↓dFor_e, ↓dLc_e, lcL_n, lcL_c, ↓dYes_e, ↓dOver_e, ↓dRng1_e, ↓dRng2_e, ↓dPart_e, ↓dNoPart_e, ↓dMs_e, ↓dIsi_e, ↓dToldC_e, oAdd_ii, oAdd_ss, oAdd_ll, oSub_ii, oMul_ii, oMul_si, oDiv_ii, oMod_ii, oPow_ii, oNeg_i, oEq_ii, oNe_ii, oLt_ii, oLe_ii, oGt_ii, oGe_ii, oIs_e, oIsN_e, oIx_l, oIx_t, oIx_s, oLen_t, oLen_l, oAbs_i, oMax_l, oMin_l, oMin_t, oMax_t, oMax2_ii, oMin2_ii, oAll_l, oSum_l, oTuple_l, oSindex_ss, roll_e, ↓if_t, ↓if_f, if_T, if_F, Bool.false_eq_true, oLen_s, oList_t, oList_l, ↓dSl_e, onSl_l, onSl_s, isi_tt, isi_lt, isi_nt, isi_it, isi_bt, isi_st, isi_ii, isi_ib, isi_bi, isi_bb, isi_si, isi_ni, isi_ti, isi_li, isi_ss, isi_is, isi_bs, isi_ns, isi_ts, isi_ls, pl4, atI4_0, atI4_1, atI4_2, atI4_3, asInts, asBools, asStrs, Option.map, look, put, drp, drps, startR, List.length_cons, List.length_nil, List.map_cons, List.map_nil, List.replicate, List.append, List.cons_append, List.nil_append, List.append_nil, plain, true_and, and_true, Bool.not_true, Bool.not_false, Nat.zero_add, Nat.reduceAdd, Nat.reduceSub, Nat.reduceLeDiff, Nat.reduceEqDiff, ten6]
  refine is_table_ok (h2.mono (by decide)) ?_
  rw [decide_eq_true ⟨h1, h2⟩]
  exact h
theorem need_table_bad {d : PyData} {Q : PyData → Prop} {E : Nat → Prop} (b : Bad d) (h : E 0) : f_need_table [d] Q E := by
  simp only [f_need_table, b_need_table, ↓onB_b, ↓onI_i, ↓onStr_s, ↓onSeq_l, ↓onSeq_t, ↓onSeq_s, ↓onS_s, ↓dFn_e, ↓dVar_e, ↓dC_e, ↓dOp_e, ↓dUn_e, ↓dNil_e, ↓dCons_e, ↓dTup_e, ↓dLst_e, ↓dTest_e, ↓dAnd_e, ↓dOr_e, ↓dNot_e, ↓dAndV_e, ↓dOrV_e, ↓dNotV_e, ↓dIf_e, ↓dChain_e, ↓dCall_e, ↓dCB_e, ↓dNext_e, ↓dSeq_e, ↓dRet_e, ↓dDrop_e, ↓dAsg_e, ↓dIfS_e, ↓dRaise_e, ↓dgName_e, ↓dgNil_e, ↓dgCons_e, ↓dgTup_e, ↓dPar_e, ↓dPar3_e, ↓dFor_e, ↓dLc_e, lcL_n, lcL_c, ↓dYes_e, ↓dOver_e, ↓dRng1_e, ↓dRng2_e, ↓dPart_e, ↓dNoPart_e, ↓dMs_e, ↓dIsi_e, ↓dToldC_e, oAdd_ii, oAdd_ss, oAdd_ll, oSub_ii, oMul_ii, oMul_si, oDiv_ii, oMod_ii, oPow_ii, oNeg_i, oEq_ii, oNe_ii, oLt_ii, oLe_ii, oGt_ii, oGe_ii, oIs_e, oIsN_e, oIx_l, oIx_t, oIx_s, oLen_t, oLen_l, oAbs_i, oMax_l, oMin_l, oMin_t, oMax_t, oMax2_ii, oMin2_ii, oAll_l, oSum_l, oTuple_l, oSindex_ss, roll_e, ↓if_t, ↓if_f, if_T, if_F, Bool.false_eq_true, oLen_s, oList_t, oList_l, ↓dSl_e, onSl_l, onSl_s, isi_tt, isi_lt, isi_nt, isi_it, isi_bt, isi_st, isi_ii, isi_ib, isi_bi, isi_bb, isi_si, isi_ni, isi_ti, isi_li, isi_ss, isi_is, isi_bs, isi_ns, isi_ts, isi_ls, pl4, atI4_0, atI4_1, atI4_2, atI4_3, asInts, asBools, asStrs, Option.map, look, put, drp, drps, startR, List.length_cons, List.length_nil, List.map_cons, List.map_nil, List.replicate, List.append, List.cons_append, List.nil_append, List.append_nil, plain, true_and, and_true, Bool.not_true, Bool.not_false, Nat.zero_add, Nat.reduceAdd, Nat.reduceSub, Nat.reduceLeDiff, Nat.reduceEqDiff, ten6]
  exact b.2 _ _ h

theorem is_whole_i {v lo hi : Int} {Q : PyData → Prop} {E : Nat → Prop} : f_is_whole [.int v, .int lo, .int hi] Q E = Q (.bool (decide (lo ≤ v) && decide (v ≤ hi))) := by
  simp only [f_is_whole, b_is_whole, is_number_i, ↓onB_b, ↓onI_i, ↓onStr_s, ↓onSeq_l, ↓onSeq_t, ↓onSeq_s, ↓onS_s, ↓dFn_e, ↓dVar_e, ↓dC_e, ↓dOp_e, ↓dUn_e, ↓dNil_e, ↓dCons_e, ↓dTup_e, ↓dLst_e, ↓dTest_e, ↓dAnd_e, ↓dOr_e, ↓dNot_e, ↓dAndV_e, ↓dOrV_e, ↓dNotV_e, ↓dIf_e, ↓dChain_e, ↓dCall_e, ↓dCB_e, ↓dNext_e, ↓dSeq_e, ↓dRet_e, ↓dDrop_e, ↓dAsg_e, ↓dIfS_e, ↓dRaise_e, ↓dgName_e, ↓dgNil_e, ↓dgCons_e, ↓dgTup_e, ↓dPar_e, ↓dPar3_e, ↓dFor_e, ↓dLc_e, lcL_n, lcL_c, ↓dYes_e, ↓dOver_e, ↓dRng1_e, ↓dRng2_e, ↓dPart_e, ↓dNoPart_e, ↓dMs_e, ↓dIsi_e, ↓dToldC_e, oAdd_ii, oAdd_ss, oAdd_ll, oSub_ii, oMul_ii, oMul_si, oDiv_ii, oMod_ii, oPow_ii, oNeg_i, oEq_ii, oNe_ii, oLt_ii, oLe_ii, oGt_ii, oGe_ii, oIs_e, oIsN_e, oIx_l, oIx_t, oIx_s, oLen_t, oLen_l, oAbs_i, oMax_l, oMin_l, oMin_t, oMax_t, oMax2_ii, oMin2_ii, oAll_l, oSum_l, oTuple_l, oSindex_ss, roll_e, ↓if_t, ↓if_f, if_T, if_F, Bool.false_eq_true, oLen_s, oList_t, oList_l, ↓dSl_e, onSl_l, onSl_s, isi_tt, isi_lt, isi_nt, isi_it, isi_bt, isi_st, isi_ii, isi_ib, isi_bi, isi_bb, isi_si, isi_ni, isi_ti, isi_li, isi_ss, isi_is, isi_bs, isi_ns, isi_ts, isi_ls, pl4, atI4_0, atI4_1, atI4_2, atI4_3, asInts, asBools, asStrs, Option.map, look, put, drp, drps, startR, List.length_cons, List.length_nil, List.map_cons, List.map_nil, List.replicate, List.append, List.cons_append, List.nil_append, List.append_nil, plain, true_and, and_true, Bool.not_true, Bool.not_false, Nat.zero_add, Nat.reduceAdd, Nat.reduceSub, Nat.reduceLeDiff, Nat.reduceEqDiff, ten6]
  by_cases h : lo ≤ v
  · rw [if_pos (decide_eq_true h), decide_eq_true h, Bool.true_and]
  · rw [if_neg (by simp [h]), decide_eq_false h, Bool.false_and]
theorem is_whole_b {v : Bool} {lo hi : Int} {Q : PyData → Prop} {E : Nat → Prop} : f_is_whole [.bool v, .int lo, .int hi] Q E = Q (.bool false) := by
  simp only [f_is_whole, b_is_whole, is_number_b, ↓onB_b, ↓onI_i, ↓onStr_s, ↓onSeq_l, ↓onSeq_t, ↓onSeq_s, ↓onS_s, ↓dFn_e, ↓dVar_e, ↓dC_e, ↓dOp_e, ↓dUn_e, ↓dNil_e, ↓dCons_e, ↓dTup_e, ↓dLst_e, ↓dTest_e, ↓dAnd_e, ↓dOr_e, ↓dNot_e, ↓dAndV_e, ↓dOrV_e, ↓dNotV_e, ↓dIf_e, ↓dChain_e, ↓dCall_e, ↓dCB_e, ↓dNext_e, ↓dSeq_e, ↓dRet_e, ↓dDrop_e, ↓dAsg_e, ↓dIfS_e, ↓dRaise_e, ↓dgName_e, ↓dgNil_e, ↓dgCons_e, ↓dgTup_e, ↓dPar_e, ↓dPar3_e, ↓dFor_e, ↓dLc_e, lcL_n, lcL_c, ↓dYes_e, ↓dOver_e, ↓dRng1_e, ↓dRng2_e, ↓dPart_e, ↓dNoPart_e, ↓dMs_e, ↓dIsi_e, ↓dToldC_e, oAdd_ii, oAdd_ss, oAdd_ll, oSub_ii, oMul_ii, oMul_si, oDiv_ii, oMod_ii, oPow_ii, oNeg_i, oEq_ii, oNe_ii, oLt_ii, oLe_ii, oGt_ii, oGe_ii, oIs_e, oIsN_e, oIx_l, oIx_t, oIx_s, oLen_t, oLen_l, oAbs_i, oMax_l, oMin_l, oMin_t, oMax_t, oMax2_ii, oMin2_ii, oAll_l, oSum_l, oTuple_l, oSindex_ss, roll_e, ↓if_t, ↓if_f, if_T, if_F, Bool.false_eq_true, oLen_s, oList_t, oList_l, ↓dSl_e, onSl_l, onSl_s, isi_tt, isi_lt, isi_nt, isi_it, isi_bt, isi_st, isi_ii, isi_ib, isi_bi, isi_bb, isi_si, isi_ni, isi_ti, isi_li, isi_ss, isi_is, isi_bs, isi_ns, isi_ts, isi_ls, pl4, atI4_0, atI4_1, atI4_2, atI4_3, asInts, asBools, asStrs, Option.map, look, put, drp, drps, startR, List.length_cons, List.length_nil, List.map_cons, List.map_nil, List.replicate, List.append, List.cons_append, List.nil_append, List.append_nil, plain, true_and, and_true, Bool.not_true, Bool.not_false, Nat.zero_add, Nat.reduceAdd, Nat.reduceSub, Nat.reduceLeDiff, Nat.reduceEqDiff, ten6]
theorem is_whole_n {lo hi : Int} {Q : PyData → Prop} {E : Nat → Prop} : f_is_whole [.none, .int lo, .int hi] Q E = Q (.bool false) := by
  simp only [f_is_whole, b_is_whole, is_number_n, ↓onB_b, ↓onI_i, ↓onStr_s, ↓onSeq_l, ↓onSeq_t, ↓onSeq_s, ↓onS_s, ↓dFn_e, ↓dVar_e, ↓dC_e, ↓dOp_e, ↓dUn_e, ↓dNil_e, ↓dCons_e, ↓dTup_e, ↓dLst_e, ↓dTest_e, ↓dAnd_e, ↓dOr_e, ↓dNot_e, ↓dAndV_e, ↓dOrV_e, ↓dNotV_e, ↓dIf_e, ↓dChain_e, ↓dCall_e, ↓dCB_e, ↓dNext_e, ↓dSeq_e, ↓dRet_e, ↓dDrop_e, ↓dAsg_e, ↓dIfS_e, ↓dRaise_e, ↓dgName_e, ↓dgNil_e, ↓dgCons_e, ↓dgTup_e, ↓dPar_e, ↓dPar3_e, ↓dFor_e, ↓dLc_e, lcL_n, lcL_c, ↓dYes_e, ↓dOver_e, ↓dRng1_e, ↓dRng2_e, ↓dPart_e, ↓dNoPart_e, ↓dMs_e, ↓dIsi_e, ↓dToldC_e, oAdd_ii, oAdd_ss, oAdd_ll, oSub_ii, oMul_ii, oMul_si, oDiv_ii, oMod_ii, oPow_ii, oNeg_i, oEq_ii, oNe_ii, oLt_ii, oLe_ii, oGt_ii, oGe_ii, oIs_e, oIsN_e, oIx_l, oIx_t, oIx_s, oLen_t, oLen_l, oAbs_i, oMax_l, oMin_l, oMin_t, oMax_t, oMax2_ii, oMin2_ii, oAll_l, oSum_l, oTuple_l, oSindex_ss, roll_e, ↓if_t, ↓if_f, if_T, if_F, Bool.false_eq_true, oLen_s, oList_t, oList_l, ↓dSl_e, onSl_l, onSl_s, isi_tt, isi_lt, isi_nt, isi_it, isi_bt, isi_st, isi_ii, isi_ib, isi_bi, isi_bb, isi_si, isi_ni, isi_ti, isi_li, isi_ss, isi_is, isi_bs, isi_ns, isi_ts, isi_ls, pl4, atI4_0, atI4_1, atI4_2, atI4_3, asInts, asBools, asStrs, Option.map, look, put, drp, drps, startR, List.length_cons, List.length_nil, List.map_cons, List.map_nil, List.replicate, List.append, List.cons_append, List.nil_append, List.append_nil, plain, true_and, and_true, Bool.not_true, Bool.not_false, Nat.zero_add, Nat.reduceAdd, Nat.reduceSub, Nat.reduceLeDiff, Nat.reduceEqDiff, ten6]
theorem is_whole_s {v : Str} {lo hi : Int} {Q : PyData → Prop} {E : Nat → Prop} : f_is_whole [.str v, .int lo, .int hi] Q E = Q (.bool false) := by
  simp only [f_is_whole, b_is_whole, is_number_s, ↓onB_b, ↓onI_i, ↓onStr_s, ↓onSeq_l, ↓onSeq_t, ↓onSeq_s, ↓onS_s, ↓dFn_e, ↓dVar_e, ↓dC_e, ↓dOp_e, ↓dUn_e, ↓dNil_e, ↓dCons_e, ↓dTup_e, ↓dLst_e, ↓dTest_e, ↓dAnd_e, ↓dOr_e, ↓dNot_e, ↓dAndV_e, ↓dOrV_e, ↓dNotV_e, ↓dIf_e, ↓dChain_e, ↓dCall_e, ↓dCB_e, ↓dNext_e, ↓dSeq_e, ↓dRet_e, ↓dDrop_e, ↓dAsg_e, ↓dIfS_e, ↓dRaise_e, ↓dgName_e, ↓dgNil_e, ↓dgCons_e, ↓dgTup_e, ↓dPar_e, ↓dPar3_e, ↓dFor_e, ↓dLc_e, lcL_n, lcL_c, ↓dYes_e, ↓dOver_e, ↓dRng1_e, ↓dRng2_e, ↓dPart_e, ↓dNoPart_e, ↓dMs_e, ↓dIsi_e, ↓dToldC_e, oAdd_ii, oAdd_ss, oAdd_ll, oSub_ii, oMul_ii, oMul_si, oDiv_ii, oMod_ii, oPow_ii, oNeg_i, oEq_ii, oNe_ii, oLt_ii, oLe_ii, oGt_ii, oGe_ii, oIs_e, oIsN_e, oIx_l, oIx_t, oIx_s, oLen_t, oLen_l, oAbs_i, oMax_l, oMin_l, oMin_t, oMax_t, oMax2_ii, oMin2_ii, oAll_l, oSum_l, oTuple_l, oSindex_ss, roll_e, ↓if_t, ↓if_f, if_T, if_F, Bool.false_eq_true, oLen_s, oList_t, oList_l, ↓dSl_e, onSl_l, onSl_s, isi_tt, isi_lt, isi_nt, isi_it, isi_bt, isi_st, isi_ii, isi_ib, isi_bi, isi_bb, isi_si, isi_ni, isi_ti, isi_li, isi_ss, isi_is, isi_bs, isi_ns, isi_ts, isi_ls, pl4, atI4_0, atI4_1, atI4_2, atI4_3, asInts, asBools, asStrs, Option.map, look, put, drp, drps, startR, List.length_cons, List.length_nil, List.map_cons, List.map_nil, List.replicate, List.append, List.cons_append, List.nil_append, List.append_nil, plain, true_and, and_true, Bool.not_true, Bool.not_false, Nat.zero_add, Nat.reduceAdd, Nat.reduceSub, Nat.reduceLeDiff, Nat.reduceEqDiff, ten6]
theorem is_whole_t {v : List PyData} {lo hi : Int} {Q : PyData → Prop} {E : Nat → Prop} : f_is_whole [.tuple v, .int lo, .int hi] Q E = Q (.bool false) := by
  simp only [f_is_whole, b_is_whole, is_number_t, ↓onB_b, ↓onI_i, ↓onStr_s, ↓onSeq_l, ↓onSeq_t, ↓onSeq_s, ↓onS_s, ↓dFn_e, ↓dVar_e, ↓dC_e, ↓dOp_e, ↓dUn_e, ↓dNil_e, ↓dCons_e, ↓dTup_e, ↓dLst_e, ↓dTest_e, ↓dAnd_e, ↓dOr_e, ↓dNot_e, ↓dAndV_e, ↓dOrV_e, ↓dNotV_e, ↓dIf_e, ↓dChain_e, ↓dCall_e, ↓dCB_e, ↓dNext_e, ↓dSeq_e, ↓dRet_e, ↓dDrop_e, ↓dAsg_e, ↓dIfS_e, ↓dRaise_e, ↓dgName_e, ↓dgNil_e, ↓dgCons_e, ↓dgTup_e, ↓dPar_e, ↓dPar3_e, ↓dFor_e, ↓dLc_e, lcL_n, lcL_c, ↓dYes_e, ↓dOver_e, ↓dRng1_e, ↓dRng2_e, ↓dPart_e, ↓dNoPart_e, ↓dMs_e, ↓dIsi_e, ↓dToldC_e, oAdd_ii, oAdd_ss, oAdd_ll, oSub_ii, oMul_ii, oMul_si, oDiv_ii, oMod_ii, oPow_ii, oNeg_i, oEq_ii, oNe_ii, oLt_ii, oLe_ii, oGt_ii, oGe_ii, oIs_e, oIsN_e, oIx_l, oIx_t, oIx_s, oLen_t, oLen_l, oAbs_i, oMax_l, oMin_l, oMin_t, oMax_t, oMax2_ii, oMin2_ii, oAll_l, oSum_l, oTuple_l, oSindex_ss, roll_e, ↓if_t, ↓if_f, if_T, if_F, Bool.false_eq_true, oLen_s, oList_t, oList_l, ↓dSl_e, onSl_l, onSl_s, isi_tt, isi_lt, isi_nt, isi_it, isi_bt, isi_st, isi_ii, isi_ib, isi_bi, isi_bb, isi_si, isi_ni, isi_ti, isi_li, isi_ss, isi_is, isi_bs, isi_ns, isi_ts, isi_ls, pl4, atI4_0, atI4_1, atI4_2, atI4_3, asInts, asBools, asStrs, Option.map, look, put, drp, drps, startR, List.length_cons, List.length_nil, List.map_cons, List.map_nil, List.replicate, List.append, List.cons_append, List.nil_append, List.append_nil, plain, true_and, and_true, Bool.not_true, Bool.not_false, Nat.zero_add, Nat.reduceAdd, Nat.reduceSub, Nat.reduceLeDiff, Nat.reduceEqDiff, ten6]
theorem is_whole_l {v : List PyData} {lo hi : Int} {Q : PyData → Prop} {E : Nat → Prop} : f_is_whole [.list v, .int lo, .int hi] Q E = Q (.bool false) := by
  simp only [f_is_whole, b_is_whole, is_number_l, ↓onB_b, ↓onI_i, ↓onStr_s, ↓onSeq_l, ↓onSeq_t, ↓onSeq_s, ↓onS_s, ↓dFn_e, ↓dVar_e, ↓dC_e, ↓dOp_e, ↓dUn_e, ↓dNil_e, ↓dCons_e, ↓dTup_e, ↓dLst_e, ↓dTest_e, ↓dAnd_e, ↓dOr_e, ↓dNot_e, ↓dAndV_e, ↓dOrV_e, ↓dNotV_e, ↓dIf_e, ↓dChain_e, ↓dCall_e, ↓dCB_e, ↓dNext_e, ↓dSeq_e, ↓dRet_e, ↓dDrop_e, ↓dAsg_e, ↓dIfS_e, ↓dRaise_e, ↓dgName_e, ↓dgNil_e, ↓dgCons_e, ↓dgTup_e, ↓dPar_e, ↓dPar3_e, ↓dFor_e, ↓dLc_e, lcL_n, lcL_c, ↓dYes_e, ↓dOver_e, ↓dRng1_e, ↓dRng2_e, ↓dPart_e, ↓dNoPart_e, ↓dMs_e, ↓dIsi_e, ↓dToldC_e, oAdd_ii, oAdd_ss, oAdd_ll, oSub_ii, oMul_ii, oMul_si, oDiv_ii, oMod_ii, oPow_ii, oNeg_i, oEq_ii, oNe_ii, oLt_ii, oLe_ii, oGt_ii, oGe_ii, oIs_e, oIsN_e, oIx_l, oIx_t, oIx_s, oLen_t, oLen_l, oAbs_i, oMax_l, oMin_l, oMin_t, oMax_t, oMax2_ii, oMin2_ii, oAll_l, oSum_l, oTuple_l, oSindex_ss, roll_e, ↓if_t, ↓if_f, if_T, if_F, Bool.false_eq_true, oLen_s, oList_t, oList_l, ↓dSl_e, onSl_l, onSl_s, isi_tt, isi_lt, isi_nt, isi_it, isi_bt, isi_st, isi_ii, isi_ib, isi_bi, isi_bb, isi_si, isi_ni, isi_ti, isi_li, isi_ss, isi_is, isi_bs, isi_ns, isi_ts, isi_ls, pl4, atI4_0, atI4_1, atI4_2, atI4_3, asInts, asBools, asStrs, Option.map, look, put, drp, drps, startR, List.length_cons, List.length_nil, List.map_cons, List.map_nil, List.replicate, List.append, List.cons_append, List.nil_append, List.append_nil, plain, true_and, and_true, Bool.not_true, Bool.not_false, Nat.zero_add, Nat.reduceAdd, Nat.reduceSub, Nat.reduceLeDiff, Nat.reduceEqDiff, ten6]

theorem need_modulus_ok {n : Int} {Q : PyData → Prop} {E : Nat → Prop} (h1 : 2 ≤ n) (h2 : n ≤ 30) (h : Q .none) : f_need_modulus [.int n] Q E := by
  simp only [f_need_modulus, b_need_modulus, is_whole_i, ↓onB_b, ↓onI_i, ↓onStr_s, ↓onSeq_l, ↓onSeq_t, ↓onSeq_s, ↓onS_s, ↓dFn_e, ↓dVar_e, ↓dC_e, ↓dOp_e, ↓dUn_e, ↓dNil_e, ↓dCons_e, ↓dTup_e, ↓dLst_e, ↓dTest_e, ↓dAnd_e, ↓dOr_e, ↓dNot_e, ↓dAndV_e, ↓dOrV_e, ↓dNotV_e, ↓dIf_e, ↓dChain_e, ↓dCall_e, ↓dCB_e, ↓dNext_e, ↓dSeq_e, ↓dRet_e, ↓dDrop_e, ↓dAsg_e, ↓dIfS_e, ↓dRaise_e, ↓dgName_e, ↓dgNil_e, ↓dgCons_e, ↓dgTup_e, ↓dPar_e, ↓dPar3_e, ↓dFor_e, ↓dLc_e, lcL_n, lcL_c, ↓dYes_e, ↓dOver_e, ↓dRng1_e, ↓dRng2_e, ↓dPart_e, ↓dNoPart_e, ↓dMs_e, ↓dIsi_e, ↓dToldC_e, oAdd_ii, oAdd_ss, oAdd_ll, oSub_ii, oMul_ii, oMul_si, oDiv_ii, oMod_ii, oPow_ii, oNeg_i, oEq_ii, oNe_ii, oLt_ii, oLe_ii, oGt_ii, oGe_ii, oIs_e, oIsN_e, oIx_l, oIx_t, oIx_s, oLen_t, oLen_l, oAbs_i, oMax_l, oMin_l, oMin_t, oMax_t, oMax2_ii, oMin2_ii, oAll_l, oSum_l, oTuple_l, oSindex_ss, roll_e, ↓if_t, ↓if_f, if_T, if_F, Bool.false_eq_true, oLen_s, oList_t, oList_l, ↓dSl_e, onSl_l, onSl_s, isi_tt, isi_lt, isi_nt, isi_it, isi_bt, isi_st, isi_ii, isi_ib, isi_bi, isi_bb, isi_si, isi_ni, isi_ti, isi_li, isi_ss, isi_is, isi_bs, isi_ns, isi_ts, isi_ls, pl4, atI4_0, atI4_1, atI4_2, atI4_3, asInts, asBools, asStrs, Option.map, look, put, drp, drps, startR, List.length_cons, List.length_nil, List.map_cons, List.map_nil, List.replicate, List.append, List.cons_append, List.nil_append, List.append_nil, plain, true_and, and_true, Bool.not_true, Bool.not_false, Nat.zero_add, Nat.reduceAdd, Nat.reduceSub, Nat.reduceLeDiff, Nat.reduceEqDiff, ten6]
  rw [decide_eq_true h1, decide_eq_true h2]
  exact h
theorem need_modulus_far {n : Int} {Q : PyData → Prop} {E : Nat → Prop} (h1 : ¬ (2 ≤ n ∧ n ≤ 30)) (h : E 7) : f_need_modulus [.int n] Q E := by
  simp only [f_need_modulus, b_need_modulus, is_whole_i, ↓onB_b, ↓onI_i, ↓onStr_s, ↓onSeq_l, ↓onSeq_t, ↓onSeq_s, ↓onS_s, ↓dFn_e, ↓dVar_e, ↓dC_e, ↓dOp_e, ↓dUn_e, ↓dNil_e, ↓dCons_e, ↓dTup_e, ↓dLst_e, ↓dTest_e, ↓dAnd_e, ↓dOr_e, ↓dNot_e, ↓dAndV_e, ↓dOrV_e, ↓dNotV_e, ↓dIf_e, ↓dChain_e, ↓dCall_e, ↓dCB_e, ↓dNext_e, ↓dSeq_e, ↓dRet_e, ↓dDrop_e, ↓dAsg_e, ↓dIfS_e, ↓dRaise_e, ↓dgName_e, ↓dgNil_e, ↓dgCons_e, ↓dgTup_e, ↓dPar_e, ↓dPar3_e, ↓dFor_e, ↓dLc_e, lcL_n, lcL_c, ↓dYes_e, ↓dOver_e, ↓dRng1_e, ↓dRng2_e, ↓dPart_e, ↓dNoPart_e, ↓dMs_e, ↓dIsi_e, ↓dToldC_e, oAdd_ii, oAdd_ss, oAdd_ll, oSub_ii, oMul_ii, oMul_si, oDiv_ii, oMod_ii, oPow_ii, oNeg_i, oEq_ii, oNe_ii, oLt_ii, oLe_ii, oGt_ii, oGe_ii, oIs_e, oIsN_e, oIx_l, oIx_t, oIx_s, oLen_t, oLen_l, oAbs_i, oMax_l, oMin_l, oMin_t, oMax_t, oMax2_ii, oMin2_ii, oAll_l, oSum_l, oTuple_l, oSindex_ss, roll_e, ↓if_t, ↓if_f, if_T, if_F, Bool.false_eq_true, oLen_s, oList_t, oList_l, ↓dSl_e, onSl_l, onSl_s, isi_tt, isi_lt, isi_nt, isi_it, isi_bt, isi_st, isi_ii, isi_ib, isi_bi, isi_bb, isi_si, isi_ni, isi_ti, isi_li, isi_ss, isi_is, isi_bs, isi_ns, isi_ts, isi_ls, pl4, atI4_0, atI4_1, atI4_2, atI4_3, asInts, asBools, asStrs, Option.map, look, put, drp, drps, startR, List.length_cons, List.length_nil, List.map_cons, List.map_nil, List.replicate, List.append, List.cons_append, List.nil_append, List.append_nil, plain, true_and, and_true, Bool.not_true, Bool.not_false, Nat.zero_add, Nat.reduceAdd, Nat.reduceSub, Nat.reduceLeDiff, Nat.reduceEqDiff, ten6]
  rw [← Bool.decide_and, decide_eq_false h1]
  exact h
theorem need_modulus_bad {d : PyData} {Q : PyData → Prop} {E : Nat → Prop} (hd : ∀ (Q : PyData → Prop) (E : Nat → Prop) (lo hi : Int), Q (.bool false) → f_is_whole [d, .int lo, .int hi] Q E) (h : E 7) : f_need_modulus [d] Q E := by
  simp only [f_need_modulus, b_need_modulus, ↓onB_b, ↓onI_i, ↓onStr_s, ↓onSeq_l, ↓onSeq_t, ↓onSeq_s, ↓onS_s, ↓dFn_e, ↓dVar_e, ↓dC_e, ↓dOp_e, ↓dUn_e, ↓dNil_e, ↓dCons_e, ↓dTup_e, ↓dLst_e, ↓dTest_e, ↓dAnd_e, ↓dOr_e, ↓dNot_e, ↓dAndV_e, ↓dOrV_e, ↓dNotV_e, ↓dIf_e, ↓dChain_e, ↓dCall_e, ↓dCB_e, ↓dNext_e, ↓dSeq_e, ↓dRet_e, ↓dDrop_e, ↓dAsg_e, ↓dIfS_e, ↓dRaise_e, ↓dgName_e, ↓dgNil_e, ↓dgCons_e, ↓dgTup_e, ↓dPar_e, ↓dPar3_e, ↓dFor_e, ↓dLc_e, lcL_n, lcL_c, ↓dYes_e, ↓dOver_e, ↓dRng1_e, ↓dRng2_e, ↓dPart_e, ↓dNoPart_e, ↓dMs_e, ↓dIsi_e, ↓dToldC_e, oAdd_ii, oAdd_ss, oAdd_ll, oSub_ii, oMul_ii, oMul_si, oDiv_ii, oMod_ii, oPow_ii, oNeg_i, oEq_ii, oNe_ii, oLt_ii, oLe_ii, oGt_ii, oGe_ii, oIs_e, oIsN_e, oIx_l, oIx_t, oIx_s, oLen_t, oLen_l, oAbs_i, oMax_l, oMin_l, oMin_t, oMax_t, oMax2_ii, oMin2_ii, oAll_l, oSum_l, oTuple_l, oSindex_ss, roll_e, ↓if_t, ↓if_f, if_T, if_F, Bool.false_eq_true, oLen_s, oList_t, oList_l, ↓dSl_e, onSl_l, onSl_s, isi_tt, isi_lt, isi_nt, isi_it, isi_bt, isi_st, isi_ii, isi_ib, isi_bi, isi_bb, isi_si, isi_ni, isi_ti, isi_li, isi_ss, isi_is, isi_bs, isi_ns, isi_ts, isi_ls, pl4, atI4_0, atI4_1, atI4_2, atI4_3, asInts, asBools, asStrs, Option.map, look, put, drp, drps, startR, List.length_cons, List.length_nil, List.map_cons, List.map_nil, List.replicate, List.append, List.cons_append, List.nil_append, List.append_nil, plain, true_and, and_true, Bool.not_true, Bool.not_false, Nat.zero_add, Nat.reduceAdd, Nat.reduceSub, Nat.reduceLeDiff, Nat.reduceEqDiff, ten6]
  exact hd _ _ _ _ h

/-- a pair of ints -/
abbrev F (p q : Int) : PyData := .tuple [.int p, .int q]
theorem gcd_step (a b : Nat) : Nat.gcd b (a % b) = Nat.gcd a b := by
  rw [Nat.gcd_comm a b, Nat.gcd_rec b a, Nat.gcd_comm]
theorem absI (x : Int) : (if x < 0 then -x else x) = (x.natAbs : Int) := by split <;> omega
theorem divisor_ok {x y : Int} {Q : PyData → Prop} {E : Nat → Prop} (h : Q (.int (Int.gcd x y))) : f_divisor [.int x, .int y] Q E := by
  rw [f_divisor, b_divisor, dFn_e, dSeq_e]
  simp only [↓onB_b, ↓onI_i, ↓onStr_s, ↓onSeq_l, ↓onSeq_t, ↓onSeq_s, ↓onS_s, ↓dFn_e, ↓dVar_e, ↓dC_e, ↓dOp_e, ↓dUn_e, ↓dNil_e, ↓dCons_e, ↓dTup_e, ↓dLst_e, ↓dTest_e, ↓dAnd_e, ↓dOr_e, ↓dNot_e, ↓dAndV_e, ↓dOrV_e, ↓dNotV_e, ↓dIf_e, ↓dChain_e, ↓dCall_e, ↓dCB_e, ↓dNext_e, ↓dRet_e, ↓dDrop_e, ↓dAsg_e, ↓dIfS_e, ↓dRaise_e, ↓dgName_e, ↓dgNil_e, ↓dgCons_e, ↓dgTup_e, ↓dPar_e, ↓dPar3_e, ↓dFor_e, ↓dLc_e, lcL_n, lcL_c, ↓dYes_e, ↓dOver_e, ↓dRng1_e, ↓dRng2_e, ↓dPart_e, ↓dNoPart_e, ↓dMs_e, ↓dIsi_e, ↓dToldC_e, oAdd_ii, oAdd_ss, oAdd_ll, oSub_ii, oMul_ii, oMul_si, oDiv_ii, oMod_ii, oPow_ii, oNeg_i, oEq_ii, oNe_ii, oLt_ii, oLe_ii, oGt_ii, oGe_ii, oIs_e, oIsN_e, oIx_l, oIx_t, oIx_s, oLen_t, oLen_l, oAbs_i, oMax_l, oMin_l, oMin_t, oMax_t, oMax2_ii, oMin2_ii, oAll_l, oSum_l, oTuple_l, oSindex_ss, roll_e, ↓if_t, ↓if_f, if_T, if_F, Bool.false_eq_true, oLen_s, oList_t, oList_l, ↓dSl_e, onSl_l, onSl_s, isi_tt, isi_lt, isi_nt, isi_it, isi_bt, isi_st, isi_ii, isi_ib, isi_bi, isi_bb, isi_si, isi_ni, isi_ti, isi_li, isi_ss, isi_is, isi_bs, isi_ns, isi_ts, isi_ls, pl4, atI4_0, atI4_1, atI4_2, atI4_3, asInts, asBools, asStrs, Option.map, look, put, drp, drps, startR, List.length_cons, List.length_nil, List.map_cons, List.map_nil, List.replicate, List.append, List.cons_append, List.nil_append, List.append_nil, true_and, and_true, Bool.not_true, Bool.not_false, Nat.zero_add, Nat.reduceAdd, Nat.reduceSub, Nat.reduceLeDiff, Nat.reduceEqDiff, ten6, plains_n, plains_c, plain_t, plain_l, plain_i, plain_s, plain_b, plain_no]
  rw [absI, absI, dSeq_e]
  refine dWhile_i (fun n r => ∃ a : Nat, Nat.gcd a n = Int.gcd x y ∧ r = [some (.int (a : Int)), some (.int (n : Int))]) y.natAbs ⟨x.natAbs, rfl, rfl⟩ ?_
  rintro n r k ⟨a, hg, rfl⟩ hk
  rw [dTru_i rfl]
  by_cases h0 : n = 0
  · subst h0
    rw [if_neg (by simp), dRet_e, dVar_e]
    have e : a = Int.gcd x y := by rw [← hg, Nat.gcd_zero_right]
    show Q (.int (a : Int))
    rw [e]
    exact h
  · rw [if_pos (by simp; omega)]
    simp only [↓onB_b, ↓onI_i, ↓onStr_s, ↓onSeq_l, ↓onSeq_t, ↓onSeq_s, ↓onS_s, ↓dFn_e, ↓dVar_e, ↓dC_e, ↓dOp_e, ↓dUn_e, ↓dNil_e, ↓dCons_e, ↓dTup_e, ↓dLst_e, ↓dTest_e, ↓dAnd_e, ↓dOr_e, ↓dNot_e, ↓dAndV_e, ↓dOrV_e, ↓dNotV_e, ↓dIf_e, ↓dChain_e, ↓dCall_e, ↓dCB_e, ↓dNext_e, ↓dRet_e, ↓dDrop_e, ↓dAsg_e, ↓dIfS_e, ↓dRaise_e, ↓dgName_e, ↓dgNil_e, ↓dgCons_e, ↓dgTup_e, ↓dPar_e, ↓dPar3_e, ↓dFor_e, ↓dLc_e, lcL_n, lcL_c, ↓dYes_e, ↓dOver_e, ↓dRng1_e, ↓dRng2_e, ↓dPart_e, ↓dNoPart_e, ↓dMs_e, ↓dIsi_e, ↓dToldC_e, oAdd_ii, oAdd_ss, oAdd_ll, oSub_ii, oMul_ii, oMul_si, oDiv_ii, oMod_ii, oPow_ii, oNeg_i, oEq_ii, oNe_ii, oLt_ii, oLe_ii, oGt_ii, oGe_ii, oIs_e, oIsN_e, oIx_l, oIx_t, oIx_s, oLen_t, oLen_l, oAbs_i, oMax_l, oMin_l, oMin_t, oMax_t, oMax2_ii, oMin2_ii, oAll_l, oSum_l, oTuple_l, oSindex_ss, roll_e, ↓if_t, ↓if_f, if_T, if_F, Bool.false_eq_true, oLen_s, oList_t, oList_l, ↓dSl_e, onSl_l, onSl_s, isi_tt, isi_lt, isi_nt, isi_it, isi_bt, isi_st, isi_ii, isi_ib, isi_bi, isi_bb, isi_si, isi_ni, isi_ti, isi_li, isi_ss, isi_is, isi_bs, isi_ns, isi_ts, isi_ls, pl4, atI4_0, atI4_1, atI4_2, atI4_3, asInts, asBools, asStrs, Option.map, look, put, drp, drps, startR, List.length_cons, List.length_nil, List.map_cons, List.map_nil, List.replicate, List.append, List.cons_append, List.nil_append, List.append_nil, true_and, and_true, Bool.not_true, Bool.not_false, Nat.zero_add, Nat.reduceAdd, Nat.reduceSub, Nat.reduceLeDiff, Nat.reduceEqDiff, ten6, plains_n, plains_c, plain_t, plain_l, plain_i, plain_s, plain_b, plain_no]
    refine ⟨by omega, ?_⟩
    refine hk (a % n) _ (Nat.mod_lt _ (by omega)) ⟨n, by rw [gcd_step]; exact hg, ?_⟩
    rw [Int.fmod_eq_emod_of_nonneg _ (by omega)]
    rfl

theorem units_of_ok {m : Int} {Q : PyData → Prop} {E : Nat → Prop} (h1 : 2 ≤ m) (h2 : m ≤ 30) (h : Q (.list ((us m).map .int))) : f_units_of [.int m] Q E := by
  rw [f_units_of, b_units_of, dFn_e, dRet_e, dLc_e]
  refine dRng2_q (m := m) rfl (by omega) (by omega) ⟨?_, ?_⟩
  · rw [rng_len]
    omega
  · refine lc_sel (isU m) id ?_ _ _ (fun x hx K1 K2 k1 k2 => ?_) ?_
    · intro x hx
      cases x <;> first | rfl | exact nomatch hx
    · rw [rngD] at hx
      obtain ⟨u, hu, rfl⟩ := List.mem_map.mp hx
      simp only [↓onB_b, ↓onI_i, ↓onStr_s, ↓onSeq_l, ↓onSeq_t, ↓onSeq_s, ↓onS_s, ↓dFn_e, ↓dVar_e, ↓dC_e, ↓dOp_e, ↓dUn_e, ↓dNil_e, ↓dCons_e, ↓dTup_e, ↓dLst_e, ↓dTest_e, ↓dAnd_e, ↓dOr_e, ↓dNot_e, ↓dAndV_e, ↓dOrV_e, ↓dNotV_e, ↓dIf_e, ↓dChain_e, ↓dCall_e, ↓dCB_e, ↓dNext_e, ↓dRet_e, ↓dDrop_e, ↓dAsg_e, ↓dIfS_e, ↓dRaise_e, ↓dgName_e, ↓dgNil_e, ↓dgCons_e, ↓dgTup_e, ↓dPar_e, ↓dPar3_e, ↓dFor_e, ↓dLc_e, lcL_n, lcL_c, ↓dYes_e, ↓dOver_e, ↓dRng1_e, ↓dRng2_e, ↓dPart_e, ↓dNoPart_e, ↓dMs_e, ↓dIsi_e, ↓dToldC_e, oAdd_ii, oAdd_ss, oAdd_ll, oSub_ii, oMul_ii, oMul_si, oDiv_ii, oMod_ii, oPow_ii, oNeg_i, oEq_ii, oNe_ii, oLt_ii, oLe_ii, oGt_ii, oGe_ii, oIs_e, oIsN_e, oIx_l, oIx_t, oIx_s, oLen_t, oLen_l, oAbs_i, oMax_l, oMin_l, oMin_t, oMax_t, oMax2_ii, oMin2_ii, oAll_l, oSum_l, oTuple_l, oSindex_ss, roll_e, ↓if_t, ↓if_f, if_T, if_F, Bool.false_eq_true, oLen_s, oList_t, oList_l, ↓dSl_e, onSl_l, onSl_s, isi_tt, isi_lt, isi_nt, isi_it, isi_bt, isi_st, isi_ii, isi_ib, isi_bi, isi_bb, isi_si, isi_ni, isi_ti, isi_li, isi_ss, isi_is, isi_bs, isi_ns, isi_ts, isi_ls, pl4, atI4_0, atI4_1, atI4_2, atI4_3, asInts, asBools, asStrs, Option.map, look, put, drp, drps, startR, List.length_cons, List.length_nil, List.map_cons, List.map_nil, List.replicate, List.append, List.cons_append, List.nil_append, List.append_nil, plain, true_and, and_true, Bool.not_true, Bool.not_false, Nat.zero_add, Nat.reduceAdd, Nat.reduceSub, Nat.reduceLeDiff, Nat.reduceEqDiff, ten6]
      refine divisor_ok ?_
      simp only [↓onB_b, ↓onI_i, ↓onStr_s, ↓onSeq_l, ↓onSeq_t, ↓onSeq_s, ↓onS_s, ↓dFn_e, ↓dVar_e, ↓dC_e, ↓dOp_e, ↓dUn_e, ↓dNil_e, ↓dCons_e, ↓dTup_e, ↓dLst_e, ↓dTest_e, ↓dAnd_e, ↓dOr_e, ↓dNot_e, ↓dAndV_e, ↓dOrV_e, ↓dNotV_e, ↓dIf_e, ↓dChain_e, ↓dCall_e, ↓dCB_e, ↓dNext_e, ↓dRet_e, ↓dDrop_e, ↓dAsg_e, ↓dIfS_e, ↓dRaise_e, ↓dgName_e, ↓dgNil_e, ↓dgCons_e, ↓dgTup_e, ↓dPar_e, ↓dPar3_e, ↓dFor_e, ↓dLc_e, lcL_n, lcL_c, ↓dYes_e, ↓dOver_e, ↓dRng1_e, ↓dRng2_e, ↓dPart_e, ↓dNoPart_e, ↓dMs_e, ↓dIsi_e, ↓dToldC_e, oAdd_ii, oAdd_ss, oAdd_ll, oSub_ii, oMul_ii, oMul_si, oDiv_ii, oMod_ii, oPow_ii, oNeg_i, oEq_ii, oNe_ii, oLt_ii, oLe_ii, oGt_ii, oGe_ii, oIs_e, oIsN_e, oIx_l, oIx_t, oIx_s, oLen_t, oLen_l, oAbs_i, oMax_l, oMin_l, oMin_t, oMax_t, oMax2_ii, oMin2_ii, oAll_l, oSum_l, oTuple_l, oSindex_ss, roll_e, ↓if_t, ↓if_f, if_T, if_F, Bool.false_eq_true, oLen_s, oList_t, oList_l, ↓dSl_e, onSl_l, onSl_s, isi_tt, isi_lt, isi_nt, isi_it, isi_bt, isi_st, isi_ii, isi_ib, isi_bi, isi_bb, isi_si, isi_ni, isi_ti, isi_li, isi_ss, isi_is, isi_bs, isi_ns, isi_ts, isi_ls, pl4, atI4_0, atI4_1, atI4_2, atI4_3, asInts, asBools, asStrs, Option.map, look, put, drp, drps, startR, List.length_cons, List.length_nil, List.map_cons, List.map_nil, List.replicate, List.append, List.cons_append, List.nil_append, List.append_nil, plain, true_and, and_true, Bool.not_true, Bool.not_false, Nat.zero_add, Nat.reduceAdd, Nat.reduceSub, Nat.reduceLeDiff, Nat.reduceEqDiff, ten6]
      by_cases c : ((Int.gcd u m : Nat) : Int) = 1
      · rw [if_pos (decide_eq_true c)]
        exact k1 (decide_eq_true c)
      · rw [if_neg (by simp [c])]
        exact k2 (decide_eq_false c)
    · rw [List.nil_append, sel_us]
      exact h

theorem first_pair_ok {c d m : Int} {Q : PyData → Prop} {E : Nat → Prop} (h1 : 2 ≤ m) (h2 : m ≤ 30) (h : Q (pD (lp m (c, d)))) : f_first_pair [.int c, .int d, .int m] Q E := by
  have m0 : m ≠ 0 := by omega
  rw [f_first_pair, b_first_pair, dFn_e, dRet_e, dCB_e, dCons_e, dLc_e]
  simp only [↓onB_b, ↓onI_i, ↓onStr_s, ↓onSeq_l, ↓onSeq_t, ↓onSeq_s, ↓onS_s, ↓dFn_e, ↓dVar_e, ↓dC_e, ↓dOp_e, ↓dUn_e, ↓dNil_e, ↓dCons_e, ↓dTup_e, ↓dLst_e, ↓dTest_e, ↓dAnd_e, ↓dOr_e, ↓dNot_e, ↓dAndV_e, ↓dOrV_e, ↓dNotV_e, ↓dIf_e, ↓dChain_e, ↓dCall_e, ↓dCB_e, ↓dNext_e, ↓dRet_e, ↓dDrop_e, ↓dAsg_e, ↓dIfS_e, ↓dRaise_e, ↓dgName_e, ↓dgNil_e, ↓dgCons_e, ↓dgTup_e, ↓dPar_e, ↓dPar3_e, ↓dFor_e, ↓dLc_e, lcL_n, lcL_c, ↓dYes_e, ↓dOver_e, ↓dRng1_e, ↓dRng2_e, ↓dPart_e, ↓dNoPart_e, ↓dMs_e, ↓dIsi_e, ↓dToldC_e, oAdd_ii, oAdd_ss, oAdd_ll, oSub_ii, oMul_ii, oMul_si, oDiv_ii, oMod_ii, oPow_ii, oNeg_i, oEq_ii, oNe_ii, oLt_ii, oLe_ii, oGt_ii, oGe_ii, oIs_e, oIsN_e, oIx_l, oIx_t, oIx_s, oLen_t, oLen_l, oAbs_i, oMax_l, oMin_l, oMin_t, oMax_t, oMax2_ii, oMin2_ii, oAll_l, oSum_l, oTuple_l, oSindex_ss, roll_e, ↓if_t, ↓if_f, if_T, if_F, Bool.false_eq_true, oLen_s, oList_t, oList_l, ↓dSl_e, onSl_l, onSl_s, isi_tt, isi_lt, isi_nt, isi_it, isi_bt, isi_st, isi_ii, isi_ib, isi_bi, isi_bb, isi_si, isi_ni, isi_ti, isi_li, isi_ss, isi_is, isi_bs, isi_ns, isi_ts, isi_ls, pl4, atI4_0, atI4_1, atI4_2, atI4_3, asInts, asBools, asStrs, Option.map, look, put, drp, drps, startR, List.length_cons, List.length_nil, List.map_cons, List.map_nil, List.replicate, List.append, List.cons_append, List.nil_append, List.append_nil, plain, true_and, and_true, Bool.not_true, Bool.not_false, Nat.zero_add, Nat.reduceAdd, Nat.reduceSub, Nat.reduceLeDiff, Nat.reduceEqDiff, ten6]
  refine units_of_ok h1 h2 ?_
  rw [onSeq_l]
  refine ⟨?_, lc_sel (fun _ => true) (mulD m (c, d)) (fun x _ => by cases x <;> rfl) _ _ (fun x hx K1 K2 k1 k2 => ?_) ?_⟩
  · rw [List.length_map]
    have : (us m).length ≤ (m - 1).toNat := by
      unfold us
      refine Nat.le_trans (List.length_filter_le _ _) ?_
      rw [List.length_map, List.length_range]
      exact Nat.le_refl _
    omega
  · obtain ⟨u, hu, rfl⟩ := List.mem_map.mp hx
    obtain ⟨u1, u2, _⟩ := mem_us.mp hu
    have um : u.natAbs ≤ 9223372036854775808 := by omega
    simp only [dTup2_q, fmq (show 0 < m by omega), ↓onB_b, ↓onI_i, ↓onStr_s, ↓onSeq_l, ↓onSeq_t, ↓onSeq_s, ↓onS_s, ↓dFn_e, ↓dVar_e, ↓dC_e, ↓dOp_e, ↓dUn_e, ↓dNil_e, ↓dCons_e, ↓dTup_e, ↓dLst_e, ↓dTest_e, ↓dAnd_e, ↓dOr_e, ↓dNot_e, ↓dAndV_e, ↓dOrV_e, ↓dNotV_e, ↓dIf_e, ↓dChain_e, ↓dCall_e, ↓dCB_e, ↓dNext_e, ↓dRet_e, ↓dDrop_e, ↓dAsg_e, ↓dIfS_e, ↓dRaise_e, ↓dgName_e, ↓dgNil_e, ↓dgCons_e, ↓dgTup_e, ↓dPar_e, ↓dPar3_e, ↓dFor_e, ↓dLc_e, lcL_n, lcL_c, ↓dYes_e, ↓dOver_e, ↓dRng1_e, ↓dRng2_e, ↓dPart_e, ↓dNoPart_e, ↓dMs_e, ↓dIsi_e, ↓dToldC_e, oAdd_ii, oAdd_ss, oAdd_ll, oSub_ii, oMul_ii, oMul_si, oDiv_ii, oMod_ii, oPow_ii, oNeg_i, oEq_ii, oNe_ii, oLt_ii, oLe_ii, oGt_ii, oGe_ii, oIs_e, oIsN_e, oIx_l, oIx_t, oIx_s, oLen_t, oLen_l, oAbs_i, oMax_l, oMin_l, oMin_t, oMax_t, oMax2_ii, oMin2_ii, oAll_l, oSum_l, oTuple_l, oSindex_ss, roll_e, ↓if_t, ↓if_f, if_T, if_F, Bool.false_eq_true, oLen_s, oList_t, oList_l, ↓dSl_e, onSl_l, onSl_s, isi_tt, isi_lt, isi_nt, isi_it, isi_bt, isi_st, isi_ii, isi_ib, isi_bi, isi_bb, isi_si, isi_ni, isi_ti, isi_li, isi_ss, isi_is, isi_bs, isi_ns, isi_ts, isi_ls, pl4, atI4_0, atI4_1, atI4_2, atI4_3, asInts, asBools, asStrs, Option.map, look, put, drp, drps, startR, List.length_cons, List.length_nil, List.map_cons, List.map_nil, List.replicate, List.append, List.cons_append, List.nil_append, List.append_nil, plain, true_and, and_true, Bool.not_true, Bool.not_false, Nat.zero_add, Nat.reduceAdd, Nat.reduceSub, Nat.reduceLeDiff, Nat.reduceEqDiff, ten6]
    exact ⟨mok um, m0, mok um, m0, mulm m u (c, d), rfl, k1 rfl⟩
  · rw [List.nil_append, map_mp]
    exact min_mp h1 h

theorem class_of_ok {T : M} {m : Int} {Q : PyData → Prop} {E : Nat → Prop} (t1 : T.det = 1) (t2 : T.le 1000000) (h1 : 2 ≤ m) (h2 : m ≤ 30) (h : Q (pD (lp m (T.c, T.d)))) : f_class_of [T.p, .int m] Q E := by
  simp only [f_class_of, b_class_of, ↓onB_b, ↓onI_i, ↓onStr_s, ↓onSeq_l, ↓onSeq_t, ↓onSeq_s, ↓onS_s, ↓dFn_e, ↓dVar_e, ↓dC_e, ↓dOp_e, ↓dUn_e, ↓dNil_e, ↓dCons_e, ↓dTup_e, ↓dLst_e, ↓dTest_e, ↓dAnd_e, ↓dOr_e, ↓dNot_e, ↓dAndV_e, ↓dOrV_e, ↓dNotV_e, ↓dIf_e, ↓dChain_e, ↓dCall_e, ↓dCB_e, ↓dNext_e, ↓dSeq_e, ↓dRet_e, ↓dDrop_e, ↓dAsg_e, ↓dIfS_e, ↓dRaise_e, ↓dgName_e, ↓dgNil_e, ↓dgCons_e, ↓dgTup_e, ↓dPar_e, ↓dPar3_e, ↓dFor_e, ↓dLc_e, lcL_n, lcL_c, ↓dYes_e, ↓dOver_e, ↓dRng1_e, ↓dRng2_e, ↓dPart_e, ↓dNoPart_e, ↓dMs_e, ↓dIsi_e, ↓dToldC_e, oAdd_ii, oAdd_ss, oAdd_ll, oSub_ii, oMul_ii, oMul_si, oDiv_ii, oMod_ii, oPow_ii, oNeg_i, oEq_ii, oNe_ii, oLt_ii, oLe_ii, oGt_ii, oGe_ii, oIs_e, oIsN_e, oIx_l, oIx_t, oIx_s, oLen_t, oLen_l, oAbs_i, oMax_l, oMin_l, oMin_t, oMax_t, oMax2_ii, oMin2_ii, oAll_l, oSum_l, oTuple_l, oSindex_ss, roll_e, ↓if_t, ↓if_f, if_T, if_F, Bool.false_eq_true, oLen_s, oList_t, oList_l, ↓dSl_e, onSl_l, onSl_s, isi_tt, isi_lt, isi_nt, isi_it, isi_bt, isi_st, isi_ii, isi_ib, isi_bi, isi_bb, isi_si, isi_ni, isi_ti, isi_li, isi_ss, isi_is, isi_bs, isi_ns, isi_ts, isi_ls, pl4, atI4_0, atI4_1, atI4_2, atI4_3, asInts, asBools, asStrs, Option.map, look, put, drp, drps, startR, List.length_cons, List.length_nil, List.map_cons, List.map_nil, List.replicate, List.append, List.cons_append, List.nil_append, List.append_nil, plain, true_and, and_true, Bool.not_true, Bool.not_false, Nat.zero_add, Nat.reduceAdd, Nat.reduceSub, Nat.reduceLeDiff, Nat.reduceEqDiff, ten6]
  exact need_table_ok t1 t2 (need_modulus_ok h1 h2 (first_pair_ok h1 h2 h))
theorem class_of_bad {T : M} {d : PyData} {Q : PyData → Prop} {E : Nat → Prop} (t1 : T.det = 1) (t2 : T.le 1000000) (hd : ∀ (Q : PyData → Prop) (E : Nat → Prop), E 7 → f_need_modulus [d] Q E) (h : E 7) : f_class_of [T.p, d] Q E := by
  simp only [f_class_of, b_class_of, ↓onB_b, ↓onI_i, ↓onStr_s, ↓onSeq_l, ↓onSeq_t, ↓onSeq_s, ↓onS_s, ↓dFn_e, ↓dVar_e, ↓dC_e, ↓dOp_e, ↓dUn_e, ↓dNil_e, ↓dCons_e, ↓dTup_e, ↓dLst_e, ↓dTest_e, ↓dAnd_e, ↓dOr_e, ↓dNot_e, ↓dAndV_e, ↓dOrV_e, ↓dNotV_e, ↓dIf_e, ↓dChain_e, ↓dCall_e, ↓dCB_e, ↓dNext_e, ↓dSeq_e, ↓dRet_e, ↓dDrop_e, ↓dAsg_e, ↓dIfS_e, ↓dRaise_e, ↓dgName_e, ↓dgNil_e, ↓dgCons_e, ↓dgTup_e, ↓dPar_e, ↓dPar3_e, ↓dFor_e, ↓dLc_e, lcL_n, lcL_c, ↓dYes_e, ↓dOver_e, ↓dRng1_e, ↓dRng2_e, ↓dPart_e, ↓dNoPart_e, ↓dMs_e, ↓dIsi_e, ↓dToldC_e, oAdd_ii, oAdd_ss, oAdd_ll, oSub_ii, oMul_ii, oMul_si, oDiv_ii, oMod_ii, oPow_ii, oNeg_i, oEq_ii, oNe_ii, oLt_ii, oLe_ii, oGt_ii, oGe_ii, oIs_e, oIsN_e, oIx_l, oIx_t, oIx_s, oLen_t, oLen_l, oAbs_i, oMax_l, oMin_l, oMin_t, oMax_t, oMax2_ii, oMin2_ii, oAll_l, oSum_l, oTuple_l, oSindex_ss, roll_e, ↓if_t, ↓if_f, if_T, if_F, Bool.false_eq_true, oLen_s, oList_t, oList_l, ↓dSl_e, onSl_l, onSl_s, isi_tt, isi_lt, isi_nt, isi_it, isi_bt, isi_st, isi_ii, isi_ib, isi_bi, isi_bb, isi_si, isi_ni, isi_ti, isi_li, isi_ss, isi_is, isi_bs, isi_ns, isi_ts, isi_ls, pl4, atI4_0, atI4_1, atI4_2, atI4_3, asInts, asBools, asStrs, Option.map, look, put, drp, drps, startR, List.length_cons, List.length_nil, List.map_cons, List.map_nil, List.replicate, List.append, List.cons_append, List.nil_append, List.append_nil, plain, true_and, and_true, Bool.not_true, Bool.not_false, Nat.zero_add, Nat.reduceAdd, Nat.reduceSub, Nat.reduceLeDiff, Nat.reduceEqDiff, ten6]
  exact need_table_ok t1 t2 (hd _ _ h)

theorem all_classes_ok {m : Int} {Q : PyData → Prop} {E : Nat → Prop} (h1 : 2 ≤ m) (h2 : m ≤ 30) (h : Q (.tuple ((cls m).map pD))) : f_all_classes [.int m] Q E := by
  have F := facts_at h1 h2
  rw [f_all_classes, b_all_classes, dFn_e, dSeq_e]
  simp only [↓onB_b, ↓onI_i, ↓onStr_s, ↓onSeq_l, ↓onSeq_t, ↓onSeq_s, ↓onS_s, ↓dFn_e, ↓dVar_e, ↓dC_e, ↓dOp_e, ↓dUn_e, ↓dNil_e, ↓dCons_e, ↓dTup_e, ↓dLst_e, ↓dTest_e, ↓dAnd_e, ↓dOr_e, ↓dNot_e, ↓dAndV_e, ↓dOrV_e, ↓dNotV_e, ↓dIf_e, ↓dChain_e, ↓dCall_e, ↓dCB_e, ↓dNext_e, ↓dRet_e, ↓dDrop_e, ↓dAsg_e, ↓dIfS_e, ↓dRaise_e, ↓dgName_e, ↓dgNil_e, ↓dgCons_e, ↓dgTup_e, ↓dPar_e, ↓dPar3_e, ↓dFor_e, ↓dLc_e, lcL_n, lcL_c, ↓dYes_e, ↓dOver_e, ↓dRng1_e, ↓dRng2_e, ↓dPart_e, ↓dNoPart_e, ↓dMs_e, ↓dIsi_e, ↓dToldC_e, oAdd_ii, oAdd_ss, oAdd_ll, oSub_ii, oMul_ii, oMul_si, oDiv_ii, oMod_ii, oPow_ii, oNeg_i, oEq_ii, oNe_ii, oLt_ii, oLe_ii, oGt_ii, oGe_ii, oIs_e, oIsN_e, oIx_l, oIx_t, oIx_s, oLen_t, oLen_l, oAbs_i, oMax_l, oMin_l, oMin_t, oMax_t, oMax2_ii, oMin2_ii, oAll_l, oSum_l, oTuple_l, oSindex_ss, roll_e, ↓if_t, ↓if_f, if_T, if_F, Bool.false_eq_true, oLen_s, oList_t, oList_l, ↓dSl_e, onSl_l, onSl_s, isi_tt, isi_lt, isi_nt, isi_it, isi_bt, isi_st, isi_ii, isi_ib, isi_bi, isi_bb, isi_si, isi_ni, isi_ti, isi_li, isi_ss, isi_is, isi_bs, isi_ns, isi_ts, isi_ls, pl4, atI4_0, atI4_1, atI4_2, atI4_3, asInts, asBools, asStrs, Option.map, look, put, drp, drps, startR, List.length_cons, List.length_nil, List.map_cons, List.map_nil, List.replicate, List.append, List.cons_append, List.nil_append, List.append_nil, true_and, and_true, Bool.not_true, Bool.not_false, Nat.zero_add, Nat.reduceAdd, Nat.reduceSub, Nat.reduceLeDiff, Nat.reduceEqDiff, ten6, plains_n, plains_c, plain_t, plain_l, plain_i, plain_s, plain_b, plain_no]
  refine need_modulus_ok h1 h2 ?_
  rw [dDct_q]
  refine ⟨rfl, ?_⟩
  obtain ⟨n, rfl⟩ : ∃ n : Nat, m = (n : Int) := ⟨m.toNat, by omega⟩
  have tn : (n : Int).toNat = n := Int.toNat_natCast n
  rw [zSeq_q, zForV_q, dVar_e]
  show onS (some (PyData.int (n : Int))) _
  rw [onS_s, onI_i, tn]
  refine ⟨⟨by omega, by omega⟩, ?_⟩
  refine forZ_i (fun xs s r => ∃ (i : Nat) (ps : List I2) (x y : Option PyData), i ≤ n ∧ xs = rangeD i (n - i) ∧ s = ps.map pD ∧ KInv n n i 0 ps ∧ r = [some (.int n), some dctD, x, y]) ?_ ?_ _ _ _ ⟨0, [], none, none, Nat.zero_le _, rfl, rfl, kinv_0, rfl⟩
  · rintro x xs s r K ⟨i, ps, x0, y0, hi, hxs, rfl, ki, rfl⟩ hk
    obtain ⟨il, rfl, rfl⟩ := rng_split hxs
    rw [dgName_e, zForV_q, dVar_e]
    show onS (some (PyData.int (n : Int))) _
    rw [onS_s, onI_i, tn]
    refine ⟨⟨by omega, by omega⟩, ?_⟩
    refine forZ_i (fun xs s r => ∃ (j : Nat) (ps : List I2) (y : Option PyData), j ≤ n ∧ xs = rangeD j (n - j) ∧ s = ps.map pD ∧ KInv n n i j ps ∧ r = [some (.int n), some dctD, some (.int i), y]) ?_ ?_ _ _ _ ⟨0, ps, y0, Nat.zero_le _, rfl, rfl, ki, rfl⟩
    · rintro x xs s r K2 ⟨j, qs, y1, hj, hxs, rfl, kj, rfl⟩ hk2
      obtain ⟨jl, rfl, rfl⟩ := rng_split hxs
      rw [dgName_e, zIfS_q]
      simp only [↓onB_b, ↓onI_i, ↓onStr_s, ↓onSeq_l, ↓onSeq_t, ↓onSeq_s, ↓onS_s, ↓dFn_e, ↓dVar_e, ↓dC_e, ↓dOp_e, ↓dUn_e, ↓dNil_e, ↓dCons_e, ↓dTup_e, ↓dLst_e, ↓dTest_e, ↓dAnd_e, ↓dOr_e, ↓dNot_e, ↓dAndV_e, ↓dOrV_e, ↓dNotV_e, ↓dIf_e, ↓dChain_e, ↓dCall_e, ↓dCB_e, ↓dNext_e, ↓dRet_e, ↓dDrop_e, ↓dAsg_e, ↓dIfS_e, ↓dRaise_e, ↓dgName_e, ↓dgNil_e, ↓dgCons_e, ↓dgTup_e, ↓dPar_e, ↓dPar3_e, ↓dFor_e, ↓dLc_e, lcL_n, lcL_c, ↓dYes_e, ↓dOver_e, ↓dRng1_e, ↓dRng2_e, ↓dPart_e, ↓dNoPart_e, ↓dMs_e, ↓dIsi_e, ↓dToldC_e, oAdd_ii, oAdd_ss, oAdd_ll, oSub_ii, oMul_ii, oMul_si, oDiv_ii, oMod_ii, oPow_ii, oNeg_i, oEq_ii, oNe_ii, oLt_ii, oLe_ii, oGt_ii, oGe_ii, oIs_e, oIsN_e, oIx_l, oIx_t, oIx_s, oLen_t, oLen_l, oAbs_i, oMax_l, oMin_l, oMin_t, oMax_t, oMax2_ii, oMin2_ii, oAll_l, oSum_l, oTuple_l, oSindex_ss, roll_e, ↓if_t, ↓if_f, if_T, if_F, Bool.false_eq_true, oLen_s, oList_t, oList_l, ↓dSl_e, onSl_l, onSl_s, isi_tt, isi_lt, isi_nt, isi_it, isi_bt, isi_st, isi_ii, isi_ib, isi_bi, isi_bb, isi_si, isi_ni, isi_ti, isi_li, isi_ss, isi_is, isi_bs, isi_ns, isi_ts, isi_ls, pl4, atI4_0, atI4_1, atI4_2, atI4_3, asInts, asBools, asStrs, Option.map, look, put, drp, drps, startR, List.length_cons, List.length_nil, List.map_cons, List.map_nil, List.replicate, List.append, List.cons_append, List.nil_append, List.append_nil, true_and, and_true, Bool.not_true, Bool.not_false, Nat.zero_add, Nat.reduceAdd, Nat.reduceSub, Nat.reduceLeDiff, Nat.reduceEqDiff, ten6, plains_n, plains_c, plain_t, plain_l, plain_i, plain_s, plain_b, plain_no]
      refine divisor_ok (divisor_ok ?_)
      simp only [↓onB_b, ↓onI_i, ↓onStr_s, ↓onSeq_l, ↓onSeq_t, ↓onSeq_s, ↓onS_s, ↓dFn_e, ↓dVar_e, ↓dC_e, ↓dOp_e, ↓dUn_e, ↓dNil_e, ↓dCons_e, ↓dTup_e, ↓dLst_e, ↓dTest_e, ↓dAnd_e, ↓dOr_e, ↓dNot_e, ↓dAndV_e, ↓dOrV_e, ↓dNotV_e, ↓dIf_e, ↓dChain_e, ↓dCall_e, ↓dCB_e, ↓dNext_e, ↓dRet_e, ↓dDrop_e, ↓dAsg_e, ↓dIfS_e, ↓dRaise_e, ↓dgName_e, ↓dgNil_e, ↓dgCons_e, ↓dgTup_e, ↓dPar_e, ↓dPar3_e, ↓dFor_e, ↓dLc_e, lcL_n, lcL_c, ↓dYes_e, ↓dOver_e, ↓dRng1_e, ↓dRng2_e, ↓dPart_e, ↓dNoPart_e, ↓dMs_e, ↓dIsi_e, ↓dToldC_e, oAdd_ii, oAdd_ss, oAdd_ll, oSub_ii, oMul_ii, oMul_si, oDiv_ii, oMod_ii, oPow_ii, oNeg_i, oEq_ii, oNe_ii, oLt_ii, oLe_ii, oGt_ii, oGe_ii, oIs_e, oIsN_e, oIx_l, oIx_t, oIx_s, oLen_t, oLen_l, oAbs_i, oMax_l, oMin_l, oMin_t, oMax_t, oMax2_ii, oMin2_ii, oAll_l, oSum_l, oTuple_l, oSindex_ss, roll_e, ↓if_t, ↓if_f, if_T, if_F, Bool.false_eq_true, oLen_s, oList_t, oList_l, ↓dSl_e, onSl_l, onSl_s, isi_tt, isi_lt, isi_nt, isi_it, isi_bt, isi_st, isi_ii, isi_ib, isi_bi, isi_bb, isi_si, isi_ni, isi_ti, isi_li, isi_ss, isi_is, isi_bs, isi_ns, isi_ts, isi_ls, pl4, atI4_0, atI4_1, atI4_2, atI4_3, asInts, asBools, asStrs, Option.map, look, put, drp, drps, startR, List.length_cons, List.length_nil, List.map_cons, List.map_nil, List.replicate, List.append, List.cons_append, List.nil_append, List.append_nil, true_and, and_true, Bool.not_true, Bool.not_false, Nat.zero_add, Nat.reduceAdd, Nat.reduceSub, Nat.reduceLeDiff, Nat.reduceEqDiff, ten6, plains_n, plains_c, plain_t, plain_l, plain_i, plain_s, plain_b, plain_no]
      show (if ok1 n ((i : Int), (j : Int)) = true then _ else _)
      by_cases c : ok1 n ((i : Int), (j : Int)) = true
      · rw [if_pos c, zDput_q]
        refine ⟨rfl, ?_, ?_⟩
        · rw [List.length_map]
          have := kj.2.1
          have : i * n ≤ 30 * 30 := Nat.mul_le_mul (by omega) (by omega)
          omega
        · simp only [↓onB_b, ↓onI_i, ↓onStr_s, ↓onSeq_l, ↓onSeq_t, ↓onSeq_s, ↓onS_s, ↓dFn_e, ↓dVar_e, ↓dC_e, ↓dOp_e, ↓dUn_e, ↓dNil_e, ↓dCons_e, ↓dTup_e, ↓dLst_e, ↓dTest_e, ↓dAnd_e, ↓dOr_e, ↓dNot_e, ↓dAndV_e, ↓dOrV_e, ↓dNotV_e, ↓dIf_e, ↓dChain_e, ↓dCall_e, ↓dCB_e, ↓dNext_e, ↓dRet_e, ↓dDrop_e, ↓dAsg_e, ↓dIfS_e, ↓dRaise_e, ↓dgName_e, ↓dgNil_e, ↓dgCons_e, ↓dgTup_e, ↓dPar_e, ↓dPar3_e, ↓dFor_e, ↓dLc_e, lcL_n, lcL_c, ↓dYes_e, ↓dOver_e, ↓dRng1_e, ↓dRng2_e, ↓dPart_e, ↓dNoPart_e, ↓dMs_e, ↓dIsi_e, ↓dToldC_e, oAdd_ii, oAdd_ss, oAdd_ll, oSub_ii, oMul_ii, oMul_si, oDiv_ii, oMod_ii, oPow_ii, oNeg_i, oEq_ii, oNe_ii, oLt_ii, oLe_ii, oGt_ii, oGe_ii, oIs_e, oIsN_e, oIx_l, oIx_t, oIx_s, oLen_t, oLen_l, oAbs_i, oMax_l, oMin_l, oMin_t, oMax_t, oMax2_ii, oMin2_ii, oAll_l, oSum_l, oTuple_l, oSindex_ss, roll_e, ↓if_t, ↓if_f, if_T, if_F, Bool.false_eq_true, oLen_s, oList_t, oList_l, ↓dSl_e, onSl_l, onSl_s, isi_tt, isi_lt, isi_nt, isi_it, isi_bt, isi_st, isi_ii, isi_ib, isi_bi, isi_bb, isi_si, isi_ni, isi_ti, isi_li, isi_ss, isi_is, isi_bs, isi_ns, isi_ts, isi_ls, pl4, atI4_0, atI4_1, atI4_2, atI4_3, asInts, asBools, asStrs, Option.map, look, put, drp, drps, startR, List.length_cons, List.length_nil, List.map_cons, List.map_nil, List.replicate, List.append, List.cons_append, List.nil_append, List.append_nil, true_and, and_true, Bool.not_true, Bool.not_false, Nat.zero_add, Nat.reduceAdd, Nat.reduceSub, Nat.reduceLeDiff, Nat.reduceEqDiff, ten6, plains_n, plains_c, plain_t, plain_l, plain_i, plain_s, plain_b, plain_no]
          refine first_pair_ok h1 h2 ⟨_, rfl, ?_⟩
          rw [psOf_map]
          exact hk2 _ _ ⟨j + 1, _, _, jl, rfl, rfl, kinv_put kj il jl c, rfl⟩
      · rw [if_neg c, zNext_q]
        exact hk2 _ _ ⟨j + 1, _, _, jl, rfl, rfl, kinv_skip kj (Bool.eq_false_iff.mpr c), rfl⟩
    · rintro s r ⟨j, qs, y1, hj, hxs, rfl, kj, rfl⟩
      have := rng_end hxs
      have e : j = n := by omega
      subst e
      exact hk _ _ ⟨i + 1, qs, _, _, il, rfl, rfl, kinv_row kj, rfl⟩
  · rintro s r ⟨i, ps, x, y, hi, hxs, rfl, ki, rfl⟩
    have := rng_end hxs
    have e : i = n := by omega
    subst e
    rw [zEnd_q, psOf_map]
    refine ⟨rfl, fun qs pm so => ⟨rfl, ?_⟩⟩
    rw [F.only (pm.trans (kinv_perm h1 rfl F ki)) so]
    exact h
theorem all_classes_bad {d : PyData} {Q : PyData → Prop} {E : Nat → Prop} (hd : ∀ (Q : PyData → Prop) (E : Nat → Prop), E 7 → f_need_modulus [d] Q E) (h : E 7) : f_all_classes [d] Q E := by
  rw [f_all_classes, b_all_classes, dFn_e, dSeq_e]
  simp only [↓onB_b, ↓onI_i, ↓onStr_s, ↓onSeq_l, ↓onSeq_t, ↓onSeq_s, ↓onS_s, ↓dFn_e, ↓dVar_e, ↓dC_e, ↓dOp_e, ↓dUn_e, ↓dNil_e, ↓dCons_e, ↓dTup_e, ↓dLst_e, ↓dTest_e, ↓dAnd_e, ↓dOr_e, ↓dNot_e, ↓dAndV_e, ↓dOrV_e, ↓dNotV_e, ↓dIf_e, ↓dChain_e, ↓dCall_e, ↓dCB_e, ↓dNext_e, ↓dRet_e, ↓dDrop_e, ↓dAsg_e, ↓dIfS_e, ↓dRaise_e, ↓dgName_e, ↓dgNil_e, ↓dgCons_e, ↓dgTup_e, ↓dPar_e, ↓dPar3_e, ↓dFor_e, ↓dLc_e, lcL_n, lcL_c, ↓dYes_e, ↓dOver_e, ↓dRng1_e, ↓dRng2_e, ↓dPart_e, ↓dNoPart_e, ↓dMs_e, ↓dIsi_e, ↓dToldC_e, oAdd_ii, oAdd_ss, oAdd_ll, oSub_ii, oMul_ii, oMul_si, oDiv_ii, oMod_ii, oPow_ii, oNeg_i, oEq_ii, oNe_ii, oLt_ii, oLe_ii, oGt_ii, oGe_ii, oIs_e, oIsN_e, oIx_l, oIx_t, oIx_s, oLen_t, oLen_l, oAbs_i, oMax_l, oMin_l, oMin_t, oMax_t, oMax2_ii, oMin2_ii, oAll_l, oSum_l, oTuple_l, oSindex_ss, roll_e, ↓if_t, ↓if_f, if_T, if_F, Bool.false_eq_true, oLen_s, oList_t, oList_l, ↓dSl_e, onSl_l, onSl_s, isi_tt, isi_lt, isi_nt, isi_it, isi_bt, isi_st, isi_ii, isi_ib, isi_bi, isi_bb, isi_si, isi_ni, isi_ti, isi_li, isi_ss, isi_is, isi_bs, isi_ns, isi_ts, isi_ls, pl4, atI4_0, atI4_1, atI4_2, atI4_3, asInts, asBools, asStrs, Option.map, look, put, drp, drps, startR, List.length_cons, List.length_nil, List.map_cons, List.map_nil, List.replicate, List.append, List.cons_append, List.nil_append, List.append_nil, true_and, and_true, Bool.not_true, Bool.not_false, Nat.zero_add, Nat.reduceAdd, Nat.reduceSub, Nat.reduceLeDiff, Nat.reduceEqDiff, ten6, plains_n, plains_c, plain_t, plain_l, plain_i, plain_s, plain_b, plain_no]
  exact hd _ _ h

theorem law_times_ok {m n : M} {Q : PyData → Prop} {E : Nat → Prop} (hm : m.le 9223372036854775808) (h : Q (m.mul n).p) : f_law_times [m.p, n.p] Q E := by
  simp only [f_law_times, b_law_times, ↓onB_b, ↓onI_i, ↓onStr_s, ↓onSeq_l, ↓onSeq_t, ↓onSeq_s, ↓onS_s, ↓dFn_e, ↓dVar_e, ↓dC_e, ↓dOp_e, ↓dUn_e, ↓dNil_e, ↓dCons_e, ↓dTup_e, ↓dLst_e, ↓dTest_e, ↓dAnd_e, ↓dOr_e, ↓dNot_e, ↓dAndV_e, ↓dOrV_e, ↓dNotV_e, ↓dIf_e, ↓dChain_e, ↓dCall_e, ↓dCB_e, ↓dNext_e, ↓dSeq_e, ↓dRet_e, ↓dDrop_e, ↓dAsg_e, ↓dIfS_e, ↓dRaise_e, ↓dgName_e, ↓dgNil_e, ↓dgCons_e, ↓dgTup_e, ↓dPar_e, ↓dPar3_e, ↓dFor_e, ↓dLc_e, lcL_n, lcL_c, ↓dYes_e, ↓dOver_e, ↓dRng1_e, ↓dRng2_e, ↓dPart_e, ↓dNoPart_e, ↓dMs_e, ↓dIsi_e, ↓dToldC_e, oAdd_ii, oAdd_ss, oAdd_ll, oSub_ii, oMul_ii, oMul_si, oDiv_ii, oMod_ii, oPow_ii, oNeg_i, oEq_ii, oNe_ii, oLt_ii, oLe_ii, oGt_ii, oGe_ii, oIs_e, oIsN_e, oIx_l, oIx_t, oIx_s, oLen_t, oLen_l, oAbs_i, oMax_l, oMin_l, oMin_t, oMax_t, oMax2_ii, oMin2_ii, oAll_l, oSum_l, oTuple_l, oSindex_ss, roll_e, ↓if_t, ↓if_f, if_T, if_F, Bool.false_eq_true, oLen_s, oList_t, oList_l, ↓dSl_e, onSl_l, onSl_s, isi_tt, isi_lt, isi_nt, isi_it, isi_bt, isi_st, isi_ii, isi_ib, isi_bi, isi_bb, isi_si, isi_ni, isi_ti, isi_li, isi_ss, isi_is, isi_bs, isi_ns, isi_ts, isi_ls, pl4, atI4_0, atI4_1, atI4_2, atI4_3, asInts, asBools, asStrs, Option.map, look, put, drp, drps, startR, List.length_cons, List.length_nil, List.map_cons, List.map_nil, List.replicate, List.append, List.cons_append, List.nil_append, List.append_nil, plain, true_and, and_true, Bool.not_true, Bool.not_false, Nat.zero_add, Nat.reduceAdd, Nat.reduceSub, Nat.reduceLeDiff, Nat.reduceEqDiff, ten6]
  exact ⟨rfl, mok hm.1, mok hm.2.1, mok hm.1, mok hm.2.1, mok hm.2.2.1, mok hm.2.2.2, mok hm.2.2.1, mok hm.2.2.2, h⟩
theorem law_times_r {m n : M} {Q : PyData → Prop} {E : Nat → Prop} (hn : n.le 9223372036854775808) (h : Q (m.mul n).p) : f_law_times [m.p, n.p] Q E := by
  simp only [f_law_times, b_law_times, ↓onB_b, ↓onI_i, ↓onStr_s, ↓onSeq_l, ↓onSeq_t, ↓onSeq_s, ↓onS_s, ↓dFn_e, ↓dVar_e, ↓dC_e, ↓dOp_e, ↓dUn_e, ↓dNil_e, ↓dCons_e, ↓dTup_e, ↓dLst_e, ↓dTest_e, ↓dAnd_e, ↓dOr_e, ↓dNot_e, ↓dAndV_e, ↓dOrV_e, ↓dNotV_e, ↓dIf_e, ↓dChain_e, ↓dCall_e, ↓dCB_e, ↓dNext_e, ↓dSeq_e, ↓dRet_e, ↓dDrop_e, ↓dAsg_e, ↓dIfS_e, ↓dRaise_e, ↓dgName_e, ↓dgNil_e, ↓dgCons_e, ↓dgTup_e, ↓dPar_e, ↓dPar3_e, ↓dFor_e, ↓dLc_e, lcL_n, lcL_c, ↓dYes_e, ↓dOver_e, ↓dRng1_e, ↓dRng2_e, ↓dPart_e, ↓dNoPart_e, ↓dMs_e, ↓dIsi_e, ↓dToldC_e, oAdd_ii, oAdd_ss, oAdd_ll, oSub_ii, oMul_ii, oMul_si, oDiv_ii, oMod_ii, oPow_ii, oNeg_i, oEq_ii, oNe_ii, oLt_ii, oLe_ii, oGt_ii, oGe_ii, oIs_e, oIsN_e, oIx_l, oIx_t, oIx_s, oLen_t, oLen_l, oAbs_i, oMax_l, oMin_l, oMin_t, oMax_t, oMax2_ii, oMin2_ii, oAll_l, oSum_l, oTuple_l, oSindex_ss, roll_e, ↓if_t, ↓if_f, if_T, if_F, Bool.false_eq_true, oLen_s, oList_t, oList_l, ↓dSl_e, onSl_l, onSl_s, isi_tt, isi_lt, isi_nt, isi_it, isi_bt, isi_st, isi_ii, isi_ib, isi_bi, isi_bb, isi_si, isi_ni, isi_ti, isi_li, isi_ss, isi_is, isi_bs, isi_ns, isi_ts, isi_ls, pl4, atI4_0, atI4_1, atI4_2, atI4_3, asInts, asBools, asStrs, Option.map, look, put, drp, drps, startR, List.length_cons, List.length_nil, List.map_cons, List.map_nil, List.replicate, List.append, List.cons_append, List.nil_append, List.append_nil, plain, true_and, and_true, Bool.not_true, Bool.not_false, Nat.zero_add, Nat.reduceAdd, Nat.reduceSub, Nat.reduceLeDiff, Nat.reduceEqDiff, ten6]
  exact ⟨rfl, mokr hn.1, mokr hn.2.2.1, mokr hn.2.1, mokr hn.2.2.2, mokr hn.1, mokr hn.2.2.1, mokr hn.2.1, mokr hn.2.2.2, h⟩
theorem law_times_b {m n : M} {Q : PyData → Prop} {E : Nat → Prop} (hm : m.le (2 ^ 9000)) (hn : n.le (2 ^ 9000)) (h : Q (m.mul n).p) : f_law_times [m.p, n.p] Q E := by
  simp only [f_law_times, b_law_times, ↓onB_b, ↓onI_i, ↓onStr_s, ↓onSeq_l, ↓onSeq_t, ↓onSeq_s, ↓onS_s, ↓dFn_e, ↓dVar_e, ↓dC_e, ↓dOp_e, ↓dUn_e, ↓dNil_e, ↓dCons_e, ↓dTup_e, ↓dLst_e, ↓dTest_e, ↓dAnd_e, ↓dOr_e, ↓dNot_e, ↓dAndV_e, ↓dOrV_e, ↓dNotV_e, ↓dIf_e, ↓dChain_e, ↓dCall_e, ↓dCB_e, ↓dNext_e, ↓dSeq_e, ↓dRet_e, ↓dDrop_e, ↓dAsg_e, ↓dIfS_e, ↓dRaise_e, ↓dgName_e, ↓dgNil_e, ↓dgCons_e, ↓dgTup_e, ↓dPar_e, ↓dPar3_e, ↓dFor_e, ↓dLc_e, lcL_n, lcL_c, ↓dYes_e, ↓dOver_e, ↓dRng1_e, ↓dRng2_e, ↓dPart_e, ↓dNoPart_e, ↓dMs_e, ↓dIsi_e, ↓dToldC_e, oAdd_ii, oAdd_ss, oAdd_ll, oSub_ii, oMul_ii, oMul_si, oDiv_ii, oMod_ii, oPow_ii, oNeg_i, oEq_ii, oNe_ii, oLt_ii, oLe_ii, oGt_ii, oGe_ii, oIs_e, oIsN_e, oIx_l, oIx_t, oIx_s, oLen_t, oLen_l, oAbs_i, oMax_l, oMin_l, oMin_t, oMax_t, oMax2_ii, oMin2_ii, oAll_l, oSum_l, oTuple_l, oSindex_ss, roll_e, ↓if_t, ↓if_f, if_T, if_F, Bool.false_eq_true, oLen_s, oList_t, oList_l, ↓dSl_e, onSl_l, onSl_s, isi_tt, isi_lt, isi_nt, isi_it, isi_bt, isi_st, isi_ii, isi_ib, isi_bi, isi_bb, isi_si, isi_ni, isi_ti, isi_li, isi_ss, isi_is, isi_bs, isi_ns, isi_ts, isi_ls, pl4, atI4_0, atI4_1, atI4_2, atI4_3, asInts, asBools, asStrs, Option.map, look, put, drp, drps, startR, List.length_cons, List.length_nil, List.map_cons, List.map_nil, List.replicate, List.append, List.cons_append, List.nil_append, List.append_nil, plain, true_and, and_true, Bool.not_true, Bool.not_false, Nat.zero_add, Nat.reduceAdd, Nat.reduceSub, Nat.reduceLeDiff, Nat.reduceEqDiff, ten6]
  exact ⟨rfl, mokb hm.1 hn.1, mokb hm.2.1 hn.2.2.1, mokb hm.1 hn.2.1, mokb hm.2.1 hn.2.2.2, mokb hm.2.2.1 hn.1, mokb hm.2.2.2 hn.2.2.1, mokb hm.2.2.1 hn.2.1, mokb hm.2.2.2 hn.2.2.2, h⟩

theorem law_inverse_ok {m : M} {Q : PyData → Prop} {E : Nat → Prop} (h : Q m.inv.p) : f_law_inverse [m.p] Q E := by
  simp only [f_law_inverse, b_law_inverse, ↓onB_b, ↓onI_i, ↓onStr_s, ↓onSeq_l, ↓onSeq_t, ↓onSeq_s, ↓onS_s, ↓dFn_e, ↓dVar_e, ↓dC_e, ↓dOp_e, ↓dUn_e, ↓dNil_e, ↓dCons_e, ↓dTup_e, ↓dLst_e, ↓dTest_e, ↓dAnd_e, ↓dOr_e, ↓dNot_e, ↓dAndV_e, ↓dOrV_e, ↓dNotV_e, ↓dIf_e, ↓dChain_e, ↓dCall_e, ↓dCB_e, ↓dNext_e, ↓dSeq_e, ↓dRet_e, ↓dDrop_e, ↓dAsg_e, ↓dIfS_e, ↓dRaise_e, ↓dgName_e, ↓dgNil_e, ↓dgCons_e, ↓dgTup_e, ↓dPar_e, ↓dPar3_e, ↓dFor_e, ↓dLc_e, lcL_n, lcL_c, ↓dYes_e, ↓dOver_e, ↓dRng1_e, ↓dRng2_e, ↓dPart_e, ↓dNoPart_e, ↓dMs_e, ↓dIsi_e, ↓dToldC_e, oAdd_ii, oAdd_ss, oAdd_ll, oSub_ii, oMul_ii, oMul_si, oDiv_ii, oMod_ii, oPow_ii, oNeg_i, oEq_ii, oNe_ii, oLt_ii, oLe_ii, oGt_ii, oGe_ii, oIs_e, oIsN_e, oIx_l, oIx_t, oIx_s, oLen_t, oLen_l, oAbs_i, oMax_l, oMin_l, oMin_t, oMax_t, oMax2_ii, oMin2_ii, oAll_l, oSum_l, oTuple_l, oSindex_ss, roll_e, ↓if_t, ↓if_f, if_T, if_F, Bool.false_eq_true, oLen_s, oList_t, oList_l, ↓dSl_e, onSl_l, onSl_s, isi_tt, isi_lt, isi_nt, isi_it, isi_bt, isi_st, isi_ii, isi_ib, isi_bi, isi_bb, isi_si, isi_ni, isi_ti, isi_li, isi_ss, isi_is, isi_bs, isi_ns, isi_ts, isi_ls, pl4, atI4_0, atI4_1, atI4_2, atI4_3, asInts, asBools, asStrs, Option.map, look, put, drp, drps, startR, List.length_cons, List.length_nil, List.map_cons, List.map_nil, List.replicate, List.append, List.cons_append, List.nil_append, List.append_nil, plain, true_and, and_true, Bool.not_true, Bool.not_false, Nat.zero_add, Nat.reduceAdd, Nat.reduceSub, Nat.reduceLeDiff, Nat.reduceEqDiff, ten6]
  exact h

theorem law_negative_ok {m : M} {Q : PyData → Prop} {E : Nat → Prop} (h : Q m.neg.p) : f_law_negative [m.p] Q E := by
  simp only [f_law_negative, b_law_negative, ↓onB_b, ↓onI_i, ↓onStr_s, ↓onSeq_l, ↓onSeq_t, ↓onSeq_s, ↓onS_s, ↓dFn_e, ↓dVar_e, ↓dC_e, ↓dOp_e, ↓dUn_e, ↓dNil_e, ↓dCons_e, ↓dTup_e, ↓dLst_e, ↓dTest_e, ↓dAnd_e, ↓dOr_e, ↓dNot_e, ↓dAndV_e, ↓dOrV_e, ↓dNotV_e, ↓dIf_e, ↓dChain_e, ↓dCall_e, ↓dCB_e, ↓dNext_e, ↓dSeq_e, ↓dRet_e, ↓dDrop_e, ↓dAsg_e, ↓dIfS_e, ↓dRaise_e, ↓dgName_e, ↓dgNil_e, ↓dgCons_e, ↓dgTup_e, ↓dPar_e, ↓dPar3_e, ↓dFor_e, ↓dLc_e, lcL_n, lcL_c, ↓dYes_e, ↓dOver_e, ↓dRng1_e, ↓dRng2_e, ↓dPart_e, ↓dNoPart_e, ↓dMs_e, ↓dIsi_e, ↓dToldC_e, oAdd_ii, oAdd_ss, oAdd_ll, oSub_ii, oMul_ii, oMul_si, oDiv_ii, oMod_ii, oPow_ii, oNeg_i, oEq_ii, oNe_ii, oLt_ii, oLe_ii, oGt_ii, oGe_ii, oIs_e, oIsN_e, oIx_l, oIx_t, oIx_s, oLen_t, oLen_l, oAbs_i, oMax_l, oMin_l, oMin_t, oMax_t, oMax2_ii, oMin2_ii, oAll_l, oSum_l, oTuple_l, oSindex_ss, roll_e, ↓if_t, ↓if_f, if_T, if_F, Bool.false_eq_true, oLen_s, oList_t, oList_l, ↓dSl_e, onSl_l, onSl_s, isi_tt, isi_lt, isi_nt, isi_it, isi_bt, isi_st, isi_ii, isi_ib, isi_bi, isi_bb, isi_si, isi_ni, isi_ti, isi_li, isi_ss, isi_is, isi_bs, isi_ns, isi_ts, isi_ls, pl4, atI4_0, atI4_1, atI4_2, atI4_3, asInts, asBools, asStrs, Option.map, look, put, drp, drps, startR, List.length_cons, List.length_nil, List.map_cons, List.map_nil, List.replicate, List.append, List.cons_append, List.nil_append, List.append_nil, plain, true_and, and_true, Bool.not_true, Bool.not_false, Nat.zero_add, Nat.reduceAdd, Nat.reduceSub, Nat.reduceLeDiff, Nat.reduceEqDiff, ten6]
  exact h

theorem occ6 : ∀ c, six c → ∃ k : Nat, (Builtin.Str.occurrences (Str.ofString "stTwvl") ⟨#[c]⟩ 0 (Str.ofString "stTwvl").length 1).head? = some k ∧ atI [PyData.tuple [.int 0, .int (-1), .int 1, .int 0], .tuple [.int 1, .int 1, .int 0, .int 1], .tuple [.int 1, .int (-1), .int 0, .int 1], .tuple [.int 0, .int (-1), .int 1, .int 1], .tuple [.int (-1), .int (-1), .int 1, .int 0], .tuple [.int 1, .int 0, .int 1, .int 1]] (k : Int) = some (L c).p := by
  rintro c (rfl | rfl | rfl | rfl | rfl | rfl)
  · exact ⟨0, by decide +kernel, rfl⟩
  · exact ⟨1, by decide +kernel, rfl⟩
  · exact ⟨2, by decide +kernel, rfl⟩
  · exact ⟨3, by decide +kernel, rfl⟩
  · exact ⟨4, by decide +kernel, rfl⟩
  · exact ⟨5, by decide +kernel, rfl⟩
theorem law_letter_ok {c : Nat} {Q : PyData → Prop} {E : Nat → Prop} (hc : six c) (h : Q (L c).p) : f_law_letter [ch c] Q E := by
  obtain ⟨k, h1, h2⟩ := occ6 c hc
  simp only [f_law_letter, b_law_letter, h1, h2, ↓onB_b, ↓onI_i, ↓onStr_s, ↓onSeq_l, ↓onSeq_t, ↓onSeq_s, ↓onS_s, ↓dFn_e, ↓dVar_e, ↓dC_e, ↓dOp_e, ↓dUn_e, ↓dNil_e, ↓dCons_e, ↓dTup_e, ↓dLst_e, ↓dTest_e, ↓dAnd_e, ↓dOr_e, ↓dNot_e, ↓dAndV_e, ↓dOrV_e, ↓dNotV_e, ↓dIf_e, ↓dChain_e, ↓dCall_e, ↓dCB_e, ↓dNext_e, ↓dSeq_e, ↓dRet_e, ↓dDrop_e, ↓dAsg_e, ↓dIfS_e, ↓dRaise_e, ↓dgName_e, ↓dgNil_e, ↓dgCons_e, ↓dgTup_e, ↓dPar_e, ↓dPar3_e, ↓dFor_e, ↓dLc_e, lcL_n, lcL_c, ↓dYes_e, ↓dOver_e, ↓dRng1_e, ↓dRng2_e, ↓dPart_e, ↓dNoPart_e, ↓dMs_e, ↓dIsi_e, ↓dToldC_e, oAdd_ii, oAdd_ss, oAdd_ll, oSub_ii, oMul_ii, oMul_si, oDiv_ii, oMod_ii, oPow_ii, oNeg_i, oEq_ii, oNe_ii, oLt_ii, oLe_ii, oGt_ii, oGe_ii, oIs_e, oIsN_e, oIx_l, oIx_t, oIx_s, oLen_t, oLen_l, oAbs_i, oMax_l, oMin_l, oMin_t, oMax_t, oMax2_ii, oMin2_ii, oAll_l, oSum_l, oTuple_l, oSindex_ss, roll_e, ↓if_t, ↓if_f, if_T, if_F, Bool.false_eq_true, oLen_s, oList_t, oList_l, ↓dSl_e, onSl_l, onSl_s, isi_tt, isi_lt, isi_nt, isi_it, isi_bt, isi_st, isi_ii, isi_ib, isi_bi, isi_bb, isi_si, isi_ni, isi_ti, isi_li, isi_ss, isi_is, isi_bs, isi_ns, isi_ts, isi_ls, pl4, atI4_0, atI4_1, atI4_2, atI4_3, asInts, asBools, asStrs, Option.map, look, put, drp, drps, startR, List.length_cons, List.length_nil, List.map_cons, List.map_nil, List.replicate, List.append, List.cons_append, List.nil_append, List.append_nil, plain, true_and, and_true, Bool.not_true, Bool.not_false, Nat.zero_add, Nat.reduceAdd, Nat.reduceSub, Nat.reduceLeDiff, Nat.reduceEqDiff, ten6]
  exact ⟨rfl, h⟩

theorem law_product_loop {Q : PyData → Prop} {E : Nat → Prop} {s : PyData} : ∀ (w : List Nat) (m : M) (x : Option PyData), (∀ c ∈ w, six c) → Q (wm m w).p →
    forL (dgName 2) (dAsg (dCall 2 f_law_times (dCons (dVar 1) (dCons (dCall 1 f_law_letter (dCons (dVar 2) dNil)) dNil))) (dgName 1)) (fun r' => dRet (dVar 1) r' (fun _ => Q .none) Q E) Q E (w.map ch) [some s, some m.p, x]
  | [], m, x, _, h => by
    rw [List.map_nil, forL_n, dRet_e, dVar_e]
    exact h
  | c :: w, m, x, hw, h => by
    rw [List.map_cons, forL_c]
    simp only [↓onB_b, ↓onI_i, ↓onStr_s, ↓onSeq_l, ↓onSeq_t, ↓onSeq_s, ↓onS_s, ↓dFn_e, ↓dVar_e, ↓dC_e, ↓dOp_e, ↓dUn_e, ↓dNil_e, ↓dCons_e, ↓dTup_e, ↓dLst_e, ↓dTest_e, ↓dAnd_e, ↓dOr_e, ↓dNot_e, ↓dAndV_e, ↓dOrV_e, ↓dNotV_e, ↓dIf_e, ↓dChain_e, ↓dCall_e, ↓dCB_e, ↓dNext_e, ↓dSeq_e, ↓dRet_e, ↓dDrop_e, ↓dAsg_e, ↓dIfS_e, ↓dRaise_e, ↓dgName_e, ↓dgNil_e, ↓dgCons_e, ↓dgTup_e, ↓dPar_e, ↓dPar3_e, ↓dFor_e, ↓dLc_e, lcL_n, lcL_c, ↓dYes_e, ↓dOver_e, ↓dRng1_e, ↓dRng2_e, ↓dPart_e, ↓dNoPart_e, ↓dMs_e, ↓dIsi_e, ↓dToldC_e, oAdd_ii, oAdd_ss, oAdd_ll, oSub_ii, oMul_ii, oMul_si, oDiv_ii, oMod_ii, oPow_ii, oNeg_i, oEq_ii, oNe_ii, oLt_ii, oLe_ii, oGt_ii, oGe_ii, oIs_e, oIsN_e, oIx_l, oIx_t, oIx_s, oLen_t, oLen_l, oAbs_i, oMax_l, oMin_l, oMin_t, oMax_t, oMax2_ii, oMin2_ii, oAll_l, oSum_l, oTuple_l, oSindex_ss, roll_e, ↓if_t, ↓if_f, if_T, if_F, Bool.false_eq_true, oLen_s, oList_t, oList_l, ↓dSl_e, onSl_l, onSl_s, isi_tt, isi_lt, isi_nt, isi_it, isi_bt, isi_st, isi_ii, isi_ib, isi_bi, isi_bb, isi_si, isi_ni, isi_ti, isi_li, isi_ss, isi_is, isi_bs, isi_ns, isi_ts, isi_ls, pl4, atI4_0, atI4_1, atI4_2, atI4_3, asInts, asBools, asStrs, Option.map, look, put, drp, drps, startR, List.length_cons, List.length_nil, List.map_cons, List.map_nil, List.replicate, List.append, List.cons_append, List.nil_append, List.append_nil, plain, true_and, and_true, Bool.not_true, Bool.not_false, Nat.zero_add, Nat.reduceAdd, Nat.reduceSub, Nat.reduceLeDiff, Nat.reduceEqDiff, ten6]
    refine law_letter_ok (hw c List.mem_cons_self) (law_times_r ((L_le c).mono (by decide)) ?_)
    exact law_product_loop w (m.mul (L c)) (some (ch c)) (fun d hd => hw d (List.mem_cons_of_mem _ hd)) h
theorem law_product_ok {w : List Nat} {Q : PyData → Prop} {E : Nat → Prop} (hw : ∀ c ∈ w, six c) (h : Q (wm .one w).p) : f_law_product [W w] Q E := by
  have := law_product_loop (Q := Q) (E := E) (s := W w) w .one none hw h
  rw [f_law_product, b_law_product, dFn_e, dSeq_e, dAsg_e]
  simp only [dTup_e, dCons_e, dC_e, dNil_e, pl4, List.length_cons, List.length_nil, true_and]
  refine ⟨by decide, ?_⟩
  rw [dgName_e, dSeq_e, dFor_e, dOver_e, dVar_e]
  exact this

theorem stT_at : ∀ k : Int, 0 ≤ k → k < 3 → ∃ c, atI (Str.ofString "stT").cps.toList k = some c ∧ three c := by
  intro k k0 k1
  obtain ⟨n, rfl⟩ := Int.eq_ofNat_of_zero_le k0
  match n, k1 with
  | 0, _ => exact ⟨115, by decide +kernel, .inl rfl⟩
  | 1, _ => exact ⟨116, by decide +kernel, .inr (.inl rfl)⟩
  | 2, _ => exact ⟨84, by decide +kernel, .inr (.inr rfl)⟩
  | n + 3, h => omega
theorem law_any_word_ok {n : Int} {Q : PyData → Prop} {E : Nat → Prop} (n0 : 0 ≤ n) (n1 : n ≤ 1000) (h : ∀ w : List Nat, (w.length : Int) ≤ n → (∀ c ∈ w, three c) → Q (W w)) : f_law_any_word [dice, .int n] Q E := by
  rw [f_law_any_word, b_law_any_word, dFn_e, dRet_e, dMs_e, dC_e, onStr_s, dLc_e, dRng1_e]
  simp only [dCall_e, dCons_e, dVar_e, dOp_e, dC_e, dNil_e, look, startR, List.map_cons, List.map_nil, List.cons_append, onS_s, oAdd_ii, roll_e, onI_i]
  refine ⟨rfl, by omega, by omega, fun i i0 i1 => ⟨by omega, by omega, ?_, ?_⟩⟩
  · unfold rangeD
    rw [List.length_map, List.length_range]
    omega
  · refine letters_ok (p := three) (r := startR 3 [dice, .int n]) rfl (by decide) (by decide) (by decide) (by decide +kernel) stT_at fun w h1 h2 => ?_
    exact join_ok (by omega) (h w (by omega) h2)

theorem law_small_ok {Q : PyData → Prop} {E : Nat → Prop} (h : ∀ m : M, m.det = 1 → m.le 2 → Q m.p) : f_law_small [dice] Q E := by
  simp only [f_law_small, b_law_small, ↓onB_b, ↓onI_i, ↓onStr_s, ↓onSeq_l, ↓onSeq_t, ↓onSeq_s, ↓onS_s, ↓dFn_e, ↓dVar_e, ↓dC_e, ↓dOp_e, ↓dUn_e, ↓dNil_e, ↓dCons_e, ↓dTup_e, ↓dLst_e, ↓dTest_e, ↓dAnd_e, ↓dOr_e, ↓dNot_e, ↓dAndV_e, ↓dOrV_e, ↓dNotV_e, ↓dIf_e, ↓dChain_e, ↓dCall_e, ↓dCB_e, ↓dNext_e, ↓dSeq_e, ↓dRet_e, ↓dDrop_e, ↓dAsg_e, ↓dIfS_e, ↓dRaise_e, ↓dgName_e, ↓dgNil_e, ↓dgCons_e, ↓dgTup_e, ↓dPar_e, ↓dPar3_e, ↓dFor_e, ↓dLc_e, lcL_n, lcL_c, ↓dYes_e, ↓dOver_e, ↓dRng1_e, ↓dRng2_e, ↓dPart_e, ↓dNoPart_e, ↓dMs_e, ↓dIsi_e, ↓dToldC_e, oAdd_ii, oAdd_ss, oAdd_ll, oSub_ii, oMul_ii, oMul_si, oDiv_ii, oMod_ii, oPow_ii, oNeg_i, oEq_ii, oNe_ii, oLt_ii, oLe_ii, oGt_ii, oGe_ii, oIs_e, oIsN_e, oIx_l, oIx_t, oIx_s, oLen_t, oLen_l, oAbs_i, oMax_l, oMin_l, oMin_t, oMax_t, oMax2_ii, oMin2_ii, oAll_l, oSum_l, oTuple_l, oSindex_ss, roll_e, ↓if_t, ↓if_f, if_T, if_F, Bool.false_eq_true, oLen_s, oList_t, oList_l, ↓dSl_e, onSl_l, onSl_s, isi_tt, isi_lt, isi_nt, isi_it, isi_bt, isi_st, isi_ii, isi_ib, isi_bi, isi_bb, isi_si, isi_ni, isi_ti, isi_li, isi_ss, isi_is, isi_bs, isi_ns, isi_ts, isi_ls, pl4, atI4_0, atI4_1, atI4_2, atI4_3, asInts, asBools, asStrs, Option.map, look, put, drp, drps, startR, List.length_cons, List.length_nil, List.map_cons, List.map_nil, List.replicate, List.append, List.cons_append, List.nil_append, List.append_nil, plain, true_and, and_true, Bool.not_true, Bool.not_false, Nat.zero_add, Nat.reduceAdd, Nat.reduceSub, Nat.reduceLeDiff, Nat.reduceEqDiff, ten6]
  exact ⟨rfl, rfl, by decide, by decide, at12 (h ⟨1, 0, 0, 1⟩ (by decide) (by decide)) (h ⟨0, -1, 1, 0⟩ (by decide) (by decide)) (h ⟨1, 1, 0, 1⟩ (by decide) (by decide)) (h ⟨1, 0, 1, 1⟩ (by decide) (by decide)) (h ⟨2, 1, 1, 1⟩ (by decide) (by decide)) (h ⟨1, -1, 0, 1⟩ (by decide) (by decide)) (h ⟨1, 1, 1, 2⟩ (by decide) (by decide)) (h ⟨0, 1, -1, 1⟩ (by decide) (by decide)) (h ⟨-1, 0, 0, -1⟩ (by decide) (by decide)) (h ⟨1, 2, 0, 1⟩ (by decide) (by decide)) (h ⟨1, 0, -2, 1⟩ (by decide) (by decide)) (h ⟨-1, 1, -1, 0⟩ (by decide) (by decide))⟩

theorem tl_at : ∀ k : Int, 0 ≤ k → k < 2 → ∃ c, atI (Str.ofString "tl").cps.toList k = some c ∧ two c := by
  intro k k0 k1
  obtain ⟨n, rfl⟩ := Int.eq_ofNat_of_zero_le k0
  match n, k1 with
  | 0, _ => exact ⟨116, by decide +kernel, .inl rfl⟩
  | 1, _ => exact ⟨108, by decide +kernel, .inr rfl⟩
  | n + 2, h => omega
theorem pow_le {n k : Nat} (h : n ≤ k) : 2 ^ n ≤ 2 ^ k := Nat.pow_le_pow_right (by decide) h
theorem law_any_table_ok {Q : PyData → Prop} {E : Nat → Prop} (h : ∀ m : M, m.det = 1 → m.le 144 → Q m.p) : f_law_any_table [dice] Q E := by
  rw [f_law_any_table, b_law_any_table, dFn_e, dSeq_e]
  simp only [↓onB_b, ↓onI_i, ↓onStr_s, ↓onSeq_l, ↓onSeq_t, ↓onSeq_s, ↓onS_s, ↓dFn_e, ↓dVar_e, ↓dC_e, ↓dOp_e, ↓dUn_e, ↓dNil_e, ↓dCons_e, ↓dTup_e, ↓dLst_e, ↓dTest_e, ↓dAnd_e, ↓dOr_e, ↓dNot_e, ↓dAndV_e, ↓dOrV_e, ↓dNotV_e, ↓dIf_e, ↓dChain_e, ↓dCall_e, ↓dCB_e, ↓dNext_e, ↓dRet_e, ↓dDrop_e, ↓dAsg_e, ↓dIfS_e, ↓dRaise_e, ↓dgName_e, ↓dgNil_e, ↓dgCons_e, ↓dgTup_e, ↓dPar_e, ↓dPar3_e, ↓dFor_e, ↓dLc_e, lcL_n, lcL_c, ↓dYes_e, ↓dOver_e, ↓dRng1_e, ↓dRng2_e, ↓dPart_e, ↓dNoPart_e, ↓dMs_e, ↓dIsi_e, ↓dToldC_e, oAdd_ii, oAdd_ss, oAdd_ll, oSub_ii, oMul_ii, oMul_si, oDiv_ii, oMod_ii, oPow_ii, oNeg_i, oEq_ii, oNe_ii, oLt_ii, oLe_ii, oGt_ii, oGe_ii, oIs_e, oIsN_e, oIx_l, oIx_t, oIx_s, oLen_t, oLen_l, oAbs_i, oMax_l, oMin_l, oMin_t, oMax_t, oMax2_ii, oMin2_ii, oAll_l, oSum_l, oTuple_l, oSindex_ss, roll_e, ↓if_t, ↓if_f, if_T, if_F, Bool.false_eq_true, oLen_s, oList_t, oList_l, ↓dSl_e, onSl_l, onSl_s, isi_tt, isi_lt, isi_nt, isi_it, isi_bt, isi_st, isi_ii, isi_ib, isi_bi, isi_bb, isi_si, isi_ni, isi_ti, isi_li, isi_ss, isi_is, isi_bs, isi_ns, isi_ts, isi_ls, pl4, atI4_0, atI4_1, atI4_2, atI4_3, asInts, asBools, asStrs, Option.map, look, put, drp, drps, startR, List.length_cons, List.length_nil, List.map_cons, List.map_nil, List.replicate, List.append, List.cons_append, List.nil_append, List.append_nil, plain, true_and, and_true, Bool.not_true, Bool.not_false, Nat.zero_add, Nat.reduceAdd, Nat.reduceSub, Nat.reduceLeDiff, Nat.reduceEqDiff, ten6]
  refine ⟨by decide, by decide, fun i i0 i1 => ?_⟩
  rw [dSeq_e]
  simp only [↓onB_b, ↓onI_i, ↓onStr_s, ↓onSeq_l, ↓onSeq_t, ↓onSeq_s, ↓onS_s, ↓dFn_e, ↓dVar_e, ↓dC_e, ↓dOp_e, ↓dUn_e, ↓dNil_e, ↓dCons_e, ↓dTup_e, ↓dLst_e, ↓dTest_e, ↓dAnd_e, ↓dOr_e, ↓dNot_e, ↓dAndV_e, ↓dOrV_e, ↓dNotV_e, ↓dIf_e, ↓dChain_e, ↓dCall_e, ↓dCB_e, ↓dNext_e, ↓dRet_e, ↓dDrop_e, ↓dAsg_e, ↓dIfS_e, ↓dRaise_e, ↓dgName_e, ↓dgNil_e, ↓dgCons_e, ↓dgTup_e, ↓dPar_e, ↓dPar3_e, ↓dFor_e, ↓dLc_e, lcL_n, lcL_c, ↓dYes_e, ↓dOver_e, ↓dRng1_e, ↓dRng2_e, ↓dPart_e, ↓dNoPart_e, ↓dMs_e, ↓dIsi_e, ↓dToldC_e, oAdd_ii, oAdd_ss, oAdd_ll, oSub_ii, oMul_ii, oMul_si, oDiv_ii, oMod_ii, oPow_ii, oNeg_i, oEq_ii, oNe_ii, oLt_ii, oLe_ii, oGt_ii, oGe_ii, oIs_e, oIsN_e, oIx_l, oIx_t, oIx_s, oLen_t, oLen_l, oAbs_i, oMax_l, oMin_l, oMin_t, oMax_t, oMax2_ii, oMin2_ii, oAll_l, oSum_l, oTuple_l, oSindex_ss, roll_e, ↓if_t, ↓if_f, if_T, if_F, Bool.false_eq_true, oLen_s, oList_t, oList_l, ↓dSl_e, onSl_l, onSl_s, isi_tt, isi_lt, isi_nt, isi_it, isi_bt, isi_st, isi_ii, isi_ib, isi_bi, isi_bb, isi_si, isi_ni, isi_ti, isi_li, isi_ss, isi_is, isi_bs, isi_ns, isi_ts, isi_ls, pl4, atI4_0, atI4_1, atI4_2, atI4_3, asInts, asBools, asStrs, Option.map, look, put, drp, drps, startR, List.length_cons, List.length_nil, List.map_cons, List.map_nil, List.replicate, List.append, List.cons_append, List.nil_append, List.append_nil, plain, true_and, and_true, Bool.not_true, Bool.not_false, Nat.zero_add, Nat.reduceAdd, Nat.reduceSub, Nat.reduceLeDiff, Nat.reduceEqDiff, ten6]
  by_cases hi : i = 0
  · rw [if_pos (decide_eq_true hi)]
    refine law_any_word_ok (by decide) (by decide) fun w w1 w2 => law_product_ok (fun c hc => (w2 c hc).six) ?_
    refine h _ (wm_det (by decide) w) ((wm_le1 w).mono ?_)
    exact Nat.le_trans (pow_le (k := 6) (by omega)) (by decide)
  · rw [if_neg (by simp [hi]), dSeq_e]
    simp only [↓onB_b, ↓onI_i, ↓onStr_s, ↓onSeq_l, ↓onSeq_t, ↓onSeq_s, ↓onS_s, ↓dFn_e, ↓dVar_e, ↓dC_e, ↓dOp_e, ↓dUn_e, ↓dNil_e, ↓dCons_e, ↓dTup_e, ↓dLst_e, ↓dTest_e, ↓dAnd_e, ↓dOr_e, ↓dNot_e, ↓dAndV_e, ↓dOrV_e, ↓dNotV_e, ↓dIf_e, ↓dChain_e, ↓dCall_e, ↓dCB_e, ↓dNext_e, ↓dRet_e, ↓dDrop_e, ↓dAsg_e, ↓dIfS_e, ↓dRaise_e, ↓dgName_e, ↓dgNil_e, ↓dgCons_e, ↓dgTup_e, ↓dPar_e, ↓dPar3_e, ↓dFor_e, ↓dLc_e, lcL_n, lcL_c, ↓dYes_e, ↓dOver_e, ↓dRng1_e, ↓dRng2_e, ↓dPart_e, ↓dNoPart_e, ↓dMs_e, ↓dIsi_e, ↓dToldC_e, oAdd_ii, oAdd_ss, oAdd_ll, oSub_ii, oMul_ii, oMul_si, oDiv_ii, oMod_ii, oPow_ii, oNeg_i, oEq_ii, oNe_ii, oLt_ii, oLe_ii, oGt_ii, oGe_ii, oIs_e, oIsN_e, oIx_l, oIx_t, oIx_s, oLen_t, oLen_l, oAbs_i, oMax_l, oMin_l, oMin_t, oMax_t, oMax2_ii, oMin2_ii, oAll_l, oSum_l, oTuple_l, oSindex_ss, roll_e, ↓if_t, ↓if_f, if_T, if_F, Bool.false_eq_true, oLen_s, oList_t, oList_l, ↓dSl_e, onSl_l, onSl_s, isi_tt, isi_lt, isi_nt, isi_it, isi_bt, isi_st, isi_ii, isi_ib, isi_bi, isi_bb, isi_si, isi_ni, isi_ti, isi_li, isi_ss, isi_is, isi_bs, isi_ns, isi_ts, isi_ls, pl4, atI4_0, atI4_1, atI4_2, atI4_3, asInts, asBools, asStrs, Option.map, look, put, drp, drps, startR, List.length_cons, List.length_nil, List.map_cons, List.map_nil, List.replicate, List.append, List.cons_append, List.nil_append, List.append_nil, plain, true_and, and_true, Bool.not_true, Bool.not_false, Nat.zero_add, Nat.reduceAdd, Nat.reduceSub, Nat.reduceLeDiff, Nat.reduceEqDiff, ten6]
    refine law_small_ok fun m m1 m2 => ?_
    rw [dSeq_e]
    simp only [↓onB_b, ↓onI_i, ↓onStr_s, ↓onSeq_l, ↓onSeq_t, ↓onSeq_s, ↓onS_s, ↓dFn_e, ↓dVar_e, ↓dC_e, ↓dOp_e, ↓dUn_e, ↓dNil_e, ↓dCons_e, ↓dTup_e, ↓dLst_e, ↓dTest_e, ↓dAnd_e, ↓dOr_e, ↓dNot_e, ↓dAndV_e, ↓dOrV_e, ↓dNotV_e, ↓dIf_e, ↓dChain_e, ↓dCall_e, ↓dCB_e, ↓dNext_e, ↓dRet_e, ↓dDrop_e, ↓dAsg_e, ↓dIfS_e, ↓dRaise_e, ↓dgName_e, ↓dgNil_e, ↓dgCons_e, ↓dgTup_e, ↓dPar_e, ↓dPar3_e, ↓dFor_e, ↓dLc_e, lcL_n, lcL_c, ↓dYes_e, ↓dOver_e, ↓dRng1_e, ↓dRng2_e, ↓dPart_e, ↓dNoPart_e, ↓dMs_e, ↓dIsi_e, ↓dToldC_e, oAdd_ii, oAdd_ss, oAdd_ll, oSub_ii, oMul_ii, oMul_si, oDiv_ii, oMod_ii, oPow_ii, oNeg_i, oEq_ii, oNe_ii, oLt_ii, oLe_ii, oGt_ii, oGe_ii, oIs_e, oIsN_e, oIx_l, oIx_t, oIx_s, oLen_t, oLen_l, oAbs_i, oMax_l, oMin_l, oMin_t, oMax_t, oMax2_ii, oMin2_ii, oAll_l, oSum_l, oTuple_l, oSindex_ss, roll_e, ↓if_t, ↓if_f, if_T, if_F, Bool.false_eq_true, oLen_s, oList_t, oList_l, ↓dSl_e, onSl_l, onSl_s, isi_tt, isi_lt, isi_nt, isi_it, isi_bt, isi_st, isi_ii, isi_ib, isi_bi, isi_bb, isi_si, isi_ni, isi_ti, isi_li, isi_ss, isi_is, isi_bs, isi_ns, isi_ts, isi_ls, pl4, atI4_0, atI4_1, atI4_2, atI4_3, asInts, asBools, asStrs, Option.map, look, put, drp, drps, startR, List.length_cons, List.length_nil, List.map_cons, List.map_nil, List.replicate, List.append, List.cons_append, List.nil_append, List.append_nil, plain, true_and, and_true, Bool.not_true, Bool.not_false, Nat.zero_add, Nat.reduceAdd, Nat.reduceSub, Nat.reduceLeDiff, Nat.reduceEqDiff, ten6]
    by_cases hj : i = 1
    · rw [if_pos (decide_eq_true hj), dSeq_e]
      simp only [↓onB_b, ↓onI_i, ↓onStr_s, ↓onSeq_l, ↓onSeq_t, ↓onSeq_s, ↓onS_s, ↓dFn_e, ↓dVar_e, ↓dC_e, ↓dOp_e, ↓dUn_e, ↓dNil_e, ↓dCons_e, ↓dTup_e, ↓dLst_e, ↓dTest_e, ↓dAnd_e, ↓dOr_e, ↓dNot_e, ↓dAndV_e, ↓dOrV_e, ↓dNotV_e, ↓dIf_e, ↓dChain_e, ↓dCall_e, ↓dCB_e, ↓dNext_e, ↓dRet_e, ↓dDrop_e, ↓dAsg_e, ↓dIfS_e, ↓dRaise_e, ↓dgName_e, ↓dgNil_e, ↓dgCons_e, ↓dgTup_e, ↓dPar_e, ↓dPar3_e, ↓dFor_e, ↓dLc_e, lcL_n, lcL_c, ↓dYes_e, ↓dOver_e, ↓dRng1_e, ↓dRng2_e, ↓dPart_e, ↓dNoPart_e, ↓dMs_e, ↓dIsi_e, ↓dToldC_e, oAdd_ii, oAdd_ss, oAdd_ll, oSub_ii, oMul_ii, oMul_si, oDiv_ii, oMod_ii, oPow_ii, oNeg_i, oEq_ii, oNe_ii, oLt_ii, oLe_ii, oGt_ii, oGe_ii, oIs_e, oIsN_e, oIx_l, oIx_t, oIx_s, oLen_t, oLen_l, oAbs_i, oMax_l, oMin_l, oMin_t, oMax_t, oMax2_ii, oMin2_ii, oAll_l, oSum_l, oTuple_l, oSindex_ss, roll_e, ↓if_t, ↓if_f, if_T, if_F, Bool.false_eq_true, oLen_s, oList_t, oList_l, ↓dSl_e, onSl_l, onSl_s, isi_tt, isi_lt, isi_nt, isi_it, isi_bt, isi_st, isi_ii, isi_ib, isi_bi, isi_bb, isi_si, isi_ni, isi_ti, isi_li, isi_ss, isi_is, isi_bs, isi_ns, isi_ts, isi_ls, pl4, atI4_0, atI4_1, atI4_2, atI4_3, asInts, asBools, asStrs, Option.map, look, put, drp, drps, startR, List.length_cons, List.length_nil, List.map_cons, List.map_nil, List.replicate, List.append, List.cons_append, List.nil_append, List.append_nil, plain, true_and, and_true, Bool.not_true, Bool.not_false, Nat.zero_add, Nat.reduceAdd, Nat.reduceSub, Nat.reduceLeDiff, Nat.reduceEqDiff, ten6]
      refine ⟨by decide, by decide, fun k k0 k1 => ?_⟩
      have s1 : (M.mk 1 (k - 9) 0 1).le 9 := ⟨by show (1 : Int).natAbs ≤ 9; decide, by show (k - 9).natAbs ≤ 9; omega, by show (0 : Int).natAbs ≤ 9; decide, by show (1 : Int).natAbs ≤ 9; decide⟩
      have d1 : (M.mk 1 (k - 9) 0 1).det = 1 := by simp [M.det]
      rw [dSeq_e]
      simp only [↓onB_b, ↓onI_i, ↓onStr_s, ↓onSeq_l, ↓onSeq_t, ↓onSeq_s, ↓onS_s, ↓dFn_e, ↓dVar_e, ↓dC_e, ↓dOp_e, ↓dUn_e, ↓dNil_e, ↓dCons_e, ↓dTup_e, ↓dLst_e, ↓dTest_e, ↓dAnd_e, ↓dOr_e, ↓dNot_e, ↓dAndV_e, ↓dOrV_e, ↓dNotV_e, ↓dIf_e, ↓dChain_e, ↓dCall_e, ↓dCB_e, ↓dNext_e, ↓dRet_e, ↓dDrop_e, ↓dAsg_e, ↓dIfS_e, ↓dRaise_e, ↓dgName_e, ↓dgNil_e, ↓dgCons_e, ↓dgTup_e, ↓dPar_e, ↓dPar3_e, ↓dFor_e, ↓dLc_e, lcL_n, lcL_c, ↓dYes_e, ↓dOver_e, ↓dRng1_e, ↓dRng2_e, ↓dPart_e, ↓dNoPart_e, ↓dMs_e, ↓dIsi_e, ↓dToldC_e, oAdd_ii, oAdd_ss, oAdd_ll, oSub_ii, oMul_ii, oMul_si, oDiv_ii, oMod_ii, oPow_ii, oNeg_i, oEq_ii, oNe_ii, oLt_ii, oLe_ii, oGt_ii, oGe_ii, oIs_e, oIsN_e, oIx_l, oIx_t, oIx_s, oLen_t, oLen_l, oAbs_i, oMax_l, oMin_l, oMin_t, oMax_t, oMax2_ii, oMin2_ii, oAll_l, oSum_l, oTuple_l, oSindex_ss, roll_e, ↓if_t, ↓if_f, if_T, if_F, Bool.false_eq_true, oLen_s, oList_t, oList_l, ↓dSl_e, onSl_l, onSl_s, isi_tt, isi_lt, isi_nt, isi_it, isi_bt, isi_st, isi_ii, isi_ib, isi_bi, isi_bb, isi_si, isi_ni, isi_ti, isi_li, isi_ss, isi_is, isi_bs, isi_ns, isi_ts, isi_ls, pl4, atI4_0, atI4_1, atI4_2, atI4_3, asInts, asBools, asStrs, Option.map, look, put, drp, drps, startR, List.length_cons, List.length_nil, List.map_cons, List.map_nil, List.replicate, List.append, List.cons_append, List.nil_append, List.append_nil, plain, true_and, and_true, Bool.not_true, Bool.not_false, Nat.zero_add, Nat.reduceAdd, Nat.reduceSub, Nat.reduceLeDiff, Nat.reduceEqDiff, ten6]
      refine law_times_ok (n := ⟨1, k - 9, 0, 1⟩) (m2.mono (by decide)) (law_inverse_ok (law_times_ok ((m2.mul s1).mono (by decide)) ?_))
      have dm : ((m.mul ⟨1, k - 9, 0, 1⟩).mul m.inv).det = 1 := by rw [M.det_mul, M.det_mul, M.det_inv, m1, d1]; rfl
      have lm : ((m.mul ⟨1, k - 9, 0, 1⟩).mul m.inv).le 144 := ((m2.mul s1).mul m2.inv).mono (by decide)
      refine ⟨by decide, by decide, fun q q0 q1 => ?_⟩
      by_cases hq : q = 0
      · rw [if_pos (decide_eq_true hq)]
        exact h _ dm lm
      · rw [if_neg (by simp [hq])]
        exact law_negative_ok (h _ (by rw [M.det_neg]; exact dm) lm.neg)
    · rw [if_neg (by simp [hj])]
      refine ⟨by decide, by decide, fun q q0 q1 => ⟨by omega, by omega, ?_, ?_⟩⟩
      · unfold rangeD
        rw [List.length_map, List.length_range]
        omega
      · refine letters_ok (p := two) (r := [some dice, some (.int i), some m.p, none, none, none]) rfl (by decide) (by decide) (by decide) (by decide +kernel) tl_at fun w h1 h2 => ?_
        refine join_ok (by omega) (law_product_ok (fun c hc => (h2 c hc).six) (law_times_ok (m2.mono (by decide)) ?_))
        exact h _ (by rw [M.det_mul, m1, wm_det (by decide) w]; rfl) ((m2.mul (wm_le34 h2 (by omega))).mono (by decide))

theorem law_gcd_step (a b : Nat) : Nat.gcd b (a % b) = Nat.gcd a b := by
  rw [Nat.gcd_comm a b, Nat.gcd_rec b a, Nat.gcd_comm]
theorem law_absI (x : Int) : (if x < 0 then -x else x) = (x.natAbs : Int) := by split <;> omega
theorem law_divisor_ok {x y : Int} {Q : PyData → Prop} {E : Nat → Prop} (h : Q (.int (Int.gcd x y))) : f_law_divisor [.int x, .int y] Q E := by
  rw [f_law_divisor, b_law_divisor, dFn_e, dSeq_e]
  simp only [↓onB_b, ↓onI_i, ↓onStr_s, ↓onSeq_l, ↓onSeq_t, ↓onSeq_s, ↓onS_s, ↓dFn_e, ↓dVar_e, ↓dC_e, ↓dOp_e, ↓dUn_e, ↓dNil_e, ↓dCons_e, ↓dTup_e, ↓dLst_e, ↓dTest_e, ↓dAnd_e, ↓dOr_e, ↓dNot_e, ↓dAndV_e, ↓dOrV_e, ↓dNotV_e, ↓dIf_e, ↓dChain_e, ↓dCall_e, ↓dCB_e, ↓dNext_e, ↓dRet_e, ↓dDrop_e, ↓dAsg_e, ↓dIfS_e, ↓dRaise_e, ↓dgName_e, ↓dgNil_e, ↓dgCons_e, ↓dgTup_e, ↓dPar_e, ↓dPar3_e, ↓dFor_e, ↓dLc_e, lcL_n, lcL_c, ↓dYes_e, ↓dOver_e, ↓dRng1_e, ↓dRng2_e, ↓dPart_e, ↓dNoPart_e, ↓dMs_e, ↓dIsi_e, ↓dToldC_e, oAdd_ii, oAdd_ss, oAdd_ll, oSub_ii, oMul_ii, oMul_si, oDiv_ii, oMod_ii, oPow_ii, oNeg_i, oEq_ii, oNe_ii, oLt_ii, oLe_ii, oGt_ii, oGe_ii, oIs_e, oIsN_e, oIx_l, oIx_t, oIx_s, oLen_t, oLen_l, oAbs_i, oMax_l, oMin_l, oMin_t, oMax_t, oMax2_ii, oMin2_ii, oAll_l, oSum_l, oTuple_l, oSindex_ss, roll_e, ↓if_t, ↓if_f, if_T, if_F, Bool.false_eq_true, oLen_s, oList_t, oList_l, ↓dSl_e, onSl_l, onSl_s, isi_tt, isi_lt, isi_nt, isi_it, isi_bt, isi_st, isi_ii, isi_ib, isi_bi, isi_bb, isi_si, isi_ni, isi_ti, isi_li, isi_ss, isi_is, isi_bs, isi_ns, isi_ts, isi_ls, pl4, atI4_0, atI4_1, atI4_2, atI4_3, asInts, asBools, asStrs, Option.map, look, put, drp, drps, startR, List.length_cons, List.length_nil, List.map_cons, List.map_nil, List.replicate, List.append, List.cons_append, List.nil_append, List.append_nil, true_and, and_true, Bool.not_true, Bool.not_false, Nat.zero_add, Nat.reduceAdd, Nat.reduceSub, Nat.reduceLeDiff, Nat.reduceEqDiff, ten6, plains_n, plains_c, plain_t, plain_l, plain_i, plain_s, plain_b, plain_no]
  rw [law_absI, law_absI, dSeq_e]
  refine dWhile_i (fun n r => ∃ a : Nat, Nat.gcd a n = Int.gcd x y ∧ r = [some (.int (a : Int)), some (.int (n : Int))]) y.natAbs ⟨x.natAbs, rfl, rfl⟩ ?_
  rintro n r k ⟨a, hg, rfl⟩ hk
  simp only [↓onB_b, ↓onI_i, ↓onStr_s, ↓onSeq_l, ↓onSeq_t, ↓onSeq_s, ↓onS_s, ↓dFn_e, ↓dVar_e, ↓dC_e, ↓dOp_e, ↓dUn_e, ↓dNil_e, ↓dCons_e, ↓dTup_e, ↓dLst_e, ↓dTest_e, ↓dAnd_e, ↓dOr_e, ↓dNot_e, ↓dAndV_e, ↓dOrV_e, ↓dNotV_e, ↓dIf_e, ↓dChain_e, ↓dCall_e, ↓dCB_e, ↓dNext_e, ↓dRet_e, ↓dDrop_e, ↓dAsg_e, ↓dIfS_e, ↓dRaise_e, ↓dgName_e, ↓dgNil_e, ↓dgCons_e, ↓dgTup_e, ↓dPar_e, ↓dPar3_e, ↓dFor_e, ↓dLc_e, lcL_n, lcL_c, ↓dYes_e, ↓dOver_e, ↓dRng1_e, ↓dRng2_e, ↓dPart_e, ↓dNoPart_e, ↓dMs_e, ↓dIsi_e, ↓dToldC_e, oAdd_ii, oAdd_ss, oAdd_ll, oSub_ii, oMul_ii, oMul_si, oDiv_ii, oMod_ii, oPow_ii, oNeg_i, oEq_ii, oNe_ii, oLt_ii, oLe_ii, oGt_ii, oGe_ii, oIs_e, oIsN_e, oIx_l, oIx_t, oIx_s, oLen_t, oLen_l, oAbs_i, oMax_l, oMin_l, oMin_t, oMax_t, oMax2_ii, oMin2_ii, oAll_l, oSum_l, oTuple_l, oSindex_ss, roll_e, ↓if_t, ↓if_f, if_T, if_F, Bool.false_eq_true, oLen_s, oList_t, oList_l, ↓dSl_e, onSl_l, onSl_s, isi_tt, isi_lt, isi_nt, isi_it, isi_bt, isi_st, isi_ii, isi_ib, isi_bi, isi_bb, isi_si, isi_ni, isi_ti, isi_li, isi_ss, isi_is, isi_bs, isi_ns, isi_ts, isi_ls, pl4, atI4_0, atI4_1, atI4_2, atI4_3, asInts, asBools, asStrs, Option.map, look, put, drp, drps, startR, List.length_cons, List.length_nil, List.map_cons, List.map_nil, List.replicate, List.append, List.cons_append, List.nil_append, List.append_nil, true_and, and_true, Bool.not_true, Bool.not_false, Nat.zero_add, Nat.reduceAdd, Nat.reduceSub, Nat.reduceLeDiff, Nat.reduceEqDiff, ten6, plains_n, plains_c, plain_t, plain_l, plain_i, plain_s, plain_b, plain_no]
  by_cases h0 : n = 0
  · subst h0
    rw [if_neg (by simp)]
    have e : a = Int.gcd x y := by rw [← hg, Nat.gcd_zero_right]
    show Q (.int (a : Int))
    rw [e]
    exact h
  · rw [if_pos (by simp; omega)]
    refine ⟨by omega, ?_⟩
    refine hk (a % n) _ (Nat.mod_lt _ (by omega)) ⟨n, by rw [law_gcd_step]; exact hg, ?_⟩
    rw [Int.fmod_eq_emod_of_nonneg _ (by omega)]
    rfl

theorem law_pair_ok {T : M} {m : Int} {Q : PyData → Prop} {E : Nat → Prop} (h1 : 2 ≤ m) (h2 : m ≤ 30) (h : Q (pD (lp m (T.c, T.d)))) : f_law_pair [T.p, .int m] Q E := by
  have m0 : m ≠ 0 := by omega
  rw [f_law_pair, b_law_pair, dFn_e, dSeq_e, dAsg_e, dLc_e]
  refine dRng2_q (m := m) rfl (by omega) (by omega) ⟨?_, ?_⟩
  · rw [rng_len]
    omega
  · refine lc_sel (isU m) id ?_ _ _ (fun x hx K1 K2 k1 k2 => ?_) ?_
    · intro x hx
      cases x <;> first | rfl | exact nomatch hx
    · rw [rngD] at hx
      obtain ⟨u, hu, rfl⟩ := List.mem_map.mp hx
      simp only [↓onB_b, ↓onI_i, ↓onStr_s, ↓onSeq_l, ↓onSeq_t, ↓onSeq_s, ↓onS_s, ↓dFn_e, ↓dVar_e, ↓dC_e, ↓dOp_e, ↓dUn_e, ↓dNil_e, ↓dCons_e, ↓dTup_e, ↓dLst_e, ↓dTest_e, ↓dAnd_e, ↓dOr_e, ↓dNot_e, ↓dAndV_e, ↓dOrV_e, ↓dNotV_e, ↓dIf_e, ↓dChain_e, ↓dCall_e, ↓dCB_e, ↓dNext_e, ↓dRet_e, ↓dDrop_e, ↓dAsg_e, ↓dIfS_e, ↓dRaise_e, ↓dgName_e, ↓dgNil_e, ↓dgCons_e, ↓dgTup_e, ↓dPar_e, ↓dPar3_e, ↓dFor_e, ↓dLc_e, lcL_n, lcL_c, ↓dYes_e, ↓dOver_e, ↓dRng1_e, ↓dRng2_e, ↓dPart_e, ↓dNoPart_e, ↓dMs_e, ↓dIsi_e, ↓dToldC_e, oAdd_ii, oAdd_ss, oAdd_ll, oSub_ii, oMul_ii, oMul_si, oDiv_ii, oMod_ii, oPow_ii, oNeg_i, oEq_ii, oNe_ii, oLt_ii, oLe_ii, oGt_ii, oGe_ii, oIs_e, oIsN_e, oIx_l, oIx_t, oIx_s, oLen_t, oLen_l, oAbs_i, oMax_l, oMin_l, oMin_t, oMax_t, oMax2_ii, oMin2_ii, oAll_l, oSum_l, oTuple_l, oSindex_ss, roll_e, ↓if_t, ↓if_f, if_T, if_F, Bool.false_eq_true, oLen_s, oList_t, oList_l, ↓dSl_e, onSl_l, onSl_s, isi_tt, isi_lt, isi_nt, isi_it, isi_bt, isi_st, isi_ii, isi_ib, isi_bi, isi_bb, isi_si, isi_ni, isi_ti, isi_li, isi_ss, isi_is, isi_bs, isi_ns, isi_ts, isi_ls, pl4, atI4_0, atI4_1, atI4_2, atI4_3, asInts, asBools, asStrs, Option.map, look, put, drp, drps, startR, List.length_cons, List.length_nil, List.map_cons, List.map_nil, List.replicate, List.append, List.cons_append, List.nil_append, List.append_nil, true_and, and_true, Bool.not_true, Bool.not_false, Nat.zero_add, Nat.reduceAdd, Nat.reduceSub, Nat.reduceLeDiff, Nat.reduceEqDiff, ten6, plains_n, plains_c, plain_t, plain_l, plain_i, plain_s, plain_b, plain_no]
      refine law_divisor_ok ?_
      simp only [↓onB_b, ↓onI_i, ↓onStr_s, ↓onSeq_l, ↓onSeq_t, ↓onSeq_s, ↓onS_s, ↓dFn_e, ↓dVar_e, ↓dC_e, ↓dOp_e, ↓dUn_e, ↓dNil_e, ↓dCons_e, ↓dTup_e, ↓dLst_e, ↓dTest_e, ↓dAnd_e, ↓dOr_e, ↓dNot_e, ↓dAndV_e, ↓dOrV_e, ↓dNotV_e, ↓dIf_e, ↓dChain_e, ↓dCall_e, ↓dCB_e, ↓dNext_e, ↓dRet_e, ↓dDrop_e, ↓dAsg_e, ↓dIfS_e, ↓dRaise_e, ↓dgName_e, ↓dgNil_e, ↓dgCons_e, ↓dgTup_e, ↓dPar_e, ↓dPar3_e, ↓dFor_e, ↓dLc_e, lcL_n, lcL_c, ↓dYes_e, ↓dOver_e, ↓dRng1_e, ↓dRng2_e, ↓dPart_e, ↓dNoPart_e, ↓dMs_e, ↓dIsi_e, ↓dToldC_e, oAdd_ii, oAdd_ss, oAdd_ll, oSub_ii, oMul_ii, oMul_si, oDiv_ii, oMod_ii, oPow_ii, oNeg_i, oEq_ii, oNe_ii, oLt_ii, oLe_ii, oGt_ii, oGe_ii, oIs_e, oIsN_e, oIx_l, oIx_t, oIx_s, oLen_t, oLen_l, oAbs_i, oMax_l, oMin_l, oMin_t, oMax_t, oMax2_ii, oMin2_ii, oAll_l, oSum_l, oTuple_l, oSindex_ss, roll_e, ↓if_t, ↓if_f, if_T, if_F, Bool.false_eq_true, oLen_s, oList_t, oList_l, ↓dSl_e, onSl_l, onSl_s, isi_tt, isi_lt, isi_nt, isi_it, isi_bt, isi_st, isi_ii, isi_ib, isi_bi, isi_bb, isi_si, isi_ni, isi_ti, isi_li, isi_ss, isi_is, isi_bs, isi_ns, isi_ts, isi_ls, pl4, atI4_0, atI4_1, atI4_2, atI4_3, asInts, asBools, asStrs, Option.map, look, put, drp, drps, startR, List.length_cons, List.length_nil, List.map_cons, List.map_nil, List.replicate, List.append, List.cons_append, List.nil_append, List.append_nil, true_and, and_true, Bool.not_true, Bool.not_false, Nat.zero_add, Nat.reduceAdd, Nat.reduceSub, Nat.reduceLeDiff, Nat.reduceEqDiff, ten6, plains_n, plains_c, plain_t, plain_l, plain_i, plain_s, plain_b, plain_no]
      by_cases c : ((Int.gcd u m : Nat) : Int) = 1
      · rw [if_pos (decide_eq_true c)]
        exact k1 (decide_eq_true c)
      · rw [if_neg (by simp [c])]
        exact k2 (decide_eq_false c)
    · rw [List.nil_append, sel_us, dgName_e, dRet_e, dCB_e, dCons_e, dLc_e]
      simp only [↓onB_b, ↓onI_i, ↓onStr_s, ↓onSeq_l, ↓onSeq_t, ↓onSeq_s, ↓onS_s, ↓dFn_e, ↓dVar_e, ↓dC_e, ↓dOp_e, ↓dUn_e, ↓dNil_e, ↓dCons_e, ↓dTup_e, ↓dLst_e, ↓dTest_e, ↓dAnd_e, ↓dOr_e, ↓dNot_e, ↓dAndV_e, ↓dOrV_e, ↓dNotV_e, ↓dIf_e, ↓dChain_e, ↓dCall_e, ↓dCB_e, ↓dNext_e, ↓dRet_e, ↓dDrop_e, ↓dAsg_e, ↓dIfS_e, ↓dRaise_e, ↓dgName_e, ↓dgNil_e, ↓dgCons_e, ↓dgTup_e, ↓dPar_e, ↓dPar3_e, ↓dFor_e, ↓dLc_e, lcL_n, lcL_c, ↓dYes_e, ↓dOver_e, ↓dRng1_e, ↓dRng2_e, ↓dPart_e, ↓dNoPart_e, ↓dMs_e, ↓dIsi_e, ↓dToldC_e, oAdd_ii, oAdd_ss, oAdd_ll, oSub_ii, oMul_ii, oMul_si, oDiv_ii, oMod_ii, oPow_ii, oNeg_i, oEq_ii, oNe_ii, oLt_ii, oLe_ii, oGt_ii, oGe_ii, oIs_e, oIsN_e, oIx_l, oIx_t, oIx_s, oLen_t, oLen_l, oAbs_i, oMax_l, oMin_l, oMin_t, oMax_t, oMax2_ii, oMin2_ii, oAll_l, oSum_l, oTuple_l, oSindex_ss, roll_e, ↓if_t, ↓if_f, if_T, if_F, Bool.false_eq_true, oLen_s, oList_t, oList_l, ↓dSl_e, onSl_l, onSl_s, isi_tt, isi_lt, isi_nt, isi_it, isi_bt, isi_st, isi_ii, isi_ib, isi_bi, isi_bb, isi_si, isi_ni, isi_ti, isi_li, isi_ss, isi_is, isi_bs, isi_ns, isi_ts, isi_ls, pl4, atI4_0, atI4_1, atI4_2, atI4_3, asInts, asBools, asStrs, Option.map, look, put, drp, drps, startR, List.length_cons, List.length_nil, List.map_cons, List.map_nil, List.replicate, List.append, List.cons_append, List.nil_append, List.append_nil, true_and, and_true, Bool.not_true, Bool.not_false, Nat.zero_add, Nat.reduceAdd, Nat.reduceSub, Nat.reduceLeDiff, Nat.reduceEqDiff, ten6, plains_n, plains_c, plain_t, plain_l, plain_i, plain_s, plain_b, plain_no]
      refine ⟨?_, lc_sel (fun _ => true) (mulD m (T.c, T.d)) (fun x _ => by cases x <;> rfl) _ _ (fun x hx K1 K2 k1 k2 => ?_) ?_⟩
      · rw [List.length_map]
        have : (us m).length ≤ (m - 1).toNat := by
          unfold us
          refine Nat.le_trans (List.length_filter_le _ _) ?_
          rw [List.length_map, List.length_range]
          exact Nat.le_refl _
        omega
      · obtain ⟨u, hu, rfl⟩ := List.mem_map.mp hx
        obtain ⟨u1, u2, _⟩ := mem_us.mp hu
        have um : u.natAbs ≤ 9223372036854775808 := by omega
        simp only [fmq (show 0 < m by omega), ↓onB_b, ↓onI_i, ↓onStr_s, ↓onSeq_l, ↓onSeq_t, ↓onSeq_s, ↓onS_s, ↓dFn_e, ↓dVar_e, ↓dC_e, ↓dOp_e, ↓dUn_e, ↓dNil_e, ↓dCons_e, ↓dTup_e, ↓dLst_e, ↓dTest_e, ↓dAnd_e, ↓dOr_e, ↓dNot_e, ↓dAndV_e, ↓dOrV_e, ↓dNotV_e, ↓dIf_e, ↓dChain_e, ↓dCall_e, ↓dCB_e, ↓dNext_e, ↓dRet_e, ↓dDrop_e, ↓dAsg_e, ↓dIfS_e, ↓dRaise_e, ↓dgName_e, ↓dgNil_e, ↓dgCons_e, ↓dgTup_e, ↓dPar_e, ↓dPar3_e, ↓dFor_e, ↓dLc_e, lcL_n, lcL_c, ↓dYes_e, ↓dOver_e, ↓dRng1_e, ↓dRng2_e, ↓dPart_e, ↓dNoPart_e, ↓dMs_e, ↓dIsi_e, ↓dToldC_e, oAdd_ii, oAdd_ss, oAdd_ll, oSub_ii, oMul_ii, oMul_si, oDiv_ii, oMod_ii, oPow_ii, oNeg_i, oEq_ii, oNe_ii, oLt_ii, oLe_ii, oGt_ii, oGe_ii, oIs_e, oIsN_e, oIx_l, oIx_t, oIx_s, oLen_t, oLen_l, oAbs_i, oMax_l, oMin_l, oMin_t, oMax_t, oMax2_ii, oMin2_ii, oAll_l, oSum_l, oTuple_l, oSindex_ss, roll_e, ↓if_t, ↓if_f, if_T, if_F, Bool.false_eq_true, oLen_s, oList_t, oList_l, ↓dSl_e, onSl_l, onSl_s, isi_tt, isi_lt, isi_nt, isi_it, isi_bt, isi_st, isi_ii, isi_ib, isi_bi, isi_bb, isi_si, isi_ni, isi_ti, isi_li, isi_ss, isi_is, isi_bs, isi_ns, isi_ts, isi_ls, pl4, atI4_0, atI4_1, atI4_2, atI4_3, asInts, asBools, asStrs, Option.map, look, put, drp, drps, startR, List.length_cons, List.length_nil, List.map_cons, List.map_nil, List.replicate, List.append, List.cons_append, List.nil_append, List.append_nil, true_and, and_true, Bool.not_true, Bool.not_false, Nat.zero_add, Nat.reduceAdd, Nat.reduceSub, Nat.reduceLeDiff, Nat.reduceEqDiff, ten6, plains_n, plains_c, plain_t, plain_l, plain_i, plain_s, plain_b, plain_no]
        exact ⟨mok um, m0, mok um, m0, k1 rfl⟩
      · rw [List.nil_append, map_mp]
        exact min_mp h1 h

def modD (p : Int) : PyData → PyData
  | .int q => .bool (!decide (p % q = 0))
  | _ => .bool false
theorem map_mod (p : Int) (k : Nat) : ((rangeD 2 k).filter fun _ => true).map (modD p) = ((List.range k).map fun (i : Nat) => !decide (p % (2 + (i : Int)) = 0)).map .bool := by
  rw [List.filter_eq_self.mpr fun _ _ => rfl, rngD, List.map_map, List.map_map, List.map_map]
  rfl
def manyS (m f : Int) (i : Nat) : Int := if (decide (m % (2 + (i : Int)) = 0) && primeB (2 + (i : Int))) = true then f / (2 + (i : Int)) * (2 + (i : Int) + 1) else f
def manyN (m : Int) (j : Nat) : Int := (List.range j).foldl (manyS m) m
theorem manyN_s (m : Int) (j : Nat) : manyN m (j + 1) = manyS m (manyN m j) j := by
  unfold manyN
  rw [List.range_succ, List.foldl_append]
  rfl
theorem manyS_b {m f : Int} {i : Nat} (h0 : 0 ≤ f) : 0 ≤ manyS m f i ∧ manyS m f i ≤ 2 * f := by
  unfold manyS
  split
  · have p : (0 : Int) < 2 + (i : Int) := by omega
    have a : 0 ≤ f / (2 + (i : Int)) := Int.ediv_nonneg h0 (by omega)
    have b : f / (2 + (i : Int)) * (2 + (i : Int)) ≤ f := Int.ediv_mul_le f (by omega)
    have c : f / (2 + (i : Int)) ≤ f := Int.ediv_le_self _ h0
    rw [Int.mul_add, Int.mul_one]
    exact ⟨by have := Int.mul_nonneg a (show 0 ≤ 2 + (i : Int) by omega); omega, by omega⟩
  · omega
theorem manyN_b {m : Int} (h1 : 2 ≤ m) (h2 : m ≤ 30) : ∀ j : Nat, 0 ≤ manyN m j ∧ manyN m j ≤ 30 * 2 ^ j
  | 0 => ⟨by show 0 ≤ m; omega, by show m ≤ 30 * 2 ^ 0; omega⟩
  | j + 1 => by
    obtain ⟨a, b⟩ := manyN_b h1 h2 j
    rw [manyN_s]
    obtain ⟨c, d⟩ := manyS_b (m := m) (i := j) a
    exact ⟨c, by rw [Int.pow_succ]; omega⟩
theorem law_many_ok {m : Int} {Q : PyData → Prop} {E : Nat → Prop} (h1 : 2 ≤ m) (h2 : m ≤ 30) (h : Q (.int (manyF m))) : f_law_many [.int m] Q E := by
  rw [f_law_many, b_law_many, dFn_e, dSeq_e]
  simp only [↓onB_b, ↓onI_i, ↓onStr_s, ↓onSeq_l, ↓onSeq_t, ↓onSeq_s, ↓onS_s, ↓dFn_e, ↓dVar_e, ↓dC_e, ↓dOp_e, ↓dUn_e, ↓dNil_e, ↓dCons_e, ↓dTup_e, ↓dLst_e, ↓dTest_e, ↓dAnd_e, ↓dOr_e, ↓dNot_e, ↓dAndV_e, ↓dOrV_e, ↓dNotV_e, ↓dIf_e, ↓dChain_e, ↓dCall_e, ↓dCB_e, ↓dNext_e, ↓dRet_e, ↓dDrop_e, ↓dAsg_e, ↓dIfS_e, ↓dRaise_e, ↓dgName_e, ↓dgNil_e, ↓dgCons_e, ↓dgTup_e, ↓dPar_e, ↓dPar3_e, ↓dFor_e, ↓dLc_e, lcL_n, lcL_c, ↓dYes_e, ↓dOver_e, ↓dRng1_e, ↓dRng2_e, ↓dPart_e, ↓dNoPart_e, ↓dMs_e, ↓dIsi_e, ↓dToldC_e, oAdd_ii, oAdd_ss, oAdd_ll, oSub_ii, oMul_ii, oMul_si, oDiv_ii, oMod_ii, oPow_ii, oNeg_i, oEq_ii, oNe_ii, oLt_ii, oLe_ii, oGt_ii, oGe_ii, oIs_e, oIsN_e, oIx_l, oIx_t, oIx_s, oLen_t, oLen_l, oAbs_i, oMax_l, oMin_l, oMin_t, oMax_t, oMax2_ii, oMin2_ii, oAll_l, oSum_l, oTuple_l, oSindex_ss, roll_e, ↓if_t, ↓if_f, if_T, if_F, Bool.false_eq_true, oLen_s, oList_t, oList_l, ↓dSl_e, onSl_l, onSl_s, isi_tt, isi_lt, isi_nt, isi_it, isi_bt, isi_st, isi_ii, isi_ib, isi_bi, isi_bb, isi_si, isi_ni, isi_ti, isi_li, isi_ss, isi_is, isi_bs, isi_ns, isi_ts, isi_ls, pl4, atI4_0, atI4_1, atI4_2, atI4_3, asInts, asBools, asStrs, Option.map, look, put, drp, drps, startR, List.length_cons, List.length_nil, List.map_cons, List.map_nil, List.replicate, List.append, List.cons_append, List.nil_append, List.append_nil, true_and, and_true, Bool.not_true, Bool.not_false, Nat.zero_add, Nat.reduceAdd, Nat.reduceSub, Nat.reduceLeDiff, Nat.reduceEqDiff, ten6, plains_n, plains_c, plain_t, plain_l, plain_i, plain_s, plain_b, plain_no]
  rw [dSeq_e]
  simp only [↓onB_b, ↓onI_i, ↓onStr_s, ↓onSeq_l, ↓onSeq_t, ↓onSeq_s, ↓onS_s, ↓dFn_e, ↓dVar_e, ↓dC_e, ↓dOp_e, ↓dUn_e, ↓dNil_e, ↓dCons_e, ↓dTup_e, ↓dLst_e, ↓dTest_e, ↓dAnd_e, ↓dOr_e, ↓dNot_e, ↓dAndV_e, ↓dOrV_e, ↓dNotV_e, ↓dIf_e, ↓dChain_e, ↓dCall_e, ↓dCB_e, ↓dNext_e, ↓dRet_e, ↓dDrop_e, ↓dAsg_e, ↓dIfS_e, ↓dRaise_e, ↓dgName_e, ↓dgNil_e, ↓dgCons_e, ↓dgTup_e, ↓dPar_e, ↓dPar3_e, ↓dFor_e, ↓dLc_e, lcL_n, lcL_c, ↓dYes_e, ↓dOver_e, ↓dRng1_e, ↓dRng2_e, ↓dPart_e, ↓dNoPart_e, ↓dMs_e, ↓dIsi_e, ↓dToldC_e, oAdd_ii, oAdd_ss, oAdd_ll, oSub_ii, oMul_ii, oMul_si, oDiv_ii, oMod_ii, oPow_ii, oNeg_i, oEq_ii, oNe_ii, oLt_ii, oLe_ii, oGt_ii, oGe_ii, oIs_e, oIsN_e, oIx_l, oIx_t, oIx_s, oLen_t, oLen_l, oAbs_i, oMax_l, oMin_l, oMin_t, oMax_t, oMax2_ii, oMin2_ii, oAll_l, oSum_l, oTuple_l, oSindex_ss, roll_e, ↓if_t, ↓if_f, if_T, if_F, Bool.false_eq_true, oLen_s, oList_t, oList_l, ↓dSl_e, onSl_l, onSl_s, isi_tt, isi_lt, isi_nt, isi_it, isi_bt, isi_st, isi_ii, isi_ib, isi_bi, isi_bb, isi_si, isi_ni, isi_ti, isi_li, isi_ss, isi_is, isi_bs, isi_ns, isi_ts, isi_ls, pl4, atI4_0, atI4_1, atI4_2, atI4_3, asInts, asBools, asStrs, Option.map, look, put, drp, drps, startR, List.length_cons, List.length_nil, List.map_cons, List.map_nil, List.replicate, List.append, List.cons_append, List.nil_append, List.append_nil, true_and, and_true, Bool.not_true, Bool.not_false, Nat.zero_add, Nat.reduceAdd, Nat.reduceSub, Nat.reduceLeDiff, Nat.reduceEqDiff, ten6, plains_n, plains_c, plain_t, plain_l, plain_i, plain_s, plain_b, plain_no]
  refine ⟨by omega, ?_⟩
  have eN : (m + 1 - 2).toNat = (m - 1).toNat := by omega
  rw [eN]
  refine for_inv (fun xs r => ∃ (j : Nat) (x y : Option PyData), j ≤ (m - 1).toNat ∧ xs = rangeD (2 + (j : Int)) ((m - 1).toNat - j) ∧ r = [some (.int m), some (.int (manyN m j)), x, y]) ?_ ?_ _ _ ⟨0, none, none, Nat.zero_le _, rfl, rfl⟩
  · rintro x xs r k ⟨j, x0, y0, hj, hxs, rfl⟩ hk
    obtain ⟨jl, rfl, rfl⟩ := rng_split hxs
    have e1 : 2 + ((j + 1 : Nat) : Int) = 2 + (j : Int) + 1 := by omega
    have pp : (0 : Int) < 2 + (j : Int) := by omega
    have bd := manyN_b h1 h2 j
    have go : ∀ z : Option PyData, k [some (.int m), some (.int (manyN m (j + 1))), some (.int (2 + (j : Int))), z] := fun z => hk _ ⟨j + 1, _, _, jl, by rw [e1], rfl⟩
    simp only [fmq pp, ↓onB_b, ↓onI_i, ↓onStr_s, ↓onSeq_l, ↓onSeq_t, ↓onSeq_s, ↓onS_s, ↓dFn_e, ↓dVar_e, ↓dC_e, ↓dOp_e, ↓dUn_e, ↓dNil_e, ↓dCons_e, ↓dTup_e, ↓dLst_e, ↓dTest_e, ↓dAnd_e, ↓dOr_e, ↓dNot_e, ↓dAndV_e, ↓dOrV_e, ↓dNotV_e, ↓dIf_e, ↓dChain_e, ↓dCall_e, ↓dCB_e, ↓dNext_e, ↓dRet_e, ↓dDrop_e, ↓dAsg_e, ↓dIfS_e, ↓dRaise_e, ↓dgName_e, ↓dgNil_e, ↓dgCons_e, ↓dgTup_e, ↓dPar_e, ↓dPar3_e, ↓dFor_e, ↓dLc_e, lcL_n, lcL_c, ↓dYes_e, ↓dOver_e, ↓dRng1_e, ↓dRng2_e, ↓dPart_e, ↓dNoPart_e, ↓dMs_e, ↓dIsi_e, ↓dToldC_e, oAdd_ii, oAdd_ss, oAdd_ll, oSub_ii, oMul_ii, oMul_si, oDiv_ii, oMod_ii, oPow_ii, oNeg_i, oEq_ii, oNe_ii, oLt_ii, oLe_ii, oGt_ii, oGe_ii, oIs_e, oIsN_e, oIx_l, oIx_t, oIx_s, oLen_t, oLen_l, oAbs_i, oMax_l, oMin_l, oMin_t, oMax_t, oMax2_ii, oMin2_ii, oAll_l, oSum_l, oTuple_l, oSindex_ss, roll_e, ↓if_t, ↓if_f, if_T, if_F, Bool.false_eq_true, oLen_s, oList_t, oList_l, ↓dSl_e, onSl_l, onSl_s, isi_tt, isi_lt, isi_nt, isi_it, isi_bt, isi_st, isi_ii, isi_ib, isi_bi, isi_bb, isi_si, isi_ni, isi_ti, isi_li, isi_ss, isi_is, isi_bs, isi_ns, isi_ts, isi_ls, pl4, atI4_0, atI4_1, atI4_2, atI4_3, asInts, asBools, asStrs, Option.map, look, put, drp, drps, startR, List.length_cons, List.length_nil, List.map_cons, List.map_nil, List.replicate, List.append, List.cons_append, List.nil_append, List.append_nil, true_and, and_true, Bool.not_true, Bool.not_false, Nat.zero_add, Nat.reduceAdd, Nat.reduceSub, Nat.reduceLeDiff, Nat.reduceEqDiff, ten6, plains_n, plains_c, plain_t, plain_l, plain_i, plain_s, plain_b, plain_no]
    refine ⟨by omega, ?_⟩
    by_cases c1 : m % (2 + (j : Int)) = 0
    · rw [if_pos (decide_eq_true c1)]
      refine ⟨by omega, by rw [rng_len]; omega, ?_⟩
      refine lc_sel (fun _ => true) (modD (2 + (j : Int))) (fun x _ => by cases x <;> rfl) _ _ (fun x hx K1 K2 k1 k2 => ?_) ?_
      · rw [rngD] at hx
        obtain ⟨u, hu, rfl⟩ := List.mem_map.mp hx
        obtain ⟨i, hi, rfl⟩ := List.mem_map.mp hu
        simp only [fmq (show (0 : Int) < 2 + (i : Int) by omega), ↓onB_b, ↓onI_i, ↓onStr_s, ↓onSeq_l, ↓onSeq_t, ↓onSeq_s, ↓onS_s, ↓dFn_e, ↓dVar_e, ↓dC_e, ↓dOp_e, ↓dUn_e, ↓dNil_e, ↓dCons_e, ↓dTup_e, ↓dLst_e, ↓dTest_e, ↓dAnd_e, ↓dOr_e, ↓dNot_e, ↓dAndV_e, ↓dOrV_e, ↓dNotV_e, ↓dIf_e, ↓dChain_e, ↓dCall_e, ↓dCB_e, ↓dNext_e, ↓dRet_e, ↓dDrop_e, ↓dAsg_e, ↓dIfS_e, ↓dRaise_e, ↓dgName_e, ↓dgNil_e, ↓dgCons_e, ↓dgTup_e, ↓dPar_e, ↓dPar3_e, ↓dFor_e, ↓dLc_e, lcL_n, lcL_c, ↓dYes_e, ↓dOver_e, ↓dRng1_e, ↓dRng2_e, ↓dPart_e, ↓dNoPart_e, ↓dMs_e, ↓dIsi_e, ↓dToldC_e, oAdd_ii, oAdd_ss, oAdd_ll, oSub_ii, oMul_ii, oMul_si, oDiv_ii, oMod_ii, oPow_ii, oNeg_i, oEq_ii, oNe_ii, oLt_ii, oLe_ii, oGt_ii, oGe_ii, oIs_e, oIsN_e, oIx_l, oIx_t, oIx_s, oLen_t, oLen_l, oAbs_i, oMax_l, oMin_l, oMin_t, oMax_t, oMax2_ii, oMin2_ii, oAll_l, oSum_l, oTuple_l, oSindex_ss, roll_e, ↓if_t, ↓if_f, if_T, if_F, Bool.false_eq_true, oLen_s, oList_t, oList_l, ↓dSl_e, onSl_l, onSl_s, isi_tt, isi_lt, isi_nt, isi_it, isi_bt, isi_st, isi_ii, isi_ib, isi_bi, isi_bb, isi_si, isi_ni, isi_ti, isi_li, isi_ss, isi_is, isi_bs, isi_ns, isi_ts, isi_ls, pl4, atI4_0, atI4_1, atI4_2, atI4_3, asInts, asBools, asStrs, Option.map, look, put, drp, drps, startR, List.length_cons, List.length_nil, List.map_cons, List.map_nil, List.replicate, List.append, List.cons_append, List.nil_append, List.append_nil, true_and, and_true, Bool.not_true, Bool.not_false, Nat.zero_add, Nat.reduceAdd, Nat.reduceSub, Nat.reduceLeDiff, Nat.reduceEqDiff, ten6, plains_n, plains_c, plain_t, plain_l, plain_i, plain_s, plain_b, plain_no]
        exact ⟨by omega, k1 rfl⟩
      · rw [List.nil_append, map_mod]
        simp only [asBools_map, ↓onB_b, ↓onI_i, ↓onStr_s, ↓onSeq_l, ↓onSeq_t, ↓onSeq_s, ↓onS_s, ↓dFn_e, ↓dVar_e, ↓dC_e, ↓dOp_e, ↓dUn_e, ↓dNil_e, ↓dCons_e, ↓dTup_e, ↓dLst_e, ↓dTest_e, ↓dAnd_e, ↓dOr_e, ↓dNot_e, ↓dAndV_e, ↓dOrV_e, ↓dNotV_e, ↓dIf_e, ↓dChain_e, ↓dCall_e, ↓dCB_e, ↓dNext_e, ↓dRet_e, ↓dDrop_e, ↓dAsg_e, ↓dIfS_e, ↓dRaise_e, ↓dgName_e, ↓dgNil_e, ↓dgCons_e, ↓dgTup_e, ↓dPar_e, ↓dPar3_e, ↓dFor_e, ↓dLc_e, lcL_n, lcL_c, ↓dYes_e, ↓dOver_e, ↓dRng1_e, ↓dRng2_e, ↓dPart_e, ↓dNoPart_e, ↓dMs_e, ↓dIsi_e, ↓dToldC_e, oAdd_ii, oAdd_ss, oAdd_ll, oSub_ii, oMul_ii, oMul_si, oDiv_ii, oMod_ii, oPow_ii, oNeg_i, oEq_ii, oNe_ii, oLt_ii, oLe_ii, oGt_ii, oGe_ii, oIs_e, oIsN_e, oIx_l, oIx_t, oIx_s, oLen_t, oLen_l, oAbs_i, oMax_l, oMin_l, oMin_t, oMax_t, oMax2_ii, oMin2_ii, oAll_l, oSum_l, oTuple_l, oSindex_ss, roll_e, ↓if_t, ↓if_f, if_T, if_F, Bool.false_eq_true, oLen_s, oList_t, oList_l, ↓dSl_e, onSl_l, onSl_s, isi_tt, isi_lt, isi_nt, isi_it, isi_bt, isi_st, isi_ii, isi_ib, isi_bi, isi_bb, isi_si, isi_ni, isi_ti, isi_li, isi_ss, isi_is, isi_bs, isi_ns, isi_ts, isi_ls, pl4, atI4_0, atI4_1, atI4_2, atI4_3, asInts, asBools, asStrs, Option.map, look, put, drp, drps, startR, List.length_cons, List.length_nil, List.map_cons, List.map_nil, List.replicate, List.append, List.cons_append, List.nil_append, List.append_nil, true_and, and_true, Bool.not_true, Bool.not_false, Nat.zero_add, Nat.reduceAdd, Nat.reduceSub, Nat.reduceLeDiff, Nat.reduceEqDiff, ten6, plains_n, plains_c, plain_t, plain_l, plain_i, plain_s, plain_b, plain_no]
        have e2 : ((List.range (2 + (j : Int) - 2).toNat).map fun (i : Nat) => !decide ((2 + (j : Int)) % (2 + (i : Int)) = 0)).all id = primeB (2 + (j : Int)) := rfl
        rw [e2]
        by_cases c2 : primeB (2 + (j : Int)) = true
        · rw [if_pos c2]
          have e3 : manyN m (j + 1) = manyN m j / (2 + (j : Int)) * (2 + (j : Int) + 1) := by
            rw [manyN_s]
            unfold manyS
            rw [if_pos (by rw [decide_eq_true c1, c2]; rfl)]
          have g := go y0
          rw [e3] at g
          have dv : (manyN m j).fdiv (2 + (j : Int)) = manyN m j / (2 + (j : Int)) := Int.fdiv_eq_ediv_of_nonneg _ (by omega)
          refine ⟨⟨by omega, ?_⟩, mokr (by omega), ?_⟩
          · have : (2 + (j : Int)).natAbs < 2 ^ 7 := by omega
            have := PySem.Flt.log2_lt_of (by decide) this
            omega
          · rw [dv]
            exact g
        · rw [if_neg c2]
          have e3 : manyN m (j + 1) = manyN m j := by
            rw [manyN_s]
            unfold manyS
            rw [if_neg (by rw [decide_eq_true c1, Bool.true_and]; exact c2)]
          have g := go y0
          rw [e3] at g
          exact g
    · rw [if_neg (by simp [c1])]
      have e3 : manyN m (j + 1) = manyN m j := by
        rw [manyN_s]
        unfold manyS
        rw [if_neg (by rw [decide_eq_false c1, Bool.false_and]; exact Bool.false_ne_true)]
      have g := go y0
      rw [e3] at g
      exact g
  · rintro r ⟨j, x, y, hj, hxs, rfl⟩
    have := rng_end hxs
    have e : j = (m - 1).toNat := by omega
    subst e
    simp only [↓onB_b, ↓onI_i, ↓onStr_s, ↓onSeq_l, ↓onSeq_t, ↓onSeq_s, ↓onS_s, ↓dFn_e, ↓dVar_e, ↓dC_e, ↓dOp_e, ↓dUn_e, ↓dNil_e, ↓dCons_e, ↓dTup_e, ↓dLst_e, ↓dTest_e, ↓dAnd_e, ↓dOr_e, ↓dNot_e, ↓dAndV_e, ↓dOrV_e, ↓dNotV_e, ↓dIf_e, ↓dChain_e, ↓dCall_e, ↓dCB_e, ↓dNext_e, ↓dRet_e, ↓dDrop_e, ↓dAsg_e, ↓dIfS_e, ↓dRaise_e, ↓dgName_e, ↓dgNil_e, ↓dgCons_e, ↓dgTup_e, ↓dPar_e, ↓dPar3_e, ↓dFor_e, ↓dLc_e, lcL_n, lcL_c, ↓dYes_e, ↓dOver_e, ↓dRng1_e, ↓dRng2_e, ↓dPart_e, ↓dNoPart_e, ↓dMs_e, ↓dIsi_e, ↓dToldC_e, oAdd_ii, oAdd_ss, oAdd_ll, oSub_ii, oMul_ii, oMul_si, oDiv_ii, oMod_ii, oPow_ii, oNeg_i, oEq_ii, oNe_ii, oLt_ii, oLe_ii, oGt_ii, oGe_ii, oIs_e, oIsN_e, oIx_l, oIx_t, oIx_s, oLen_t, oLen_l, oAbs_i, oMax_l, oMin_l, oMin_t, oMax_t, oMax2_ii, oMin2_ii, oAll_l, oSum_l, oTuple_l, oSindex_ss, roll_e, ↓if_t, ↓if_f, if_T, if_F, Bool.false_eq_true, oLen_s, oList_t, oList_l, ↓dSl_e, onSl_l, onSl_s, isi_tt, isi_lt, isi_nt, isi_it, isi_bt, isi_st, isi_ii, isi_ib, isi_bi, isi_bb, isi_si, isi_ni, isi_ti, isi_li, isi_ss, isi_is, isi_bs, isi_ns, isi_ts, isi_ls, pl4, atI4_0, atI4_1, atI4_2, atI4_3, asInts, asBools, asStrs, Option.map, look, put, drp, drps, startR, List.length_cons, List.length_nil, List.map_cons, List.map_nil, List.replicate, List.append, List.cons_append, List.nil_append, List.append_nil, true_and, and_true, Bool.not_true, Bool.not_false, Nat.zero_add, Nat.reduceAdd, Nat.reduceSub, Nat.reduceLeDiff, Nat.reduceEqDiff, ten6, plains_n, plains_c, plain_t, plain_l, plain_i, plain_s, plain_b, plain_no]
    exact h

theorem ltTwo {m : M} (h : m.le 144) : m.le 1000000 := h.mono (by decide)
theorem plain_law : law_plain := by
  show b_law_body _ _ _ _
  rw [b_law_body, dSeq_e]
  simp only [↓onB_b, ↓onI_i, ↓onStr_s, ↓onSeq_l, ↓onSeq_t, ↓onSeq_s, ↓onS_s, ↓dFn_e, ↓dVar_e, ↓dC_e, ↓dOp_e, ↓dUn_e, ↓dNil_e, ↓dCons_e, ↓dTup_e, ↓dLst_e, ↓dTest_e, ↓dAnd_e, ↓dOr_e, ↓dNot_e, ↓dAndV_e, ↓dOrV_e, ↓dNotV_e, ↓dIf_e, ↓dChain_e, ↓dCall_e, ↓dCB_e, ↓dNext_e, ↓dRet_e, ↓dDrop_e, ↓dAsg_e, ↓dIfS_e, ↓dRaise_e, ↓dgName_e, ↓dgNil_e, ↓dgCons_e, ↓dgTup_e, ↓dPar_e, ↓dPar3_e, ↓dFor_e, ↓dLc_e, lcL_n, lcL_c, ↓dYes_e, ↓dOver_e, ↓dRng1_e, ↓dRng2_e, ↓dPart_e, ↓dNoPart_e, ↓dMs_e, ↓dIsi_e, ↓dToldC_e, oAdd_ii, oAdd_ss, oAdd_ll, oSub_ii, oMul_ii, oMul_si, oDiv_ii, oMod_ii, oPow_ii, oNeg_i, oEq_ii, oNe_ii, oLt_ii, oLe_ii, oGt_ii, oGe_ii, oIs_e, oIsN_e, oIx_l, oIx_t, oIx_s, oLen_t, oLen_l, oAbs_i, oMax_l, oMin_l, oMin_t, oMax_t, oMax2_ii, oMin2_ii, oAll_l, oSum_l, oTuple_l, oSindex_ss, roll_e, ↓if_t, ↓if_f, if_T, if_F, Bool.false_eq_true, oLen_s, oList_t, oList_l, ↓dSl_e, onSl_l, onSl_s, isi_tt, isi_lt, isi_nt, isi_it, isi_bt, isi_st, isi_ii, isi_ib, isi_bi, isi_bb, isi_si, isi_ni, isi_ti, isi_li, isi_ss, isi_is, isi_bs, isi_ns, isi_ts, isi_ls, pl4, atI4_0, atI4_1, atI4_2, atI4_3, asInts, asBools, asStrs, Option.map, look, put, drp, drps, startR, List.length_cons, List.length_nil, List.map_cons, List.map_nil, List.replicate, List.append, List.cons_append, List.nil_append, List.append_nil, true_and, and_true, Bool.not_true, Bool.not_false, Nat.zero_add, Nat.reduceAdd, Nat.reduceSub, Nat.reduceLeDiff, Nat.reduceEqDiff, ten6, plains_n, plains_c, plain_t, plain_l, plain_i, plain_s, plain_b, plain_no]
  refine ⟨by decide, by decide, fun i i0 i1 => ?_⟩
  have n1 : 2 ≤ 2 + i := by omega
  have n2 : 2 + i ≤ 30 := by omega
  generalize 2 + i = m at n1 n2
  have F := facts_at n1 n2
  have m0 : m ≠ 0 := by omega
  have fe := fmq (show 0 < m by omega)
  rw [dSeq_e]
  simp only [↓onB_b, ↓onI_i, ↓onStr_s, ↓onSeq_l, ↓onSeq_t, ↓onSeq_s, ↓onS_s, ↓dFn_e, ↓dVar_e, ↓dC_e, ↓dOp_e, ↓dUn_e, ↓dNil_e, ↓dCons_e, ↓dTup_e, ↓dLst_e, ↓dTest_e, ↓dAnd_e, ↓dOr_e, ↓dNot_e, ↓dAndV_e, ↓dOrV_e, ↓dNotV_e, ↓dIf_e, ↓dChain_e, ↓dCall_e, ↓dCB_e, ↓dNext_e, ↓dRet_e, ↓dDrop_e, ↓dAsg_e, ↓dIfS_e, ↓dRaise_e, ↓dgName_e, ↓dgNil_e, ↓dgCons_e, ↓dgTup_e, ↓dPar_e, ↓dPar3_e, ↓dFor_e, ↓dLc_e, lcL_n, lcL_c, ↓dYes_e, ↓dOver_e, ↓dRng1_e, ↓dRng2_e, ↓dPart_e, ↓dNoPart_e, ↓dMs_e, ↓dIsi_e, ↓dToldC_e, oAdd_ii, oAdd_ss, oAdd_ll, oSub_ii, oMul_ii, oMul_si, oDiv_ii, oMod_ii, oPow_ii, oNeg_i, oEq_ii, oNe_ii, oLt_ii, oLe_ii, oGt_ii, oGe_ii, oIs_e, oIsN_e, oIx_l, oIx_t, oIx_s, oLen_t, oLen_l, oAbs_i, oMax_l, oMin_l, oMin_t, oMax_t, oMax2_ii, oMin2_ii, oAll_l, oSum_l, oTuple_l, oSindex_ss, roll_e, ↓if_t, ↓if_f, if_T, if_F, Bool.false_eq_true, oLen_s, oList_t, oList_l, ↓dSl_e, onSl_l, onSl_s, isi_tt, isi_lt, isi_nt, isi_it, isi_bt, isi_st, isi_ii, isi_ib, isi_bi, isi_bb, isi_si, isi_ni, isi_ti, isi_li, isi_ss, isi_is, isi_bs, isi_ns, isi_ts, isi_ls, pl4, atI4_0, atI4_1, atI4_2, atI4_3, asInts, asBools, asStrs, Option.map, look, put, drp, drps, startR, List.length_cons, List.length_nil, List.map_cons, List.map_nil, List.replicate, List.append, List.cons_append, List.nil_append, List.append_nil, true_and, and_true, Bool.not_true, Bool.not_false, Nat.zero_add, Nat.reduceAdd, Nat.reduceSub, Nat.reduceLeDiff, Nat.reduceEqDiff, ten6, plains_n, plains_c, plain_t, plain_l, plain_i, plain_s, plain_b, plain_no]
  refine all_classes_ok n1 n2 ?_
  rw [dSeq_e]
  simp only [↓onB_b, ↓onI_i, ↓onStr_s, ↓onSeq_l, ↓onSeq_t, ↓onSeq_s, ↓onS_s, ↓dFn_e, ↓dVar_e, ↓dC_e, ↓dOp_e, ↓dUn_e, ↓dNil_e, ↓dCons_e, ↓dTup_e, ↓dLst_e, ↓dTest_e, ↓dAnd_e, ↓dOr_e, ↓dNot_e, ↓dAndV_e, ↓dOrV_e, ↓dNotV_e, ↓dIf_e, ↓dChain_e, ↓dCall_e, ↓dCB_e, ↓dNext_e, ↓dRet_e, ↓dDrop_e, ↓dAsg_e, ↓dIfS_e, ↓dRaise_e, ↓dgName_e, ↓dgNil_e, ↓dgCons_e, ↓dgTup_e, ↓dPar_e, ↓dPar3_e, ↓dFor_e, ↓dLc_e, lcL_n, lcL_c, ↓dYes_e, ↓dOver_e, ↓dRng1_e, ↓dRng2_e, ↓dPart_e, ↓dNoPart_e, ↓dMs_e, ↓dIsi_e, ↓dToldC_e, oAdd_ii, oAdd_ss, oAdd_ll, oSub_ii, oMul_ii, oMul_si, oDiv_ii, oMod_ii, oPow_ii, oNeg_i, oEq_ii, oNe_ii, oLt_ii, oLe_ii, oGt_ii, oGe_ii, oIs_e, oIsN_e, oIx_l, oIx_t, oIx_s, oLen_t, oLen_l, oAbs_i, oMax_l, oMin_l, oMin_t, oMax_t, oMax2_ii, oMin2_ii, oAll_l, oSum_l, oTuple_l, oSindex_ss, roll_e, ↓if_t, ↓if_f, if_T, if_F, Bool.false_eq_true, oLen_s, oList_t, oList_l, ↓dSl_e, onSl_l, onSl_s, isi_tt, isi_lt, isi_nt, isi_it, isi_bt, isi_st, isi_ii, isi_ib, isi_bi, isi_bb, isi_si, isi_ni, isi_ti, isi_li, isi_ss, isi_is, isi_bs, isi_ns, isi_ts, isi_ls, pl4, atI4_0, atI4_1, atI4_2, atI4_3, asInts, asBools, asStrs, Option.map, look, put, drp, drps, startR, List.length_cons, List.length_nil, List.map_cons, List.map_nil, List.replicate, List.append, List.cons_append, List.nil_append, List.append_nil, true_and, and_true, Bool.not_true, Bool.not_false, Nat.zero_add, Nat.reduceAdd, Nat.reduceSub, Nat.reduceLeDiff, Nat.reduceEqDiff, ten6, plains_n, plains_c, plain_t, plain_l, plain_i, plain_s, plain_b, plain_no]
  refine law_many_ok n1 n2 ?_
  rw [List.length_map, F.many, oNe_ii, onB_b, decide_eq_true rfl, Bool.not_true, if_f, dSS_q (a := dVar 3) rfl, asPairs_map, onS_s]
  refine ⟨F.few, F.hash, fun qs pm so => ?_⟩
  rw [F.only pm so]
  refine ne_ll ?_
  rw [if_f, dSeq_e]
  simp only [↓onB_b, ↓onI_i, ↓onStr_s, ↓onSeq_l, ↓onSeq_t, ↓onSeq_s, ↓onS_s, ↓dFn_e, ↓dVar_e, ↓dC_e, ↓dOp_e, ↓dUn_e, ↓dNil_e, ↓dCons_e, ↓dTup_e, ↓dLst_e, ↓dTest_e, ↓dAnd_e, ↓dOr_e, ↓dNot_e, ↓dAndV_e, ↓dOrV_e, ↓dNotV_e, ↓dIf_e, ↓dChain_e, ↓dCall_e, ↓dCB_e, ↓dNext_e, ↓dRet_e, ↓dDrop_e, ↓dAsg_e, ↓dIfS_e, ↓dRaise_e, ↓dgName_e, ↓dgNil_e, ↓dgCons_e, ↓dgTup_e, ↓dPar_e, ↓dPar3_e, ↓dFor_e, ↓dLc_e, lcL_n, lcL_c, ↓dYes_e, ↓dOver_e, ↓dRng1_e, ↓dRng2_e, ↓dPart_e, ↓dNoPart_e, ↓dMs_e, ↓dIsi_e, ↓dToldC_e, oAdd_ii, oAdd_ss, oAdd_ll, oSub_ii, oMul_ii, oMul_si, oDiv_ii, oMod_ii, oPow_ii, oNeg_i, oEq_ii, oNe_ii, oLt_ii, oLe_ii, oGt_ii, oGe_ii, oIs_e, oIsN_e, oIx_l, oIx_t, oIx_s, oLen_t, oLen_l, oAbs_i, oMax_l, oMin_l, oMin_t, oMax_t, oMax2_ii, oMin2_ii, oAll_l, oSum_l, oTuple_l, oSindex_ss, roll_e, ↓if_t, ↓if_f, if_T, if_F, Bool.false_eq_true, oLen_s, oList_t, oList_l, ↓dSl_e, onSl_l, onSl_s, isi_tt, isi_lt, isi_nt, isi_it, isi_bt, isi_st, isi_ii, isi_ib, isi_bi, isi_bb, isi_si, isi_ni, isi_ti, isi_li, isi_ss, isi_is, isi_bs, isi_ns, isi_ts, isi_ls, pl4, atI4_0, atI4_1, atI4_2, atI4_3, asInts, asBools, asStrs, Option.map, look, put, drp, drps, startR, List.length_cons, List.length_nil, List.map_cons, List.map_nil, List.replicate, List.append, List.cons_append, List.nil_append, List.append_nil, true_and, and_true, Bool.not_true, Bool.not_false, Nat.zero_add, Nat.reduceAdd, Nat.reduceSub, Nat.reduceLeDiff, Nat.reduceEqDiff, ten6, plains_n, plains_c, plain_t, plain_l, plain_i, plain_s, plain_b, plain_no]
  refine ⟨by decide, by decide, by decide, ?_⟩
  refine lc_any (fun y => ∃ T : M, y = T.p ∧ T.det = 1 ∧ T.le 144) (fun y ⟨T, e, _⟩ => by rw [e]; rfl) _ _ _ (fun x _ k hk => ?_) fun ys hl hy => ?_
  · simp only [↓onB_b, ↓onI_i, ↓onStr_s, ↓onSeq_l, ↓onSeq_t, ↓onSeq_s, ↓onS_s, ↓dFn_e, ↓dVar_e, ↓dC_e, ↓dOp_e, ↓dUn_e, ↓dNil_e, ↓dCons_e, ↓dTup_e, ↓dLst_e, ↓dTest_e, ↓dAnd_e, ↓dOr_e, ↓dNot_e, ↓dAndV_e, ↓dOrV_e, ↓dNotV_e, ↓dIf_e, ↓dChain_e, ↓dCall_e, ↓dCB_e, ↓dNext_e, ↓dRet_e, ↓dDrop_e, ↓dAsg_e, ↓dIfS_e, ↓dRaise_e, ↓dgName_e, ↓dgNil_e, ↓dgCons_e, ↓dgTup_e, ↓dPar_e, ↓dPar3_e, ↓dFor_e, ↓dLc_e, lcL_n, lcL_c, ↓dYes_e, ↓dOver_e, ↓dRng1_e, ↓dRng2_e, ↓dPart_e, ↓dNoPart_e, ↓dMs_e, ↓dIsi_e, ↓dToldC_e, oAdd_ii, oAdd_ss, oAdd_ll, oSub_ii, oMul_ii, oMul_si, oDiv_ii, oMod_ii, oPow_ii, oNeg_i, oEq_ii, oNe_ii, oLt_ii, oLe_ii, oGt_ii, oGe_ii, oIs_e, oIsN_e, oIx_l, oIx_t, oIx_s, oLen_t, oLen_l, oAbs_i, oMax_l, oMin_l, oMin_t, oMax_t, oMax2_ii, oMin2_ii, oAll_l, oSum_l, oTuple_l, oSindex_ss, roll_e, ↓if_t, ↓if_f, if_T, if_F, Bool.false_eq_true, oLen_s, oList_t, oList_l, ↓dSl_e, onSl_l, onSl_s, isi_tt, isi_lt, isi_nt, isi_it, isi_bt, isi_st, isi_ii, isi_ib, isi_bi, isi_bb, isi_si, isi_ni, isi_ti, isi_li, isi_ss, isi_is, isi_bs, isi_ns, isi_ts, isi_ls, pl4, atI4_0, atI4_1, atI4_2, atI4_3, asInts, asBools, asStrs, Option.map, look, put, drp, drps, startR, List.length_cons, List.length_nil, List.map_cons, List.map_nil, List.replicate, List.append, List.cons_append, List.nil_append, List.append_nil, true_and, and_true, Bool.not_true, Bool.not_false, Nat.zero_add, Nat.reduceAdd, Nat.reduceSub, Nat.reduceLeDiff, Nat.reduceEqDiff, ten6, plains_n, plains_c, plain_t, plain_l, plain_i, plain_s, plain_b, plain_no]
    exact law_any_table_ok fun T t1 t2 => hk _ ⟨T, rfl, t1, t2⟩
  rw [rng_len] at hl
  rw [List.nil_append, dSeq_e]
  simp only [↓onB_b, ↓onI_i, ↓onStr_s, ↓onSeq_l, ↓onSeq_t, ↓onSeq_s, ↓onS_s, ↓dFn_e, ↓dVar_e, ↓dC_e, ↓dOp_e, ↓dUn_e, ↓dNil_e, ↓dCons_e, ↓dTup_e, ↓dLst_e, ↓dTest_e, ↓dAnd_e, ↓dOr_e, ↓dNot_e, ↓dAndV_e, ↓dOrV_e, ↓dNotV_e, ↓dIf_e, ↓dChain_e, ↓dCall_e, ↓dCB_e, ↓dNext_e, ↓dRet_e, ↓dDrop_e, ↓dAsg_e, ↓dIfS_e, ↓dRaise_e, ↓dgName_e, ↓dgNil_e, ↓dgCons_e, ↓dgTup_e, ↓dPar_e, ↓dPar3_e, ↓dFor_e, ↓dLc_e, lcL_n, lcL_c, ↓dYes_e, ↓dOver_e, ↓dRng1_e, ↓dRng2_e, ↓dPart_e, ↓dNoPart_e, ↓dMs_e, ↓dIsi_e, ↓dToldC_e, oAdd_ii, oAdd_ss, oAdd_ll, oSub_ii, oMul_ii, oMul_si, oDiv_ii, oMod_ii, oPow_ii, oNeg_i, oEq_ii, oNe_ii, oLt_ii, oLe_ii, oGt_ii, oGe_ii, oIs_e, oIsN_e, oIx_l, oIx_t, oIx_s, oLen_t, oLen_l, oAbs_i, oMax_l, oMin_l, oMin_t, oMax_t, oMax2_ii, oMin2_ii, oAll_l, oSum_l, oTuple_l, oSindex_ss, roll_e, ↓if_t, ↓if_f, if_T, if_F, Bool.false_eq_true, oLen_s, oList_t, oList_l, ↓dSl_e, onSl_l, onSl_s, isi_tt, isi_lt, isi_nt, isi_it, isi_bt, isi_st, isi_ii, isi_ib, isi_bi, isi_bb, isi_si, isi_ni, isi_ti, isi_li, isi_ss, isi_is, isi_bs, isi_ns, isi_ts, isi_ls, pl4, atI4_0, atI4_1, atI4_2, atI4_3, asInts, asBools, asStrs, Option.map, look, put, drp, drps, startR, List.length_cons, List.length_nil, List.map_cons, List.map_nil, List.replicate, List.append, List.cons_append, List.nil_append, List.append_nil, true_and, and_true, Bool.not_true, Bool.not_false, Nat.zero_add, Nat.reduceAdd, Nat.reduceSub, Nat.reduceLeDiff, Nat.reduceEqDiff, ten6, plains_n, plains_c, plain_t, plain_l, plain_i, plain_s, plain_b, plain_no]
  refine for_inv (fun xs r => (∀ y ∈ xs, y ∈ ys) ∧ ∃ x y z : Option PyData, r = [none, some dice, some (.int m), some (.tuple ((cls m).map pD)), some (.list ys), x, none, y, z, none]) ?_ ?_ _ _ ⟨fun y h => h, _, _, _, rfl⟩
  · rintro x xs r k ⟨hx, o1, o2, o3, rfl⟩ hk
    obtain ⟨A, rfl, a1, a2⟩ := hy _ (hx x List.mem_cons_self)
    have hx' : ∀ y ∈ xs, y ∈ ys := fun y h => hx y (List.mem_cons_of_mem _ h)
    rw [dgName_e, dSeq_e]
    simp only [↓onB_b, ↓onI_i, ↓onStr_s, ↓onSeq_l, ↓onSeq_t, ↓onSeq_s, ↓onS_s, ↓dFn_e, ↓dVar_e, ↓dC_e, ↓dOp_e, ↓dUn_e, ↓dNil_e, ↓dCons_e, ↓dTup_e, ↓dLst_e, ↓dTest_e, ↓dAnd_e, ↓dOr_e, ↓dNot_e, ↓dAndV_e, ↓dOrV_e, ↓dNotV_e, ↓dIf_e, ↓dChain_e, ↓dCall_e, ↓dCB_e, ↓dNext_e, ↓dRet_e, ↓dDrop_e, ↓dAsg_e, ↓dIfS_e, ↓dRaise_e, ↓dgName_e, ↓dgNil_e, ↓dgCons_e, ↓dgTup_e, ↓dPar_e, ↓dPar3_e, ↓dFor_e, ↓dLc_e, lcL_n, lcL_c, ↓dYes_e, ↓dOver_e, ↓dRng1_e, ↓dRng2_e, ↓dPart_e, ↓dNoPart_e, ↓dMs_e, ↓dIsi_e, ↓dToldC_e, oAdd_ii, oAdd_ss, oAdd_ll, oSub_ii, oMul_ii, oMul_si, oDiv_ii, oMod_ii, oPow_ii, oNeg_i, oEq_ii, oNe_ii, oLt_ii, oLe_ii, oGt_ii, oGe_ii, oIs_e, oIsN_e, oIx_l, oIx_t, oIx_s, oLen_t, oLen_l, oAbs_i, oMax_l, oMin_l, oMin_t, oMax_t, oMax2_ii, oMin2_ii, oAll_l, oSum_l, oTuple_l, oSindex_ss, roll_e, ↓if_t, ↓if_f, if_T, if_F, Bool.false_eq_true, oLen_s, oList_t, oList_l, ↓dSl_e, onSl_l, onSl_s, isi_tt, isi_lt, isi_nt, isi_it, isi_bt, isi_st, isi_ii, isi_ib, isi_bi, isi_bb, isi_si, isi_ni, isi_ti, isi_li, isi_ss, isi_is, isi_bs, isi_ns, isi_ts, isi_ls, pl4, atI4_0, atI4_1, atI4_2, atI4_3, asInts, asBools, asStrs, Option.map, look, put, drp, drps, startR, List.length_cons, List.length_nil, List.map_cons, List.map_nil, List.replicate, List.append, List.cons_append, List.nil_append, List.append_nil, true_and, and_true, Bool.not_true, Bool.not_false, Nat.zero_add, Nat.reduceAdd, Nat.reduceSub, Nat.reduceLeDiff, Nat.reduceEqDiff, ten6, plains_n, plains_c, plain_t, plain_l, plain_i, plain_s, plain_b, plain_no]
    refine class_of_ok a1 (ltTwo a2) n1 n2 (law_pair_ok n1 n2 (ne_pp ?_))
    rw [decide_eq_true rfl, Bool.not_true, if_f]
    refine class_of_ok a1 (ltTwo a2) n1 n2 (nin_pp ?_)
    rw [decide_eq_true (lp_in n1 a1), Bool.not_true, if_f]
    refine for_inv (fun zs r => (∀ y ∈ zs, y ∈ ys) ∧ ∃ y z : Option PyData, r = [none, some dice, some (.int m), some (.tuple ((cls m).map pD)), some (.list ys), some A.p, none, y, z, none]) ?_ ?_ _ _ ⟨fun y h => h, _, _, rfl⟩
    · rintro x zs r k2 ⟨hz, p1, p2, rfl⟩ hk2
      obtain ⟨B, rfl, b1, b2⟩ := hy _ (hz x List.mem_cons_self)
      have hz' : ∀ y ∈ zs, y ∈ ys := fun y h => hz y (List.mem_cons_of_mem _ h)
      rw [dgName_e, dSeq_e]
      simp only [↓onB_b, ↓onI_i, ↓onStr_s, ↓onSeq_l, ↓onSeq_t, ↓onSeq_s, ↓onS_s, ↓dFn_e, ↓dVar_e, ↓dC_e, ↓dOp_e, ↓dUn_e, ↓dNil_e, ↓dCons_e, ↓dTup_e, ↓dLst_e, ↓dTest_e, ↓dAnd_e, ↓dOr_e, ↓dNot_e, ↓dAndV_e, ↓dOrV_e, ↓dNotV_e, ↓dIf_e, ↓dChain_e, ↓dCall_e, ↓dCB_e, ↓dNext_e, ↓dRet_e, ↓dDrop_e, ↓dAsg_e, ↓dIfS_e, ↓dRaise_e, ↓dgName_e, ↓dgNil_e, ↓dgCons_e, ↓dgTup_e, ↓dPar_e, ↓dPar3_e, ↓dFor_e, ↓dLc_e, lcL_n, lcL_c, ↓dYes_e, ↓dOver_e, ↓dRng1_e, ↓dRng2_e, ↓dPart_e, ↓dNoPart_e, ↓dMs_e, ↓dIsi_e, ↓dToldC_e, oAdd_ii, oAdd_ss, oAdd_ll, oSub_ii, oMul_ii, oMul_si, oDiv_ii, oMod_ii, oPow_ii, oNeg_i, oEq_ii, oNe_ii, oLt_ii, oLe_ii, oGt_ii, oGe_ii, oIs_e, oIsN_e, oIx_l, oIx_t, oIx_s, oLen_t, oLen_l, oAbs_i, oMax_l, oMin_l, oMin_t, oMax_t, oMax2_ii, oMin2_ii, oAll_l, oSum_l, oTuple_l, oSindex_ss, roll_e, ↓if_t, ↓if_f, if_T, if_F, Bool.false_eq_true, oLen_s, oList_t, oList_l, ↓dSl_e, onSl_l, onSl_s, isi_tt, isi_lt, isi_nt, isi_it, isi_bt, isi_st, isi_ii, isi_ib, isi_bi, isi_bb, isi_si, isi_ni, isi_ti, isi_li, isi_ss, isi_is, isi_bs, isi_ns, isi_ts, isi_ls, pl4, atI4_0, atI4_1, atI4_2, atI4_3, asInts, asBools, asStrs, Option.map, look, put, drp, drps, startR, List.length_cons, List.length_nil, List.map_cons, List.map_nil, List.replicate, List.append, List.cons_append, List.nil_append, List.append_nil, true_and, and_true, Bool.not_true, Bool.not_false, Nat.zero_add, Nat.reduceAdd, Nat.reduceSub, Nat.reduceLeDiff, Nat.reduceEqDiff, ten6, plains_n, plains_c, plain_t, plain_l, plain_i, plain_s, plain_b, plain_no]
      refine law_inverse_ok (law_times_ok (m := A) (n := B.inv) (a2.mono (by decide)) ?_)
      simp only [fe, ↓onB_b, ↓onI_i, ↓onStr_s, ↓onSeq_l, ↓onSeq_t, ↓onSeq_s, ↓onS_s, ↓dFn_e, ↓dVar_e, ↓dC_e, ↓dOp_e, ↓dUn_e, ↓dNil_e, ↓dCons_e, ↓dTup_e, ↓dLst_e, ↓dTest_e, ↓dAnd_e, ↓dOr_e, ↓dNot_e, ↓dAndV_e, ↓dOrV_e, ↓dNotV_e, ↓dIf_e, ↓dChain_e, ↓dCall_e, ↓dCB_e, ↓dNext_e, ↓dRet_e, ↓dDrop_e, ↓dAsg_e, ↓dIfS_e, ↓dRaise_e, ↓dgName_e, ↓dgNil_e, ↓dgCons_e, ↓dgTup_e, ↓dPar_e, ↓dPar3_e, ↓dFor_e, ↓dLc_e, lcL_n, lcL_c, ↓dYes_e, ↓dOver_e, ↓dRng1_e, ↓dRng2_e, ↓dPart_e, ↓dNoPart_e, ↓dMs_e, ↓dIsi_e, ↓dToldC_e, oAdd_ii, oAdd_ss, oAdd_ll, oSub_ii, oMul_ii, oMul_si, oDiv_ii, oMod_ii, oPow_ii, oNeg_i, oEq_ii, oNe_ii, oLt_ii, oLe_ii, oGt_ii, oGe_ii, oIs_e, oIsN_e, oIx_l, oIx_t, oIx_s, oLen_t, oLen_l, oAbs_i, oMax_l, oMin_l, oMin_t, oMax_t, oMax2_ii, oMin2_ii, oAll_l, oSum_l, oTuple_l, oSindex_ss, roll_e, ↓if_t, ↓if_f, if_T, if_F, Bool.false_eq_true, oLen_s, oList_t, oList_l, ↓dSl_e, onSl_l, onSl_s, isi_tt, isi_lt, isi_nt, isi_it, isi_bt, isi_st, isi_ii, isi_ib, isi_bi, isi_bb, isi_si, isi_ni, isi_ti, isi_li, isi_ss, isi_is, isi_bs, isi_ns, isi_ts, isi_ls, pl4, atI4_0, atI4_1, atI4_2, atI4_3, asInts, asBools, asStrs, Option.map, look, put, drp, drps, startR, List.length_cons, List.length_nil, List.map_cons, List.map_nil, List.replicate, List.append, List.cons_append, List.nil_append, List.append_nil, true_and, and_true, Bool.not_true, Bool.not_false, Nat.zero_add, Nat.reduceAdd, Nat.reduceSub, Nat.reduceLeDiff, Nat.reduceEqDiff, ten6, plains_n, plains_c, plain_t, plain_l, plain_i, plain_s, plain_b, plain_no]
      refine ⟨m0, ?_⟩
      refine class_of_ok a1 (ltTwo a2) n1 n2 (class_of_ok b1 (ltTwo b2) n1 n2 (eq_pp ?_))
      rw [oNe_bb, onB_b, lp_same n1 a1 b1, decide_eq_true rfl, Bool.not_true, if_f]
      exact hk2 _ ⟨hz', _, _, rfl⟩
    · rintro r ⟨_, p1, p2, rfl⟩
      exact hk _ ⟨hx', _, _, _, rfl⟩
  · rintro r ⟨_, o1, o2, o3, rfl⟩
    rw [dSeq_e]
    simp only [↓onB_b, ↓onI_i, ↓onStr_s, ↓onSeq_l, ↓onSeq_t, ↓onSeq_s, ↓onS_s, ↓dFn_e, ↓dVar_e, ↓dC_e, ↓dOp_e, ↓dUn_e, ↓dNil_e, ↓dCons_e, ↓dTup_e, ↓dLst_e, ↓dTest_e, ↓dAnd_e, ↓dOr_e, ↓dNot_e, ↓dAndV_e, ↓dOrV_e, ↓dNotV_e, ↓dIf_e, ↓dChain_e, ↓dCall_e, ↓dCB_e, ↓dNext_e, ↓dRet_e, ↓dDrop_e, ↓dAsg_e, ↓dIfS_e, ↓dRaise_e, ↓dgName_e, ↓dgNil_e, ↓dgCons_e, ↓dgTup_e, ↓dPar_e, ↓dPar3_e, ↓dFor_e, ↓dLc_e, lcL_n, lcL_c, ↓dYes_e, ↓dOver_e, ↓dRng1_e, ↓dRng2_e, ↓dPart_e, ↓dNoPart_e, ↓dMs_e, ↓dIsi_e, ↓dToldC_e, oAdd_ii, oAdd_ss, oAdd_ll, oSub_ii, oMul_ii, oMul_si, oDiv_ii, oMod_ii, oPow_ii, oNeg_i, oEq_ii, oNe_ii, oLt_ii, oLe_ii, oGt_ii, oGe_ii, oIs_e, oIsN_e, oIx_l, oIx_t, oIx_s, oLen_t, oLen_l, oAbs_i, oMax_l, oMin_l, oMin_t, oMax_t, oMax2_ii, oMin2_ii, oAll_l, oSum_l, oTuple_l, oSindex_ss, roll_e, ↓if_t, ↓if_f, if_T, if_F, Bool.false_eq_true, oLen_s, oList_t, oList_l, ↓dSl_e, onSl_l, onSl_s, isi_tt, isi_lt, isi_nt, isi_it, isi_bt, isi_st, isi_ii, isi_ib, isi_bi, isi_bb, isi_si, isi_ni, isi_ti, isi_li, isi_ss, isi_is, isi_bs, isi_ns, isi_ts, isi_ls, pl4, atI4_0, atI4_1, atI4_2, atI4_3, asInts, asBools, asStrs, Option.map, look, put, drp, drps, startR, List.length_cons, List.length_nil, List.map_cons, List.map_nil, List.replicate, List.append, List.cons_append, List.nil_append, List.append_nil, true_and, and_true, Bool.not_true, Bool.not_false, Nat.zero_add, Nat.reduceAdd, Nat.reduceSub, Nat.reduceLeDiff, Nat.reduceEqDiff, ten6, plains_n, plains_c, plain_t, plain_l, plain_i, plain_s, plain_b, plain_no]
    refine class_of_ok (T := .one) rfl (by decide) n1 n2 ?_
    have l01 : lp m (M.one.c, M.one.d) = (0, 1) := F.l01
    rw [l01]
    refine ne_pp (p := (0, 1)) (q := (0, 1)) ?_
    rw [decide_eq_true rfl, Bool.not_true, if_f]
    refine nin_pp (p := (0, 1)) ?_
    rw [decide_eq_true F.m01, Bool.not_true, if_f]
    refine nin_pp (p := (1, 0)) ?_
    rw [decide_eq_true F.m10, Bool.not_true, if_f]
    obtain ⟨T, e0, t1, t2⟩ : ∃ T : M, atI ys 0 = some T.p ∧ T.det = 1 ∧ T.le 144 := by
      match ys, hl, hy with
      | [y0, y1, y2, y3, y4], _, hy =>
        obtain ⟨T, rfl, h⟩ := hy y0 List.mem_cons_self
        exact ⟨T, rfl, h⟩
    refine for_inv (fun xs r => (∀ d ∈ xs, ∀ (Q : PyData → Prop) (E : Nat → Prop), E 7 → f_need_modulus [d] Q E) ∧ ∃ x, r = [none, some dice, some (.int m), some (.tuple ((cls m).map pD)), some (.list ys), o1, x, o2, o3, none]) ?_ ?_ _ _ ⟨?_, _, rfl⟩
    · rintro d xs r k ⟨hb, x, rfl⟩ hk
      rw [dgName_e, dSeq_e]
      simp only [e0, ↓onB_b, ↓onI_i, ↓onStr_s, ↓onSeq_l, ↓onSeq_t, ↓onSeq_s, ↓onS_s, ↓dFn_e, ↓dVar_e, ↓dC_e, ↓dOp_e, ↓dUn_e, ↓dNil_e, ↓dCons_e, ↓dTup_e, ↓dLst_e, ↓dTest_e, ↓dAnd_e, ↓dOr_e, ↓dNot_e, ↓dAndV_e, ↓dOrV_e, ↓dNotV_e, ↓dIf_e, ↓dChain_e, ↓dCall_e, ↓dCB_e, ↓dNext_e, ↓dRet_e, ↓dDrop_e, ↓dAsg_e, ↓dIfS_e, ↓dRaise_e, ↓dgName_e, ↓dgNil_e, ↓dgCons_e, ↓dgTup_e, ↓dPar_e, ↓dPar3_e, ↓dFor_e, ↓dLc_e, lcL_n, lcL_c, ↓dYes_e, ↓dOver_e, ↓dRng1_e, ↓dRng2_e, ↓dPart_e, ↓dNoPart_e, ↓dMs_e, ↓dIsi_e, ↓dToldC_e, oAdd_ii, oAdd_ss, oAdd_ll, oSub_ii, oMul_ii, oMul_si, oDiv_ii, oMod_ii, oPow_ii, oNeg_i, oEq_ii, oNe_ii, oLt_ii, oLe_ii, oGt_ii, oGe_ii, oIs_e, oIsN_e, oIx_l, oIx_t, oIx_s, oLen_t, oLen_l, oAbs_i, oMax_l, oMin_l, oMin_t, oMax_t, oMax2_ii, oMin2_ii, oAll_l, oSum_l, oTuple_l, oSindex_ss, roll_e, ↓if_t, ↓if_f, if_T, if_F, Bool.false_eq_true, oLen_s, oList_t, oList_l, ↓dSl_e, onSl_l, onSl_s, isi_tt, isi_lt, isi_nt, isi_it, isi_bt, isi_st, isi_ii, isi_ib, isi_bi, isi_bb, isi_si, isi_ni, isi_ti, isi_li, isi_ss, isi_is, isi_bs, isi_ns, isi_ts, isi_ls, pl4, atI4_0, atI4_1, atI4_2, atI4_3, asInts, asBools, asStrs, Option.map, look, put, drp, drps, startR, List.length_cons, List.length_nil, List.map_cons, List.map_nil, List.replicate, List.append, List.cons_append, List.nil_append, List.append_nil, true_and, and_true, Bool.not_true, Bool.not_false, Nat.zero_add, Nat.reduceAdd, Nat.reduceSub, Nat.reduceLeDiff, Nat.reduceEqDiff, ten6, plains_n, plains_c, plain_t, plain_l, plain_i, plain_s, plain_b, plain_no]
      refine told_bad (c := 7) (by decide) (fun Q E h => class_of_bad t1 (ltTwo t2) (hb d List.mem_cons_self) h) (ne_errB rfl ?_)
      rw [if_f]
      refine told_bad (c := 7) (by decide) (fun Q E h => all_classes_bad (hb d List.mem_cons_self) h) (ne_errB rfl ?_)
      rw [if_f]
      exact hk _ ⟨fun e he => hb e (List.mem_cons_of_mem _ he), _, rfl⟩
    · rintro r _
      trivial
    · intro d hd
      simp only [List.mem_cons, List.not_mem_nil, or_false] at hd
      rcases hd with rfl | rfl | rfl | rfl
      · exact fun Q E h => need_modulus_far (by decide) h
      · exact fun Q E h => need_modulus_far (by decide) h
      · exact fun Q E h => need_modulus_bad (fun Q E lo hi h => by rw [is_whole_b]; exact h) h
      · exact fun Q E h => need_modulus_bad (fun Q E lo hi h => by rw [is_whole_n]; exact h) h

end Tz
namespace Tz
open PySem PySem.Spec PyProof.Rows L2
def topS (i : Nat) : Stmt := PySem.Challenge.pw_turnshifts_k19_whole_classes.main.body.getD i (.Pass ⟨0, 0, 0, 0⟩)
section
variable {P : Program} {w : World} {K : PySem.W.Frag} {mg : Str → Option Value} {base : Heap} {ec : Nat → Addr}
abbrev s_is_number : Stmt := topS 19
abbrev N_is_number : List Str := ["value"]
theorem sc_is_number : FnScope N_is_number ["value"] (defScope s_is_number) := ⟨rfl, rfl, rfl, by decide +kernel, rfl, by decide +kernel, by decide +kernel⟩
theorem ok_is_number (A : Ga)  (B : Blt mg) (D : Def0 K mg "is_number" s_is_number) : Dfn P w K mg base 1 "is_number" ["value"] (lift K ec GPany 1 f_is_number) :=
  dfn_of (k := 0) (hadd := addAny) (t := fun E => t_is_number ⟨K, ec, GPany, E, addAny⟩ A) D sc_is_number rfl rfl (by decide) (fun _ _ _ _ _ _ us hl => match us, hl with | [_], _ => rfl) (fun f cdv A0 outer s H E hr =>
    have tk := bcx_takes (P := P) (w := w) (K := K) (mg := mg) (base := base) (N := N_is_number) (qual := "is_number") (scope := defScope s_is_number) (f := f) (cd := cdv) (A := A0) (outer := outer) (s := s) (H := H) (E := E)
    have own := bcx_own (P := P) (w := w) (K := K) (mg := mg) (base := base) (N := N_is_number) (qual := "is_number") (scope := defScope s_is_number) (f := f) (cd := cdv) (A := A0) (outer := outer) (s := s) (H := H) (E := E)
    (pss_one (ps_ret (pe_and (pe_callB call_isi (by rfl) B.isinstance (by decide +kernel) (pa_cons (pv 0) (pa_cons (pe_bltn (by rfl) B.int (by decide +kernel) rfl) pa_nil))) (pe_one (pe_not (pe_callB call_isi (by rfl) B.isinstance (by decide +kernel) (pa_cons (pv 0) (pa_cons (pe_bltn (by rfl) B.bool (by decide +kernel) rfl) pa_nil))))))))) (fun E => sim_is_number _ A)
abbrev s_are_four : Stmt := topS 21
abbrev N_are_four : List Str := ["value", "one"]
theorem sc_are_four : FnScope N_are_four ["value"] (defScope s_are_four) := ⟨rfl, rfl, rfl, by decide +kernel, rfl, by decide +kernel, by decide +kernel⟩
theorem ok_are_four (A : Ga)  (B : Blt mg) (D_is_number : Dfn P w K mg base 1 "is_number" ["value"] (lift K ec GPany 1 f_is_number)) (D : Def0 K mg "are_four" s_are_four) : Dfn P w K mg base 2 "are_four" ["value"] (lift K ec GPany 1 f_are_four) :=
  dfn_of (k := 1) (hadd := addAny) (t := fun E => t_are_four ⟨K, ec, GPany, E, addAny⟩ A) D sc_are_four rfl rfl (by decide) (fun _ _ _ _ _ _ us hl => match us, hl with | [_], _ => rfl) (fun f cdv A0 outer s H E hr =>
    have tk := bcx_takes (P := P) (w := w) (K := K) (mg := mg) (base := base) (N := N_are_four) (qual := "are_four") (scope := defScope s_are_four) (f := f) (cd := cdv) (A := A0) (outer := outer) (s := s) (H := H) (E := E)
    have own := bcx_own (P := P) (w := w) (K := K) (mg := mg) (base := base) (N := N_are_four) (qual := "are_four") (scope := defScope s_are_four) (f := f) (cd := cdv) (A := A0) (outer := outer) (s := s) (H := H) (E := E)
    (pss_cons (ps_if (PW.pt (pw_or (pt_not (pt_val (pe_callB call_isi (by rfl) B.isinstance (by decide +kernel) (pa_cons (pv 0) (pa_cons (pe_bltn (by rfl) B.tuple (by decide +kernel) rfl) pa_nil))))) (pw_or (pt_cmpR (op_neU hr.units) (pe_callB call_lenU (by rfl) B.len PySem.boot_len (pa_cons (pv 0) pa_nil)) pe_int (nomark _)) (pw_or1 (pt_not (pt_val (pe_callB (cr_all rfl) (by rfl) B.all (by decide +kernel) (pa_cons (pe_lc (own := [(("one" : Str), 1)]) (g := (gName 1)) (tt := tYes) (by rfl) sc_are_four.nd (pi_any (pv 0)) (blkOk_by (own := [(("one" : Str), 1)]) (N := N_are_four) (sc := defScope s_are_four) (by decide +kernel)) (fun _ _ _ _ _ => (pg_name (i := 1) sc_are_four.nd rfl (.inl rfl))) (fun _ _ _ _ _ => pts_nil) (fun _ _ _ _ _ => (pe_cl D_is_number blk_takes (hr.mono (by decide)) (by rfl) (pa_cons (pv 1) pa_nil)))) pa_nil)))))))) (pss_one (ps_ret pe_bl)) pss_nil) (pss_one (ps_ret (pe_cmpR (op_eqU hr.units) (pe_op op_sub (pe_op op_mulU (pe_ix ix_seq (pv 0) pe_int (fun _ _ => rfl)) (pe_ix ix_seq (pv 0) pe_int (fun _ _ => rfl))) (pe_op op_mulU (pe_ix ix_seq (pv 0) pe_int (fun _ _ => rfl)) (pe_ix ix_seq (pv 0) pe_int (fun _ _ => rfl)))) pe_int (nomark _)))))) (fun E => sim_are_four _ A)
abbrev s_is_table : Stmt := topS 22
abbrev N_is_table : List Str := ["value", "one"]
theorem sc_is_table : FnScope N_is_table ["value"] (defScope s_is_table) := ⟨rfl, rfl, rfl, by decide +kernel, rfl, by decide +kernel, by decide +kernel⟩
theorem ok_is_table (A : Ga)  (B : Blt mg) (D_are_four : Dfn P w K mg base 2 "are_four" ["value"] (lift K ec GPany 1 f_are_four)) (D : Def0 K mg "is_table" s_is_table) : Dfn P w K mg base 3 "is_table" ["value"] (lift K ec GPany 1 f_is_table) :=
  dfn_of (k := 2) (hadd := addAny) (t := fun E => t_is_table ⟨K, ec, GPany, E, addAny⟩ A) D sc_is_table rfl rfl (by decide) (fun _ _ _ _ _ _ us hl => match us, hl with | [_], _ => rfl) (fun f cdv A0 outer s H E hr =>
    have tk := bcx_takes (P := P) (w := w) (K := K) (mg := mg) (base := base) (N := N_is_table) (qual := "is_table") (scope := defScope s_is_table) (f := f) (cd := cdv) (A := A0) (outer := outer) (s := s) (H := H) (E := E)
    have own := bcx_own (P := P) (w := w) (K := K) (mg := mg) (base := base) (N := N_is_table) (qual := "is_table") (scope := defScope s_is_table) (f := f) (cd := cdv) (A := A0) (outer := outer) (s := s) (H := H) (E := E)
    (pss_one (ps_ret (pe_and (pe_cl D_are_four tk (hr.mono (by decide)) (by rfl) (pa_cons (pv 0) pa_nil)) (pe_one (pe_cmpR op_le (pe_callB (cr_maxU rfl) (by rfl) B.max (by decide +kernel) (pa_cons (pe_lc (own := [(("one" : Str), 1)]) (g := (gName 1)) (tt := tYes) (by rfl) sc_is_table.nd (pi_any (pv 0)) (blkOk_by (own := [(("one" : Str), 1)]) (N := N_is_table) (sc := defScope s_is_table) (by decide +kernel)) (fun _ _ _ _ _ => (pg_name (i := 1) sc_is_table.nd rfl (.inl rfl))) (fun _ _ _ _ _ => pts_nil) (fun _ _ _ _ _ => (pe_callB call_abs (by rfl) B.abs (by decide +kernel) (pa_cons (pv 1) pa_nil)))) pa_nil)) (pe_op op_powU pe_int pe_int) (nomark _))))))) (fun E => sim_is_table _ A)
abbrev s_need_table : Stmt := topS 23
abbrev N_need_table : List Str := ["table"]
theorem sc_need_table : FnScope N_need_table ["table"] (defScope s_need_table) := ⟨rfl, rfl, rfl, by decide +kernel, rfl, by decide +kernel, by decide +kernel⟩
theorem ok_need_table (A : Ga)  (X_InvalidTable : ExF K mg "InvalidTable" (ec 0)) (D_is_table : Dfn P w K mg base 3 "is_table" ["value"] (lift K ec GPany 1 f_is_table)) (D : Def0 K mg "need_table" s_need_table) : Dfn P w K mg base 4 "need_table" ["table"] (lift K ec GPany 1 f_need_table) :=
  dfn_of (k := 3) (hadd := addAny) (t := fun E => t_need_table ⟨K, ec, GPany, E, addAny⟩ A) D sc_need_table rfl rfl (by decide) (fun _ _ _ _ _ _ us hl => match us, hl with | [_], _ => rfl) (fun f cdv A0 outer s H E hr =>
    have tk := bcx_takes (P := P) (w := w) (K := K) (mg := mg) (base := base) (N := N_need_table) (qual := "need_table") (scope := defScope s_need_table) (f := f) (cd := cdv) (A := A0) (outer := outer) (s := s) (H := H) (E := E)
    have own := bcx_own (P := P) (w := w) (K := K) (mg := mg) (base := base) (N := N_need_table) (qual := "need_table") (scope := defScope s_need_table) (f := f) (cd := cdv) (A := A0) (outer := outer) (s := s) (H := H) (E := E)
    (pss_one (ps_if (pt_not (pt_val (pe_cl D_is_table tk (hr.mono (by decide)) (by rfl) (pa_cons (pv 0) pa_nil)))) (pss_one (L2N.ps_raise (by rfl) tk (L2N.pmk_own PySem.F.excBase_ValueError X_InvalidTable.xP X_InvalidTable.gP X_InvalidTable.kP (raises_own X_InvalidTable.bP X_InvalidTable.tP) (by rfl)))) pss_nil))) (fun E => sim_need_table _ A)
abbrev s_is_whole : Stmt := topS 20
abbrev N_is_whole : List Str := ["value", "low", "high"]
theorem sc_is_whole : FnScope N_is_whole ["value", "low", "high"] (defScope s_is_whole) := ⟨rfl, rfl, rfl, by decide +kernel, rfl, by decide +kernel, by decide +kernel⟩
theorem ok_is_whole (A : Ga)  (D_is_number : Dfn P w K mg base 1 "is_number" ["value"] (lift K ec GPany 1 f_is_number)) (D : Def0 K mg "is_whole" s_is_whole) : Dfn P w K mg base 2 "is_whole" ["value", "low", "high"] (lift K ec GPany 3 f_is_whole) :=
  dfn_of (k := 1) (hadd := addAny) (t := fun E => t_is_whole ⟨K, ec, GPany, E, addAny⟩ A) D sc_is_whole rfl rfl (by decide) (fun _ _ _ _ _ _ us hl => match us, hl with | [_, _, _], _ => rfl) (fun f cdv A0 outer s H E hr =>
    have tk := bcx_takes (P := P) (w := w) (K := K) (mg := mg) (base := base) (N := N_is_whole) (qual := "is_whole") (scope := defScope s_is_whole) (f := f) (cd := cdv) (A := A0) (outer := outer) (s := s) (H := H) (E := E)
    have own := bcx_own (P := P) (w := w) (K := K) (mg := mg) (base := base) (N := N_is_whole) (qual := "is_whole") (scope := defScope s_is_whole) (f := f) (cd := cdv) (A := A0) (outer := outer) (s := s) (H := H) (E := E)
    (pss_one (ps_ret (pe_and (pe_cl D_is_number tk (hr.mono (by decide)) (by rfl) (pa_cons (pv 0) pa_nil)) (pe_one (pe_chain op_le op_le (pv 1) (pv 0) (pv 2))))))) (fun E => sim_is_whole _ A)
abbrev s_need_modulus : Stmt := topS 27
abbrev N_need_modulus : List Str := ["modulus"]
theorem sc_need_modulus : FnScope N_need_modulus ["modulus"] (defScope s_need_modulus) := ⟨rfl, rfl, rfl, by decide +kernel, rfl, by decide +kernel, by decide +kernel⟩
theorem ok_need_modulus (A : Ga)  (X_InvalidModulus : ExF K mg "InvalidModulus" (ec 7)) (D_is_whole : Dfn P w K mg base 2 "is_whole" ["value", "low", "high"] (lift K ec GPany 3 f_is_whole)) (D : Def0 K mg "need_modulus" s_need_modulus) : Dfn P w K mg base 3 "need_modulus" ["modulus"] (lift K ec GPany 1 f_need_modulus) :=
  dfn_of (k := 2) (hadd := addAny) (t := fun E => t_need_modulus ⟨K, ec, GPany, E, addAny⟩ A) D sc_need_modulus rfl rfl (by decide) (fun _ _ _ _ _ _ us hl => match us, hl with | [_], _ => rfl) (fun f cdv A0 outer s H E hr =>
    have tk := bcx_takes (P := P) (w := w) (K := K) (mg := mg) (base := base) (N := N_need_modulus) (qual := "need_modulus") (scope := defScope s_need_modulus) (f := f) (cd := cdv) (A := A0) (outer := outer) (s := s) (H := H) (E := E)
    have own := bcx_own (P := P) (w := w) (K := K) (mg := mg) (base := base) (N := N_need_modulus) (qual := "need_modulus") (scope := defScope s_need_modulus) (f := f) (cd := cdv) (A := A0) (outer := outer) (s := s) (H := H) (E := E)
    (pss_one (ps_if (pt_not (pt_val (pe_cl D_is_whole tk (hr.mono (by decide)) (by rfl) (pa_cons (pv 0) (pa_cons pe_int (pa_cons pe_int pa_nil)))))) (pss_one (L2N.ps_raise (by rfl) tk (L2N.pmk_own PySem.F.excBase_ValueError X_InvalidModulus.xP X_InvalidModulus.gP X_InvalidModulus.kP (raises_own X_InvalidModulus.bP X_InvalidModulus.tP) (by rfl)))) pss_nil))) (fun E => sim_need_modulus _ A)
abbrev s_divisor : Stmt := topS 25
abbrev N_divisor : List Str := ["one", "other"]
theorem sc_divisor : FnScope N_divisor ["one", "other"] (defScope s_divisor) := ⟨rfl, rfl, rfl, by decide +kernel, rfl, by decide +kernel, by decide +kernel⟩
theorem ok_divisor (A : Ga)  (B : Blt mg) (D : Def0 K mg "divisor" s_divisor) : Dfn P w K mg base 1 "divisor" ["one", "other"] (lift K ec GPany 2 f_divisor) :=
  dfn_of (k := 0) (hadd := addAny) (t := fun E => t_divisor ⟨K, ec, GPany, E, addAny⟩ A) D sc_divisor rfl rfl (by decide) (fun _ _ _ _ _ _ us hl => match us, hl with | [_, _], _ => rfl) (fun f cdv A0 outer s H E hr =>
    have tk := bcx_takes (P := P) (w := w) (K := K) (mg := mg) (base := base) (N := N_divisor) (qual := "divisor") (scope := defScope s_divisor) (f := f) (cd := cdv) (A := A0) (outer := outer) (s := s) (H := H) (E := E)
    have own := bcx_own (P := P) (w := w) (K := K) (mg := mg) (base := base) (N := N_divisor) (qual := "divisor") (scope := defScope s_divisor) (f := f) (cd := cdv) (A := A0) (outer := outer) (s := s) (H := H) (E := E)
    (pss_cons (ps_par (by rfl) sc_divisor.nd rfl rfl (by decide) rfl rfl (pa_cons (pe_callB call_abs (by rfl) B.abs (by decide +kernel) (pa_cons (pv 0) pa_nil)) (pa_cons (pe_callB call_abs (by rfl) B.abs (by decide +kernel) (pa_cons (pv 1) pa_nil)) pa_nil)) (by rfl)) (pss_cons (ps_while own (pt_truth (pv 1) (by intro _; rfl)) (pss_one (ps_par (by rfl) sc_divisor.nd rfl rfl (by decide) rfl rfl (pa_cons (pv 1) (pa_cons (pe_op op_modU (pv 0) (pv 1)) pa_nil)) (by rfl)))) (pss_one (ps_ret (pv 0)))))) (fun E => sim_divisor _ A)
abbrev s_units_of : Stmt := topS 28
abbrev N_units_of : List Str := ["m", "u"]
theorem sc_units_of : FnScope N_units_of ["m"] (defScope s_units_of) := ⟨rfl, rfl, rfl, by decide +kernel, rfl, by decide +kernel, by decide +kernel⟩
theorem ok_units_of (A : Ga)  (B : Blt mg) (D_divisor : Dfn P w K mg base 1 "divisor" ["one", "other"] (lift K ec GPany 2 f_divisor)) (D : Def0 K mg "units_of" s_units_of) : Dfn P w K mg base 2 "units_of" ["m"] (lift K ec GPany 1 f_units_of) :=
  dfn_of (k := 1) (hadd := addAny) (t := fun E => t_units_of ⟨K, ec, GPany, E, addAny⟩ A) D sc_units_of rfl rfl (by decide) (fun _ _ _ _ _ _ us hl => match us, hl with | [_], _ => rfl) (fun f cdv A0 outer s H E hr =>
    have tk := bcx_takes (P := P) (w := w) (K := K) (mg := mg) (base := base) (N := N_units_of) (qual := "units_of") (scope := defScope s_units_of) (f := f) (cd := cdv) (A := A0) (outer := outer) (s := s) (H := H) (E := E)
    have own := bcx_own (P := P) (w := w) (K := K) (mg := mg) (base := base) (N := N_units_of) (qual := "units_of") (scope := defScope s_units_of) (f := f) (cd := cdv) (A := A0) (outer := outer) (s := s) (H := H) (E := E)
    (pss_one (ps_ret (pe_lc (own := [(("u" : Str), 1)]) (g := (gName 1)) (tt := (tTest (tOp (rEqU K) (tCallS (lift K ec GPany 2 f_divisor) (fun _ => (fun _ _ _ => False : XK)) (tCons (tVar 1) (tCons (tVar 0) tNil))) (tC (.int 1))))) (by rfl) sc_units_of.nd (pi_range2 (by rfl) B.range (pa_cons pe_int (pa_cons (pv 0) pa_nil))) (blkOk_by (own := [(("u" : Str), 1)]) (N := N_units_of) (sc := defScope s_units_of) (by decide +kernel)) (fun _ _ _ _ _ => (pg_name (i := 1) sc_units_of.nd rfl (.inl rfl))) (fun _ _ _ _ _ => (pts_one (pt_cmpR (op_eqU hr.units) (pe_cl D_divisor blk_takes (hr.mono (by decide)) (by rfl) (pa_cons (pv 1) (pa_cons (pv 0) pa_nil))) pe_int (nomark _)))) (fun _ _ _ _ _ => (pv 1)))))) (fun E => sim_units_of _ A)
abbrev s_first_pair : Stmt := topS 29
abbrev N_first_pair : List Str := ["c", "d", "m", "u"]
theorem sc_first_pair : FnScope N_first_pair ["c", "d", "m"] (defScope s_first_pair) := ⟨rfl, rfl, rfl, by decide +kernel, rfl, by decide +kernel, by decide +kernel⟩
theorem okT_first_pair (A : Ga) (B : Blt mg) (D_units_of : Dfn P w K mg base 2 "units_of" ["m"] (lift K ec GPany 1 f_units_of)) (D : Def0 K mg "first_pair" s_first_pair) : Dfn P w K mg base 3 "first_pair" ["c", "d", "m"] (liftT K ec GPany 3 f_first_pair) :=
  dfn_ofT (k := 2) (hadd := addAny) (t := fun E => t_first_pair ⟨K, ec, GPany, E, addAny⟩ A) D sc_first_pair rfl rfl (by decide) (fun _ _ _ _ _ _ us hl => match us, hl with | [_, _, _], _ => rfl) (fun f cdv A0 outer s H E hr =>
    have tk := bcx_takes (P := P) (w := w) (K := K) (mg := mg) (base := base) (N := N_first_pair) (qual := "first_pair") (scope := defScope s_first_pair) (f := f) (cd := cdv) (A := A0) (outer := outer) (s := s) (H := H) (E := E)
    have own := bcx_own (P := P) (w := w) (K := K) (mg := mg) (base := base) (N := N_first_pair) (qual := "first_pair") (scope := defScope s_first_pair) (f := f) (cd := cdv) (A := A0) (outer := outer) (s := s) (H := H) (E := E)
    pss_one (ps_ret (pe_callB (cr_minP rfl (hu_of hr)) (by rfl) B.min (by decide +kernel) (pa_cons (pe_lc (own := [(("u" : Str), 3)]) (g := (gName 3)) (tt := tYes) (by rfl) sc_first_pair.nd (pi_any (pe_cl D_units_of tk (hr.mono (by decide)) (by rfl) (pa_cons (pv 2) pa_nil))) (blkOk_by (own := [(("u" : Str), 3)]) (N := N_first_pair) (sc := defScope s_first_pair) (by decide +kernel)) (fun _ _ _ _ _ => (pg_name (i := 3) sc_first_pair.nd rfl (.inl rfl))) (fun _ _ _ _ _ => pts_nil) (fun _ _ _ _ _ => (pe_tup (pa_cons (pe_op op_modU (pe_op op_mulU (pv 3) (pv 0)) (pv 2)) (pa_cons (pe_op op_modU (pe_op op_mulU (pv 3) (pv 1)) (pv 2)) pa_nil))))) pa_nil)))) (fun E => sim_first_pair _ A)
theorem ok_first_pair (A : Ga) (B : Blt mg) (D_units_of : Dfn P w K mg base 2 "units_of" ["m"] (lift K ec GPany 1 f_units_of)) (D : Def0 K mg "first_pair" s_first_pair) : Dfn P w K mg base 3 "first_pair" ["c", "d", "m"] (lift K ec GPany 3 f_first_pair) := dfn_un (okT_first_pair A B D_units_of D)
abbrev s_class_of : Stmt := topS 30
abbrev N_class_of : List Str := ["table", "modulus"]
theorem sc_class_of : FnScope N_class_of ["table", "modulus"] (defScope s_class_of) := ⟨rfl, rfl, rfl, by decide +kernel, rfl, by decide +kernel, by decide +kernel⟩
theorem ok_class_of (A : Ga)  (D_need_table : Dfn P w K mg base 4 "need_table" ["table"] (lift K ec GPany 1 f_need_table)) (D_need_modulus : Dfn P w K mg base 3 "need_modulus" ["modulus"] (lift K ec GPany 1 f_need_modulus)) (D_first_pair : Dfn P w K mg base 3 "first_pair" ["c", "d", "m"] (lift K ec GPany 3 f_first_pair)) (D : Def0 K mg "class_of" s_class_of) : Dfn P w K mg base 5 "class_of" ["table", "modulus"] (lift K ec GPany 2 f_class_of) :=
  dfn_of (k := 4) (hadd := addAny) (t := fun E => t_class_of ⟨K, ec, GPany, E, addAny⟩ A) D sc_class_of rfl rfl (by decide) (fun _ _ _ _ _ _ us hl => match us, hl with | [_, _], _ => rfl) (fun f cdv A0 outer s H E hr =>
    have tk := bcx_takes (P := P) (w := w) (K := K) (mg := mg) (base := base) (N := N_class_of) (qual := "class_of") (scope := defScope s_class_of) (f := f) (cd := cdv) (A := A0) (outer := outer) (s := s) (H := H) (E := E)
    have own := bcx_own (P := P) (w := w) (K := K) (mg := mg) (base := base) (N := N_class_of) (qual := "class_of") (scope := defScope s_class_of) (f := f) (cd := cdv) (A := A0) (outer := outer) (s := s) (H := H) (E := E)
    (pss_cons (ps_expr (pe_cl D_need_table tk (hr.mono (by decide)) (by rfl) (pa_cons (pv 0) pa_nil))) (pss_cons (ps_expr (pe_cl D_need_modulus tk (hr.mono (by decide)) (by rfl) (pa_cons (pv 1) pa_nil))) (pss_one (ps_ret (pe_cl D_first_pair tk (hr.mono (by decide)) (by rfl) (pa_cons (pe_ix ix_seq (pv 0) pe_int (fun _ _ => rfl)) (pa_cons (pe_ix ix_seq (pv 0) pe_int (fun _ _ => rfl)) (pa_cons (pv 1) pa_nil))))))))) (fun E => sim_class_of _ A)
abbrev s_all_classes : Stmt := topS 31
abbrev N_all_classes : List Str := ["modulus", "found", "c", "d"]
theorem sc_all_classes : FnScope N_all_classes ["modulus"] (defScope s_all_classes) := ⟨rfl, rfl, rfl, by decide +kernel, rfl, by decide +kernel, by decide +kernel⟩
theorem ok_all_classes (A : Ga)  (B : Blt mg) (D_divisor : Dfn P w K mg base 1 "divisor" ["one", "other"] (lift K ec GPany 2 f_divisor)) (D_need_modulus : Dfn P w K mg base 3 "need_modulus" ["modulus"] (lift K ec GPany 1 f_need_modulus)) (DT_first_pair : Dfn P w K mg base 3 "first_pair" ["c", "d", "m"] (liftT K ec GPany 3 f_first_pair)) (D : Def0 K mg "all_classes" s_all_classes) : Dfn P w K mg base 4 "all_classes" ["modulus"] (lift K ec GPany 1 f_all_classes) :=
  dfn_of (k := 3) (hadd := addAny) (t := fun E => t_all_classes ⟨K, ec, GPany, E, addAny⟩ A) D sc_all_classes rfl rfl (by decide) (fun _ _ _ _ _ _ us hl => match us, hl with | [_], _ => rfl) (fun f cdv A0 outer s H E hr =>
    have tk := bcx_takes (P := P) (w := w) (K := K) (mg := mg) (base := base) (N := N_all_classes) (qual := "all_classes") (scope := defScope s_all_classes) (f := f) (cd := cdv) (A := A0) (outer := outer) (s := s) (H := H) (E := E)
    have own := bcx_own (P := P) (w := w) (K := K) (mg := mg) (base := base) (N := N_all_classes) (qual := "all_classes") (scope := defScope s_all_classes) (f := f) (cd := cdv) (A := A0) (outer := outer) (s := s) (H := H) (E := E)
    (pss_cons (ps_expr (pe_cl D_need_modulus tk (hr.mono (by decide)) (by rfl) (pa_cons (pv 0) pa_nil))) (pss_cons (ps_set (i := 1) sc_all_classes.nd rfl (.inl rfl) pe_dnewT) (pss_cons (ps_for own (by rfl) (pi_range1 (by rfl) B.range (pa_cons (pv 0) pa_nil)) (pg_name (i := 2) sc_all_classes.nd rfl (.inl rfl)) (pss_one (ps_for own (by rfl) (pi_range1 (by rfl) B.range (pa_cons (pv 0) pa_nil)) (pg_name (i := 3) sc_all_classes.nd rfl (.inl rfl)) (pss_one (ps_if (pt_cmpR (op_eqU hr.units) (pe_cl D_divisor tk (hr.mono (by decide)) (by rfl) (pa_cons (pe_cl D_divisor tk (hr.mono (by decide)) (by rfl) (pa_cons (pv 2) (pa_cons (pv 3) pa_nil))) (pa_cons (pv 0) pa_nil))) pe_int (nomark _)) (pss_one (ps_dput (hu_of hr) (pv 1) (pe_cl DT_first_pair tk (hr.mono (by decide)) (by rfl) (pa_cons (pv 2) (pa_cons (pv 3) (pa_cons (pv 0) pa_nil)))) pe_bl (by rfl))) pss_nil))))) (pss_one (ps_ret (pe_callTy call_tupleU (by rfl) B.tuple (by decide +kernel) (pa_cons (pe_callB cr_sortedPO (by rfl) B.sorted (by decide +kernel) (pa_cons (pe_callTy (cr_listT rfl) (by rfl) B.list (by decide +kernel) (pa_cons (pv 1) pa_nil)) pa_nil)) pa_nil)))))))) (fun E => sim_all_classes _ A)
abbrev s_law_drawn : Stmt := topS 34
abbrev N_law_drawn : List Str := ["cell", "k", "more"]
theorem sc_law_drawn : FnScope N_law_drawn ["cell", "k"] (defScope s_law_drawn) := ⟨rfl, rfl, rfl, by decide +kernel, rfl, by decide +kernel, by decide +kernel⟩
theorem ok_law_drawn (A : Ga)  (D : Def0 K mg "_law_drawn" s_law_drawn) : Dfn P w K mg base 1 "_law_drawn" ["cell", "k"] (lift K ec GPany 2 f_law_drawn) :=
  dfn_of (k := 0) (hadd := addAny) (t := fun E => t_law_drawn ⟨K, ec, GPany, E, addAny⟩ A) D sc_law_drawn rfl rfl (by decide) (fun _ _ _ _ _ _ us hl => match us, hl with | [_, _], _ => rfl) (fun f cdv A0 outer s H E hr =>
    have tk := bcx_takes (P := P) (w := w) (K := K) (mg := mg) (base := base) (N := N_law_drawn) (qual := "_law_drawn") (scope := defScope s_law_drawn) (f := f) (cd := cdv) (A := A0) (outer := outer) (s := s) (H := H) (E := E)
    have own := bcx_own (P := P) (w := w) (K := K) (mg := mg) (base := base) (N := N_law_drawn) (qual := "_law_drawn") (scope := defScope s_law_drawn) (f := f) (cd := cdv) (A := A0) (outer := outer) (s := s) (H := H) (E := E)
    (pss_cons (ps_set (i := 2) sc_law_drawn.nd rfl (.inl rfl) (pe_op op_modU (pe_op op_addU (pe_op op_mulU (pv 0) pe_int) (pe_op op_mulU (pe_op op_addU (pv 1) pe_int) pe_int)) pe_int)) (pss_cons (ps_set (i := 2) sc_law_drawn.nd rfl (.inl rfl) (pe_op op_modU (pe_op op_mulU (pv 2) (pv 2)) pe_int)) (pss_cons (ps_set (i := 2) sc_law_drawn.nd rfl (.inl rfl) (pe_op op_mulU (pe_op op_mulU (pe_op op_addU (pe_op op_modU (pv 2) pe_int) pe_int) (pe_op op_addU (pe_op op_divU (pv 2) pe_int) pe_int)) (pv 2))) (pss_one (ps_ret (pe_op op_modU (pv 2) pe_int))))))) (fun E => sim_law_drawn _ A)
abbrev s_law_roll : Stmt := topS 35
abbrev N_law_roll : List Str := ["dice", "many", "told"]
theorem sc_law_roll : FnScope N_law_roll ["dice", "many"] (defScope s_law_roll) := ⟨rfl, rfl, rfl, by decide +kernel, rfl, by decide +kernel, by decide +kernel⟩
theorem ok_law_roll (D_law_drawn : Dfn P w K mg base 1 "_law_drawn" ["cell", "k"] (lift K ec GPany 2 f_law_drawn)) (D : Def0 K mg "_law_roll" s_law_roll) : Dfn P w K mg base 2 "_law_roll" ["dice", "many"] (lift K ec GPr 2 f_law_roll) :=
  dfn_raw (k := 1) (t := fun E => t_law_roll K ec E) D sc_law_roll (fun _ _ _ _ _ _ us hl => match us, hl with | [_, _], _ => rfl) (fun vs H Q E h => by obtain ⟨G, ds, Q0, E0, gp, j, r, hl, _⟩ := h; rw [r.len, hl]; rfl) (fun f cdv A0 outer s H E hr =>
    have tk := bcx_takes (P := P) (w := w) (K := K) (mg := mg) (base := base) (N := N_law_roll) (qual := "_law_roll") (scope := defScope s_law_roll) (f := f) (cd := cdv) (A := A0) (outer := outer) (s := s) (H := H) (E := E)
    have own := bcx_own (P := P) (w := w) (K := K) (mg := mg) (base := base) (N := N_law_roll) (qual := "_law_roll") (scope := defScope s_law_roll) (f := f) (cd := cdv) (A := A0) (outer := outer) (s := s) (H := H) (E := E)
    (pss_cons (ps_if (pt_cmpR op_ge (pe_ix ix_list (pv 0) pe_int (fun _ _ => rfl)) (pe_op op_powU pe_int pe_int) (nomark _)) (pss_cons (ps_set (i := 2) sc_law_roll.nd rfl (.inl rfl) (pe_op op_modU (pe_ix ix_list (pv 0) pe_int (fun _ _ => rfl)) (pv 1))) (pss_cons (ps_asg (pe_op op_divU (pe_ix ix_list (pv 0) pe_int (fun _ _ => rfl)) (pv 1)) (pg_sub (pv 0) pe_int set_list (fun _ => rfl))) (pss_one (ps_ret (pv 2))))) pss_nil) (pss_cons (ps_asg (pe_op op_add (pe_ix ix_list (pv 0) pe_int (fun _ _ => rfl)) pe_int) (pg_sub (pv 0) pe_int set_list (fun _ => rfl))) (pss_one (ps_ret (pe_op op_modU (pe_op op_divU (pe_cl D_law_drawn tk (hr.mono (by decide)) (by rfl) (pa_cons (pe_ix ix_list (pv 0) pe_int (fun _ _ => rfl)) (pa_cons (pe_ix ix_list (pv 0) pe_int (fun _ _ => rfl)) pa_nil))) pe_int) (pv 1))))))) (fun vs H Q E h => roll_reads h)
abbrev s_law_cell : Stmt := topS 33
abbrev N_law_cell : List Str := ["script", "k"]
theorem sc_law_cell : FnScope N_law_cell ["script", "k"] (defScope s_law_cell) := ⟨rfl, rfl, rfl, by decide +kernel, rfl, by decide +kernel, by decide +kernel⟩
theorem ok_law_cell (B : Blt mg) (D : Def0 K mg "_law_cell" s_law_cell) : Dfn P w K mg base 1 "_law_cell" ["script", "k"] (spCell K) :=
  dfn_raw (k := 0) (t := fun E => t_law_cell K) D sc_law_cell (fun _ _ _ _ _ _ us hl => match us, hl with | [_, _], _ => rfl) (fun vs H Q E h => by obtain ⟨a, k, ns, rfl, _⟩ := h; rfl) (fun f cdv A0 outer s H E hr =>
    have tk := bcx_takes (P := P) (w := w) (K := K) (mg := mg) (base := base) (N := N_law_cell) (qual := "_law_cell") (scope := defScope s_law_cell) (f := f) (cd := cdv) (A := A0) (outer := outer) (s := s) (H := H) (E := E)
    have own := bcx_own (P := P) (w := w) (K := K) (mg := mg) (base := base) (N := N_law_cell) (qual := "_law_cell") (scope := defScope s_law_cell) (f := f) (cd := cdv) (A := A0) (outer := outer) (s := s) (H := H) (E := E)
    (pss_cons (ps_if (pt_cmpR (op_eqU hr.units) (pv 0) (pe_lst pa_nil) (nomark _)) (pss_one (ps_ret (pe_op op_mulU (pv 1) pe_int))) pss_nil) (pss_one (ps_ret (pe_op op_addU (pe_ix ix_seq (pv 0) (pe_op op_modU (pv 1) (pe_callB call_lenU (by rfl) B.len PySem.boot_len (pa_cons (pv 0) pa_nil))) (fun _ _ => rfl)) (pe_op op_mulU (pe_op op_divU (pv 1) (pe_callB call_lenU (by rfl) B.len PySem.boot_len (pa_cons (pv 0) pa_nil))) pe_int)))))) (fun vs H Q E h => cell_reads h)
abbrev s_law_rounds : Stmt := topS 36
abbrev N_law_rounds : List Str := ["script", "most", "k"]
theorem sc_law_rounds : FnScope N_law_rounds ["script", "most"] (defScope s_law_rounds) := ⟨rfl, rfl, rfl, by decide +kernel, rfl, by decide +kernel, by decide +kernel⟩
theorem ok_law_rounds (B : Blt mg) (D_law_cell : Dfn P w K mg base 1 "_law_cell" ["script", "k"] (spCell K)) (D : Def0 K mg "_law_rounds" s_law_rounds) : Dfn P w K mg base 2 "_law_rounds" ["script", "most"] (spRounds K) :=
  dfn_raw (k := 1) (t := fun E => t_law_rounds K) D sc_law_rounds (fun _ _ _ _ _ _ us hl => match us, hl with | [_, _], _ => rfl) (fun vs H Q E h => by obtain ⟨a, k, ns, rfl, _⟩ := h; rfl) (fun f cdv A0 outer s H E hr =>
    have tk := bcx_takes (P := P) (w := w) (K := K) (mg := mg) (base := base) (N := N_law_rounds) (qual := "_law_rounds") (scope := defScope s_law_rounds) (f := f) (cd := cdv) (A := A0) (outer := outer) (s := s) (H := H) (E := E)
    have own := bcx_own (P := P) (w := w) (K := K) (mg := mg) (base := base) (N := N_law_rounds) (qual := "_law_rounds") (scope := defScope s_law_rounds) (f := f) (cd := cdv) (A := A0) (outer := outer) (s := s) (H := H) (E := E)
    (pss_one (ps_ret (pe_lc (own := [(("k" : Str), 2)]) (g := gName 2) (tt := tYes) (by rfl) sc_law_rounds.nd (pi_range1 (by rfl) B.range (pa_cons (pe_callB (call_max2 rfl) (by rfl) B.max (by decide +kernel) (pa_cons pe_int (pa_cons (pe_callB (call_min2 rfl) (by rfl) B.min (by decide +kernel) (pa_cons (pv 1) (pa_cons (pe_callB call_lenU (by rfl) B.len PySem.boot_len (pa_cons (pv 0) pa_nil)) pa_nil))) pa_nil))) pa_nil)) (blkOk_by (own := [(("k" : Str), 2)]) (N := N_law_rounds) (sc := defScope s_law_rounds) (by decide +kernel)) (fun _ _ _ _ _ => (pg_name (i := 2) sc_law_rounds.nd rfl (.inl rfl))) (fun _ _ _ _ _ => pts_nil) (fun _ _ _ _ _ => (pe_lst (pa_cons (pe_cl D_law_cell blk_takes (hr.mono (by decide)) (by rfl) (pa_cons (pv 0) (pa_cons (pv 2) pa_nil))) (pa_cons pe_int pa_nil)))))))) (fun vs H Q E h => rounds_reads h)
abbrev s_law_times : Stmt := topS 39
abbrev N_law_times : List Str := ["one", "other", "a", "b", "c", "d", "e", "f", "g", "h"]
theorem sc_law_times : FnScope N_law_times ["one", "other"] (defScope s_law_times) := ⟨rfl, rfl, rfl, by decide +kernel, rfl, by decide +kernel, by decide +kernel⟩
theorem ok_law_times (A : Ga)  (D : Def0 K mg "_law_times" s_law_times) : Dfn P w K mg base 1 "_law_times" ["one", "other"] (lift K ec GPany 2 f_law_times) :=
  dfn_of (k := 0) (hadd := addAny) (t := fun E => t_law_times ⟨K, ec, GPany, E, addAny⟩ A) D sc_law_times rfl rfl (by decide) (fun _ _ _ _ _ _ us hl => match us, hl with | [_, _], _ => rfl) (fun f cdv A0 outer s H E hr =>
    have tk := bcx_takes (P := P) (w := w) (K := K) (mg := mg) (base := base) (N := N_law_times) (qual := "_law_times") (scope := defScope s_law_times) (f := f) (cd := cdv) (A := A0) (outer := outer) (s := s) (H := H) (E := E)
    have own := bcx_own (P := P) (w := w) (K := K) (mg := mg) (base := base) (N := N_law_times) (qual := "_law_times") (scope := defScope s_law_times) (f := f) (cd := cdv) (A := A0) (outer := outer) (s := s) (H := H) (E := E)
    (pss_cons (ps_asg (pe_tup (pa_cons (pv 0) (pa_cons (pv 1) pa_nil))) (pg_tup rfl (pgs_cons (pg_tup rfl (pgs_cons (pg_name (i := 2) sc_law_times.nd rfl (.inl rfl)) (pgs_cons (pg_name (i := 3) sc_law_times.nd rfl (.inl rfl)) (pgs_cons (pg_name (i := 4) sc_law_times.nd rfl (.inl rfl)) (pgs_cons (pg_name (i := 5) sc_law_times.nd rfl (.inl rfl)) pgs_nil))))) (pgs_cons (pg_tup rfl (pgs_cons (pg_name (i := 6) sc_law_times.nd rfl (.inl rfl)) (pgs_cons (pg_name (i := 7) sc_law_times.nd rfl (.inl rfl)) (pgs_cons (pg_name (i := 8) sc_law_times.nd rfl (.inl rfl)) (pgs_cons (pg_name (i := 9) sc_law_times.nd rfl (.inl rfl)) pgs_nil))))) pgs_nil)))) (pss_one (ps_ret (pe_tup (pa_cons (pe_op op_addU (pe_op op_mulU (pv 2) (pv 6)) (pe_op op_mulU (pv 3) (pv 8))) (pa_cons (pe_op op_addU (pe_op op_mulU (pv 2) (pv 7)) (pe_op op_mulU (pv 3) (pv 9))) (pa_cons (pe_op op_addU (pe_op op_mulU (pv 4) (pv 6)) (pe_op op_mulU (pv 5) (pv 8))) (pa_cons (pe_op op_addU (pe_op op_mulU (pv 4) (pv 7)) (pe_op op_mulU (pv 5) (pv 9))) pa_nil))))))))) (fun E => sim_law_times _ A)
abbrev s_law_inverse : Stmt := topS 40
abbrev N_law_inverse : List Str := ["table", "a", "b", "c", "d"]
theorem sc_law_inverse : FnScope N_law_inverse ["table"] (defScope s_law_inverse) := ⟨rfl, rfl, rfl, by decide +kernel, rfl, by decide +kernel, by decide +kernel⟩
theorem ok_law_inverse (A : Ga)  (D : Def0 K mg "_law_inverse" s_law_inverse) : Dfn P w K mg base 1 "_law_inverse" ["table"] (lift K ec GPany 1 f_law_inverse) :=
  dfn_of (k := 0) (hadd := addAny) (t := fun E => t_law_inverse ⟨K, ec, GPany, E, addAny⟩ A) D sc_law_inverse rfl rfl (by decide) (fun _ _ _ _ _ _ us hl => match us, hl with | [_], _ => rfl) (fun f cdv A0 outer s H E hr =>
    have tk := bcx_takes (P := P) (w := w) (K := K) (mg := mg) (base := base) (N := N_law_inverse) (qual := "_law_inverse") (scope := defScope s_law_inverse) (f := f) (cd := cdv) (A := A0) (outer := outer) (s := s) (H := H) (E := E)
    have own := bcx_own (P := P) (w := w) (K := K) (mg := mg) (base := base) (N := N_law_inverse) (qual := "_law_inverse") (scope := defScope s_law_inverse) (f := f) (cd := cdv) (A := A0) (outer := outer) (s := s) (H := H) (E := E)
    (pss_cons (ps_asg (pv 0) (pg_tup rfl (pgs_cons (pg_name (i := 1) sc_law_inverse.nd rfl (.inl rfl)) (pgs_cons (pg_name (i := 2) sc_law_inverse.nd rfl (.inl rfl)) (pgs_cons (pg_name (i := 3) sc_law_inverse.nd rfl (.inl rfl)) (pgs_cons (pg_name (i := 4) sc_law_inverse.nd rfl (.inl rfl)) pgs_nil)))))) (pss_one (ps_ret (pe_tup (pa_cons (pv 4) (pa_cons (pe_un un_neg (pv 2)) (pa_cons (pe_un un_neg (pv 3)) (pa_cons (pv 1) pa_nil))))))))) (fun E => sim_law_inverse _ A)
abbrev s_law_negative : Stmt := topS 41
abbrev N_law_negative : List Str := ["table", "one"]
theorem sc_law_negative : FnScope N_law_negative ["table"] (defScope s_law_negative) := ⟨rfl, rfl, rfl, by decide +kernel, rfl, by decide +kernel, by decide +kernel⟩
theorem ok_law_negative (A : Ga)  (B : Blt mg) (D : Def0 K mg "_law_negative" s_law_negative) : Dfn P w K mg base 1 "_law_negative" ["table"] (lift K ec GPany 1 f_law_negative) :=
  dfn_of (k := 0) (hadd := addAny) (t := fun E => t_law_negative ⟨K, ec, GPany, E, addAny⟩ A) D sc_law_negative rfl rfl (by decide) (fun _ _ _ _ _ _ us hl => match us, hl with | [_], _ => rfl) (fun f cdv A0 outer s H E hr =>
    have tk := bcx_takes (P := P) (w := w) (K := K) (mg := mg) (base := base) (N := N_law_negative) (qual := "_law_negative") (scope := defScope s_law_negative) (f := f) (cd := cdv) (A := A0) (outer := outer) (s := s) (H := H) (E := E)
    have own := bcx_own (P := P) (w := w) (K := K) (mg := mg) (base := base) (N := N_law_negative) (qual := "_law_negative") (scope := defScope s_law_negative) (f := f) (cd := cdv) (A := A0) (outer := outer) (s := s) (H := H) (E := E)
    (pss_one (ps_ret (pe_callTy call_tupleU (by rfl) B.tuple (by decide +kernel) (pa_cons (pe_lc (own := [(("one" : Str), 1)]) (g := (gName 1)) (tt := tYes) (by rfl) sc_law_negative.nd (pi_any (pv 0)) (blkOk_by (own := [(("one" : Str), 1)]) (N := N_law_negative) (sc := defScope s_law_negative) (by decide +kernel)) (fun _ _ _ _ _ => (pg_name (i := 1) sc_law_negative.nd rfl (.inl rfl))) (fun _ _ _ _ _ => pts_nil) (fun _ _ _ _ _ => (pe_un un_neg (pv 1)))) pa_nil))))) (fun E => sim_law_negative _ A)
abbrev s_law_letter : Stmt := topS 42
abbrev N_law_letter : List Str := ["letter", "some"]
theorem sc_law_letter : FnScope N_law_letter ["letter"] (defScope s_law_letter) := ⟨rfl, rfl, rfl, by decide +kernel, rfl, by decide +kernel, by decide +kernel⟩
theorem ok_law_letter (A : Ga)  (D : Def0 K mg "_law_letter" s_law_letter) : Dfn P w K mg base 1 "_law_letter" ["letter"] (lift K ec GPany 1 f_law_letter) :=
  dfn_of (k := 0) (hadd := addAny) (t := fun E => t_law_letter ⟨K, ec, GPany, E, addAny⟩ A) D sc_law_letter rfl rfl (by decide) (fun _ _ _ _ _ _ us hl => match us, hl with | [_], _ => rfl) (fun f cdv A0 outer s H E hr =>
    have tk := bcx_takes (P := P) (w := w) (K := K) (mg := mg) (base := base) (N := N_law_letter) (qual := "_law_letter") (scope := defScope s_law_letter) (f := f) (cd := cdv) (A := A0) (outer := outer) (s := s) (H := H) (E := E)
    have own := bcx_own (P := P) (w := w) (K := K) (mg := mg) (base := base) (N := N_law_letter) (qual := "_law_letter") (scope := defScope s_law_letter) (f := f) (cd := cdv) (A := A0) (outer := outer) (s := s) (H := H) (E := E)
    (pss_cons (ps_set (i := 1) sc_law_letter.nd rfl (.inl rfl) (pe_lst (pa_cons (pe_tup (pa_cons pe_int (pa_cons (pe_un un_neg pe_int) (pa_cons pe_int (pa_cons pe_int pa_nil))))) (pa_cons (pe_tup (pa_cons pe_int (pa_cons pe_int (pa_cons pe_int (pa_cons pe_int pa_nil))))) (pa_cons (pe_tup (pa_cons pe_int (pa_cons (pe_un un_neg pe_int) (pa_cons pe_int (pa_cons pe_int pa_nil))))) (pa_cons (pe_tup (pa_cons pe_int (pa_cons (pe_un un_neg pe_int) (pa_cons pe_int (pa_cons pe_int pa_nil))))) (pa_cons (pe_tup (pa_cons (pe_un un_neg pe_int) (pa_cons (pe_un un_neg pe_int) (pa_cons pe_int (pa_cons pe_int pa_nil))))) (pa_cons (pe_tup (pa_cons pe_int (pa_cons pe_int (pa_cons pe_int (pa_cons pe_int pa_nil))))) pa_nil)))))))) (pss_one (ps_ret (pe_ix ix_seq (pv 1) (pe_m1 PySem.F.slot_str_index PySem.F.type_str_index mt_sindex pe_str (pv 0)) (fun _ _ => rfl)))))) (fun E => sim_law_letter _ A)
abbrev s_law_product : Stmt := topS 43
abbrev N_law_product : List Str := ["word", "found", "letter"]
theorem sc_law_product : FnScope N_law_product ["word"] (defScope s_law_product) := ⟨rfl, rfl, rfl, by decide +kernel, rfl, by decide +kernel, by decide +kernel⟩
theorem ok_law_product (A : Ga)  (D_law_times : Dfn P w K mg base 1 "_law_times" ["one", "other"] (lift K ec GPany 2 f_law_times)) (D_law_letter : Dfn P w K mg base 1 "_law_letter" ["letter"] (lift K ec GPany 1 f_law_letter)) (D : Def0 K mg "_law_product" s_law_product) : Dfn P w K mg base 2 "_law_product" ["word"] (lift K ec GPany 1 f_law_product) :=
  dfn_of (k := 1) (hadd := addAny) (t := fun E => t_law_product ⟨K, ec, GPany, E, addAny⟩ A) D sc_law_product rfl rfl (by decide) (fun _ _ _ _ _ _ us hl => match us, hl with | [_], _ => rfl) (fun f cdv A0 outer s H E hr =>
    have tk := bcx_takes (P := P) (w := w) (K := K) (mg := mg) (base := base) (N := N_law_product) (qual := "_law_product") (scope := defScope s_law_product) (f := f) (cd := cdv) (A := A0) (outer := outer) (s := s) (H := H) (E := E)
    have own := bcx_own (P := P) (w := w) (K := K) (mg := mg) (base := base) (N := N_law_product) (qual := "_law_product") (scope := defScope s_law_product) (f := f) (cd := cdv) (A := A0) (outer := outer) (s := s) (H := H) (E := E)
    (pss_cons (ps_set (i := 1) sc_law_product.nd rfl (.inl rfl) (pe_tup (pa_cons pe_int (pa_cons pe_int (pa_cons pe_int (pa_cons pe_int pa_nil)))))) (pss_cons (ps_for own (by rfl) (pi_any (pv 0)) (pg_name (i := 2) sc_law_product.nd rfl (.inl rfl)) (pss_one (ps_set (i := 1) sc_law_product.nd rfl (.inl rfl) (pe_cl D_law_times tk (hr.mono (by decide)) (by rfl) (pa_cons (pv 1) (pa_cons (pe_cl D_law_letter tk (hr.mono (by decide)) (by rfl) (pa_cons (pv 2) pa_nil)) pa_nil)))))) (pss_one (ps_ret (pv 1)))))) (fun E => sim_law_product _ A)
abbrev s_law_any_word : Stmt := topS 44
abbrev N_law_any_word : List Str := ["dice", "most", "turn"]
theorem sc_law_any_word : FnScope N_law_any_word ["dice", "most"] (defScope s_law_any_word) := ⟨rfl, rfl, rfl, by decide +kernel, rfl, by decide +kernel, by decide +kernel⟩
theorem ok_law_any_word (A : Ga)  (B : Blt mg) (D_law_roll : Dfn P w K mg base 2 "_law_roll" ["dice", "many"] (lift K ec GPr 2 f_law_roll)) (D : Def0 K mg "_law_any_word" s_law_any_word) : Dfn P w K mg base 3 "_law_any_word" ["dice", "most"] (lift K ec GPr 2 f_law_any_word) :=
  dfn_of (k := 2) (hadd := addR) (t := fun E => t_law_any_word ⟨K, ec, GPr, E, addR⟩ A) D sc_law_any_word rfl rfl (by decide) (fun _ _ _ _ _ _ us hl => match us, hl with | [_, _], _ => rfl) (fun f cdv A0 outer s H E hr =>
    have tk := bcx_takes (P := P) (w := w) (K := K) (mg := mg) (base := base) (N := N_law_any_word) (qual := "_law_any_word") (scope := defScope s_law_any_word) (f := f) (cd := cdv) (A := A0) (outer := outer) (s := s) (H := H) (E := E)
    have own := bcx_own (P := P) (w := w) (K := K) (mg := mg) (base := base) (N := N_law_any_word) (qual := "_law_any_word") (scope := defScope s_law_any_word) (f := f) (cd := cdv) (A := A0) (outer := outer) (s := s) (H := H) (E := E)
    (pss_one (ps_ret (pe_join pe_str (pe_lc (own := [(("turn" : Str), 2)]) (g := (gName 2)) (tt := tYes) (by rfl) sc_law_any_word.nd (pi_range1 (by rfl) B.range (pa_cons (pe_cl D_law_roll tk (hr.mono (by decide)) (by rfl) (pa_cons (pv 0) (pa_cons (pe_op op_addU (pv 1) pe_int) pa_nil))) pa_nil)) (blkOk_by (own := [(("turn" : Str), 2)]) (N := N_law_any_word) (sc := defScope s_law_any_word) (by decide +kernel)) (fun _ _ _ _ _ => (pg_name (i := 2) sc_law_any_word.nd rfl (.inl rfl))) (fun _ _ _ _ _ => pts_nil) (fun _ _ _ _ _ => (pe_ix ix_seq pe_str (pe_cl D_law_roll blk_takes (hr.mono (by decide)) (by rfl) (pa_cons (pv 0) (pa_cons pe_int pa_nil))) (fun _ _ => rfl)))))))) (fun E => sim_law_any_word _ A (fun _ h => h))
abbrev s_law_small : Stmt := topS 45
abbrev N_law_small : List Str := ["dice", "some"]
theorem sc_law_small : FnScope N_law_small ["dice"] (defScope s_law_small) := ⟨rfl, rfl, rfl, by decide +kernel, rfl, by decide +kernel, by decide +kernel⟩
theorem ok_law_small (A : Ga)  (D_law_roll : Dfn P w K mg base 2 "_law_roll" ["dice", "many"] (lift K ec GPr 2 f_law_roll)) (D : Def0 K mg "_law_small" s_law_small) : Dfn P w K mg base 3 "_law_small" ["dice"] (lift K ec GPr 1 f_law_small) :=
  dfn_of (k := 2) (hadd := addR) (t := fun E => t_law_small ⟨K, ec, GPr, E, addR⟩ A) D sc_law_small rfl rfl (by decide) (fun _ _ _ _ _ _ us hl => match us, hl with | [_], _ => rfl) (fun f cdv A0 outer s H E hr =>
    have tk := bcx_takes (P := P) (w := w) (K := K) (mg := mg) (base := base) (N := N_law_small) (qual := "_law_small") (scope := defScope s_law_small) (f := f) (cd := cdv) (A := A0) (outer := outer) (s := s) (H := H) (E := E)
    have own := bcx_own (P := P) (w := w) (K := K) (mg := mg) (base := base) (N := N_law_small) (qual := "_law_small") (scope := defScope s_law_small) (f := f) (cd := cdv) (A := A0) (outer := outer) (s := s) (H := H) (E := E)
    (pss_cons (ps_set (i := 1) sc_law_small.nd rfl (.inl rfl) (pe_lst (pa_cons (pe_tup (pa_cons pe_int (pa_cons pe_int (pa_cons pe_int (pa_cons pe_int pa_nil))))) (pa_cons (pe_tup (pa_cons pe_int (pa_cons (pe_un un_neg pe_int) (pa_cons pe_int (pa_cons pe_int pa_nil))))) (pa_cons (pe_tup (pa_cons pe_int (pa_cons pe_int (pa_cons pe_int (pa_cons pe_int pa_nil))))) (pa_cons (pe_tup (pa_cons pe_int (pa_cons pe_int (pa_cons pe_int (pa_cons pe_int pa_nil))))) (pa_cons (pe_tup (pa_cons pe_int (pa_cons pe_int (pa_cons pe_int (pa_cons pe_int pa_nil))))) (pa_cons (pe_tup (pa_cons pe_int (pa_cons (pe_un un_neg pe_int) (pa_cons pe_int (pa_cons pe_int pa_nil))))) (pa_cons (pe_tup (pa_cons pe_int (pa_cons pe_int (pa_cons pe_int (pa_cons pe_int pa_nil))))) pa_nil))))))))) (pss_cons (ps_set (i := 1) sc_law_small.nd rfl (.inl rfl) (pe_op op_addU (pv 1) (pe_lst (pa_cons (pe_tup (pa_cons pe_int (pa_cons pe_int (pa_cons (pe_un un_neg pe_int) (pa_cons pe_int pa_nil))))) (pa_cons (pe_tup (pa_cons (pe_un un_neg pe_int) (pa_cons pe_int (pa_cons pe_int (pa_cons (pe_un un_neg pe_int) pa_nil))))) (pa_cons (pe_tup (pa_cons pe_int (pa_cons pe_int (pa_cons pe_int (pa_cons pe_int pa_nil))))) (pa_cons (pe_tup (pa_cons pe_int (pa_cons pe_int (pa_cons (pe_un un_neg pe_int) (pa_cons pe_int pa_nil))))) (pa_cons (pe_tup (pa_cons (pe_un un_neg pe_int) (pa_cons pe_int (pa_cons (pe_un un_neg pe_int) (pa_cons pe_int pa_nil))))) pa_nil)))))))) (pss_one (ps_ret (pe_ix ix_seq (pv 1) (pe_cl D_law_roll tk (hr.mono (by decide)) (by rfl) (pa_cons (pv 0) (pa_cons pe_int pa_nil))) (fun _ _ => rfl))))))) (fun E => sim_law_small _ A (fun _ h => h))
abbrev s_law_any_table : Stmt := topS 46
abbrev N_law_any_table : List Str := ["dice", "act", "small", "step", "found", "turn"]
theorem sc_law_any_table : FnScope N_law_any_table ["dice"] (defScope s_law_any_table) := ⟨rfl, rfl, rfl, by decide +kernel, rfl, by decide +kernel, by decide +kernel⟩
theorem ok_law_any_table (A : Ga)  (B : Blt mg) (D_law_roll : Dfn P w K mg base 2 "_law_roll" ["dice", "many"] (lift K ec GPr 2 f_law_roll)) (D_law_times : Dfn P w K mg base 1 "_law_times" ["one", "other"] (lift K ec GPany 2 f_law_times)) (D_law_inverse : Dfn P w K mg base 1 "_law_inverse" ["table"] (lift K ec GPany 1 f_law_inverse)) (D_law_negative : Dfn P w K mg base 1 "_law_negative" ["table"] (lift K ec GPany 1 f_law_negative)) (D_law_product : Dfn P w K mg base 2 "_law_product" ["word"] (lift K ec GPany 1 f_law_product)) (D_law_any_word : Dfn P w K mg base 3 "_law_any_word" ["dice", "most"] (lift K ec GPr 2 f_law_any_word)) (D_law_small : Dfn P w K mg base 3 "_law_small" ["dice"] (lift K ec GPr 1 f_law_small)) (D : Def0 K mg "_law_any_table" s_law_any_table) : Dfn P w K mg base 4 "_law_any_table" ["dice"] (lift K ec GPr 1 f_law_any_table) :=
  dfn_of (k := 3) (hadd := addR) (t := fun E => t_law_any_table ⟨K, ec, GPr, E, addR⟩ A) D sc_law_any_table rfl rfl (by decide) (fun _ _ _ _ _ _ us hl => match us, hl with | [_], _ => rfl) (fun f cdv A0 outer s H E hr =>
    have tk := bcx_takes (P := P) (w := w) (K := K) (mg := mg) (base := base) (N := N_law_any_table) (qual := "_law_any_table") (scope := defScope s_law_any_table) (f := f) (cd := cdv) (A := A0) (outer := outer) (s := s) (H := H) (E := E)
    have own := bcx_own (P := P) (w := w) (K := K) (mg := mg) (base := base) (N := N_law_any_table) (qual := "_law_any_table") (scope := defScope s_law_any_table) (f := f) (cd := cdv) (A := A0) (outer := outer) (s := s) (H := H) (E := E)
    (pss_cons (ps_set (i := 1) sc_law_any_table.nd rfl (.inl rfl) (pe_cl D_law_roll tk (hr.mono (by decide)) (by rfl) (pa_cons (pv 0) (pa_cons pe_int pa_nil)))) (pss_cons (ps_if (pt_cmpR (op_eqU hr.units) (pv 1) pe_int (nomark _)) (pss_one (ps_ret (pe_cl D_law_product tk (hr.mono (by decide)) (by rfl) (pa_cons (pe_cl D_law_any_word tk (hr.mono (by decide)) (by rfl) (pa_cons (pv 0) (pa_cons pe_int pa_nil))) pa_nil)))) pss_nil) (pss_cons (ps_set (i := 2) sc_law_any_table.nd rfl (.inl rfl) (pe_cl D_law_small tk (hr.mono (by decide)) (by rfl) (pa_cons (pv 0) pa_nil))) (pss_cons (ps_if (pt_cmpR (op_eqU hr.units) (pv 1) pe_int (nomark _)) (pss_cons (ps_set (i := 3) sc_law_any_table.nd rfl (.inl rfl) (pe_tup (pa_cons pe_int (pa_cons (pe_op op_sub (pe_cl D_law_roll tk (hr.mono (by decide)) (by rfl) (pa_cons (pv 0) (pa_cons pe_int pa_nil))) pe_int) (pa_cons pe_int (pa_cons pe_int pa_nil)))))) (pss_cons (ps_set (i := 4) sc_law_any_table.nd rfl (.inl rfl) (pe_cl D_law_times tk (hr.mono (by decide)) (by rfl) (pa_cons (pe_cl D_law_times tk (hr.mono (by decide)) (by rfl) (pa_cons (pv 2) (pa_cons (pv 3) pa_nil))) (pa_cons (pe_cl D_law_inverse tk (hr.mono (by decide)) (by rfl) (pa_cons (pv 2) pa_nil)) pa_nil)))) (pss_one (ps_ret (pe_ifExp (pt_cmpR (op_eqU hr.units) (pe_cl D_law_roll tk (hr.mono (by decide)) (by rfl) (pa_cons (pv 0) (pa_cons pe_int pa_nil))) pe_int (nomark _)) (pv 4) (pe_cl D_law_negative tk (hr.mono (by decide)) (by rfl) (pa_cons (pv 4) pa_nil))))))) pss_nil) (pss_one (ps_ret (pe_cl D_law_times tk (hr.mono (by decide)) (by rfl) (pa_cons (pv 2) (pa_cons (pe_cl D_law_product tk (hr.mono (by decide)) (by rfl) (pa_cons (pe_join pe_str (pe_lc (own := [(("turn" : Str), 5)]) (g := (gName 5)) (tt := tYes) (by rfl) sc_law_any_table.nd (pi_range1 (by rfl) B.range (pa_cons (pe_cl D_law_roll tk (hr.mono (by decide)) (by rfl) (pa_cons (pv 0) (pa_cons pe_int pa_nil))) pa_nil)) (blkOk_by (own := [(("turn" : Str), 5)]) (N := N_law_any_table) (sc := defScope s_law_any_table) (by decide +kernel)) (fun _ _ _ _ _ => (pg_name (i := 5) sc_law_any_table.nd rfl (.inl rfl))) (fun _ _ _ _ _ => pts_nil) (fun _ _ _ _ _ => (pe_ix ix_seq pe_str (pe_cl D_law_roll blk_takes (hr.mono (by decide)) (by rfl) (pa_cons (pv 0) (pa_cons pe_int pa_nil))) (fun _ _ => rfl))))) pa_nil)) pa_nil)))))))))) (fun E => sim_law_any_table _ A (fun _ h => h))
abbrev s_law_divisor : Stmt := topS 47
abbrev N_law_divisor : List Str := ["one", "other"]
theorem sc_law_divisor : FnScope N_law_divisor ["one", "other"] (defScope s_law_divisor) := ⟨rfl, rfl, rfl, by decide +kernel, rfl, by decide +kernel, by decide +kernel⟩
theorem ok_law_divisor (A : Ga)  (B : Blt mg) (D : Def0 K mg "_law_divisor" s_law_divisor) : Dfn P w K mg base 1 "_law_divisor" ["one", "other"] (lift K ec GPany 2 f_law_divisor) :=
  dfn_of (k := 0) (hadd := addAny) (t := fun E => t_law_divisor ⟨K, ec, GPany, E, addAny⟩ A) D sc_law_divisor rfl rfl (by decide) (fun _ _ _ _ _ _ us hl => match us, hl with | [_, _], _ => rfl) (fun f cdv A0 outer s H E hr =>
    have tk := bcx_takes (P := P) (w := w) (K := K) (mg := mg) (base := base) (N := N_law_divisor) (qual := "_law_divisor") (scope := defScope s_law_divisor) (f := f) (cd := cdv) (A := A0) (outer := outer) (s := s) (H := H) (E := E)
    have own := bcx_own (P := P) (w := w) (K := K) (mg := mg) (base := base) (N := N_law_divisor) (qual := "_law_divisor") (scope := defScope s_law_divisor) (f := f) (cd := cdv) (A := A0) (outer := outer) (s := s) (H := H) (E := E)
    (pss_cons (ps_par (by rfl) sc_law_divisor.nd rfl rfl (by decide) rfl rfl (pa_cons (pe_callB call_abs (by rfl) B.abs (by decide +kernel) (pa_cons (pv 0) pa_nil)) (pa_cons (pe_callB call_abs (by rfl) B.abs (by decide +kernel) (pa_cons (pv 1) pa_nil)) pa_nil)) (by rfl)) (pss_cons (ps_while own (pt_cmpR (op_neU hr.units) (pv 1) pe_int (nomark _)) (pss_one (ps_par (by rfl) sc_law_divisor.nd rfl rfl (by decide) rfl rfl (pa_cons (pv 1) (pa_cons (pe_op op_modU (pv 0) (pv 1)) pa_nil)) (by rfl)))) (pss_one (ps_ret (pv 0)))))) (fun E => sim_law_divisor _ A)
abbrev s_law_pair : Stmt := topS 48
abbrev N_law_pair : List Str := ["table", "m", "units", "u"]
theorem sc_law_pair : FnScope N_law_pair ["table", "m"] (defScope s_law_pair) := ⟨rfl, rfl, rfl, by decide +kernel, rfl, by decide +kernel, by decide +kernel⟩
theorem ok_law_pair (A : Ga)  (B : Blt mg) (D_law_divisor : Dfn P w K mg base 1 "_law_divisor" ["one", "other"] (lift K ec GPany 2 f_law_divisor)) (D : Def0 K mg "_law_pair" s_law_pair) : Dfn P w K mg base 2 "_law_pair" ["table", "m"] (lift K ec GPany 2 f_law_pair) :=
  dfn_of (k := 1) (hadd := addAny) (t := fun E => t_law_pair ⟨K, ec, GPany, E, addAny⟩ A) D sc_law_pair rfl rfl (by decide) (fun _ _ _ _ _ _ us hl => match us, hl with | [_, _], _ => rfl) (fun f cdv A0 outer s H E hr =>
    have tk := bcx_takes (P := P) (w := w) (K := K) (mg := mg) (base := base) (N := N_law_pair) (qual := "_law_pair") (scope := defScope s_law_pair) (f := f) (cd := cdv) (A := A0) (outer := outer) (s := s) (H := H) (E := E)
    have own := bcx_own (P := P) (w := w) (K := K) (mg := mg) (base := base) (N := N_law_pair) (qual := "_law_pair") (scope := defScope s_law_pair) (f := f) (cd := cdv) (A := A0) (outer := outer) (s := s) (H := H) (E := E)
    (pss_cons (ps_setLc (i := 2) (own := [(("u" : Str), 3)]) (g := (gName 3)) (tt := (tTest (tOp (rEqU K) (tCallS (lift K ec GPany 2 f_law_divisor) (fun _ => (fun _ _ _ => False : XK)) (tCons (tVar 3) (tCons (tVar 1) tNil))) (tC (.int 1))))) (by rfl) sc_law_pair.nd rfl rfl (sw_true rfl rfl rfl (by decide +kernel)) (pi_range2 (by rfl) B.range (pa_cons pe_int (pa_cons (pv 1) pa_nil))) (blkOk_by (own := [(("u" : Str), 3)]) (N := N_law_pair) (sc := defScope s_law_pair) (by decide +kernel)) (fun _ _ _ _ _ => (pg_name (i := 3) sc_law_pair.nd rfl (.inl rfl))) (fun _ _ _ _ _ => (pts_one (pt_cmpR (op_eqU hr.units) (pe_cl D_law_divisor blk_takes (hr.mono (by decide)) (by rfl) (pa_cons (pv 3) (pa_cons (pv 1) pa_nil))) pe_int (nomark _)))) (fun _ _ _ _ _ => (pv 3))) (pss_one (ps_ret (pe_callB (cr_minP rfl (hu_of hr)) (by rfl) B.min (by decide +kernel) (pa_cons (pe_lc (own := [(("u" : Str), 3)]) (g := (gName 3)) (tt := tYes) (by rfl) sc_law_pair.nd (pi_any (pv 2)) (blkOk_by (own := [(("u" : Str), 3)]) (N := N_law_pair) (sc := defScope s_law_pair) (by decide +kernel)) (fun _ _ _ _ _ => (pg_name (i := 3) sc_law_pair.nd rfl (.inl rfl))) (fun _ _ _ _ _ => pts_nil) (fun _ _ _ _ _ => (pe_tup (pa_cons (pe_op op_modU (pe_op op_mulU (pv 3) (pe_ix ix_seq (pv 0) pe_int (fun _ _ => rfl))) (pv 1)) (pa_cons (pe_op op_modU (pe_op op_mulU (pv 3) (pe_ix ix_seq (pv 0) pe_int (fun _ _ => rfl))) (pv 1)) pa_nil))))) pa_nil)))))) (fun E => sim_law_pair _ A)
abbrev s_law_many : Stmt := topS 49
abbrev N_law_many : List Str := ["m", "found", "p", "q"]
theorem sc_law_many : FnScope N_law_many ["m"] (defScope s_law_many) := ⟨rfl, rfl, rfl, by decide +kernel, rfl, by decide +kernel, by decide +kernel⟩
theorem ok_law_many (A : Ga)  (B : Blt mg) (D : Def0 K mg "_law_many" s_law_many) : Dfn P w K mg base 1 "_law_many" ["m"] (lift K ec GPany 1 f_law_many) :=
  dfn_of (k := 0) (hadd := addAny) (t := fun E => t_law_many ⟨K, ec, GPany, E, addAny⟩ A) D sc_law_many rfl rfl (by decide) (fun _ _ _ _ _ _ us hl => match us, hl with | [_], _ => rfl) (fun f cdv A0 outer s H E hr =>
    have tk := bcx_takes (P := P) (w := w) (K := K) (mg := mg) (base := base) (N := N_law_many) (qual := "_law_many") (scope := defScope s_law_many) (f := f) (cd := cdv) (A := A0) (outer := outer) (s := s) (H := H) (E := E)
    have own := bcx_own (P := P) (w := w) (K := K) (mg := mg) (base := base) (N := N_law_many) (qual := "_law_many") (scope := defScope s_law_many) (f := f) (cd := cdv) (A := A0) (outer := outer) (s := s) (H := H) (E := E)
    (pss_cons (ps_set (i := 1) sc_law_many.nd rfl (.inl rfl) (pv 0)) (pss_cons (ps_for own (by rfl) (pi_range2 (by rfl) B.range (pa_cons pe_int (pa_cons (pe_op op_addU (pv 0) pe_int) pa_nil))) (pg_name (i := 2) sc_law_many.nd rfl (.inr rfl)) (pss_one (ps_if (PW.pt (pw_and (pt_cmpR (op_eqU hr.units) (pe_op op_modU (pv 0) (pv 2)) pe_int (nomark _)) (pw_and1 (pt_val (pe_callB (cr_all rfl) (by rfl) B.all (by decide +kernel) (pa_cons (pe_lc (own := [(("q" : Str), 3)]) (g := (gName 3)) (tt := tYes) (by rfl) sc_law_many.nd (pi_range2 (by rfl) B.range (pa_cons pe_int (pa_cons (pv 2) pa_nil))) (blkOk_by (own := [(("q" : Str), 3)]) (N := N_law_many) (sc := defScope s_law_many) (by decide +kernel)) (fun _ _ _ _ _ => (pg_name (i := 3) sc_law_many.nd rfl (.inl rfl))) (fun _ _ _ _ _ => pts_nil) (fun _ _ _ _ _ => (pe_cmpR (op_neU hr.units) (pe_op op_modU (pv 2) (pv 3)) pe_int (nomark _)))) pa_nil)))))) (pss_one (ps_set (i := 1) sc_law_many.nd rfl (.inl rfl) (pe_op op_mulU (pe_op op_divU (pv 1) (pv 2)) (pe_op op_addU (pv 2) pe_int)))) pss_nil))) (pss_one (ps_ret (pv 1)))))) (fun E => sim_law_many _ A)
abbrev s_law_term : Stmt := topS 37
abbrev N_law_term : List Str := ["e", "flags", "kinds", "flag"]
theorem sc_law_term : FnScope N_law_term ["e"] (defScope s_law_term) := ⟨rfl, rfl, rfl, by decide +kernel, rfl, by decide +kernel, by decide +kernel⟩
theorem der_law_term {TE' : Addr} (EO : ErrsOk K ec TE') (B : Blt mg) (mVE : mg "ValueError" = none) (gE : ∀ c, c < 16 → mg (enames.getD c "") = some (.ref (ec c))) (c : Nat) (a : Addr) (oe : Obj) (f : Addr) (cdv : Value) (A : Around) (outer : List Env) (s : Shared) (H : Hp) (hc : c < 16) (hz : L2N.Zn (.ref (ec c)) none oe) (hf : ∃ vs, oe.data = .fields vs)
    (hr : L2H.RoomH 0 (A.deeper (envOfC "_law_term" (defScope s_law_term) s.heap.objs.size f cdv))) (hh : A.handled = some (.ref a)) : PSs (L2H.cxH CX0 P w K mg base N_law_term "_law_term" (defScope s_law_term) f cdv A outer s H E0 (a, oe)) (defBody s_law_term) (t_law_term K ec c a) :=
  have hot : L2H.HotC (L2H.cxH CX0 P w K mg base N_law_term "_law_term" (defScope s_law_term) f cdv A outer s H E0 (a, oe)) := ⟨(a, oe), ⟨hh, hf.imp fun vs e => ⟨e, hz.2.2 vs e⟩⟩, List.mem_cons_self⟩
  have hu : (L2H.cxH CX0 P w K mg base N_law_term "_law_term" (defScope s_law_term) f cdv A outer s H E0 (a, oe)).A.units + 64 < cLine := by have := hr.un; show (A.deeper _).units + 64 < cLine; omega
  (pss_cons (ps_set (i := 1) sc_law_term.nd rfl (.inl rfl) (pe_lst (pa_cons (pe_callB (call_isX List.mem_cons_self (EO.ex c hc) hz.zc hf) (by rfl) B.isinstance (by decide +kernel) (pa_cons (pv 0) (pa_cons (pe_glob (by rfl) (gE 0 (by decide)) rfl) pa_nil))) (pa_cons (pe_callB (call_isX List.mem_cons_self (EO.ex c hc) hz.zc hf) (by rfl) B.isinstance (by decide +kernel) (pa_cons (pv 0) (pa_cons (pe_glob (by rfl) (gE 1 (by decide)) rfl) pa_nil))) (pa_cons (pe_callB (call_isX List.mem_cons_self (EO.ex c hc) hz.zc hf) (by rfl) B.isinstance (by decide +kernel) (pa_cons (pv 0) (pa_cons (pe_glob (by rfl) (gE 2 (by decide)) rfl) pa_nil))) pa_nil))))) (pss_cons (ps_set (i := 1) sc_law_term.nd rfl (.inl rfl) (pe_op op_addU (pv 1) (pe_lst (pa_cons (pe_callB (call_isX List.mem_cons_self (EO.ex c hc) hz.zc hf) (by rfl) B.isinstance (by decide +kernel) (pa_cons (pv 0) (pa_cons (pe_glob (by rfl) (gE 3 (by decide)) rfl) pa_nil))) (pa_cons (pe_callB (call_isX List.mem_cons_self (EO.ex c hc) hz.zc hf) (by rfl) B.isinstance (by decide +kernel) (pa_cons (pv 0) (pa_cons (pe_glob (by rfl) (gE 4 (by decide)) rfl) pa_nil))) (pa_cons (pe_callB (call_isX List.mem_cons_self (EO.ex c hc) hz.zc hf) (by rfl) B.isinstance (by decide +kernel) (pa_cons (pv 0) (pa_cons (pe_glob (by rfl) (gE 5 (by decide)) rfl) pa_nil))) pa_nil)))))) (pss_cons (ps_set (i := 1) sc_law_term.nd rfl (.inl rfl) (pe_op op_addU (pv 1) (pe_lst (pa_cons (pe_callB (call_isX List.mem_cons_self (EO.ex c hc) hz.zc hf) (by rfl) B.isinstance (by decide +kernel) (pa_cons (pv 0) (pa_cons (pe_glob (by rfl) (gE 6 (by decide)) rfl) pa_nil))) (pa_cons (pe_callB (call_isX List.mem_cons_self (EO.ex c hc) hz.zc hf) (by rfl) B.isinstance (by decide +kernel) (pa_cons (pv 0) (pa_cons (pe_glob (by rfl) (gE 7 (by decide)) rfl) pa_nil))) (pa_cons (pe_callB (call_isX List.mem_cons_self (EO.ex c hc) hz.zc hf) (by rfl) B.isinstance (by decide +kernel) (pa_cons (pv 0) (pa_cons (pe_glob (by rfl) (gE 8 (by decide)) rfl) pa_nil))) pa_nil)))))) (pss_cons (ps_set (i := 1) sc_law_term.nd rfl (.inl rfl) (pe_op op_addU (pv 1) (pe_lst (pa_cons (pe_callB (call_isX List.mem_cons_self (EO.ex c hc) hz.zc hf) (by rfl) B.isinstance (by decide +kernel) (pa_cons (pv 0) (pa_cons (pe_glob (by rfl) (gE 9 (by decide)) rfl) pa_nil))) (pa_cons (pe_callB (call_isX List.mem_cons_self (EO.ex c hc) hz.zc hf) (by rfl) B.isinstance (by decide +kernel) (pa_cons (pv 0) (pa_cons (pe_glob (by rfl) (gE 10 (by decide)) rfl) pa_nil))) (pa_cons (pe_callB (call_isX List.mem_cons_self (EO.ex c hc) hz.zc hf) (by rfl) B.isinstance (by decide +kernel) (pa_cons (pv 0) (pa_cons (pe_glob (by rfl) (gE 11 (by decide)) rfl) pa_nil))) pa_nil)))))) (pss_cons (ps_set (i := 1) sc_law_term.nd rfl (.inl rfl) (pe_op op_addU (pv 1) (pe_lst (pa_cons (pe_callB (call_isX List.mem_cons_self (EO.ex c hc) hz.zc hf) (by rfl) B.isinstance (by decide +kernel) (pa_cons (pv 0) (pa_cons (pe_glob (by rfl) (gE 12 (by decide)) rfl) pa_nil))) (pa_cons (pe_callB (call_isX List.mem_cons_self (EO.ex c hc) hz.zc hf) (by rfl) B.isinstance (by decide +kernel) (pa_cons (pv 0) (pa_cons (pe_glob (by rfl) (gE 13 (by decide)) rfl) pa_nil))) (pa_cons (pe_callB (call_isX List.mem_cons_self (EO.ex c hc) hz.zc hf) (by rfl) B.isinstance (by decide +kernel) (pa_cons (pv 0) (pa_cons (pe_glob (by rfl) (gE 14 (by decide)) rfl) pa_nil))) pa_nil)))))) (pss_cons (ps_set (i := 1) sc_law_term.nd rfl (.inl rfl) (pe_op op_addU (pv 1) (pe_lst (pa_cons (pe_callB (call_isX List.mem_cons_self (EO.ex c hc) hz.zc hf) (by rfl) B.isinstance (by decide +kernel) (pa_cons (pv 0) (pa_cons (pe_glob (by rfl) (gE 15 (by decide)) rfl) pa_nil))) pa_nil)))) (pss_cons (ps_set (i := 2) sc_law_term.nd rfl (.inl rfl) (pe_lst (pa_cons pe_str (pa_cons pe_str (pa_cons pe_str (pa_cons pe_str (pa_cons pe_str (pa_cons pe_str pa_nil)))))))) (pss_cons (ps_set (i := 2) sc_law_term.nd rfl (.inl rfl) (pe_op op_addU (pv 2) (pe_lst (pa_cons pe_str (pa_cons pe_str (pa_cons pe_str (pa_cons pe_str (pa_cons pe_str pa_nil)))))))) (pss_cons (ps_set (i := 2) sc_law_term.nd rfl (.inl rfl) (pe_op op_addU (pv 2) (pe_lst (pa_cons pe_str (pa_cons pe_str (pa_cons pe_str (pa_cons pe_str (pa_cons pe_str pa_nil)))))))) (pss_cons (ps_if (PW.pt (pw_or (pt_cmpR (op_neU hu) (pe_callB (cr_sumH hot) (by rfl) B.sum (by decide +kernel) (pa_cons (pe_lcInt hot rfl (.inl rfl) B.int rfl (by decide +kernel) (by decide +kernel) (by decide +kernel) rfl rfl) pa_nil)) pe_int (nomark _)) (pw_or1 (pt_not (pt_val (pe_callB (call_isX List.mem_cons_self (EO.ex c hc) hz.zc hf) (by rfl) B.isinstance (by decide +kernel) (pa_cons (pv 0) (pa_cons (pe_bltn (by rfl) mVE (by decide +kernel) rfl) pa_nil)))))))) (pss_one (ps_ret (pe_tup (pa_cons pe_str (pa_cons pe_str pa_nil))))) pss_nil) (pss_one (ps_ret (pe_tup (pa_cons pe_str (pa_cons (pe_ix ix_seq (pv 2) (pe_bm PySem.F.plainAttrs_list PySem.F.slot_list_index PySem.F.type_list_index mt_index (pv 1) (pa_cons pe_bl pa_nil)) (fun _ _ => rfl)) pa_nil)))))))))))))))
abbrev s_law_told : Stmt := topS 38
abbrev N_law_told : List Str := ["deed", "e"]
theorem sc_law_told : FnScope N_law_told ["deed"] (defScope s_law_told) := ⟨rfl, rfl, rfl, by decide +kernel, rfl, by decide +kernel, by decide +kernel⟩
theorem bT (kV doc pm : Value) (an : Option Addr) (cdv ct : Value) (us : List Value) (hl : us.length = 1) : bindArgs (PySem.W.fnOf "_law_told" "_law_told" (defArgs s_law_told) (defBody s_law_told) (defScope s_law_told) .none kV doc pm an cdv ct) ⟨us, []⟩ = pure ([("deed" : Str)].zip us) := match us, hl with | [_], _ => rfl
theorem tok {TE' g : Addr} {k : Nat} (EO : ErrsOk K ec TE') (B : Blt mg) (mVE : mg "ValueError" = none) (gE : ∀ c, c < 16 → mg (enames.getD c "") = some (.ref (ec c))) (gTE : mg "TableError" = some (.ref TE')) (DT : Def0 K mg "_law_term" s_law_term) : ToldOk P w K mg base ec (toldT K ec) (k + 1) g s_law_told ["deed", "e"] "deed" :=
  told_ok (k := k) EO gTE sc_law_told rfl rfl rfl rfl rfl DT sc_law_term (fun _ _ _ _ _ _ us hl => match us, hl with | [_], _ => rfl) fun c a oe f cdv A outer s H hc hz hf hr hh => der_law_term EO B mVE gE c a oe f cdv A outer s H hc hz hf (hr.mono (Nat.zero_le _)) hh
abbrev s_law : Stmt := topS 50
abbrev N_law : List Str := ["script", "dice", "m", "made", "some", "one", "bad", "other", "same", "turn"]
theorem sc_law : FnScope N_law ["script"] (defScope s_law) := ⟨rfl, rfl, rfl, by decide +kernel, rfl, by decide +kernel, by decide +kernel⟩
theorem ok_law (A : Ga)  (B : Blt mg) (D_class_of : Dfn P w K mg base 5 "class_of" ["table", "modulus"] (lift K ec GPany 2 f_class_of)) (D_all_classes : Dfn P w K mg base 4 "all_classes" ["modulus"] (lift K ec GPany 1 f_all_classes)) (D_law_roll : Dfn P w K mg base 2 "_law_roll" ["dice", "many"] (lift K ec GPr 2 f_law_roll)) (D_law_rounds : Dfn P w K mg base 2 "_law_rounds" ["script", "most"] (spRounds K)) (D_law_times : Dfn P w K mg base 1 "_law_times" ["one", "other"] (lift K ec GPany 2 f_law_times)) (D_law_inverse : Dfn P w K mg base 1 "_law_inverse" ["table"] (lift K ec GPany 1 f_law_inverse)) (D_law_any_table : Dfn P w K mg base 4 "_law_any_table" ["dice"] (lift K ec GPr 1 f_law_any_table)) (D_law_pair : Dfn P w K mg base 2 "_law_pair" ["table", "m"] (lift K ec GPany 2 f_law_pair)) (D_law_many : Dfn P w K mg base 1 "_law_many" ["m"] (lift K ec GPany 1 f_law_many)) {TE' g : Addr} {fdT : FuncData} (EO : ErrsOk K ec TE') (FT : Fun K "_law_told" "_law_told" s_law_told g fdT) (gT : mg "_law_told" = some (.ref g)) (TO : ToldOk P w K mg base ec (toldT K ec) 6 g s_law_told ["deed", "e"] "deed") {c Pt : Addr} (TB : LamX.TabB base mg c Pt) {oc kV doc pm ct : Value} {od an : Option Addr} {osl : Array (Option Value)} {f : Addr} (lk : K.lookup f = some ⟨oc, od, .func (PySem.W.fnOf "law" "law" (defArgs s_law) (defBody s_law) (defScope s_law) .none kV doc pm an (.ref c) ct), osl⟩) (hcd : PySem.W.codeIn K (.ref c) "law" = true) (pl : law_plain) : FnOk P w K mg base (L2N.CX P w) 8 f (PySem.W.fnOf "law" "law" (defArgs s_law) (defBody s_law) (defScope s_law) .none kV doc pm an (.ref c) ct) ["script"] (spLaw K [(Pt, ("law" : Str) ++ ".<locals>." ++ "<lambda>")]) :=
  fn_of (k := 7) lk hcd sc_law (fun vs H Q E h => by obtain ⟨a, ns, rfl, _⟩ := h; rfl) fun A0 outer s H vs Q E hr h => ⟨t_law_of K 3 1 E (t_law_body ⟨K, ec, GPlaw [(Pt, ("law" : Str) ++ ".<locals>." ++ "<lambda>")], E, addLaw⟩ A [(Pt, ("law" : Str) ++ ".<locals>." ++ "<lambda>")]), 
    have tk := bcx_takes (P := P) (w := w) (K := K) (mg := mg) (base := base) (N := N_law) (qual := "law") (scope := defScope s_law) (f := f) (cd := (.ref c)) (A := A0) (outer := outer) (s := s) (H := H) (E := E)
    have own := bcx_own (P := P) (w := w) (K := K) (mg := mg) (base := base) (N := N_law) (qual := "law") (scope := defScope s_law) (f := f) (cd := (.ref c)) (A := A0) (outer := outer) (s := s) (H := H) (E := E)
    have hu : ∀ p ∈ [(Pt, ("law" : Str) ++ ".<locals>." ++ "<lambda>")], p.1 = Pt → p.2 = ("law" : Str) ++ ".<locals>." ++ "<lambda>" := fun p hp _ => by rw [List.mem_singleton.mp hp]
    pss_cons (ps_for own (by rfl) (pi_list (pe_cl D_law_rounds tk (hr.mono (by decide)) (by rfl) (pa_cons (pv 0) (pa_cons pe_int pa_nil)))) (pg_name (i := 1) sc_law.nd rfl (.inr rfl)) (pss_cons (ps_set (i := 2) sc_law.nd rfl (.inl rfl) (pe_op op_addU pe_int (pe_cl D_law_roll tk (hr.mono (by decide)) (by rfl) (pa_cons (pv 1) (pa_cons pe_int pa_nil))))) (pss_cons (ps_set (i := 3) sc_law.nd rfl (.inl rfl) (pe_cl D_all_classes tk (hr.mono (by decide)) (by rfl) (pa_cons (pv 2) pa_nil))) (pss_cons (ps_if (PW.pt (pw_or (pt_cmpR (op_neU hr.units) (pe_callB call_lenU (by rfl) B.len PySem.boot_len (pa_cons (pv 3) pa_nil)) (pe_cl D_law_many tk (hr.mono (by decide)) (by rfl) (pa_cons (pv 2) pa_nil)) (nomark _)) (pw_or1 (pt_cmpR (op_neU hr.units) (pe_callTy call_listU (by rfl) B.list (by decide +kernel) (pa_cons (pv 3) pa_nil)) (pe_ss rfl (room65 hr) (by rfl) B.sorted (by rfl) B.set (pv 3)) (nomark _))))) (pss_one (ps_ret pe_bl)) pss_nil) (pss_cons (ps_set (i := 4) sc_law.nd rfl (.inr rfl) (pe_lc (own := [(("turn" : Str), 9)]) (g := (gName 9)) (tt := tYes) (by rfl) sc_law.nd (pi_range1 (by rfl) B.range (pa_cons pe_int pa_nil)) (blkOk_by (own := [(("turn" : Str), 9)]) (N := N_law) (sc := defScope s_law) (by decide +kernel)) (fun _ _ _ _ _ => (pg_name (i := 9) sc_law.nd rfl (.inl rfl))) (fun _ _ _ _ _ => pts_nil) (fun _ _ _ _ _ => (pe_cl D_law_any_table blk_takes (hr.mono (by decide)) (by rfl) (pa_cons (pv 1) pa_nil))))) (pss_cons (ps_for own (by rfl) (pi_any (pv 4)) (pg_name (i := 5) sc_law.nd rfl (.inl rfl)) (pss_cons (ps_if (PW.pt (pw_or (pt_cmpR (op_neU hr.units) (pe_cl D_class_of tk (hr.mono (by decide)) (by rfl) (pa_cons (pv 5) (pa_cons (pv 2) pa_nil))) (pe_cl D_law_pair tk (hr.mono (by decide)) (by rfl) (pa_cons (pv 5) (pa_cons (pv 2) pa_nil))) (nomark _)) (pw_or1 (pt_cmpR (op_notInU (room65 hr)) (pe_cl D_class_of tk (hr.mono (by decide)) (by rfl) (pa_cons (pv 5) (pa_cons (pv 2) pa_nil))) (pv 3) rfl)))) (pss_one (ps_ret pe_bl)) pss_nil) (pss_one (ps_for own (by rfl) (pi_any (pv 4)) (pg_name (i := 7) sc_law.nd rfl (.inl rfl)) (pss_cons (ps_set (i := 8) sc_law.nd rfl (.inl rfl) (pe_cmpR (op_eqU hr.units) (pe_op op_modU (pe_ix ix_seq (pe_cl D_law_times tk (hr.mono (by decide)) (by rfl) (pa_cons (pv 5) (pa_cons (pe_cl D_law_inverse tk (hr.mono (by decide)) (by rfl) (pa_cons (pv 7) pa_nil)) pa_nil))) pe_int (fun _ _ => rfl)) (pv 2)) pe_int (nomark _))) (pss_one (ps_if (pt_cmpR (op_neU hr.units) (pe_cmpR (op_eqU hr.units) (pe_cl D_class_of tk (hr.mono (by decide)) (by rfl) (pa_cons (pv 5) (pa_cons (pv 2) pa_nil))) (pe_cl D_class_of tk (hr.mono (by decide)) (by rfl) (pa_cons (pv 7) (pa_cons (pv 2) pa_nil))) (nomark _)) (pv 8) (nomark _)) (pss_one (ps_ret pe_bl)) pss_nil))))))) (pss_cons (ps_if (PW.pt (pw_or (pt_cmpR (op_neU hr.units) (pe_cl D_class_of tk (hr.mono (by decide)) (by rfl) (pa_cons (pe_tup (pa_cons pe_int (pa_cons pe_int (pa_cons pe_int (pa_cons pe_int pa_nil))))) (pa_cons (pv 2) pa_nil))) (pe_tup (pa_cons pe_int (pa_cons pe_int pa_nil))) (nomark _)) (pw_or (pt_cmpR (op_notInU (room65 hr)) (pe_tup (pa_cons pe_int (pa_cons pe_int pa_nil))) (pv 3) rfl) (pw_or1 (pt_cmpR (op_notInU (room65 hr)) (pe_tup (pa_cons pe_int (pa_cons pe_int pa_nil))) (pv 3) rfl))))) (pss_one (ps_ret pe_bl)) pss_nil) (pss_one (ps_for own (by rfl) (pi_any (pe_lst (pa_cons pe_int (pa_cons pe_int (pa_cons pe_bl (pa_cons pe_non pa_nil)))))) (pg_name (i := 6) sc_law.nd rfl (.inr rfl)) (pss_cons (ps_if (pt_cmpR (op_neU hr.units) (pe_told (T := [(Pt, ("law" : Str) ++ ".<locals>." ++ "<lambda>")]) (k := 5) (te := fun Ex => (tCallS (lift K ec GPany 2 f_class_of) (fun _ => Ex) (tCons (tOp (rIx K) (tVar 4) (tC (.int 0))) (tCons (tVar 6) tNil)))) FT gT TO bT (by rfl) TB rfl List.mem_cons_self hu (hr.mono (by decide)) (LamX.lamS_by (sc := defScope s_law) (by decide +kernel)) (by rfl) (fun _ _ _ _ _ => rfl) (fun A1 outer s1 H1 Ex f1 c1 hr => (pe_cl D_class_of lamN_takes (hr.mono (by decide)) (by rfl) (pa_cons (pe_ix ix_seq (pv 4) pe_int (fun _ _ => rfl)) (pa_cons (pv 6) pa_nil))))) (pe_tup (pa_cons pe_str (pa_cons pe_str pa_nil))) (nomark _)) (pss_one (ps_ret pe_bl)) pss_nil) (pss_one (ps_if (pt_cmpR (op_neU hr.units) (pe_told (T := [(Pt, ("law" : Str) ++ ".<locals>." ++ "<lambda>")]) (k := 5) (te := fun Ex => (tCallS (lift K ec GPany 1 f_all_classes) (fun _ => Ex) (tCons (tVar 6) tNil))) FT gT TO bT (by rfl) TB rfl List.mem_cons_self hu (hr.mono (by decide)) (LamX.lamS_by (sc := defScope s_law) (by decide +kernel)) (by rfl) (fun _ _ _ _ _ => rfl) (fun A1 outer s1 H1 Ex f1 c1 hr => (pe_cl D_all_classes lamN_takes (hr.mono (by decide)) (by rfl) (pa_cons (pv 6) pa_nil)))) (pe_tup (pa_cons pe_str (pa_cons pe_str pa_nil))) (nomark _)) (pss_one (ps_ret pe_bl)) pss_nil)))))))))))) (pss_one (ps_ret pe_bl)),
    law_reads (n := 10) (di := 1) (most := 3) (N := N_law) (b := b_law_body) (by decide) (by decide) (by decide) rfl (fun E => sim_law_body ⟨K, ec, GPlaw [(Pt, ("law" : Str) ++ ".<locals>." ++ "<lambda>")], E, addLaw⟩ A [(Pt, ("law" : Str) ++ ".<locals>." ++ "<lambda>")] (fun _ h => h.2) (fun _ h => h.1) EO) pl h⟩
end
theorem law_at {w : World} {K : PySem.W.Frag} {h : Heap} {mg : Str → Option Value} {fa : Addr} (X : K.In h) (G : h.Ns mainGlobals mg) (hfa : mg "law" = some (.ref fa)) {Pt : Addr} (hT : ∀ P ∈ [Pt], h.get? P = some (PySem.W.tabObj #[])) (pl : law_plain)
    {C0 C1 C2 C3 C4 C5 C6 C7 C8 C9 C10 C11 C12 C13 C14 C15 TE : Addr}
    (e0 : PySem.W.nsIn K mainGlobals "InvalidTable" = some (some (.ref C0)))
    (e1 : PySem.W.nsIn K mainGlobals "InvalidWord" = some (some (.ref C1)))
    (e2 : PySem.W.nsIn K mainGlobals "InvalidNumber" = some (some (.ref C2)))
    (e3 : PySem.W.nsIn K mainGlobals "InvalidSign" = some (some (.ref C3)))
    (e4 : PySem.W.nsIn K mainGlobals "InvalidNormal" = some (some (.ref C4)))
    (e5 : PySem.W.nsIn K mainGlobals "InvalidPositive" = some (some (.ref C5)))
    (e6 : PySem.W.nsIn K mainGlobals "InvalidFraction" = some (some (.ref C6)))
    (e7 : PySem.W.nsIn K mainGlobals "InvalidModulus" = some (some (.ref C7)))
    (e8 : PySem.W.nsIn K mainGlobals "InvalidRemainder" = some (some (.ref C8)))
    (e9 : PySem.W.nsIn K mainGlobals "InvalidLetter" = some (some (.ref C9)))
    (e10 : PySem.W.nsIn K mainGlobals "InvalidText" = some (some (.ref C10)))
    (e11 : PySem.W.nsIn K mainGlobals "NotPositive" = some (some (.ref C11)))
    (e12 : PySem.W.nsIn K mainGlobals "FiniteOrder" = some (some (.ref C12)))
    (e13 : PySem.W.nsIn K mainGlobals "AllFixed" = some (some (.ref C13)))
    (e14 : PySem.W.nsIn K mainGlobals "TooLong" = some (some (.ref C14)))
    (e15 : PySem.W.nsIn K mainGlobals "NothingToUndo" = some (some (.ref C15)))
    (eT : PySem.W.nsIn K mainGlobals "TableError" = some (some (.ref TE)))
    (ek : errChk K (fun c => [C0, C1, C2, C3, C4, C5, C6, C7, C8, C9, C10, C11, C12, C13, C14, C15].getD c 0) TE = true)
    (bk : bltChk K = true)
    (x0 : PySem.W.excIn K C0 [.type "ValueError", .type "Exception", .type "BaseException", .type "object"] "ValueError.__new__" = true)
    (x7 : PySem.W.excIn K C7 [.type "ValueError", .type "Exception", .type "BaseException", .type "object"] "ValueError.__new__" = true)
    {f_law_cell : Addr} {od_law_cell an_law_cell : Option Addr} {sl_law_cell : Array (Option Value)} {oc_law_cell kV_law_cell dc_law_cell pm_law_cell cd_law_cell ct_law_cell : Value}
    (a_law_cell : PySem.W.nsIn K mainGlobals "_law_cell" = some (some (.ref f_law_cell))) (l_law_cell : K.lookup f_law_cell = some ⟨oc_law_cell, od_law_cell, .func (PySem.W.fnOf "_law_cell" "_law_cell" (defArgs s_law_cell) (defBody s_law_cell) (defScope s_law_cell) .none kV_law_cell dc_law_cell pm_law_cell an_law_cell cd_law_cell ct_law_cell), sl_law_cell⟩) (c_law_cell : PySem.W.codeIn K cd_law_cell "_law_cell" = true) (k_law_cell : PySem.W.keepIn K (.ref f_law_cell) = true)
    {f_law_rounds : Addr} {od_law_rounds an_law_rounds : Option Addr} {sl_law_rounds : Array (Option Value)} {oc_law_rounds kV_law_rounds dc_law_rounds pm_law_rounds cd_law_rounds ct_law_rounds : Value}
    (a_law_rounds : PySem.W.nsIn K mainGlobals "_law_rounds" = some (some (.ref f_law_rounds))) (l_law_rounds : K.lookup f_law_rounds = some ⟨oc_law_rounds, od_law_rounds, .func (PySem.W.fnOf "_law_rounds" "_law_rounds" (defArgs s_law_rounds) (defBody s_law_rounds) (defScope s_law_rounds) .none kV_law_rounds dc_law_rounds pm_law_rounds an_law_rounds cd_law_rounds ct_law_rounds), sl_law_rounds⟩) (c_law_rounds : PySem.W.codeIn K cd_law_rounds "_law_rounds" = true) (k_law_rounds : PySem.W.keepIn K (.ref f_law_rounds) = true)
    {f_law_roll : Addr} {od_law_roll an_law_roll : Option Addr} {sl_law_roll : Array (Option Value)} {oc_law_roll kV_law_roll dc_law_roll pm_law_roll cd_law_roll ct_law_roll : Value}
    (a_law_roll : PySem.W.nsIn K mainGlobals "_law_roll" = some (some (.ref f_law_roll))) (l_law_roll : K.lookup f_law_roll = some ⟨oc_law_roll, od_law_roll, .func (PySem.W.fnOf "_law_roll" "_law_roll" (defArgs s_law_roll) (defBody s_law_roll) (defScope s_law_roll) .none kV_law_roll dc_law_roll pm_law_roll an_law_roll cd_law_roll ct_law_roll), sl_law_roll⟩) (c_law_roll : PySem.W.codeIn K cd_law_roll "_law_roll" = true) (k_law_roll : PySem.W.keepIn K (.ref f_law_roll) = true)
    {f_is_number : Addr} {od_is_number an_is_number : Option Addr} {sl_is_number : Array (Option Value)} {oc_is_number kV_is_number dc_is_number pm_is_number cd_is_number ct_is_number : Value}
    (a_is_number : PySem.W.nsIn K mainGlobals "is_number" = some (some (.ref f_is_number))) (l_is_number : K.lookup f_is_number = some ⟨oc_is_number, od_is_number, .func (PySem.W.fnOf "is_number" "is_number" (defArgs s_is_number) (defBody s_is_number) (defScope s_is_number) .none kV_is_number dc_is_number pm_is_number an_is_number cd_is_number ct_is_number), sl_is_number⟩) (c_is_number : PySem.W.codeIn K cd_is_number "is_number" = true) (k_is_number : PySem.W.keepIn K (.ref f_is_number) = true)
    {f_are_four : Addr} {od_are_four an_are_four : Option Addr} {sl_are_four : Array (Option Value)} {oc_are_four kV_are_four dc_are_four pm_are_four cd_are_four ct_are_four : Value}
    (a_are_four : PySem.W.nsIn K mainGlobals "are_four" = some (some (.ref f_are_four))) (l_are_four : K.lookup f_are_four = some ⟨oc_are_four, od_are_four, .func (PySem.W.fnOf "are_four" "are_four" (defArgs s_are_four) (defBody s_are_four) (defScope s_are_four) .none kV_are_four dc_are_four pm_are_four an_are_four cd_are_four ct_are_four), sl_are_four⟩) (c_are_four : PySem.W.codeIn K cd_are_four "are_four" = true) (k_are_four : PySem.W.keepIn K (.ref f_are_four) = true)
    {f_is_table : Addr} {od_is_table an_is_table : Option Addr} {sl_is_table : Array (Option Value)} {oc_is_table kV_is_table dc_is_table pm_is_table cd_is_table ct_is_table : Value}
    (a_is_table : PySem.W.nsIn K mainGlobals "is_table" = some (some (.ref f_is_table))) (l_is_table : K.lookup f_is_table = some ⟨oc_is_table, od_is_table, .func (PySem.W.fnOf "is_table" "is_table" (defArgs s_is_table) (defBody s_is_table) (defScope s_is_table) .none kV_is_table dc_is_table pm_is_table an_is_table cd_is_table ct_is_table), sl_is_table⟩) (c_is_table : PySem.W.codeIn K cd_is_table "is_table" = true) (k_is_table : PySem.W.keepIn K (.ref f_is_table) = true)
    {f_need_table : Addr} {od_need_table an_need_table : Option Addr} {sl_need_table : Array (Option Value)} {oc_need_table kV_need_table dc_need_table pm_need_table cd_need_table ct_need_table : Value}
    (a_need_table : PySem.W.nsIn K mainGlobals "need_table" = some (some (.ref f_need_table))) (l_need_table : K.lookup f_need_table = some ⟨oc_need_table, od_need_table, .func (PySem.W.fnOf "need_table" "need_table" (defArgs s_need_table) (defBody s_need_table) (defScope s_need_table) .none kV_need_table dc_need_table pm_need_table an_need_table cd_need_table ct_need_table), sl_need_table⟩) (c_need_table : PySem.W.codeIn K cd_need_table "need_table" = true) (k_need_table : PySem.W.keepIn K (.ref f_need_table) = true)
    {f_is_whole : Addr} {od_is_whole an_is_whole : Option Addr} {sl_is_whole : Array (Option Value)} {oc_is_whole kV_is_whole dc_is_whole pm_is_whole cd_is_whole ct_is_whole : Value}
    (a_is_whole : PySem.W.nsIn K mainGlobals "is_whole" = some (some (.ref f_is_whole))) (l_is_whole : K.lookup f_is_whole = some ⟨oc_is_whole, od_is_whole, .func (PySem.W.fnOf "is_whole" "is_whole" (defArgs s_is_whole) (defBody s_is_whole) (defScope s_is_whole) .none kV_is_whole dc_is_whole pm_is_whole an_is_whole cd_is_whole ct_is_whole), sl_is_whole⟩) (c_is_whole : PySem.W.codeIn K cd_is_whole "is_whole" = true) (k_is_whole : PySem.W.keepIn K (.ref f_is_whole) = true)
    {f_need_modulus : Addr} {od_need_modulus an_need_modulus : Option Addr} {sl_need_modulus : Array (Option Value)} {oc_need_modulus kV_need_modulus dc_need_modulus pm_need_modulus cd_need_modulus ct_need_modulus : Value}
    (a_need_modulus : PySem.W.nsIn K mainGlobals "need_modulus" = some (some (.ref f_need_modulus))) (l_need_modulus : K.lookup f_need_modulus = some ⟨oc_need_modulus, od_need_modulus, .func (PySem.W.fnOf "need_modulus" "need_modulus" (defArgs s_need_modulus) (defBody s_need_modulus) (defScope s_need_modulus) .none kV_need_modulus dc_need_modulus pm_need_modulus an_need_modulus cd_need_modulus ct_need_modulus), sl_need_modulus⟩) (c_need_modulus : PySem.W.codeIn K cd_need_modulus "need_modulus" = true) (k_need_modulus : PySem.W.keepIn K (.ref f_need_modulus) = true)
    {f_divisor : Addr} {od_divisor an_divisor : Option Addr} {sl_divisor : Array (Option Value)} {oc_divisor kV_divisor dc_divisor pm_divisor cd_divisor ct_divisor : Value}
    (a_divisor : PySem.W.nsIn K mainGlobals "divisor" = some (some (.ref f_divisor))) (l_divisor : K.lookup f_divisor = some ⟨oc_divisor, od_divisor, .func (PySem.W.fnOf "divisor" "divisor" (defArgs s_divisor) (defBody s_divisor) (defScope s_divisor) .none kV_divisor dc_divisor pm_divisor an_divisor cd_divisor ct_divisor), sl_divisor⟩) (c_divisor : PySem.W.codeIn K cd_divisor "divisor" = true) (k_divisor : PySem.W.keepIn K (.ref f_divisor) = true)
    {f_units_of : Addr} {od_units_of an_units_of : Option Addr} {sl_units_of : Array (Option Value)} {oc_units_of kV_units_of dc_units_of pm_units_of cd_units_of ct_units_of : Value}
    (a_units_of : PySem.W.nsIn K mainGlobals "units_of" = some (some (.ref f_units_of))) (l_units_of : K.lookup f_units_of = some ⟨oc_units_of, od_units_of, .func (PySem.W.fnOf "units_of" "units_of" (defArgs s_units_of) (defBody s_units_of) (defScope s_units_of) .none kV_units_of dc_units_of pm_units_of an_units_of cd_units_of ct_units_of), sl_units_of⟩) (c_units_of : PySem.W.codeIn K cd_units_of "units_of" = true) (k_units_of : PySem.W.keepIn K (.ref f_units_of) = true)
    {f_first_pair : Addr} {od_first_pair an_first_pair : Option Addr} {sl_first_pair : Array (Option Value)} {oc_first_pair kV_first_pair dc_first_pair pm_first_pair cd_first_pair ct_first_pair : Value}
    (a_first_pair : PySem.W.nsIn K mainGlobals "first_pair" = some (some (.ref f_first_pair))) (l_first_pair : K.lookup f_first_pair = some ⟨oc_first_pair, od_first_pair, .func (PySem.W.fnOf "first_pair" "first_pair" (defArgs s_first_pair) (defBody s_first_pair) (defScope s_first_pair) .none kV_first_pair dc_first_pair pm_first_pair an_first_pair cd_first_pair ct_first_pair), sl_first_pair⟩) (c_first_pair : PySem.W.codeIn K cd_first_pair "first_pair" = true) (k_first_pair : PySem.W.keepIn K (.ref f_first_pair) = true)
    {f_class_of : Addr} {od_class_of an_class_of : Option Addr} {sl_class_of : Array (Option Value)} {oc_class_of kV_class_of dc_class_of pm_class_of cd_class_of ct_class_of : Value}
    (a_class_of : PySem.W.nsIn K mainGlobals "class_of" = some (some (.ref f_class_of))) (l_class_of : K.lookup f_class_of = some ⟨oc_class_of, od_class_of, .func (PySem.W.fnOf "class_of" "class_of" (defArgs s_class_of) (defBody s_class_of) (defScope s_class_of) .none kV_class_of dc_class_of pm_class_of an_class_of cd_class_of ct_class_of), sl_class_of⟩) (c_class_of : PySem.W.codeIn K cd_class_of "class_of" = true) (k_class_of : PySem.W.keepIn K (.ref f_class_of) = true)
    {f_all_classes : Addr} {od_all_classes an_all_classes : Option Addr} {sl_all_classes : Array (Option Value)} {oc_all_classes kV_all_classes dc_all_classes pm_all_classes cd_all_classes ct_all_classes : Value}
    (a_all_classes : PySem.W.nsIn K mainGlobals "all_classes" = some (some (.ref f_all_classes))) (l_all_classes : K.lookup f_all_classes = some ⟨oc_all_classes, od_all_classes, .func (PySem.W.fnOf "all_classes" "all_classes" (defArgs s_all_classes) (defBody s_all_classes) (defScope s_all_classes) .none kV_all_classes dc_all_classes pm_all_classes an_all_classes cd_all_classes ct_all_classes), sl_all_classes⟩) (c_all_classes : PySem.W.codeIn K cd_all_classes "all_classes" = true) (k_all_classes : PySem.W.keepIn K (.ref f_all_classes) = true)
    {f_law_drawn : Addr} {od_law_drawn an_law_drawn : Option Addr} {sl_law_drawn : Array (Option Value)} {oc_law_drawn kV_law_drawn dc_law_drawn pm_law_drawn cd_law_drawn ct_law_drawn : Value}
    (a_law_drawn : PySem.W.nsIn K mainGlobals "_law_drawn" = some (some (.ref f_law_drawn))) (l_law_drawn : K.lookup f_law_drawn = some ⟨oc_law_drawn, od_law_drawn, .func (PySem.W.fnOf "_law_drawn" "_law_drawn" (defArgs s_law_drawn) (defBody s_law_drawn) (defScope s_law_drawn) .none kV_law_drawn dc_law_drawn pm_law_drawn an_law_drawn cd_law_drawn ct_law_drawn), sl_law_drawn⟩) (c_law_drawn : PySem.W.codeIn K cd_law_drawn "_law_drawn" = true) (k_law_drawn : PySem.W.keepIn K (.ref f_law_drawn) = true)
    {f_law_times : Addr} {od_law_times an_law_times : Option Addr} {sl_law_times : Array (Option Value)} {oc_law_times kV_law_times dc_law_times pm_law_times cd_law_times ct_law_times : Value}
    (a_law_times : PySem.W.nsIn K mainGlobals "_law_times" = some (some (.ref f_law_times))) (l_law_times : K.lookup f_law_times = some ⟨oc_law_times, od_law_times, .func (PySem.W.fnOf "_law_times" "_law_times" (defArgs s_law_times) (defBody s_law_times) (defScope s_law_times) .none kV_law_times dc_law_times pm_law_times an_law_times cd_law_times ct_law_times), sl_law_times⟩) (c_law_times : PySem.W.codeIn K cd_law_times "_law_times" = true) (k_law_times : PySem.W.keepIn K (.ref f_law_times) = true)
    {f_law_inverse : Addr} {od_law_inverse an_law_inverse : Option Addr} {sl_law_inverse : Array (Option Value)} {oc_law_inverse kV_law_inverse dc_law_inverse pm_law_inverse cd_law_inverse ct_law_inverse : Value}
    (a_law_inverse : PySem.W.nsIn K mainGlobals "_law_inverse" = some (some (.ref f_law_inverse))) (l_law_inverse : K.lookup f_law_inverse = some ⟨oc_law_inverse, od_law_inverse, .func (PySem.W.fnOf "_law_inverse" "_law_inverse" (defArgs s_law_inverse) (defBody s_law_inverse) (defScope s_law_inverse) .none kV_law_inverse dc_law_inverse pm_law_inverse an_law_inverse cd_law_inverse ct_law_inverse), sl_law_inverse⟩) (c_law_inverse : PySem.W.codeIn K cd_law_inverse "_law_inverse" = true) (k_law_inverse : PySem.W.keepIn K (.ref f_law_inverse) = true)
    {f_law_negative : Addr} {od_law_negative an_law_negative : Option Addr} {sl_law_negative : Array (Option Value)} {oc_law_negative kV_law_negative dc_law_negative pm_law_negative cd_law_negative ct_law_negative : Value}
    (a_law_negative : PySem.W.nsIn K mainGlobals "_law_negative" = some (some (.ref f_law_negative))) (l_law_negative : K.lookup f_law_negative = some ⟨oc_law_negative, od_law_negative, .func (PySem.W.fnOf "_law_negative" "_law_negative" (defArgs s_law_negative) (defBody s_law_negative) (defScope s_law_negative) .none kV_law_negative dc_law_negative pm_law_negative an_law_negative cd_law_negative ct_law_negative), sl_law_negative⟩) (c_law_negative : PySem.W.codeIn K cd_law_negative "_law_negative" = true) (k_law_negative : PySem.W.keepIn K (.ref f_law_negative) = true)
    {f_law_letter : Addr} {od_law_letter an_law_letter : Option Addr} {sl_law_letter : Array (Option Value)} {oc_law_letter kV_law_letter dc_law_letter pm_law_letter cd_law_letter ct_law_letter : Value}
    (a_law_letter : PySem.W.nsIn K mainGlobals "_law_letter" = some (some (.ref f_law_letter))) (l_law_letter : K.lookup f_law_letter = some ⟨oc_law_letter, od_law_letter, .func (PySem.W.fnOf "_law_letter" "_law_letter" (defArgs s_law_letter) (defBody s_law_letter) (defScope s_law_letter) .none kV_law_letter dc_law_letter pm_law_letter an_law_letter cd_law_letter ct_law_letter), sl_law_letter⟩) (c_law_letter : PySem.W.codeIn K cd_law_letter "_law_letter" = true) (k_law_letter : PySem.W.keepIn K (.ref f_law_letter) = true)
    {f_law_product : Addr} {od_law_product an_law_product : Option Addr} {sl_law_product : Array (Option Value)} {oc_law_product kV_law_product dc_law_product pm_law_product cd_law_product ct_law_product : Value}
    (a_law_product : PySem.W.nsIn K mainGlobals "_law_product" = some (some (.ref f_law_product))) (l_law_product : K.lookup f_law_product = some ⟨oc_law_product, od_law_product, .func (PySem.W.fnOf "_law_product" "_law_product" (defArgs s_law_product) (defBody s_law_product) (defScope s_law_product) .none kV_law_product dc_law_product pm_law_product an_law_product cd_law_product ct_law_product), sl_law_product⟩) (c_law_product : PySem.W.codeIn K cd_law_product "_law_product" = true) (k_law_product : PySem.W.keepIn K (.ref f_law_product) = true)
    {f_law_any_word : Addr} {od_law_any_word an_law_any_word : Option Addr} {sl_law_any_word : Array (Option Value)} {oc_law_any_word kV_law_any_word dc_law_any_word pm_law_any_word cd_law_any_word ct_law_any_word : Value}
    (a_law_any_word : PySem.W.nsIn K mainGlobals "_law_any_word" = some (some (.ref f_law_any_word))) (l_law_any_word : K.lookup f_law_any_word = some ⟨oc_law_any_word, od_law_any_word, .func (PySem.W.fnOf "_law_any_word" "_law_any_word" (defArgs s_law_any_word) (defBody s_law_any_word) (defScope s_law_any_word) .none kV_law_any_word dc_law_any_word pm_law_any_word an_law_any_word cd_law_any_word ct_law_any_word), sl_law_any_word⟩) (c_law_any_word : PySem.W.codeIn K cd_law_any_word "_law_any_word" = true) (k_law_any_word : PySem.W.keepIn K (.ref f_law_any_word) = true)
    {f_law_small : Addr} {od_law_small an_law_small : Option Addr} {sl_law_small : Array (Option Value)} {oc_law_small kV_law_small dc_law_small pm_law_small cd_law_small ct_law_small : Value}
    (a_law_small : PySem.W.nsIn K mainGlobals "_law_small" = some (some (.ref f_law_small))) (l_law_small : K.lookup f_law_small = some ⟨oc_law_small, od_law_small, .func (PySem.W.fnOf "_law_small" "_law_small" (defArgs s_law_small) (defBody s_law_small) (defScope s_law_small) .none kV_law_small dc_law_small pm_law_small an_law_small cd_law_small ct_law_small), sl_law_small⟩) (c_law_small : PySem.W.codeIn K cd_law_small "_law_small" = true) (k_law_small : PySem.W.keepIn K (.ref f_law_small) = true)
    {f_law_any_table : Addr} {od_law_any_table an_law_any_table : Option Addr} {sl_law_any_table : Array (Option Value)} {oc_law_any_table kV_law_any_table dc_law_any_table pm_law_any_table cd_law_any_table ct_law_any_table : Value}
    (a_law_any_table : PySem.W.nsIn K mainGlobals "_law_any_table" = some (some (.ref f_law_any_table))) (l_law_any_table : K.lookup f_law_any_table = some ⟨oc_law_any_table, od_law_any_table, .func (PySem.W.fnOf "_law_any_table" "_law_any_table" (defArgs s_law_any_table) (defBody s_law_any_table) (defScope s_law_any_table) .none kV_law_any_table dc_law_any_table pm_law_any_table an_law_any_table cd_law_any_table ct_law_any_table), sl_law_any_table⟩) (c_law_any_table : PySem.W.codeIn K cd_law_any_table "_law_any_table" = true) (k_law_any_table : PySem.W.keepIn K (.ref f_law_any_table) = true)
    {f_law_divisor : Addr} {od_law_divisor an_law_divisor : Option Addr} {sl_law_divisor : Array (Option Value)} {oc_law_divisor kV_law_divisor dc_law_divisor pm_law_divisor cd_law_divisor ct_law_divisor : Value}
    (a_law_divisor : PySem.W.nsIn K mainGlobals "_law_divisor" = some (some (.ref f_law_divisor))) (l_law_divisor : K.lookup f_law_divisor = some ⟨oc_law_divisor, od_law_divisor, .func (PySem.W.fnOf "_law_divisor" "_law_divisor" (defArgs s_law_divisor) (defBody s_law_divisor) (defScope s_law_divisor) .none kV_law_divisor dc_law_divisor pm_law_divisor an_law_divisor cd_law_divisor ct_law_divisor), sl_law_divisor⟩) (c_law_divisor : PySem.W.codeIn K cd_law_divisor "_law_divisor" = true) (k_law_divisor : PySem.W.keepIn K (.ref f_law_divisor) = true)
    {f_law_pair : Addr} {od_law_pair an_law_pair : Option Addr} {sl_law_pair : Array (Option Value)} {oc_law_pair kV_law_pair dc_law_pair pm_law_pair cd_law_pair ct_law_pair : Value}
    (a_law_pair : PySem.W.nsIn K mainGlobals "_law_pair" = some (some (.ref f_law_pair))) (l_law_pair : K.lookup f_law_pair = some ⟨oc_law_pair, od_law_pair, .func (PySem.W.fnOf "_law_pair" "_law_pair" (defArgs s_law_pair) (defBody s_law_pair) (defScope s_law_pair) .none kV_law_pair dc_law_pair pm_law_pair an_law_pair cd_law_pair ct_law_pair), sl_law_pair⟩) (c_law_pair : PySem.W.codeIn K cd_law_pair "_law_pair" = true) (k_law_pair : PySem.W.keepIn K (.ref f_law_pair) = true)
    {f_law_many : Addr} {od_law_many an_law_many : Option Addr} {sl_law_many : Array (Option Value)} {oc_law_many kV_law_many dc_law_many pm_law_many cd_law_many ct_law_many : Value}
    (a_law_many : PySem.W.nsIn K mainGlobals "_law_many" = some (some (.ref f_law_many))) (l_law_many : K.lookup f_law_many = some ⟨oc_law_many, od_law_many, .func (PySem.W.fnOf "_law_many" "_law_many" (defArgs s_law_many) (defBody s_law_many) (defScope s_law_many) .none kV_law_many dc_law_many pm_law_many an_law_many cd_law_many ct_law_many), sl_law_many⟩) (c_law_many : PySem.W.codeIn K cd_law_many "_law_many" = true) (k_law_many : PySem.W.keepIn K (.ref f_law_many) = true)
    {f_law_term : Addr} {od_law_term an_law_term : Option Addr} {sl_law_term : Array (Option Value)} {oc_law_term kV_law_term dc_law_term pm_law_term cd_law_term ct_law_term : Value}
    (a_law_term : PySem.W.nsIn K mainGlobals "_law_term" = some (some (.ref f_law_term))) (l_law_term : K.lookup f_law_term = some ⟨oc_law_term, od_law_term, .func (PySem.W.fnOf "_law_term" "_law_term" (defArgs s_law_term) (defBody s_law_term) (defScope s_law_term) .none kV_law_term dc_law_term pm_law_term an_law_term cd_law_term ct_law_term), sl_law_term⟩) (c_law_term : PySem.W.codeIn K cd_law_term "_law_term" = true) (k_law_term : PySem.W.keepIn K (.ref f_law_term) = true)
    {f_law_told : Addr} {od_law_told an_law_told : Option Addr} {sl_law_told : Array (Option Value)} {oc_law_told kV_law_told dc_law_told pm_law_told cd_law_told ct_law_told : Value}
    (a_law_told : PySem.W.nsIn K mainGlobals "_law_told" = some (some (.ref f_law_told))) (l_law_told : K.lookup f_law_told = some ⟨oc_law_told, od_law_told, .func (PySem.W.fnOf "_law_told" "_law_told" (defArgs s_law_told) (defBody s_law_told) (defScope s_law_told) .none kV_law_told dc_law_told pm_law_told an_law_told cd_law_told ct_law_told), sl_law_told⟩) (c_law_told : PySem.W.codeIn K cd_law_told "_law_told" = true) (k_law_told : PySem.W.keepIn K (.ref f_law_told) = true)
    {f_law : Addr} {od_law an_law : Option Addr} {sl_law : Array (Option Value)} {oc_law kV_law dc_law pm_law ct_law : Value}
    {c : Addr}
    (a_law : PySem.W.nsIn K mainGlobals "law" = some (some (.ref f_law))) (l_law : K.lookup f_law = some ⟨oc_law, od_law, .func (PySem.W.fnOf "law" "law" (defArgs s_law) (defBody s_law) (defScope s_law) .none kV_law dc_law pm_law an_law (.ref c) ct_law), sl_law⟩) (c_law : PySem.W.codeIn K (.ref c) "law" = true) (k_law : PySem.W.keepIn K (.ref f_law) = true)
    (hd : PySem.W.codeHdIn K c Pt = true) (nT : K.lookup Pt = none) :
    LamX.LawAtS PySem.Challenge.rw_turnshifts_k19_whole_classes w K (L2N.CX PySem.Challenge.rw_turnshifts_k19_whole_classes.prog w) 8 63 "script" mg fa h := by
  have z := hfa.symm.trans (PySem.W.mg_of X G a_law)
  cases z
  obtain ⟨EO, ex⟩ := errs_of ek
  obtain ⟨B, mVE⟩ := blt_of X G bk
  have gE : ∀ c, c < 16 → mg (enames.getD c "") = some (.ref ((fun c => [C0, C1, C2, C3, C4, C5, C6, C7, C8, C9, C10, C11, C12, C13, C14, C15].getD c 0) c)) := fun c hc => match c, hc with
    | 0, _ => PySem.W.mg_of X G e0
    | 1, _ => PySem.W.mg_of X G e1
    | 2, _ => PySem.W.mg_of X G e2
    | 3, _ => PySem.W.mg_of X G e3
    | 4, _ => PySem.W.mg_of X G e4
    | 5, _ => PySem.W.mg_of X G e5
    | 6, _ => PySem.W.mg_of X G e6
    | 7, _ => PySem.W.mg_of X G e7
    | 8, _ => PySem.W.mg_of X G e8
    | 9, _ => PySem.W.mg_of X G e9
    | 10, _ => PySem.W.mg_of X G e10
    | 11, _ => PySem.W.mg_of X G e11
    | 12, _ => PySem.W.mg_of X G e12
    | 13, _ => PySem.W.mg_of X G e13
    | 14, _ => PySem.W.mg_of X G e14
    | 15, _ => PySem.W.mg_of X G e15
    | n + 16, hc => absurd hc (by omega)
  have X_InvalidTable : ExF K mg "InvalidTable" ((fun c => [C0, C1, C2, C3, C4, C5, C6, C7, C8, C9, C10, C11, C12, C13, C14, C15].getD c 0) 0) := ⟨PySem.W.mg_of X G e0, x0, (ex 0 (by decide)).1, (ex 0 (by decide)).2.1, (ex 0 (by decide)).2.2⟩
  have X_InvalidModulus : ExF K mg "InvalidModulus" ((fun c => [C0, C1, C2, C3, C4, C5, C6, C7, C8, C9, C10, C11, C12, C13, C14, C15].getD c 0) 7) := ⟨PySem.W.mg_of X G e7, x7, (ex 7 (by decide)).1, (ex 7 (by decide)).2.1, (ex 7 (by decide)).2.2⟩
  refine ⟨PySem.W.fnOf "law" "law" (defArgs s_law) (defBody s_law) (defScope s_law) .none kV_law dc_law pm_law an_law (.ref c) ct_law, [(c, Pt)], spLaw K [(Pt, ("law" : Str) ++ ".<locals>." ++ "<lambda>")], fun p hp => ?_, fun p hp => ?_, fun p hp => ?_, fun s u => .of_eq rfl, fun H a ns hl _ hH hS => ?_, fun base KB GB TB => ?_⟩
  · rw [List.mem_singleton.mp hp]; exact hT Pt List.mem_cons_self
  · rw [List.mem_singleton.mp hp]; exact nT
  · rw [List.mem_singleton.mp hp]; exact PySem.W.codeHd_of_K X hd
  · exact ⟨a, ns, rfl, hS, hl, tabs0 (hH (c, Pt) List.mem_cons_self), fun _ => rfl⟩
  have Z_law_cell := def0_of (st := s_law_cell) X G a_law_cell l_law_cell c_law_cell k_law_cell
  have Z_law_rounds := def0_of (st := s_law_rounds) X G a_law_rounds l_law_rounds c_law_rounds k_law_rounds
  have Z_law_roll := def0_of (st := s_law_roll) X G a_law_roll l_law_roll c_law_roll k_law_roll
  have Z_is_number := def0_of (st := s_is_number) X G a_is_number l_is_number c_is_number k_is_number
  have Z_are_four := def0_of (st := s_are_four) X G a_are_four l_are_four c_are_four k_are_four
  have Z_is_table := def0_of (st := s_is_table) X G a_is_table l_is_table c_is_table k_is_table
  have Z_need_table := def0_of (st := s_need_table) X G a_need_table l_need_table c_need_table k_need_table
  have Z_is_whole := def0_of (st := s_is_whole) X G a_is_whole l_is_whole c_is_whole k_is_whole
  have Z_need_modulus := def0_of (st := s_need_modulus) X G a_need_modulus l_need_modulus c_need_modulus k_need_modulus
  have Z_divisor := def0_of (st := s_divisor) X G a_divisor l_divisor c_divisor k_divisor
  have Z_units_of := def0_of (st := s_units_of) X G a_units_of l_units_of c_units_of k_units_of
  have Z_first_pair := def0_of (st := s_first_pair) X G a_first_pair l_first_pair c_first_pair k_first_pair
  have Z_class_of := def0_of (st := s_class_of) X G a_class_of l_class_of c_class_of k_class_of
  have Z_all_classes := def0_of (st := s_all_classes) X G a_all_classes l_all_classes c_all_classes k_all_classes
  have Z_law_drawn := def0_of (st := s_law_drawn) X G a_law_drawn l_law_drawn c_law_drawn k_law_drawn
  have Z_law_times := def0_of (st := s_law_times) X G a_law_times l_law_times c_law_times k_law_times
  have Z_law_inverse := def0_of (st := s_law_inverse) X G a_law_inverse l_law_inverse c_law_inverse k_law_inverse
  have Z_law_negative := def0_of (st := s_law_negative) X G a_law_negative l_law_negative c_law_negative k_law_negative
  have Z_law_letter := def0_of (st := s_law_letter) X G a_law_letter l_law_letter c_law_letter k_law_letter
  have Z_law_product := def0_of (st := s_law_product) X G a_law_product l_law_product c_law_product k_law_product
  have Z_law_any_word := def0_of (st := s_law_any_word) X G a_law_any_word l_law_any_word c_law_any_word k_law_any_word
  have Z_law_small := def0_of (st := s_law_small) X G a_law_small l_law_small c_law_small k_law_small
  have Z_law_any_table := def0_of (st := s_law_any_table) X G a_law_any_table l_law_any_table c_law_any_table k_law_any_table
  have Z_law_divisor := def0_of (st := s_law_divisor) X G a_law_divisor l_law_divisor c_law_divisor k_law_divisor
  have Z_law_pair := def0_of (st := s_law_pair) X G a_law_pair l_law_pair c_law_pair k_law_pair
  have Z_law_many := def0_of (st := s_law_many) X G a_law_many l_law_many c_law_many k_law_many
  have Z_law_term := def0_of (st := s_law_term) X G a_law_term l_law_term c_law_term k_law_term
  have Z_law_told := def0_of (st := s_law_told) X G a_law_told l_law_told c_law_told k_law_told
  have D_law_cell := ok_law_cell (P := PySem.Challenge.rw_turnshifts_k19_whole_classes.prog) (w := w) (base := base) B Z_law_cell
  have D_law_rounds := ok_law_rounds (P := PySem.Challenge.rw_turnshifts_k19_whole_classes.prog) (w := w) (base := base) B D_law_cell Z_law_rounds
  have D_is_number := ok_is_number (P := PySem.Challenge.rw_turnshifts_k19_whole_classes.prog) (w := w) (base := base) (ec := (fun c => [C0, C1, C2, C3, C4, C5, C6, C7, C8, C9, C10, C11, C12, C13, C14, C15].getD c 0)) (A := ⟨0, 0, w⟩) B Z_is_number
  have D_are_four := ok_are_four (P := PySem.Challenge.rw_turnshifts_k19_whole_classes.prog) (w := w) (base := base) (ec := (fun c => [C0, C1, C2, C3, C4, C5, C6, C7, C8, C9, C10, C11, C12, C13, C14, C15].getD c 0)) (A := ⟨0, 0, w⟩) B D_is_number Z_are_four
  have D_is_table := ok_is_table (P := PySem.Challenge.rw_turnshifts_k19_whole_classes.prog) (w := w) (base := base) (ec := (fun c => [C0, C1, C2, C3, C4, C5, C6, C7, C8, C9, C10, C11, C12, C13, C14, C15].getD c 0)) (A := ⟨0, 0, w⟩) B D_are_four Z_is_table
  have D_need_table := ok_need_table (P := PySem.Challenge.rw_turnshifts_k19_whole_classes.prog) (w := w) (base := base) (ec := (fun c => [C0, C1, C2, C3, C4, C5, C6, C7, C8, C9, C10, C11, C12, C13, C14, C15].getD c 0)) (A := ⟨0, 0, w⟩) X_InvalidTable D_is_table Z_need_table
  have D_is_whole := ok_is_whole (P := PySem.Challenge.rw_turnshifts_k19_whole_classes.prog) (w := w) (base := base) (ec := (fun c => [C0, C1, C2, C3, C4, C5, C6, C7, C8, C9, C10, C11, C12, C13, C14, C15].getD c 0)) (A := ⟨0, 0, w⟩) D_is_number Z_is_whole
  have D_need_modulus := ok_need_modulus (P := PySem.Challenge.rw_turnshifts_k19_whole_classes.prog) (w := w) (base := base) (ec := (fun c => [C0, C1, C2, C3, C4, C5, C6, C7, C8, C9, C10, C11, C12, C13, C14, C15].getD c 0)) (A := ⟨0, 0, w⟩) X_InvalidModulus D_is_whole Z_need_modulus
  have D_divisor := ok_divisor (P := PySem.Challenge.rw_turnshifts_k19_whole_classes.prog) (w := w) (base := base) (ec := (fun c => [C0, C1, C2, C3, C4, C5, C6, C7, C8, C9, C10, C11, C12, C13, C14, C15].getD c 0)) (A := ⟨0, 0, w⟩) B Z_divisor
  have D_units_of := ok_units_of (P := PySem.Challenge.rw_turnshifts_k19_whole_classes.prog) (w := w) (base := base) (ec := (fun c => [C0, C1, C2, C3, C4, C5, C6, C7, C8, C9, C10, C11, C12, C13, C14, C15].getD c 0)) (A := ⟨0, 0, w⟩) B D_divisor Z_units_of
  have D_first_pair := ok_first_pair (P := PySem.Challenge.rw_turnshifts_k19_whole_classes.prog) (w := w) (base := base) (ec := (fun c => [C0, C1, C2, C3, C4, C5, C6, C7, C8, C9, C10, C11, C12, C13, C14, C15].getD c 0)) (A := ⟨0, 0, w⟩) B D_units_of Z_first_pair
  have DT_first_pair := okT_first_pair (P := PySem.Challenge.rw_turnshifts_k19_whole_classes.prog) (w := w) (base := base) (ec := (fun c => [C0, C1, C2, C3, C4, C5, C6, C7, C8, C9, C10, C11, C12, C13, C14, C15].getD c 0)) (A := ⟨0, 0, w⟩) B D_units_of Z_first_pair
  have D_class_of := ok_class_of (P := PySem.Challenge.rw_turnshifts_k19_whole_classes.prog) (w := w) (base := base) (ec := (fun c => [C0, C1, C2, C3, C4, C5, C6, C7, C8, C9, C10, C11, C12, C13, C14, C15].getD c 0)) (A := ⟨0, 0, w⟩) D_need_table D_need_modulus D_first_pair Z_class_of
  have D_all_classes := ok_all_classes (P := PySem.Challenge.rw_turnshifts_k19_whole_classes.prog) (w := w) (base := base) (ec := (fun c => [C0, C1, C2, C3, C4, C5, C6, C7, C8, C9, C10, C11, C12, C13, C14, C15].getD c 0)) (A := ⟨0, 0, w⟩) B D_divisor D_need_modulus DT_first_pair Z_all_classes
  have D_law_drawn := ok_law_drawn (P := PySem.Challenge.rw_turnshifts_k19_whole_classes.prog) (w := w) (base := base) (ec := (fun c => [C0, C1, C2, C3, C4, C5, C6, C7, C8, C9, C10, C11, C12, C13, C14, C15].getD c 0)) (A := ⟨0, 0, w⟩) Z_law_drawn
  have D_law_roll := ok_law_roll (P := PySem.Challenge.rw_turnshifts_k19_whole_classes.prog) (w := w) (base := base) (ec := (fun c => [C0, C1, C2, C3, C4, C5, C6, C7, C8, C9, C10, C11, C12, C13, C14, C15].getD c 0)) D_law_drawn Z_law_roll
  have D_law_times := ok_law_times (P := PySem.Challenge.rw_turnshifts_k19_whole_classes.prog) (w := w) (base := base) (ec := (fun c => [C0, C1, C2, C3, C4, C5, C6, C7, C8, C9, C10, C11, C12, C13, C14, C15].getD c 0)) (A := ⟨0, 0, w⟩) Z_law_times
  have D_law_inverse := ok_law_inverse (P := PySem.Challenge.rw_turnshifts_k19_whole_classes.prog) (w := w) (base := base) (ec := (fun c => [C0, C1, C2, C3, C4, C5, C6, C7, C8, C9, C10, C11, C12, C13, C14, C15].getD c 0)) (A := ⟨0, 0, w⟩) Z_law_inverse
  have D_law_negative := ok_law_negative (P := PySem.Challenge.rw_turnshifts_k19_whole_classes.prog) (w := w) (base := base) (ec := (fun c => [C0, C1, C2, C3, C4, C5, C6, C7, C8, C9, C10, C11, C12, C13, C14, C15].getD c 0)) (A := ⟨0, 0, w⟩) B Z_law_negative
  have D_law_letter := ok_law_letter (P := PySem.Challenge.rw_turnshifts_k19_whole_classes.prog) (w := w) (base := base) (ec := (fun c => [C0, C1, C2, C3, C4, C5, C6, C7, C8, C9, C10, C11, C12, C13, C14, C15].getD c 0)) (A := ⟨0, 0, w⟩) Z_law_letter
  have D_law_product := ok_law_product (P := PySem.Challenge.rw_turnshifts_k19_whole_classes.prog) (w := w) (base := base) (ec := (fun c => [C0, C1, C2, C3, C4, C5, C6, C7, C8, C9, C10, C11, C12, C13, C14, C15].getD c 0)) (A := ⟨0, 0, w⟩) D_law_times D_law_letter Z_law_product
  have D_law_any_word := ok_law_any_word (P := PySem.Challenge.rw_turnshifts_k19_whole_classes.prog) (w := w) (base := base) (ec := (fun c => [C0, C1, C2, C3, C4, C5, C6, C7, C8, C9, C10, C11, C12, C13, C14, C15].getD c 0)) (A := ⟨0, 0, w⟩) B D_law_roll Z_law_any_word
  have D_law_small := ok_law_small (P := PySem.Challenge.rw_turnshifts_k19_whole_classes.prog) (w := w) (base := base) (ec := (fun c => [C0, C1, C2, C3, C4, C5, C6, C7, C8, C9, C10, C11, C12, C13, C14, C15].getD c 0)) (A := ⟨0, 0, w⟩) D_law_roll Z_law_small
  have D_law_any_table := ok_law_any_table (P := PySem.Challenge.rw_turnshifts_k19_whole_classes.prog) (w := w) (base := base) (ec := (fun c => [C0, C1, C2, C3, C4, C5, C6, C7, C8, C9, C10, C11, C12, C13, C14, C15].getD c 0)) (A := ⟨0, 0, w⟩) B D_law_roll D_law_times D_law_inverse D_law_negative D_law_product D_law_any_word D_law_small Z_law_any_table
  have D_law_divisor := ok_law_divisor (P := PySem.Challenge.rw_turnshifts_k19_whole_classes.prog) (w := w) (base := base) (ec := (fun c => [C0, C1, C2, C3, C4, C5, C6, C7, C8, C9, C10, C11, C12, C13, C14, C15].getD c 0)) (A := ⟨0, 0, w⟩) B Z_law_divisor
  have D_law_pair := ok_law_pair (P := PySem.Challenge.rw_turnshifts_k19_whole_classes.prog) (w := w) (base := base) (ec := (fun c => [C0, C1, C2, C3, C4, C5, C6, C7, C8, C9, C10, C11, C12, C13, C14, C15].getD c 0)) (A := ⟨0, 0, w⟩) B D_law_divisor Z_law_pair
  have D_law_many := ok_law_many (P := PySem.Challenge.rw_turnshifts_k19_whole_classes.prog) (w := w) (base := base) (ec := (fun c => [C0, C1, C2, C3, C4, C5, C6, C7, C8, C9, C10, C11, C12, C13, C14, C15].getD c 0)) (A := ⟨0, 0, w⟩) B Z_law_many
  exact ok_law (P := PySem.Challenge.rw_turnshifts_k19_whole_classes.prog) (w := w) (base := base) (ec := (fun c => [C0, C1, C2, C3, C4, C5, C6, C7, C8, C9, C10, C11, C12, C13, C14, C15].getD c 0)) (A := ⟨0, 0, w⟩) B D_class_of D_all_classes D_law_roll D_law_rounds D_law_times D_law_inverse D_law_any_table D_law_pair D_law_many EO (fun_mk l_law_told c_law_told k_law_told) (PySem.W.mg_of X G a_law_told) (tok EO B mVE gE (PySem.W.mg_of X G eT) Z_law_term) (TB (c, Pt) List.mem_cons_self) l_law c_law pl
end Tz

open PySem PySem.W PyProof.Rows
set_option maxHeartbeats 0 in
theorem PySem.Challenge.cw_turnshifts_k19_whole_classes_holds : PySem.Challenge.rw_turnshifts_k19_whole_classes.Holds := by
  w_on; o_law; k_head; (case hw => w_witness2)
  k_fill
  refine LamX.walk_ofTs (l := PySem.Challenge.rw_turnshifts_k19_whole_classes) (n := 63) (k := 8) (CX := fun w => L2N.CX PySem.Challenge.rw_turnshifts_k19_whole_classes.prog w) (x := "script") rfl (by decide) rfl ⟨rfl, by decide, by decide⟩ (fun w h Y => PySem.W.km_in_of Y) ?F (fun w H s e s' z => Tz.cx_none H s e s' z)
  case F =>
    intro w mg fa h Y KX G hmg
    refine' Tz.law_at KX G hmg (PySem.W.km_tabs_of Y) Tz.plain_law ?e0 ?e1 ?e2 ?e3 ?e4 ?e5 ?e6 ?e7 ?e8 ?e9 ?e10 ?e11 ?e12 ?e13 ?e14 ?e15 ?eT ?ek ?bk ?x0 ?x7 ?a_law_cell ?l_law_cell ?c_law_cell ?k_law_cell ?a_law_rounds ?l_law_rounds ?c_law_rounds ?k_law_rounds ?a_law_roll ?l_law_roll ?c_law_roll ?k_law_roll ?a_is_number ?l_is_number ?c_is_number ?k_is_number ?a_are_four ?l_are_four ?c_are_four ?k_are_four ?a_is_table ?l_is_table ?c_is_table ?k_is_table ?a_need_table ?l_need_table ?c_need_table ?k_need_table ?a_is_whole ?l_is_whole ?c_is_whole ?k_is_whole ?a_need_modulus ?l_need_modulus ?c_need_modulus ?k_need_modulus ?a_divisor ?l_divisor ?c_divisor ?k_divisor ?a_units_of ?l_units_of ?c_units_of ?k_units_of ?a_first_pair ?l_first_pair ?c_first_pair ?k_first_pair ?a_class_of ?l_class_of ?c_class_of ?k_class_of ?a_all_classes ?l_all_classes ?c_all_classes ?k_all_classes ?a_law_drawn ?l_law_drawn ?c_law_drawn ?k_law_drawn ?a_law_times ?l_law_times ?c_law_times ?k_law_times ?a_law_inverse ?l_law_inverse ?c_law_inverse ?k_law_inverse ?a_law_negative ?l_law_negative ?c_law_negative ?k_law_negative ?a_law_letter ?l_law_letter ?c_law_letter ?k_law_letter ?a_law_product ?l_law_product ?c_law_product ?k_law_product ?a_law_any_word ?l_law_any_word ?c_law_any_word ?k_law_any_word ?a_law_small ?l_law_small ?c_law_small ?k_law_small ?a_law_any_table ?l_law_any_table ?c_law_any_table ?k_law_any_table ?a_law_divisor ?l_law_divisor ?c_law_divisor ?k_law_divisor ?a_law_pair ?l_law_pair ?c_law_pair ?k_law_pair ?a_law_many ?l_law_many ?c_law_many ?k_law_many ?a_law_term ?l_law_term ?c_law_term ?k_law_term ?a_law_told ?l_law_told ?c_law_told ?k_law_told ?a_law ?l_law ?c_law ?k_law ?hd ?nT
    (case e0 => k_is)
    (case e1 => k_is)
    (case e2 => k_is)
    (case e3 => k_is)
    (case e4 => k_is)
    (case e5 => k_is)
    (case e6 => k_is)
    (case e7 => k_is)
    (case e8 => k_is)
    (case e9 => k_is)
    (case e10 => k_is)
    (case e11 => k_is)
    (case e12 => k_is)
    (case e13 => k_is)
    (case e14 => k_is)
    (case e15 => k_is)
    (case eT => k_is)
    (case ek => kernel_rfl)
    (case bk => kernel_rfl)
    (case x0 => k_exc)
    (case x7 => k_exc)
    (case a_law_cell => k_is)
    (case l_law_cell => k_is)
    (case c_law_cell => k_is)
    (case k_law_cell => k_is)
    (case a_law_rounds => k_is)
    (case l_law_rounds => k_is)
    (case c_law_rounds => k_is)
    (case k_law_rounds => k_is)
    (case a_law_roll => k_is)
    (case l_law_roll => k_is)
    (case c_law_roll => k_is)
    (case k_law_roll => k_is)
    (case a_is_number => k_is)
    (case l_is_number => k_is)
    (case c_is_number => k_is)
    (case k_is_number => k_is)
    (case a_are_four => k_is)
    (case l_are_four => k_is)
    (case c_are_four => k_is)
    (case k_are_four => k_is)
    (case a_is_table => k_is)
    (case l_is_table => k_is)
    (case c_is_table => k_is)
    (case k_is_table => k_is)
    (case a_need_table => k_is)
    (case l_need_table => k_is)
    (case c_need_table => k_is)
    (case k_need_table => k_is)
    (case a_is_whole => k_is)
    (case l_is_whole => k_is)
    (case c_is_whole => k_is)
    (case k_is_whole => k_is)
    (case a_need_modulus => k_is)
    (case l_need_modulus => k_is)
    (case c_need_modulus => k_is)
    (case k_need_modulus => k_is)
    (case a_divisor => k_is)
    (case l_divisor => k_is)
    (case c_divisor => k_is)
    (case k_divisor => k_is)
    (case a_units_of => k_is)
    (case l_units_of => k_is)
    (case c_units_of => k_is)
    (case k_units_of => k_is)
    (case a_first_pair => k_is)
    (case l_first_pair => k_is)
    (case c_first_pair => k_is)
    (case k_first_pair => k_is)
    (case a_class_of => k_is)
    (case l_class_of => k_is)
    (case c_class_of => k_is)
    (case k_class_of => k_is)
    (case a_all_classes => k_is)
    (case l_all_classes => k_is)
    (case c_all_classes => k_is)
    (case k_all_classes => k_is)
    (case a_law_drawn => k_is)
    (case l_law_drawn => k_is)
    (case c_law_drawn => k_is)
    (case k_law_drawn => k_is)
    (case a_law_times => k_is)
    (case l_law_times => k_is)
    (case c_law_times => k_is)
    (case k_law_times => k_is)
    (case a_law_inverse => k_is)
    (case l_law_inverse => k_is)
    (case c_law_inverse => k_is)
    (case k_law_inverse => k_is)
    (case a_law_negative => k_is)
    (case l_law_negative => k_is)
    (case c_law_negative => k_is)
    (case k_law_negative => k_is)
    (case a_law_letter => k_is)
    (case l_law_letter => k_is)
    (case c_law_letter => k_is)
    (case k_law_letter => k_is)
    (case a_law_product => k_is)
    (case l_law_product => k_is)
    (case c_law_product => k_is)
    (case k_law_product => k_is)
    (case a_law_any_word => k_is)
    (case l_law_any_word => k_is)
    (case c_law_any_word => k_is)
    (case k_law_any_word => k_is)
    (case a_law_small => k_is)
    (case l_law_small => k_is)
    (case c_law_small => k_is)
    (case k_law_small => k_is)
    (case a_law_any_table => k_is)
    (case l_law_any_table => k_is)
    (case c_law_any_table => k_is)
    (case k_law_any_table => k_is)
    (case a_law_divisor => k_is)
    (case l_law_divisor => k_is)
    (case c_law_divisor => k_is)
    (case k_law_divisor => k_is)
    (case a_law_pair => k_is)
    (case l_law_pair => k_is)
    (case c_law_pair => k_is)
    (case k_law_pair => k_is)
    (case a_law_many => k_is)
    (case l_law_many => k_is)
    (case c_law_many => k_is)
    (case k_law_many => k_is)
    (case a_law_term => k_is)
    (case l_law_term => k_is)
    (case c_law_term => k_is)
    (case k_law_term => k_is)
    (case a_law_told => k_is)
    (case l_law_told => k_is)
    (case c_law_told => k_is)
    (case k_law_told => k_is)
    (case a_law => k_is)
    (case l_law => k_is)
    (case c_law => k_is)
    (case k_law => k_is)
    (case hd => kernel_rfl)
    (case nT => kernel_rfl)

