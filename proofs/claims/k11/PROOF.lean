import PyProof.Rows.All
import Wide.All
import OpenK.AllK
import Wide.FinOn
import HandS.ForMost
import HandS.ForExc
import HandS.Wide
import HandS.TupAny
import HandS.TupMul
import HandS.TupLe
import HandS.Deep
import HandS.Conv
import HandS.IsInst
import KE.SortData
import HandS.Lambda
import HandS.ExcCtx
import KE.GoesEnum
import HandS.ExcIs
import HandS.Hot
import HandS.HotCalls
import HandS.List
import HandS.EndTab
import HandS.Dict
import HandS.Zip
import HandS.DictComp
import HandS.Style
import PySem.Challenge.RW_cutsums_k11_whole_between
set_option Elab.async false
set_option linter.all false
set_option maxRecDepth 100000
set_option maxHeartbeats 4000000
/-! Core1: data read off the heap, the mirror's results, the simulation of readings -/
namespace CS
open PySem PySem.Spec PyProof.Rows L2

/-! ### heaps -/
def wo (H : Hp) (L : List Addr) : Hp := fun b => if b ∈ L then none else H b
theorem wo_some {H : Hp} {L : List Addr} {b : Addr} {o : HO} (h : wo H L b = some o) : H b = some o ∧ b ∉ L := by
  unfold wo at h
  by_cases hb : b ∈ L
  · rw [if_pos hb] at h; cases h
  · rw [if_neg hb] at h; exact ⟨h, hb⟩
theorem wo_of {H : Hp} {L : List Addr} {b : Addr} {o : HO} (h : H b = some o) (hb : b ∉ L) : wo H L b = some o := by
  unfold wo; rw [if_neg hb]; exact h
theorem same_wo {H H' : Hp} {L : List Addr} (h : ∀ b o, b ∉ L → H b = some o → H' b = some o) : Same (wo H L) (wo H' L) := fun b o e =>
  let ⟨e1, e2⟩ := wo_some e
  wo_of (h b o e2 e1) e2
theorem same_wo_sub {H : Hp} {L L' : List Addr} (h : ∀ b o, H b = some o → b ∉ L → b ∉ L') : Same (wo H L) (wo H L') := fun b o e =>
  let ⟨e1, e2⟩ := wo_some e
  wo_of e1 (h b o e1 e2)
theorem same_of_wo {H : Hp} {L : List Addr} : Same (wo H L) H := fun b o e => (wo_some e).1
theorem same_new {H : Hp} {p : Addr} {o : HO} (h : H p = none) : Same H (upd H p o) := fun a u e => by
  rw [upd_ne (ne_of_none e h)]; exact e
/-! ### data -/
mutual
/-- data as it stands in tracked lists and tuples -/
inductive Dq (H : Hp) : V → PyData → Prop
  | non : Dq H .non .none
  | bl (b : Bool) : Dq H (.bl b) (.bool b)
  | int (i : Int) : Dq H (.int i) (.int i)
  | str (x : Str) : Dq H (.str x) (.str x)
  | lst {a : Addr} {xs : List V} {ds : List PyData} : H a = some (.lst xs) → DqAll H xs ds → Dq H (.ref a) (.list ds)
  | tup {a : Addr} {xs : List V} {ds : List PyData} : H a = some (.tup xs) → DqAll H xs ds → Dq H (.ref a) (.tuple ds)
inductive DqAll (H : Hp) : List V → List PyData → Prop
  | nil : DqAll H [] []
  | cons {v : V} {vs : List V} {d : PyData} {ds : List PyData} : Dq H v d → DqAll H vs ds → DqAll H (v :: vs) (d :: ds)
end
mutual
theorem Dq.dp {K : PySem.W.Frag} {H : Hp} : ∀ (d : PyData) (v : V), Dq H v d → Dp K H v d
  | .none, _, h => by cases h; exact .non
  | .bool b, _, h => by cases h; exact .bl b
  | .int i, _, h => by cases h; exact .int i
  | .str x, _, h => by cases h; exact .str x
  | .list ds, _, h => by
    cases h with
    | lst hs ha => exact .lst (.of hs) (DqAll.dp ds _ ha)
  | .tuple ds, _, h => by
    cases h with
    | tup hs ha => exact .tup (.of hs) (DqAll.dp ds _ ha)
  | .dict _, _, h => by cases h
theorem DqAll.dp {K : PySem.W.Frag} {H : Hp} : ∀ (ds : List PyData) (vs : List V), DqAll H vs ds → DpAll K H vs ds
  | [], _, h => by cases h; exact .nil
  | d :: ds, _, h => by
    cases h with
    | cons h1 h2 => exact .cons (Dq.dp d _ h1) (DqAll.dp ds _ h2)
end
mutual
theorem dq_same {H H' : Hp} (e : Same H H') : ∀ (d : PyData) (v : V), Dq H v d → Dq H' v d
  | .none, _, h => by cases h; exact .non
  | .bool b, _, h => by cases h; exact .bl b
  | .int i, _, h => by cases h; exact .int i
  | .str x, _, h => by cases h; exact .str x
  | .list ds, _, h => by
    cases h with
    | lst hs ha => exact .lst (e _ _ hs) (dqAll_same e ds _ ha)
  | .tuple ds, _, h => by
    cases h with
    | tup hs ha => exact .tup (e _ _ hs) (dqAll_same e ds _ ha)
  | .dict _, _, h => by cases h
theorem dqAll_same {H H' : Hp} (e : Same H H') : ∀ (ds : List PyData) (vs : List V), DqAll H vs ds → DqAll H' vs ds
  | [], _, h => by cases h; exact .nil
  | d :: ds, _, h => by
    cases h with
    | cons h1 h2 => exact .cons (dq_same e d _ h1) (dqAll_same e ds _ h2)
end
theorem DqAll.length {H : Hp} : ∀ {vs : List V} {ds : List PyData}, DqAll H vs ds → vs.length = ds.length
  | _, [], h => by cases h; rfl
  | _, d :: ds, h => by
    cases h with
    | cons h1 h2 => rw [List.length_cons, List.length_cons, DqAll.length h2]
theorem DqAll.get {H : Hp} : ∀ {vs : List V} {ds : List PyData} {i : Nat} {d : PyData}, DqAll H vs ds → ds[i]? = some d → ∃ v, vs[i]? = some v ∧ Dq H v d
  | _, [], _, _, h, e => by simp at e
  | _, x :: ds, 0, d, h, e => by
    cases h with
    | cons h1 h2 =>
      have e' : x = d := by simpa using e
      subst e'
      exact ⟨_, rfl, h1⟩
  | _, x :: ds, i + 1, d, h, e => by
    cases h with
    | cons h1 h2 =>
      obtain ⟨v, a, b⟩ := DqAll.get (i := i) h2 (by simpa using e)
      exact ⟨v, by simpa using a, b⟩
theorem DqAll.get' {H : Hp} : ∀ {vs : List V} {ds : List PyData} {i : Nat} {v : V}, DqAll H vs ds → vs[i]? = some v → ∃ d, ds[i]? = some d ∧ Dq H v d
  | _, [], _, _, h, e => by cases h; simp at e
  | _, x :: ds, 0, v, h, e => by
    cases h with
    | cons h1 h2 =>
      have e' := Option.some.inj e
      subst e'
      exact ⟨_, rfl, h1⟩
  | _, x :: ds, i + 1, v, h, e => by
    cases h with
    | cons h1 h2 =>
      obtain ⟨d, a, b⟩ := DqAll.get' (i := i) h2 (by simpa using e)
      exact ⟨d, by simpa using a, b⟩
theorem DqAll.append {H : Hp} : ∀ {vs ws : List V} {ds es : List PyData}, DqAll H vs ds → DqAll H ws es → DqAll H (vs ++ ws) (ds ++ es)
  | _, _, [], _, h, k => by cases h; exact k
  | _, _, d :: ds, _, h, k => by
    cases h with
    | cons h1 h2 => exact .cons h1 (DqAll.append h2 k)
theorem DqAll.drop {H : Hp} : ∀ {vs : List V} {ds : List PyData} (n : Nat), DqAll H vs ds → DqAll H (vs.drop n) (ds.drop n)
  | _, _, 0, h => h
  | _, [], n + 1, h => by cases h; exact .nil
  | _, d :: ds, n + 1, h => by
    cases h with
    | cons h1 h2 => exact DqAll.drop n h2
theorem DqAll.take {H : Hp} : ∀ {vs : List V} {ds : List PyData} (n : Nat), DqAll H vs ds → DqAll H (vs.take n) (ds.take n)
  | _, _, 0, h => .nil
  | _, [], n + 1, h => by cases h; exact .nil
  | _, d :: ds, n + 1, h => by
    cases h with
    | cons h1 h2 => exact .cons h1 (DqAll.take n h2)
theorem DqAll.set {H : Hp} {v : V} {d : PyData} (hv : Dq H v d) : ∀ {vs : List V} {ds : List PyData} (n : Nat), DqAll H vs ds → DqAll H (vs.set n v) (ds.set n d)
  | _, [], _, h => by cases h; exact .nil
  | _, e :: ds, 0, h => by
    cases h with
    | cons h1 h2 => exact .cons hv h2
  | _, e :: ds, n + 1, h => by
    cases h with
    | cons h1 h2 => exact .cons h1 (DqAll.set hv n h2)
theorem DqAll.one {H : Hp} {v : V} {d : PyData} (h : Dq H v d) : DqAll H [v] [d] := .cons h .nil
/-- ints are their own values -/
theorem dq_int {H : Hp} {v : V} {i : Int} (h : Dq H v (.int i)) : v = .int i := by cases h; rfl
theorem dq_bool {H : Hp} {v : V} {b : Bool} (h : Dq H v (.bool b)) : v = .bl b := by cases h; rfl
theorem dq_str {H : Hp} {v : V} {x : Str} (h : Dq H v (.str x)) : v = .str x := by cases h; rfl
theorem dq_none {H : Hp} {v : V} (h : Dq H v .none) : v = .non := by cases h; rfl
theorem dq_tup {H : Hp} {v : V} {ds : List PyData} (h : Dq H v (.tuple ds)) : ∃ a vs, v = .ref a ∧ H a = some (.tup vs) ∧ DqAll H vs ds := by
  cases h with
  | tup hs ha => exact ⟨_, _, rfl, hs, ha⟩
theorem dq_lst {H : Hp} {v : V} {ds : List PyData} (h : Dq H v (.list ds)) : ∃ a vs, v = .ref a ∧ H a = some (.lst vs) ∧ DqAll H vs ds := by
  cases h with
  | lst hs ha => exact ⟨_, _, rfl, hs, ha⟩
theorem dqAll_ints {H : Hp} : ∀ {vs : List V} {ns : List Int}, DqAll H vs (ns.map PyData.int) → vs = ns.map V.int
  | _, [], h => by cases h; rfl
  | _, n :: ns, h => by
    cases h with
    | cons h1 h2 => rw [dq_int h1, dqAll_ints h2]; rfl

/-- dicts with tuple keys -/
inductive KvR (H : Hp) : List (List Key × V) → List (List Key × PyData) → Prop
  | nil : KvR H [] []
  | cons {k : List Key} {v : V} {d : PyData} {r : List (List Key × V)} {q : List (List Key × PyData)} : Dq H v d → KvR H r q → KvR H ((k, v) :: r) ((k, d) :: q)
theorem KvR.same {H H' : Hp} (e : Same H H') {r : List (List Key × V)} {q : List (List Key × PyData)} (h : KvR H r q) : KvR H' r q := by
  induction h with
  | nil => exact .nil
  | cons h1 _ ih => exact .cons (dq_same e _ _ h1) ih

/-- the values that the mirror hands about: data, an object by its address, a dict -/
inductive W where
  | d (x : PyData)
  | ref (a : Addr)
  | dic (kvs : List (List Key × PyData))
def WR (H : Hp) (w : W) (v : V) : Prop := match w with
  | .d x => Dq H v x
  | .ref a => v = .ref a
  | .dic kvs => ∃ a ks, v = .ref a ∧ Rd H a (.dT ks) ∧ KvR H ks kvs
theorem rd_same {H H' : Hp} (e : Same H H') {a : Addr} {u : HO} (h : Rd H a u) : Rd H' a u := by
  rcases h with h | ⟨o, h⟩
  · exact .inl (e _ _ h)
  · exact .inr ⟨o, e _ _ h⟩
theorem rd_wo {H : Hp} {L : List Addr} {a : Addr} {u : HO} (h : Rd (wo H L) a u) : Rd H a u ∧ a ∉ L := by
  rcases h with h | ⟨o, h⟩
  · exact ⟨.inl (wo_some h).1, (wo_some h).2⟩
  · exact ⟨.inr ⟨o, (wo_some h).1⟩, (wo_some h).2⟩
theorem WR.same {H H' : Hp} (e : Same H H') {w : W} {v : V} (h : WR H w v) : WR H' w v := by
  cases w with
  | d x => exact dq_same e _ _ h
  | ref a => exact h
  | dic kvs =>
    obtain ⟨a, ks, h1, h2, h3⟩ := h
    exact ⟨a, ks, h1, rd_same e h2, h3.same e⟩
inductive WRs (H : Hp) : List W → List V → Prop
  | nil : WRs H [] []
  | cons {w : W} {v : V} {ws : List W} {vs : List V} : WR H w v → WRs H ws vs → WRs H (w :: ws) (v :: vs)
theorem WRs.same {H H' : Hp} (e : Same H H') {ws : List W} {vs : List V} (h : WRs H ws vs) : WRs H' ws vs := by
  induction h with
  | nil => exact .nil
  | cons h1 _ ih => exact .cons (h1.same e) ih
theorem WRs.length {H : Hp} {ws : List W} {vs : List V} (h : WRs H ws vs) : ws.length = vs.length := by
  induction h with
  | nil => rfl
  | cons h1 _ ih => rw [List.length_cons, List.length_cons, ih]
theorem WRs.data {H : Hp} : ∀ {ds : List PyData} {vs : List V}, WRs H (ds.map W.d) vs → DqAll H vs ds
  | [], _, h => by cases h; exact .nil
  | d :: ds, _, h => by
    cases h with
    | cons h1 h2 => exact .cons h1 (WRs.data h2)

/-! ### results -/
inductive Rs (S α : Type) where
  | ok (a : α) (s : S)
  | exc (c : Nat) (s : S)
  | stuck
def Rs.bind {S α β : Type} (r : Rs S α) (k : α → S → Rs S β) : Rs S β := match r with
  | .ok a s => k a s
  | .exc c s => .exc c s
  | .stuck => .stuck
def optR {S α : Type} (o : Option α) (s : S) : Rs S α := match o with
  | some a => .ok a s
  | none => .stuck

/-! ### the mode: what may change -/
/-- what a rewriting of lists and dicts leaves alone -/
def fixO : HO → Bool
  | .lst _ => false
  | .dT _ => false
  | .frz _ _ => false
  | _ => true
/-- something stands there, no tuple -/
def NT (o : Option HO) : Prop := ∃ u, o = some u ∧ ∀ xs, u ≠ .tup xs
theorem NT.ne {o : Option HO} (h : NT o) : o ≠ none := by
  obtain ⟨u, rfl, _⟩ := h
  exact fun z => by cases z
theorem NT.lst {xs : List V} : NT (some (.lst xs)) := ⟨_, rfl, fun _ z => by cases z⟩
theorem NT.dT {ks : List (List Key × V)} : NT (some (.dT ks)) := ⟨_, rfl, fun _ z => by cases z⟩
structure Gm where

  cl : Nat → Addr
  L0 : List Addr
  S : Type
  ok : S → Hp → Prop
  mono : ∀ s H H', (∀ a ∈ L0, H' a = H a) → (∀ a o, a ∉ L0 → fixO o = true → H a = some o → H' a = some o) → ok s H → ok s H'
  lv : ∀ s H, ok s H → ∀ a ∈ L0, NT (H a)
/-- nothing changes but what is new -/
def pureG (cl : Nat → Addr) : Gm := ⟨cl, [], Unit, fun _ _ => True, fun _ _ _ _ _ _ => trivial, fun _ _ _ a h => nomatch h⟩
def Stp (G : Gm) (H H' : Hp) : Prop := ∀ b o, b ∉ G.L0 → H b = some o → H' b = some o
theorem Stp.refl {G : Gm} {H : Hp} : Stp G H H := fun _ _ _ h => h
theorem Stp.trans {G : Gm} {H H1 H2 : Hp} (a : Stp G H H1) (b : Stp G H1 H2) : Stp G H H2 := fun c o n h => b c o n (a c o n h)
theorem Stp.of {G : Gm} {H H' : Hp} (e : Same H H') : Stp G H H' := fun b o _ h => e b o h
theorem Gm.ok_same (G : Gm) {s : G.S} {H H' : Hp} (h : G.ok s H) (e : Same H H') : G.ok s H' := by
  refine G.mono s H H' (fun a ha => ?_) (fun a o _ _ q => e a o q) h
  cases q : H a with
  | none => exact absurd q (G.lv s H h a ha).ne
  | some o => exact e a o q

/-! ### slots -/
inductive Sl where
  | non
  | w (x : W)
  | own (ds : List PyData)
  | odc (kvs : List (List Key × PyData))
def Sl.isOwn : Sl → Bool
  | .own _ => true
  | .odc _ => true
  | _ => false
def SlR (L O : List Addr) (H : Hp) (x : Sl) (o : Option V) : Prop := match x with
  | .non => True
  | .w x => ∃ v, o = some v ∧ WR (wo H L) x v
  | .own ds => ∃ a vs, o = some (.ref a) ∧ a ∈ O ∧ H a = some (.lst vs) ∧ DqAll (wo H L) vs ds
  | .odc kvs => ∃ a ks, o = some (.ref a) ∧ a ∈ O ∧ H a = some (.dT ks) ∧ KvR (wo H L) ks kvs
structure SR (G : Gm) (L O : List Addr) (σD : List Sl) (s : G.S) (σ : L2.St) (H : Hp) : Prop where
  l0 : ∀ a ∈ G.L0, a ∈ L
  oL : ∀ a ∈ O, a ∈ L ∧ a ∉ G.L0
  nt : ∀ a ∈ L, NT (H a)
  ok : G.ok s H
  sl : ∀ (i : Nat) (x : Sl), σD[i]? = some x → ∃ o, σ[i]? = some o ∧ SlR L O H x o
  df : ∀ (i j : Nat) (x y : Sl) (a : Addr), σD[i]? = some x → σD[j]? = some y → x.isOwn = true → y.isOwn = true → σ[i]? = some (some (.ref a)) → σ[j]? = some (some (.ref a)) → i = j

section
variable {G : Gm} {L O : List Addr} {σD : List Sl} {s s' : G.S} {σ : L2.St} {H H' H1 : Hp} {E : XK}
theorem SR.live (R : SR G L O σD s σ H) : ∀ a ∈ L, H a ≠ none := fun a h => (R.nt a h).ne
theorem stp_wo (l0 : ∀ a ∈ G.L0, a ∈ L) (e : Stp G H H') : Same (wo H L) (wo H' L) := same_wo fun b o hb h => e b o (fun z => hb (l0 b z)) h
theorem SlR.step (l0 : ∀ a ∈ G.L0, a ∈ L) (oL : ∀ a ∈ O, a ∈ L ∧ a ∉ G.L0) (e : Stp G H H') {x : Sl} {o : Option V} (h : SlR L O H x o) : SlR L O H' x o := by
  cases x with
  | non => trivial
  | w x => obtain ⟨v, h1, h2⟩ := h; exact ⟨v, h1, h2.same (stp_wo l0 e)⟩
  | own ds => obtain ⟨a, vs, h1, h2, h3, h4⟩ := h; exact ⟨a, vs, h1, h2, e a _ (oL a h2).2 h3, dqAll_same (stp_wo l0 e) _ _ h4⟩
  | odc ds => obtain ⟨a, vs, h1, h2, h3, h4⟩ := h; exact ⟨a, vs, h1, h2, e a _ (oL a h2).2 h3, h4.same (stp_wo l0 e)⟩
theorem SR.step (R : SR G L O σD s σ H) (e : Stp G H H') (k : G.ok s' H') : SR G L O σD s' σ H' where
  l0 := R.l0
  oL := R.oL
  nt := fun a ha => by
    by_cases h : a ∈ G.L0
    · exact G.lv s' H' k a h
    · obtain ⟨o, q, n⟩ := R.nt a ha
      rw [e a o h q]
      exact ⟨o, rfl, n⟩
  ok := k
  sl := fun i x hx => let ⟨o, h1, h2⟩ := R.sl i x hx; ⟨o, h1, h2.step R.l0 R.oL e⟩
  df := R.df
theorem SR.grow (R : SR G L O σD s σ H) (e : Same H H') : SR G L O σD s σ H' := R.step (Stp.of e) (G.ok_same R.ok e)
theorem SR.fresh (R : SR G L O σD s σ H) {p : Addr} (h : H p = none) : p ∉ L := fun z => R.live p z h

/-! ### what is wanted of a result -/
def Want (G : Gm) (E : XK) (L : List Addr) (H : Hp) (r : Rs G.S W) (Q : VK) : Prop := match r with
  | .ok w s' => ∀ v H', Stp G H H' → G.ok s' H' → WR (wo H' L) w v → Q v H'
  | .exc c s' => ∀ H', Stp G H H' → G.ok s' H' → E (.ref (G.cl c)) none H'
  | .stuck => False
def Sm (G : Gm) (E : XK) (te : TE) (f : List Sl → G.S → Rs G.S W) : Prop := ∀ (L O : List Addr) (σD : List Sl) (s : G.S) (σ : L2.St) (H : Hp) (Q : VK), SR G L O σD s σ H → Want G E L H (f σD s) Q → te σ H Q
def WantT (G : Gm) (E : XK) (L : List Addr) (H : Hp) (r : Rs G.S Bool) (Q : Bool → Hp → Prop) : Prop := match r with
  | .ok b s' => ∀ H', Stp G H H' → G.ok s' H' → Q b H'
  | .exc c s' => ∀ H', Stp G H H' → G.ok s' H' → E (.ref (G.cl c)) none H'
  | .stuck => False
def SmT (G : Gm) (E : XK) (te : TT) (f : List Sl → G.S → Rs G.S Bool) : Prop := ∀ (L O : List Addr) (σD : List Sl) (s : G.S) (σ : L2.St) (H : Hp) (Q : Bool → Hp → Prop), SR G L O σD s σ H → WantT G E L H (f σD s) Q → te σ H Q
def WantA (G : Gm) (E : XK) (L : List Addr) (H : Hp) (r : Rs G.S (List W)) (Q : List V → Hp → Prop) : Prop := match r with
  | .ok ws s' => ∀ vs H', Stp G H H' → G.ok s' H' → WRs (wo H' L) ws vs → Q vs H'
  | .exc c s' => ∀ H', Stp G H H' → G.ok s' H' → E (.ref (G.cl c)) none H'
  | .stuck => False
def SmA (G : Gm) (E : XK) (te : TA) (f : List Sl → G.S → Rs G.S (List W)) : Prop := ∀ (L O : List Addr) (σD : List Sl) (s : G.S) (σ : L2.St) (H : Hp) (Q : List V → Hp → Prop), SR G L O σD s σ H → WantA G E L H (f σD s) Q → te σ H Q

theorem Want.later {r : Rs G.S W} {Q : VK} (e : Stp G H H1) (h : Want G E L H r Q) : Want G E L H1 r Q := by
  cases r with
  | ok w s' => exact fun v H' e' k q => h v H' (e.trans e') k q
  | exc c s' => exact fun H' e' k => h H' (e.trans e') k
  | stuck => exact h
theorem WantT.later {r : Rs G.S Bool} {Q : Bool → Hp → Prop} (e : Stp G H H1) (h : WantT G E L H r Q) : WantT G E L H1 r Q := by
  cases r with
  | ok w s' => exact fun H' e' k => h H' (e.trans e') k
  | exc c s' => exact fun H' e' k => h H' (e.trans e') k
  | stuck => exact h
theorem WantA.later {r : Rs G.S (List W)} {Q : List V → Hp → Prop} (e : Stp G H H1) (h : WantA G E L H r Q) : WantA G E L H1 r Q := by
  cases r with
  | ok w s' => exact fun v H' e' k q => h v H' (e.trans e') k q
  | exc c s' => exact fun H' e' k => h H' (e.trans e') k
  | stuck => exact h
/-- first this, then that: to a value's wish, a test's, a list's -/
theorem Sm.thenV {te : TE} {f : List Sl → G.S → Rs G.S W} (h : Sm G E te f) (R : SR G L O σD s σ H) {k : W → G.S → Rs G.S W} {Q : VK} (w : Want G E L H ((f σD s).bind k) Q) {Q' : VK}
    (c : ∀ x s1 v H1, Stp G H H1 → SR G L O σD s1 σ H1 → WR (wo H1 L) x v → Want G E L H1 (k x s1) Q → Q' v H1) : te σ H Q' := by
  refine h L O σD s σ H Q' R ?_
  cases e : f σD s with
  | ok x s1 =>
    rw [e] at w
    exact fun v H1 st ok1 wr => c x s1 v H1 st (R.step st ok1) wr (Want.later st w)
  | exc cc s1 => rw [e] at w; exact w
  | stuck => rw [e] at w; exact w
theorem Sm.thenT {te : TE} {f : List Sl → G.S → Rs G.S W} (h : Sm G E te f) (R : SR G L O σD s σ H) {k : W → G.S → Rs G.S Bool} {Q : Bool → Hp → Prop} (w : WantT G E L H ((f σD s).bind k) Q) {Q' : VK}
    (c : ∀ x s1 v H1, Stp G H H1 → SR G L O σD s1 σ H1 → WR (wo H1 L) x v → WantT G E L H1 (k x s1) Q → Q' v H1) : te σ H Q' := by
  refine h L O σD s σ H Q' R ?_
  cases e : f σD s with
  | ok x s1 =>
    rw [e] at w
    exact fun v H1 st ok1 wr => c x s1 v H1 st (R.step st ok1) wr (WantT.later st w)
  | exc cc s1 => rw [e] at w; exact w
  | stuck => rw [e] at w; exact w
theorem Sm.thenA {te : TE} {f : List Sl → G.S → Rs G.S W} (h : Sm G E te f) (R : SR G L O σD s σ H) {k : W → G.S → Rs G.S (List W)} {Q : List V → Hp → Prop} (w : WantA G E L H ((f σD s).bind k) Q) {Q' : VK}
    (c : ∀ x s1 v H1, Stp G H H1 → SR G L O σD s1 σ H1 → WR (wo H1 L) x v → WantA G E L H1 (k x s1) Q → Q' v H1) : te σ H Q' := by
  refine h L O σD s σ H Q' R ?_
  cases e : f σD s with
  | ok x s1 =>
    rw [e] at w
    exact fun v H1 st ok1 wr => c x s1 v H1 st (R.step st ok1) wr (WantA.later st w)
  | exc cc s1 => rw [e] at w; exact w
  | stuck => rw [e] at w; exact w
theorem SmT.thenV {te : TT} {f : List Sl → G.S → Rs G.S Bool} (h : SmT G E te f) (R : SR G L O σD s σ H) {k : Bool → G.S → Rs G.S W} {Q : VK} (w : Want G E L H ((f σD s).bind k) Q) {Q' : Bool → Hp → Prop}
    (c : ∀ x s1 H1, Stp G H H1 → SR G L O σD s1 σ H1 → Want G E L H1 (k x s1) Q → Q' x H1) : te σ H Q' := by
  refine h L O σD s σ H Q' R ?_
  cases e : f σD s with
  | ok x s1 =>
    rw [e] at w
    exact fun H1 st ok1 => c x s1 H1 st (R.step st ok1) (Want.later st w)
  | exc cc s1 => rw [e] at w; exact w
  | stuck => rw [e] at w; exact w
theorem SmT.thenT {te : TT} {f : List Sl → G.S → Rs G.S Bool} (h : SmT G E te f) (R : SR G L O σD s σ H) {k : Bool → G.S → Rs G.S Bool} {Q : Bool → Hp → Prop} (w : WantT G E L H ((f σD s).bind k) Q) {Q' : Bool → Hp → Prop}
    (c : ∀ x s1 H1, Stp G H H1 → SR G L O σD s1 σ H1 → WantT G E L H1 (k x s1) Q → Q' x H1) : te σ H Q' := by
  refine h L O σD s σ H Q' R ?_
  cases e : f σD s with
  | ok x s1 =>
    rw [e] at w
    exact fun H1 st ok1 => c x s1 H1 st (R.step st ok1) (WantT.later st w)
  | exc cc s1 => rw [e] at w; exact w
  | stuck => rw [e] at w; exact w
theorem SmA.thenV {te : TA} {f : List Sl → G.S → Rs G.S (List W)} (h : SmA G E te f) (R : SR G L O σD s σ H) {k : List W → G.S → Rs G.S W} {Q : VK} (w : Want G E L H ((f σD s).bind k) Q) {Q' : List V → Hp → Prop}
    (c : ∀ x s1 v H1, Stp G H H1 → SR G L O σD s1 σ H1 → WRs (wo H1 L) x v → Want G E L H1 (k x s1) Q → Q' v H1) : te σ H Q' := by
  refine h L O σD s σ H Q' R ?_
  cases e : f σD s with
  | ok x s1 =>
    rw [e] at w
    exact fun v H1 st ok1 wr => c x s1 v H1 st (R.step st ok1) wr (Want.later st w)
  | exc cc s1 => rw [e] at w; exact w
  | stuck => rw [e] at w; exact w
theorem SmA.thenA {te : TA} {f : List Sl → G.S → Rs G.S (List W)} (h : SmA G E te f) (R : SR G L O σD s σ H) {k : List W → G.S → Rs G.S (List W)} {Q : List V → Hp → Prop} (w : WantA G E L H ((f σD s).bind k) Q) {Q' : List V → Hp → Prop}
    (c : ∀ x s1 v H1, Stp G H H1 → SR G L O σD s1 σ H1 → WRs (wo H1 L) x v → WantA G E L H1 (k x s1) Q → Q' v H1) : te σ H Q' := by
  refine h L O σD s σ H Q' R ?_
  cases e : f σD s with
  | ok x s1 =>
    rw [e] at w
    exact fun v H1 st ok1 wr => c x s1 v H1 st (R.step st ok1) wr (WantA.later st w)
  | exc cc s1 => rw [e] at w; exact w
  | stuck => rw [e] at w; exact w

/-! ### names and constants -/
def eVar {S : Type} (i : Nat) : List Sl → S → Rs S W := fun σ s => match σ[i]? with
  | some (.w x) => .ok x s
  | _ => .stuck
def eC {S : Type} (d : PyData) : List Sl → S → Rs S W := fun _ s => .ok (.d d) s
theorem sm_var {i : Nat} : Sm G E (tVar i) (eVar i) := fun L O σD s σ H Q R h => by
  unfold eVar at h
  cases e : σD[i]? with
  | none => rw [e] at h; exact h.elim
  | some x =>
    rw [e] at h
    cases x with
    | w x =>
      obtain ⟨o, h1, v, h2, h3⟩ := R.sl i _ e
      subst h2
      exact ⟨v, h1, h v H Stp.refl R.ok h3⟩
    | non => exact h.elim
    | own _ => exact h.elim
    | odc _ => exact h.elim
theorem sm_int {i : Int} : Sm G E (tC (.int i)) (eC (.int i)) := fun L O σD s σ H Q R h => h _ H Stp.refl R.ok (.int i)
theorem sm_bl {b : Bool} : Sm G E (tC (.bl b)) (eC (.bool b)) := fun L O σD s σ H Q R h => h _ H Stp.refl R.ok (.bl b)
theorem sm_str {x : Str} : Sm G E (tC (.str x)) (eC (.str x)) := fun L O σD s σ H Q R h => h _ H Stp.refl R.ok (.str x)
theorem sm_non : Sm G E (tC .non) (eC .none) := fun L O σD s σ H Q R h => h _ H Stp.refl R.ok .non

/-! ### operators -/
/-- an operation on two values, as a plain function of data -/
def R2Sm (r : R2) (g : PyData → PyData → Option PyData) : Prop := ∀ (L : List Addr) (H : Hp) (x y : V) (d e z : PyData) (Q : VK), (∀ a ∈ L, H a ≠ none) → Dq (wo H L) x d → Dq (wo H L) y e → g d e = some z →
  (∀ v H', Same H H' → Dq (wo H' L) v z → Q v H') → r x y H Q
def lift2 (g : PyData → PyData → Option PyData) : W → W → Option W
  | .d x, .d y => (g x y).map .d
  | _, _ => none
def eOp {S : Type} (g : PyData → PyData → Option PyData) (fa fb : List Sl → S → Rs S W) : List Sl → S → Rs S W := fun σ s => (fa σ s).bind fun x s => (fb σ s).bind fun y s => optR (lift2 g x y) s
theorem optR_want {o : Option W} {Q : VK} (h : Want G E L H (optR o s) Q) : ∃ w, o = some w ∧ ∀ v H', Stp G H H' → G.ok s H' → WR (wo H' L) w v → Q v H' := by
  cases o with
  | none => exact h.elim
  | some w => exact ⟨w, rfl, h⟩
theorem lift2_some {g : PyData → PyData → Option PyData} {x y w : W} (h : lift2 g x y = some w) : ∃ d e z, x = .d d ∧ y = .d e ∧ w = .d z ∧ g d e = some z := by
  cases x with
  | d dx =>
    cases y with
    | d dy =>
      cases e : g dx dy with
      | none => rw [lift2, e] at h; cases h
      | some z => rw [lift2, e] at h; cases h; exact ⟨dx, dy, z, rfl, rfl, rfl, e⟩
    | ref _ => cases h
    | dic _ => cases h
  | ref _ => cases h
  | dic _ => cases h
theorem sm_op {r : R2} {g : PyData → PyData → Option PyData} {ta tb : TE} {fa fb : List Sl → G.S → Rs G.S W} (hr : R2Sm r g) (ha : Sm G E ta fa) (hb : Sm G E tb fb) : Sm G E (tOp r ta tb) (eOp g fa fb) := fun L O σD s σ H Q R h =>
  ha.thenV R h fun x s1 v H1 e1 R1 wx h1 => hb.thenV R1 h1 fun y s2 u H2 e2 R2 wy h2 => by
    obtain ⟨w, ew, hq⟩ := optR_want h2
    obtain ⟨d, e, z, rfl, rfl, rfl, eg⟩ := lift2_some ew
    exact hr L H2 v u d e z Q R2.live ((WR.same (stp_wo R.l0 e2) wx)) wy eg fun v' H' e' hv => hq v' H' (Stp.of e') (G.ok_same R2.ok e') hv
def R1Sm (r : V → Hp → VK → Prop) (g : PyData → Option PyData) : Prop := ∀ (L : List Addr) (H : Hp) (x : V) (d z : PyData) (Q : VK), (∀ a ∈ L, H a ≠ none) → Dq (wo H L) x d → g d = some z →
  (∀ v H', Same H H' → Dq (wo H' L) v z → Q v H') → r x H Q
def lift1 (g : PyData → Option PyData) : W → Option W
  | .d x => (g x).map .d
  | _ => none
theorem lift1_some {g : PyData → Option PyData} {x w : W} (h : lift1 g x = some w) : ∃ d z, x = .d d ∧ w = .d z ∧ g d = some z := by
  cases x with
  | d dx =>
    cases e : g dx with
    | none => rw [lift1, e] at h; cases h
    | some z => rw [lift1, e] at h; cases h; exact ⟨dx, z, rfl, rfl, e⟩
  | ref _ => cases h
  | dic _ => cases h
def eUn {S : Type} (g : PyData → Option PyData) (fa : List Sl → S → Rs S W) : List Sl → S → Rs S W := fun σ s => (fa σ s).bind fun x s => optR (lift1 g x) s
theorem sm_un {r : V → Hp → VK → Prop} {g : PyData → Option PyData} {ta : TE} {fa : List Sl → G.S → Rs G.S W} (hr : R1Sm r g) (ha : Sm G E ta fa) : Sm G E (tUn r ta) (eUn g fa) := fun L O σD s σ H Q R h =>
  ha.thenV R h fun x s1 v H1 e1 R1 wx h1 => by
    obtain ⟨w, ew, hq⟩ := optR_want h1
    obtain ⟨d, z, rfl, rfl, eg⟩ := lift1_some ew
    exact hr L H1 v d z Q R1.live wx eg fun v' H' e' hv => hq v' H' (Stp.of e') (G.ok_same R1.ok e') hv

/-! ### tests -/
def wB : W → Option Bool
  | .d (.bool b) => some b
  | _ => none
theorem wB_some {w : W} {b : Bool} (h : wB w = some b) : w = .d (.bool b) := by
  unfold wB at h
  split at h
  · cases h; rfl
  · cases h
def eTest {S : Type} (f : List Sl → S → Rs S W) : List Sl → S → Rs S Bool := fun σ s => (f σ s).bind fun x s => optR (wB x) s
theorem optR_wantT {o : Option Bool} {Q : Bool → Hp → Prop} (h : WantT G E L H (optR o s) Q) : ∃ w, o = some w ∧ ∀ H', Stp G H H' → G.ok s H' → Q w H' := by
  cases o with
  | none => exact h.elim
  | some w => exact ⟨w, rfl, h⟩
theorem smt_test {te : TE} {f : List Sl → G.S → Rs G.S W} (h : Sm G E te f) : SmT G E (tTest te) (eTest f) := fun L O σD s σ H Q R hw =>
  h.thenT R hw fun x s1 v H1 e1 R1 wx h1 => by
    obtain ⟨b, eb, hq⟩ := optR_wantT h1
    have := wB_some eb
    subst this
    exact ⟨b, dq_bool wx, hq H1 Stp.refl R1.ok⟩
theorem smt_B {te : TE} {f : List Sl → G.S → Rs G.S W} (h : Sm G E te f) : SmT G E (tB te) (eTest f) := smt_test h
def tAndT {S : Type} (f g : List Sl → S → Rs S Bool) : List Sl → S → Rs S Bool := fun σ s => (f σ s).bind fun b s => if b = true then g σ s else .ok false s
def tOrT {S : Type} (f g : List Sl → S → Rs S Bool) : List Sl → S → Rs S Bool := fun σ s => (f σ s).bind fun b s => if b = true then .ok true s else g σ s
def tNotT {S : Type} (f : List Sl → S → Rs S Bool) : List Sl → S → Rs S Bool := fun σ s => (f σ s).bind fun b s => .ok (!b) s
theorem smt_and {t u : TT} {f g : List Sl → G.S → Rs G.S Bool} (h1 : SmT G E t f) (h2 : SmT G E u g) : SmT G E (tAnd t u) (tAndT f g) := fun L O σD s σ H Q R hw =>
  h1.thenT R hw fun b s1 H1 e1 R1 h => by
    cases b with
    | true => exact h2 L O σD s1 σ H1 Q R1 h
    | false => exact h H1 Stp.refl R1.ok
theorem smt_or {t u : TT} {f g : List Sl → G.S → Rs G.S Bool} (h1 : SmT G E t f) (h2 : SmT G E u g) : SmT G E (tOr t u) (tOrT f g) := fun L O σD s σ H Q R hw =>
  h1.thenT R hw fun b s1 H1 e1 R1 h => by
    cases b with
    | true => exact h H1 Stp.refl R1.ok
    | false => exact h2 L O σD s1 σ H1 Q R1 h
theorem smt_not {t : TT} {f : List Sl → G.S → Rs G.S Bool} (h1 : SmT G E t f) : SmT G E (tNot t) (tNotT f) := fun L O σD s σ H Q R hw =>
  h1.thenT R hw fun b s1 H1 e1 R1 h => h H1 Stp.refl R1.ok
/-- and, or, not as values -/
def eAndV {S : Type} (f g : List Sl → S → Rs S W) : List Sl → S → Rs S W := fun σ s => (f σ s).bind fun x s => match wB x with
  | some true => g σ s
  | some false => .ok (.d (.bool false)) s
  | none => .stuck
def eOrV {S : Type} (f g : List Sl → S → Rs S W) : List Sl → S → Rs S W := fun σ s => (f σ s).bind fun x s => match wB x with
  | some true => .ok (.d (.bool true)) s
  | some false => g σ s
  | none => .stuck
def bNot : PyData → Option PyData
  | .bool b => some (.bool (!b))
  | _ => none
theorem sm_andV {ta tb : TE} {f g : List Sl → G.S → Rs G.S W} (h1 : Sm G E ta f) (h2 : Sm G E tb g) : Sm G E (tAndV ta tb) (eAndV f g) := fun L O σD s σ H Q R hw =>
  h1.thenV R hw fun x s1 v H1 e1 R1 wx h => by
    cases eb : wB x with
    | none => rw [eb] at h; exact h.elim
    | some b =>
      rw [eb] at h
      have := wB_some eb
      subst this
      cases b with
      | true => exact ⟨true, dq_bool wx, h2 L O σD s1 σ H1 Q R1 h⟩
      | false => exact ⟨false, dq_bool wx, h _ H1 Stp.refl R1.ok (.bl false)⟩
theorem sm_orV {ta tb : TE} {f g : List Sl → G.S → Rs G.S W} (h1 : Sm G E ta f) (h2 : Sm G E tb g) : Sm G E (tOrV ta tb) (eOrV f g) := fun L O σD s σ H Q R hw =>
  h1.thenV R hw fun x s1 v H1 e1 R1 wx h => by
    cases eb : wB x with
    | none => rw [eb] at h; exact h.elim
    | some b =>
      rw [eb] at h
      have := wB_some eb
      subst this
      cases b with
      | true => exact ⟨true, dq_bool wx, h _ H1 Stp.refl R1.ok (.bl true)⟩
      | false => exact ⟨false, dq_bool wx, h2 L O σD s1 σ H1 Q R1 h⟩
theorem sm_notV {ta : TE} {f : List Sl → G.S → Rs G.S W} (h1 : Sm G E ta f) : Sm G E (tNotV ta) (eUn bNot f) := fun L O σD s σ H Q R hw =>
  h1.thenV R hw fun x s1 v H1 e1 R1 wx h => by
    obtain ⟨w, ew, hq⟩ := optR_want h
    obtain ⟨d, z, rfl, rfl, eg⟩ := lift1_some ew
    cases d with
    | bool b => cases eg; exact ⟨b, dq_bool wx, hq _ H1 Stp.refl R1.ok (.bl _)⟩
    | _ => cases eg
def eIf {S : Type} (t : List Sl → S → Rs S Bool) (f g : List Sl → S → Rs S W) : List Sl → S → Rs S W := fun σ s => (t σ s).bind fun b s => if b = true then f σ s else g σ s
theorem sm_if {tt : TT} {ta tb : TE} {t : List Sl → G.S → Rs G.S Bool} {f g : List Sl → G.S → Rs G.S W} (h : SmT G E tt t) (h1 : Sm G E ta f) (h2 : Sm G E tb g) : Sm G E (tIf tt ta tb) (eIf t f g) := fun L O σD s σ H Q R hw =>
  h.thenV R hw fun b s1 H1 e1 R1 h => by
    cases b with
    | true => exact h1 L O σD s1 σ H1 Q R1 h
    | false => exact h2 L O σD s1 σ H1 Q R1 h
/-- a op b op c -/
def eChain {S : Type} (g g' : PyData → PyData → Option PyData) (fa fb fc : List Sl → S → Rs S W) : List Sl → S → Rs S W := fun σ s => (fa σ s).bind fun x s => (fb σ s).bind fun y s => match (lift2 g x y).bind wB with
  | some true => (fc σ s).bind fun z s => optR (lift2 g' y z) s
  | some false => .ok (.d (.bool false)) s
  | none => .stuck
theorem sm_chain {r r' : R2} {g g' : PyData → PyData → Option PyData} {ta tb tc : TE} {fa fb fc : List Sl → G.S → Rs G.S W} (hr : R2Sm r g) (hr' : R2Sm r' g') (ha : Sm G E ta fa) (hb : Sm G E tb fb) (hc : Sm G E tc fc) :
    Sm G E (tChain r r' ta tb tc) (eChain g g' fa fb fc) := fun L O σD s σ H Q R h =>
  ha.thenV R h fun x s1 v H1 e1 R1 wx h1 => hb.thenV R1 h1 fun y s2 u H2 e2 R2 wy h2 => by
    cases el : (lift2 g x y).bind wB with
    | none => rw [el] at h2; exact h2.elim
    | some b =>
      rw [el] at h2
      cases eg2 : lift2 g x y with
      | none => rw [eg2] at el; cases el
      | some w =>
        rw [eg2] at el
        have hb' : w = .d (.bool b) := wB_some el
        obtain ⟨d, e, z, rfl, rfl, rfl, eg⟩ := lift2_some eg2
        have hz : z = .bool b := by cases hb'; rfl
        subst hz
        refine hr L H2 v u d e _ _ R2.live (WR.same (stp_wo R.l0 e2) wx) wy eg fun v' H' e' hv => ⟨b, dq_bool hv, ?_⟩
        have R3 := R2.grow e'
        cases b with
        | true =>
          rw [if_pos rfl]
          refine hc.thenV R3 (Want.later (Stp.of e') h2) fun y3 s3 u3 H3 e3 R4 wy3 h3 => ?_
          obtain ⟨w, ew, hq⟩ := optR_want h3
          obtain ⟨d', e'', z', hd', rfl, rfl, eg'⟩ := lift2_some ew
          cases hd'
          exact hr' L H3 u u3 e e'' z' Q R4.live (WR.same (w := .d e) (stp_wo R.l0 (Stp.trans (Stp.of e') e3)) wy) wy3 eg' fun v4 H4 e4 hv4 => hq v4 H4 (Stp.of e4) (G.ok_same R4.ok e4) hv4
        | false =>
          rw [if_neg Bool.false_ne_true]
          exact h2 _ H' (Stp.of e') R3.ok (.bl false)

/-! ### argument lists, displays -/
def aNil {S : Type} : List Sl → S → Rs S (List W) := fun _ s => .ok [] s
def aCons {S : Type} (f : List Sl → S → Rs S W) (g : List Sl → S → Rs S (List W)) : List Sl → S → Rs S (List W) := fun σ s => (f σ s).bind fun x s => (g σ s).bind fun r s => .ok (x :: r) s
theorem sma_nil : SmA G E tNil aNil := fun L O σD s σ H Q R h => h [] H Stp.refl R.ok .nil
theorem sma_cons {te : TE} {tr : TA} {f : List Sl → G.S → Rs G.S W} {g : List Sl → G.S → Rs G.S (List W)} (h1 : Sm G E te f) (h2 : SmA G E tr g) : SmA G E (tCons te tr) (aCons f g) := fun L O σD s σ H Q R h =>
  h1.thenA R h fun x s1 v H1 e1 R1 wx h => h2.thenA R1 h fun xs s2 vs H2 e2 R2 wxs h => h (v :: vs) H2 Stp.refl R2.ok (.cons (WR.same (stp_wo R.l0 e2) wx) wxs)
def wDs : List W → Option (List PyData)
  | [] => some []
  | .d x :: r => (wDs r).map (x :: ·)
  | _ :: _ => none
theorem wDs_some : ∀ {ws : List W} {ds : List PyData}, wDs ws = some ds → ws = ds.map W.d
  | [], _, h => by cases h; rfl
  | .d x :: r, ds, h => by
    cases e : wDs r with
    | none => rw [wDs, e] at h; cases h
    | some q => rw [wDs, e] at h; cases h; rw [wDs_some e]; rfl
  | .ref _ :: _, _, h => by cases h
  | .dic _ :: _, _, h => by cases h
theorem szb {n : Nat} (h : n ≤ 1000000) : n ≤ sizeLine := Nat.le_trans h (by rw [sizeLine_eq]; decide)
theorem szl {n : Nat} (h : n < 1000000) : n < sizeLine := Nat.lt_of_lt_of_le h (by rw [sizeLine_eq]; decide)
/-- a list, a tuple of data -/
def mkL (ds : List PyData) : Option W := if ds.length ≤ 1000000 then some (.d (.list ds)) else none
def mkT (ds : List PyData) : Option W := if ds.length ≤ 1000000 then some (.d (.tuple ds)) else none
def eTup {S : Type} (g : List Sl → S → Rs S (List W)) : List Sl → S → Rs S W := fun σ s => (g σ s).bind fun r s => optR ((wDs r).bind mkT) s
def eLst {S : Type} (g : List Sl → S → Rs S (List W)) : List Sl → S → Rs S W := fun σ s => (g σ s).bind fun r s => optR ((wDs r).bind mkL) s
theorem same_wo_new {H : Hp} {L : List Addr} {p : Addr} {o : HO} (h : H p = none) : Same (wo H L) (wo (upd H p o) L) := same_wo fun b u _ e => same_new h b u e
theorem dq_newT {H : Hp} {L : List Addr} {p : Addr} {xs : List V} {ds : List PyData} (hL : ∀ a ∈ L, H a ≠ none) (h : H p = none) (hx : DqAll (wo H L) xs ds) : Dq (wo (upd H p (.tup xs)) L) (.ref p) (.tuple ds) :=
  .tup (wo_of upd_same fun z => hL p z h) (dqAll_same (same_wo_new h) _ _ hx)
theorem dq_newL {H : Hp} {L : List Addr} {p : Addr} {xs : List V} {ds : List PyData} (hL : ∀ a ∈ L, H a ≠ none) (h : H p = none) (hx : DqAll (wo H L) xs ds) : Dq (wo (upd H p (.lst xs)) L) (.ref p) (.list ds) :=
  .lst (wo_of upd_same fun z => hL p z h) (dqAll_same (same_wo_new h) _ _ hx)
theorem sm_tup {ta : TA} {g : List Sl → G.S → Rs G.S (List W)} (h : SmA G E ta g) : Sm G E (tTup ta) (eTup g) := fun L O σD s σ H Q R hw =>
  h.thenV R hw fun ws s1 vs H1 e1 R1 wr h1 => by
    obtain ⟨w, ew, hq⟩ := optR_want h1
    cases ed : wDs ws with
    | none => rw [ed] at ew; cases ew
    | some ds =>
      rw [ed] at ew
      have hm : mkT ds = some w := ew
      unfold mkT at hm
      split at hm
      · rename_i hl
        cases hm
        have := wDs_some ed
        subst this
        have hd := WRs.data wr
        exact ⟨szb (by rw [hd.length]; exact hl), fun p hp => hq _ _ (Stp.of (same_new hp)) (G.ok_same R1.ok (same_new hp)) (dq_newT R1.live hp hd)⟩
      · cases hm
theorem sm_lst {ta : TA} {g : List Sl → G.S → Rs G.S (List W)} (h : SmA G E ta g) : Sm G E (tLst ta) (eLst g) := fun L O σD s σ H Q R hw =>
  h.thenV R hw fun ws s1 vs H1 e1 R1 wr h1 => by
    obtain ⟨w, ew, hq⟩ := optR_want h1
    cases ed : wDs ws with
    | none => rw [ed] at ew; cases ew
    | some ds =>
      rw [ed] at ew
      have hm : mkL ds = some w := ew
      unfold mkL at hm
      split at hm
      · rename_i hl
        cases hm
        have := wDs_some ed
        subst this
        have hd := WRs.data wr
        exact ⟨szb (by rw [hd.length]; exact hl), fun p hp => hq _ _ (Stp.of (same_new hp)) (G.ok_same R1.ok (same_new hp)) (dq_newL R1.live hp hd)⟩
      · cases hm

/-! ### calls of built-ins, of defs -/
def CSm (r : List V → Hp → VK → Prop) (g : List PyData → Option PyData) : Prop := ∀ (L : List Addr) (H : Hp) (vs : List V) (ds : List PyData) (z : PyData) (Q : VK), (∀ a ∈ L, H a ≠ none) → DqAll (wo H L) vs ds → g ds = some z →
  (∀ v H', Same H H' → Dq (wo H' L) v z → Q v H') → r vs H Q
def eB {S : Type} (g : List PyData → Option PyData) (fa : List Sl → S → Rs S (List W)) : List Sl → S → Rs S W := fun σ s => (fa σ s).bind fun ws s => optR (((wDs ws).bind g).map .d) s
theorem sm_B {r : List V → Hp → VK → Prop} {g : List PyData → Option PyData} {ta : TA} {fa : List Sl → G.S → Rs G.S (List W)} (hr : CSm r g) (ha : SmA G E ta fa) : Sm G E (tCB r ta) (eB g fa) := fun L O σD s σ H Q R hw =>
  ha.thenV R hw fun ws s1 vs H1 e1 R1 wr h1 => by
    obtain ⟨w, ew, hq⟩ := optR_want h1
    cases ed : wDs ws with
    | none => rw [ed] at ew; cases ew
    | some ds =>
      rw [ed] at ew
      cases eg : g ds with
      | none =>
        have ew' : (g ds).map W.d = some w := ew
        rw [eg] at ew'; cases ew'
      | some z =>
        have ew' : (g ds).map W.d = some w := ew
        rw [eg] at ew'; cases ew'
        have := wDs_some ed
        subst this
        exact hr L H1 vs ds z Q R1.live (WRs.data wr) eg fun v H' e' hv => hq v H' (Stp.of e') (G.ok_same R1.ok e') hv
/-- the promise of a def by its mirror -/
def WantF (G : Gm) (E : XK) (L : List Addr) (H : Hp) (r : Rs G.S W) (Q : VK) : Prop := Want G E L H r Q
def spF (G : Gm) (m : List W → G.S → Rs G.S W) (n : Nat) : Sp := fun vs H Q E => vs.length = n ∧ ∃ (L : List Addr) (ws : List W) (s : G.S), (∀ a ∈ G.L0, a ∈ L) ∧ (∀ a ∈ L, NT (H a)) ∧ G.ok s H ∧ WRs (wo H L) ws vs ∧ Want G E L H (m ws s) Q
/-- a call of a def of the same mode -/
def eF {S : Type} (m : List W → S → Rs S W) (fa : List Sl → S → Rs S (List W)) : List Sl → S → Rs S W := fun σ s => (fa σ s).bind fun ws s => m ws s
def lenIs {S : Type} (n : Nat) (m : List W → S → Rs S W) : List W → S → Rs S W := fun ws s => if ws.length = n then m ws s else .stuck
theorem sm_F {m : List W → G.S → Rs G.S W} {n : Nat} {ta : TA} {fa : List Sl → G.S → Rs G.S (List W)} (ha : SmA G E ta fa) : Sm G E (tCall (spF G m n) [] E ta) (eF (lenIs n m) fa) := fun L O σD s σ H Q R hw =>
  ha.thenV R hw fun ws s1 vs H1 e1 R1 wr h1 => by
    unfold lenIs at h1
    split at h1
    · rename_i hl
      rw [List.append_nil]
      exact ⟨by rw [← wr.length]; exact hl, L, ws, s1, R1.l0, R1.nt, R1.ok, wr, h1⟩
    · exact h1.elim
/-- a call of a pure def -/
def eP {S : Type} (m : List W → Unit → Rs Unit W) (fa : List Sl → S → Rs S (List W)) : List Sl → S → Rs S W := fun σ s => (fa σ s).bind fun ws s => match m ws () with
  | .ok w _ => .ok w s
  | .exc c _ => .exc c s
  | .stuck => .stuck
theorem sm_P {m : List W → Unit → Rs Unit W} {n : Nat} {ta : TA} {fa : List Sl → G.S → Rs G.S (List W)} (ha : SmA G E ta fa) : Sm G E (tCall (spF (pureG G.cl) m n) [] E ta) (eP (lenIs n m) fa) := fun L O σD s σ H Q R hw =>
  ha.thenV R hw fun ws s1 vs H1 e1 R1 wr h1 => by
    unfold lenIs at h1
    by_cases hl : ws.length = n
    · rw [if_pos hl] at h1
      rw [List.append_nil]
      refine ⟨by rw [← wr.length]; exact hl, L, ws, (), (fun a h => nomatch h), R1.nt, trivial, wr, ?_⟩
      cases em : m ws () with
      | ok w _ =>
        rw [em] at h1
        exact fun v H' st _ wv => h1 v H' (fun b o _ q => st b o (fun z => nomatch z) q) (G.ok_same R1.ok fun b o q => st b o (fun z => nomatch z) q) wv
      | exc c _ =>
        rw [em] at h1
        exact fun H' st _ => h1 H' (fun b o _ q => st b o (fun z => nomatch z) q) (G.ok_same R1.ok fun b o q => st b o (fun z => nomatch z) q)
      | stuck => rw [em] at h1; exact h1.elim
    · rw [if_neg hl] at h1; exact h1.elim
end
end CS
/-! Core2: Python's operations on data -/
namespace CS
open PySem PySem.Spec PyProof.Rows L2

/-! ### joining rules -/
def orR (r r' : R2) : R2 := fun x y H Q => r x y H Q ∨ r' x y H Q
theorem dq_wo {H : Hp} {L : List Addr} {v : V} {d : PyData} (h : Dq (wo H L) v d) : Dq H v d := dq_same same_of_wo _ _ h
theorem dqAll_wo {H : Hp} {L : List Addr} {v : List V} {d : List PyData} (h : DqAll (wo H L) v d) : DqAll H v d := dqAll_same same_of_wo _ _ h
theorem dq_tupT {H : Hp} {v : V} {ds : List PyData} (h : Dq H v (.tuple ds)) : ∃ a vs, v = .ref a ∧ H a = some (.tup vs) ∧ DqAll H vs ds := dq_tup h

/-! ### + - * // % ** -/
def pyAdd : PyData → PyData → Option PyData
  | .int i, .int j => some (.int (i + j))
  | .list a, .list b => if a.length + b.length ≤ 1000000 then some (.list (a ++ b)) else none
  | .tuple a, .tuple b => if a.length + b.length ≤ 1000000 then some (.tuple (a ++ b)) else none
  | .str a, .str b => if a.length + b.length ≤ 1000000 then some (.str (a ++ b)) else none
  | _, _ => none
def rStrCat : R2 := fun x y H Q => ∃ i j, x = .str i ∧ y = .str j ∧ i.length + j.length ≤ sizeLine ∧ Q (.str (i ++ j)) H
def rAddU (K : PySem.W.Frag) : R2 := fun x y H Q => rI0 (fun i j => .int (i + j)) x y H Q ∨ (rCat x y H Q ∨ (rCatA K x y H Q ∨ rStrCat x y H Q))
theorem op_addU {X : Cx} : OpR X (binaryOp .Add) (rAddU X.K) := op_add.or (op_cat.or (op_catA.or op_add_str))
theorem rs_add {K : PySem.W.Frag} : R2Sm (rAddU K) pyAdd := by
  intro L H x y d e z Q hL hx hy hg hq
  cases d with
  | int i =>
    cases e with
    | int j =>
      cases hg
      exact .inl ⟨i, j, dq_int hx, dq_int hy, hq _ H (Same.refl H) (.int _)⟩
    | _ => cases hg
  | list a =>
    cases e with
    | list b =>
      dsimp only [pyAdd] at hg
      split at hg
      · rename_i hl
        cases hg
        obtain ⟨p, vs, rfl, hp, hv⟩ := dq_lst hx
        obtain ⟨q, us, rfl, hu, hw⟩ := dq_lst hy
        exact .inr (.inl ⟨p, q, vs, us, rfl, rfl, (wo_some hp).1, (wo_some hu).1, szb (by rw [hv.length, hw.length]; exact hl), fun r hr => hq _ _ (same_new hr) (dq_newL hL hr (hv.append hw))⟩)
      · cases hg
    | _ => cases hg
  | tuple a =>
    cases e with
    | tuple b =>
      dsimp only [pyAdd] at hg
      split at hg
      · rename_i hl
        cases hg
        obtain ⟨p, vs, rfl, hp, hv⟩ := dq_tup hx
        obtain ⟨q, us, rfl, hu, hw⟩ := dq_tup hy
        refine .inr (.inr (.inl ⟨p, q, vs, us, rfl, rfl, .of (wo_some hp).1, .of (wo_some hu).1, szb (by rw [hv.length, hw.length]; exact hl), fun e => ?_, fun _ e => ?_, fun _ _ r hr => hq _ _ (same_new hr) (dq_newT hL hr (hv.append hw))⟩))
        · subst e
          cases hv
          exact hq _ H (Same.refl H) (.tup hu hw)
        · subst e
          cases hw
          rw [List.append_nil] at hq
          exact hq _ H (Same.refl H) (.tup hp hv)
      · cases hg
    | _ => cases hg
  | str a =>
    cases e with
    | str b =>
      dsimp only [pyAdd] at hg
      split at hg
      · rename_i hl
        cases hg
        exact .inr (.inr (.inr ⟨a, b, dq_str hx, dq_str hy, szb hl, hq _ H (Same.refl H) (.str _)⟩))
      · cases hg
    | _ => cases hg
  | _ => cases hg
/-- ints, under a condition that is decided -/
def pyI (C : Int → Int → Bool) (g : Int → Int → PyData) : PyData → PyData → Option PyData
  | .int i, .int j => if C i j = true then some (g i j) else none
  | _, _ => none
theorem rs_I {C : Int → Int → Prop} {Cb : Int → Int → Bool} {g : Int → Int → V} {g' : Int → Int → PyData} (hC : ∀ i j, Cb i j = true → C i j) (hg' : ∀ H i j, Dq H (g i j) (g' i j)) : R2Sm (rI C g) (pyI Cb g') := by
  intro L H x y d e z Q hL hx hy hg hq
  cases d with
  | int i =>
    cases e with
    | int j =>
      dsimp only [pyI] at hg
      split at hg
      · rename_i hc
        cases hg
        exact ⟨i, j, dq_int hx, dq_int hy, hC i j hc, hq _ H (Same.refl H) (hg' _ i j)⟩
      · cases hg
    | _ => cases hg
  | _ => cases hg
def pyI0 (g : Int → Int → PyData) : PyData → PyData → Option PyData
  | .int i, .int j => some (g i j)
  | _, _ => none
theorem rs_I0 {g : Int → Int → V} {g' : Int → Int → PyData} (hg' : ∀ H i j, Dq H (g i j) (g' i j)) : R2Sm (rI0 g) (pyI0 g') := by
  intro L H x y d e z Q hL hx hy hg hq
  cases d with
  | int i =>
    cases e with
    | int j =>
      cases hg
      exact ⟨i, j, dq_int hx, dq_int hy, hq _ H (Same.refl H) (hg' _ i j)⟩
    | _ => cases hg
  | _ => cases hg
def pySub : PyData → PyData → Option PyData := pyI0 fun i j => .int (i - j)
theorem rs_sub : R2Sm (rI0 fun i j => .int (i - j)) pySub := rs_I0 fun _ _ _ => .int _
def pyFdiv : PyData → PyData → Option PyData := pyI (fun _ j => decide (0 < j) && decide (j.natAbs.log2 < 9000)) fun i j => .int (i / j)
theorem rs_fdiv : R2Sm (rI CDivW fun i j => .int (i / j)) pyFdiv := rs_I (fun i j h => by
  rw [Bool.and_eq_true] at h
  exact ⟨of_decide_eq_true h.1, of_decide_eq_true h.2⟩) fun _ _ _ => .int _
def pyMod : PyData → PyData → Option PyData := pyI (fun _ j => decide (0 < j)) fun i j => .int (i % j)
theorem rs_mod : R2Sm (rI (fun _ j => 0 < j) fun i j => .int (i % j)) pyMod := rs_I (fun i j h => of_decide_eq_true h) fun _ _ _ => .int _
def pyPow : PyData → PyData → Option PyData := pyI (fun i j => decide (0 ≤ j) && (decide (j ≤ 1000000) && decide (i.natAbs < 2 ^ 64))) fun i j => .int (i ^ j.toNat)
theorem rs_pow : R2Sm (rI CPow fun i j => .int (i ^ j.toNat)) pyPow := rs_I (fun i j h => by
  rw [Bool.and_eq_true, Bool.and_eq_true] at h
  exact ⟨of_decide_eq_true h.1, of_decide_eq_true h.2.1, of_decide_eq_true h.2.2⟩) fun _ _ _ => .int _
theorem dqAll_rep {H : Hp} {vs : List V} {ds : List PyData} (h : DqAll H vs ds) : ∀ n, DqAll H (List.replicate n vs).flatten (List.replicate n ds).flatten
  | 0 => .nil
  | n + 1 => by
    rw [List.replicate_succ, List.replicate_succ, List.flatten_cons, List.flatten_cons]
    exact h.append (dqAll_rep h n)
theorem tuple_mul1 (l : Addr) (items : Array Value) (n : Nat) (dd : Option Addr) (sl : Array (Option Value)) (u : Tok) :
    Meets (Builtin.«tuple.__mul__» ⟨[.ref l, .int 1 u], []⟩) (fun _ R s => s.heap.get? l = some { cls := .type "tuple", dict := dd, data := .seq items n, slots := sl } ∧
      R (.ok (.ret (Value.ref l))) s) :=
  .of_wp fun prog w A R s h => by
    obtain ⟨hp, g, d, tk, os⟩ := s
    obtain ⟨hl, h⟩ := h
    have f1 := AutoSeq1.idx_int
    wp_walk using wpAny_loadPart' hl
    have c0 : (decide ((1 : Int) < -(2 ^ 63)) || decide ((1 : Int) ≥ 2 ^ 63)) = false := by decide
    have c1 : (items.isEmpty || (1 : Int) == 1) = true := by simp
    repeat (first
      | (refine wpAny_ite_false (decide_eq_false (by rw [c0]; exact Bool.false_ne_true)) ?_; wp_walk using wpAny_loadPart' hl)
      | (refine wpAny_ite_true (decide_eq_true (by rw [c1])) ?_; wp_walk using wpAny_loadPart' hl))
    exact ⟨_, rfl, h⟩
theorem tuple_mul0 (l : Addr) (items : Array Value) (n : Nat) (dd : Option Addr) (sl : Array (Option Value)) (u : Tok) (hi : items.isEmpty = false) :
    Meets (Builtin.«tuple.__mul__» ⟨[.ref l, .int 0 u], []⟩) (fun _ R s => s.heap.get? l = some { cls := .type "tuple", dict := dd, data := .seq items n, slots := sl } ∧
      R (.ok (.ret (Value.ref s.heap.objs.size))) { s with heap := s.heap.push { cls := Value.type "tuple", data := Data.seq #[] }, toks := s.toks }) :=
  .of_wp fun prog w A R s h => by
    obtain ⟨hp, g, d, tk, os⟩ := s
    obtain ⟨hl, h⟩ := h
    have f1 := AutoSeq1.idx_int
    wp_walk using wpAny_loadPart' hl
    have c0 : (decide ((0 : Int) < -(2 ^ 63)) || decide ((0 : Int) ≥ 2 ^ 63)) = false := by decide
    have c1 : (items.isEmpty || (0 : Int) == 1) = false := by rw [hi]; rfl
    have c2 : (decide ((0 : Int) ≤ 0) || items.isEmpty) = true := by simp
    repeat (first
      | (refine wpAny_ite_false (decide_eq_false (by rw [c0]; exact Bool.false_ne_true)) ?_; wp_walk using wpAny_loadPart' hl)
      | (refine wpAny_ite_false (decide_eq_false (by rw [c1]; exact Bool.false_ne_true)) ?_; wp_walk using wpAny_loadPart' hl)
      | (refine wpAny_ite_true (decide_eq_true (by rw [c2])) ?_; wp_walk using wpAny_loadPart' hl))
    exact ⟨_, rfl, h⟩
def rRepT1 (K : PySem.W.Frag) : R2 := fun x y H Q => ∃ l xs, x = .ref l ∧ y = .int 1 ∧ SqT K H l xs ∧ Q (.ref l) H
def rRepT0 (K : PySem.W.Frag) : R2 := fun x y H Q => ∃ l xs, x = .ref l ∧ y = .int 0 ∧ SqT K H l xs ∧ xs ≠ [] ∧ ∀ p, H p = none → Q (.ref p) (upd H p (.tup []))
theorem op_repT1 {X : Cx} : OpR X (binaryOp .Mult) (rRepT1 X.K) := by
  intro pins s σ H x y v u Q I rx ry h
  obtain ⟨l, xs, rfl, rfl, hT, q⟩ := h
  cases rx
  obtain ⟨t, rfl⟩ := ry
  obtain ⟨its, r, ⟨⟨cls, dd, data, sl⟩, ho, hc, n, hd⟩, hs⟩ := I.tuple hT
  simp only at hc hd
  subst hc hd
  refine wpAny_binaryOp_repeat_ref (T := "tuple") (U := "int") (by decide) ⟨_, ho, rfl⟩ (fun s' => typeIs_int s' 1 t) noFill_tuple_mul F.fills_int_mul F.slot_int_rmul repeat_tuple F.slot_int_index.lookup
    (call_meets F.slot_int_rmul (typeIs_int s 1 t) F.entry_int_rmul (F.args_int_rmul_2 _ _) (int_rmul_tuple 1 t l its.toArray n dd sl)
      ⟨ho, rfl, ⟨_, ho, rfl⟩, call_meets F.slot_tuple_mul ⟨_, ho, rfl⟩ F.entry_tuple_mul (F.args_tuple_mul_2 _ _) (tuple_mul1 l its.toArray n dd sl t) ⟨ho, ?_⟩⟩)
  exact ⟨.ref l, H, I, rfl, q⟩
theorem op_repT0 {X : Cx} : OpR X (binaryOp .Mult) (rRepT0 X.K) := by
  intro pins s σ H x y v u Q I rx ry h
  obtain ⟨l, xs, rfl, rfl, hT, hne, q⟩ := h
  cases rx
  obtain ⟨t, rfl⟩ := ry
  obtain ⟨its, r, ⟨⟨cls, dd, data, sl⟩, ho, hc, n, hd⟩, hs⟩ := I.tuple hT
  simp only at hc hd
  subst hc hd
  have hle : its.length = xs.length := r.length.symm
  have hi : its.toArray.isEmpty = false := by
    cases its with
    | nil => exact absurd (List.eq_nil_of_length_eq_zero hle.symm) hne
    | cons a b => rfl
  refine wpAny_binaryOp_repeat_ref (T := "tuple") (U := "int") (by decide) ⟨_, ho, rfl⟩ (fun s' => typeIs_int s' 0 t) noFill_tuple_mul F.fills_int_mul F.slot_int_rmul repeat_tuple F.slot_int_index.lookup
    (call_meets F.slot_int_rmul (typeIs_int s 0 t) F.entry_int_rmul (F.args_int_rmul_2 _ _) (int_rmul_tuple 0 t l its.toArray n dd sl)
      ⟨ho, rfl, ⟨_, ho, rfl⟩, call_meets F.slot_tuple_mul ⟨_, ho, rfl⟩ F.entry_tuple_mul (F.args_tuple_mul_2 _ _) (tuple_mul0 l its.toArray n dd sl t hi) ⟨ho, ?_⟩⟩)
  refine ⟨.ref s.heap.objs.size, _, I.laid (t' := s.toks) (o := .tup []) (fun b ob q => Heap.get?_push_of_some _ q) (Nat.le_refl _) ?_, rfl, q _ (I.hok.fresh (Nat.le_refl _))⟩
  exact ⟨Nat.zero_le _, _, .nil, IsTup.new _ _⟩
def pyMul : PyData → PyData → Option PyData
  | .int i, .int j => if i.natAbs.log2 + j.natAbs.log2 < 1000000 ∨ (-(2 ^ 64) < i ∧ i < 2 ^ 64) ∨ (-(2 ^ 64) < j ∧ j < 2 ^ 64) then some (.int (i * j)) else none
  | .list a, .int k => if 0 ≤ k ∧ k ≤ 1000 ∧ a.length ≤ 1000 then some (.list (List.replicate k.toNat a).flatten) else none
  | .tuple a, .int k => if a ≠ [] ∧ 0 ≤ k ∧ k ≤ 1000 ∧ a.length ≤ 1000 then some (.tuple (List.replicate k.toNat a).flatten) else none
  | _, _ => none
def rMulU (K : PySem.W.Frag) : R2 := fun x y H Q => (rI CMulW (fun i j => .int (i * j)) x y H Q ∨ rI CMul (fun i j => .int (i * j)) x y H Q) ∨ (rRep x y H Q ∨ (rRepT K x y H Q ∨ (rRepT1 K x y H Q ∨ rRepT0 K x y H Q)))
theorem op_mulU {X : Cx} : OpR X (binaryOp .Mult) (rMulU X.K) := (op_mulW.or op_mul).or (op_rep.or (op_repT.or (op_repT1.or op_repT0)))
theorem rs_mul {K : PySem.W.Frag} : R2Sm (rMulU K) pyMul := by
  intro L H x y d e z Q hL hx hy hg hq
  cases d with
  | int i =>
    cases e with
    | int j =>
      dsimp only [pyMul] at hg
      split at hg
      · rename_i hl
        cases hg
        rcases hl with hl | hl
        · exact .inl (.inl ⟨i, j, dq_int hx, dq_int hy, hl, hq _ H (Same.refl H) (.int _)⟩)
        · exact .inl (.inr ⟨i, j, dq_int hx, dq_int hy, hl, hq _ H (Same.refl H) (.int _)⟩)
      · cases hg
    | _ => cases hg
  | list a =>
    cases e with
    | int k =>
      dsimp only [pyMul] at hg
      split at hg
      · rename_i hl
        cases hg
        obtain ⟨p, vs, rfl, hp, hv⟩ := dq_lst hx
        refine .inr (.inl ⟨p, k, vs, rfl, dq_int hy, (wo_some hp).1, by omega, by omega, szb ?_, fun r hr => hq _ _ (same_new hr) (dq_newL hL hr (dqAll_rep hv _))⟩)
        have h1 : vs.length ≤ 1000 := by rw [hv.length]; exact hl.2.2
        have h2 : k.toNat ≤ 1000 := by omega
        exact Nat.le_trans (Nat.mul_le_mul h1 h2) (by decide)
      · cases hg
    | _ => cases hg
  | tuple a =>
    cases e with
    | int k =>
      dsimp only [pyMul] at hg
      split at hg
      · rename_i hl
        cases hg
        obtain ⟨p, vs, rfl, hp, hv⟩ := dq_tup hx
        have hne : vs ≠ [] := fun e => hl.1 (by subst e; cases hv; rfl)
        rcases Int.lt_or_le 1 k with h2 | h2
        · exact .inr (.inr (.inl ⟨p, k, vs, rfl, dq_int hy, .of (wo_some hp).1, hne, by omega, hl.2.2.1, by rw [hv.length]; exact hl.2.2.2, fun r hr => hq _ _ (same_new hr) (dq_newT hL hr (dqAll_rep hv _))⟩))
        · have : k = 0 ∨ k = 1 := by omega
          rcases this with rfl | rfl
          · exact .inr (.inr (.inr (.inr ⟨p, vs, rfl, dq_int hy, .of (wo_some hp).1, hne, fun r hr => hq _ _ (same_new hr) (dq_newT hL hr .nil)⟩)))
          · refine .inr (.inr (.inr (.inl ⟨p, vs, rfl, dq_int hy, .of (wo_some hp).1, hq _ H (Same.refl H) ?_⟩)))
            rw [show (List.replicate (1 : Int).toNat a).flatten = a by simp]
            exact hx
      · cases hg
    | _ => cases hg
  | _ => cases hg
def pyNeg : PyData → Option PyData
  | .int i => some (.int (-i))
  | _ => none
theorem rs_neg : R1Sm (rU fun i => .int (-i)) pyNeg := by
  intro L H x d z Q hL hx hg hq
  cases d with
  | int i => cases hg; exact ⟨i, dq_int hx, hq _ H (Same.refl H) (.int _)⟩
  | _ => cases hg

/-! ### comparisons -/
def pyLt : PyData → PyData → Option PyData := pyI0 fun i j => .bool (decide (i < j))
def pyGt : PyData → PyData → Option PyData := pyI0 fun i j => .bool (decide (j < i))
def pyGe : PyData → PyData → Option PyData := pyI0 fun i j => .bool (decide (j ≤ i))
theorem rs_lt : R2Sm (rI0 fun i j => .bl (decide (i < j))) pyLt := rs_I0 fun _ _ _ => .bl _
theorem rs_gt : R2Sm (rI0 fun i j => .bl (decide (j < i))) pyGt := rs_I0 fun _ _ _ => .bl _
theorem rs_ge : R2Sm (rI0 fun i j => .bl (decide (j ≤ i))) pyGe := rs_I0 fun _ _ _ => .bl _
def dInts : List PyData → Option (List Int)
  | [] => some []
  | .int i :: r => (dInts r).map (i :: ·)
  | _ :: _ => none
theorem dInts_some : ∀ {ds : List PyData} {ns : List Int}, dInts ds = some ns → ds = ns.map PyData.int
  | [], _, h => by cases h; rfl
  | .int x :: r, ds, h => by
    cases e : dInts r with
    | none => rw [dInts, e] at h; cases h
    | some q => rw [dInts, e] at h; cases h; rw [dInts_some e]; rfl
  | .none :: _, _, h => by cases h
  | .bool _ :: _, _, h => by cases h
  | .str _ :: _, _, h => by cases h
  | .list _ :: _, _, h => by cases h
  | .tuple _ :: _, _, h => by cases h
  | .dict _ :: _, _, h => by cases h
theorem dInts_map : ∀ ns : List Int, dInts (ns.map PyData.int) = some ns
  | [] => rfl
  | n :: ns => by rw [List.map_cons, dInts, dInts_map ns]; rfl
def lexLe (ns ms : List Int) : Bool := Ob.lexAt (fun j => decide (ns.getD j 0 = ms.getD j 0)) (fun j => decide (ns.getD j 0 ≤ ms.getD j 0)) (decide (ns.length ≤ ms.length)) 0 (min ns.length ms.length)
def pyLe : PyData → PyData → Option PyData
  | .int i, .int j => some (.bool (decide (i ≤ j)))
  | .tuple a, .tuple b => (dInts a).bind fun ns => (dInts b).map fun ms => .bool (lexLe ns ms)
  | _, _ => none
def rLeU (K : PySem.W.Frag) : R2 := fun x y H Q => rI0 (fun i j => .bl (decide (i ≤ j))) x y H Q ∨ rLeT K x y H Q
theorem op_leU {X : Cx} (hu : X.A.units < cLine) : OpR X (compareOp .LtE) (rLeU X.K) := op_le.or (op_leT hu)
theorem rs_le {K : PySem.W.Frag} : R2Sm (rLeU K) pyLe := by
  intro L H x y d e z Q hL hx hy hg hq
  cases d with
  | int i =>
    cases e with
    | int j =>
      cases hg
      exact .inl ⟨i, j, dq_int hx, dq_int hy, hq _ H (Same.refl H) (.bl _)⟩
    | _ => cases hg
  | tuple a =>
    cases e with
    | tuple b =>
      dsimp only [pyLe] at hg
      cases e1 : dInts a with
      | none => rw [e1] at hg; cases hg
      | some ns =>
        cases e2 : dInts b with
        | none => rw [e1, e2] at hg; cases hg
        | some ms =>
          rw [e1, e2] at hg
          cases hg
          have := dInts_some e1
          subst this
          have := dInts_some e2
          subst this
          obtain ⟨p, vs, rfl, hp, hv⟩ := dq_tup hx
          obtain ⟨q, us, rfl, hu, hw⟩ := dq_tup hy
          rw [dqAll_ints hv] at hp
          rw [dqAll_ints hw] at hu
          exact .inr ⟨p, q, ns, ms, rfl, rfl, .of (wo_some hp).1, .of (wo_some hu).1, hq _ H (Same.refl H) (.bl _)⟩
    | _ => cases hg
  | _ => cases hg
/-- == and != -/
def pyEq : PyData → PyData → Option PyData := fun d e => if SeqAt.shaped d && SeqAt.shaped e then some (.bool (PyData.eqv d e)) else none
def pyNe : PyData → PyData → Option PyData := fun d e => if SeqAt.shaped d && SeqAt.shaped e then some (.bool (!PyData.eqv d e)) else none
theorem rs_eq {K : PySem.W.Frag} : R2Sm (rEqD K) pyEq := by
  intro L H x y d e z Q hL hx hy hg hq
  dsimp only [pyEq] at hg
  split at hg
  · rename_i hs
    rw [Bool.and_eq_true] at hs
    cases hg
    exact ⟨d, e, Dq.dp _ _ (dq_wo hx), Dq.dp _ _ (dq_wo hy), hs.1, hs.2, hq _ H (Same.refl H) (.bl _)⟩
  · cases hg
theorem rs_ne {K : PySem.W.Frag} : R2Sm (rNeD K) pyNe := by
  intro L H x y d e z Q hL hx hy hg hq
  dsimp only [pyNe] at hg
  split at hg
  · rename_i hs
    rw [Bool.and_eq_true] at hs
    cases hg
    exact ⟨d, e, Dq.dp _ _ (dq_wo hx), Dq.dp _ _ (dq_wo hy), hs.1, hs.2, hq _ H (Same.refl H) (.bl _)⟩
  · cases hg
/-- is None -/
def isNon : PyData → Bool
  | .none => true
  | _ => false
def pyIs : PyData → PyData → Option PyData
  | d, .none => some (.bool (isNon d))
  | _, _ => none
def pyIsNot : PyData → PyData → Option PyData
  | d, .none => some (.bool (!isNon d))
  | _, _ => none
theorem isNon_of {H : Hp} {v : V} {d : PyData} (h : Dq H v d) : decide (v = V.non) = isNon d := by
  cases h <;> rfl
theorem rs_is : R2Sm (fun x y H Q => y = .non ∧ Q (.bl (decide (x = .non))) H) pyIs := by
  intro L H x y d e z Q hL hx hy hg hq
  cases e with
  | none => cases hg; exact ⟨dq_none hy, by rw [isNon_of hx]; exact hq _ H (Same.refl H) (.bl _)⟩
  | _ => cases hg
theorem rs_isnot : R2Sm (fun x y H Q => y = .non ∧ Q (.bl (!decide (x = .non))) H) pyIsNot := by
  intro L H x y d e z Q hL hx hy hg hq
  cases e with
  | none => cases hg; exact ⟨dq_none hy, by rw [isNon_of hx]; exact hq _ H (Same.refl H) (.bl _)⟩
  | _ => cases hg
/-- in, not in -/
def flatD : PyData → Bool
  | .none => true
  | .bool _ => true
  | .int _ => true
  | .str _ => true
  | _ => false
theorem flat_of {H : Hp} {v : V} {d : PyData} (h : Dq H v d) : flatV v = flatD d := by cases h <;> rfl
theorem flatAll_of {H : Hp} : ∀ {vs : List V} {ds : List PyData}, DqAll H vs ds → vs.all flatV = ds.all flatD
  | _, [], h => by cases h; rfl
  | _, d :: ds, h => by
    cases h with
    | cons h1 h2 => rw [List.all_cons, List.all_cons, flat_of h1, flatAll_of h2]
theorem eqV_of {H : Hp} {v u : V} {d e : PyData} (h : Dq H v d) (k : Dq H u e) (f : flatD d = true) (g : flatD e = true) : eqV v u = PyData.eqv d e := by
  cases h with
  | non => cases k <;> first | (cases g; done) | simp [eqV, PyData.eqv]
  | bl b => cases k <;> first | (cases g; done) | simp [eqV, PyData.eqv]
  | int i => cases k <;> first | (cases g; done) | simp [eqV, PyData.eqv]
  | str x => cases k <;> first | (cases g; done) | simp [eqV, PyData.eqv]
  | lst _ _ => cases f
  | tup _ _ => cases f
theorem inV_of {H : Hp} {x : V} {e : PyData} (k : Dq H x e) (g : flatD e = true) : ∀ {vs : List V} {ds : List PyData}, DqAll H vs ds → ds.all flatD = true → inV x vs = ds.any fun z => PyData.eqv z e
  | _, [], h, _ => by cases h; rfl
  | _, d :: ds, h, f => by
    cases h with
    | cons h1 h2 =>
      rw [List.all_cons, Bool.and_eq_true] at f
      have ih := inV_of k g h2 f.2
      unfold inV at ih ⊢
      rw [List.any_cons, List.any_cons, eqV_of h1 k f.1 g, ih]
def inD (x : PyData) (y : PyData) : Option Bool := match y with
  | .tuple ds => if flatD x && ds.all flatD then some (ds.any fun z => PyData.eqv z x) else none
  | .list ds => if SeqAt.shaped x && SeqAt.shaped (.list ds) then some (ds.any fun z => PyData.eqv z x) else none
  | .str t => match x with
    | .str s => match s.cps.toList with
      | [c] => some (decide (c ∈ t.cps.toList))
      | _ => none
    | _ => none
  | _ => none
def pyIn (x y : PyData) : Option PyData := (inD x y).map .bool
def pyNotIn (x y : PyData) : Option PyData := (inD x y).map fun b => .bool (!b)
def rInSign : R2 := fun x y H Q => ∃ (c : Nat) (z : Str), x = .str ⟨#[c]⟩ ∧ y = .str z ∧ Q (.bl (decide (c ∈ z.cps.toList))) H
def rNotInSign : R2 := fun x y H Q => ∃ (c : Nat) (z : Str), x = .str ⟨#[c]⟩ ∧ y = .str z ∧ Q (.bl (!decide (c ∈ z.cps.toList))) H
def rInU (K : PySem.W.Frag) : R2 := fun x y H Q => rIn K false x y H Q ∨ (rInD K x y H Q ∨ rInSign x y H Q)
def rNotInU (K : PySem.W.Frag) : R2 := fun x y H Q => rIn K true x y H Q ∨ (rNotInD K x y H Q ∨ rNotInSign x y H Q)
theorem op_inU {X : Cx} (hu : X.A.units + 65 < cLine) : OpR X (compareOp .In) (rInU X.K) := op_in_seq.or ((op_inD hu).or op_in_sign)
theorem op_notInU {X : Cx} (hu : X.A.units + 65 < cLine) : OpR X (compareOp .NotIn) (rNotInU X.K) := op_notIn_seq.or ((op_notInD hu).or op_notIn_sign)
theorem one_sign {s : Str} {c : Nat} (h : s.cps.toList = [c]) : s = ⟨#[c]⟩ := by
  cases s with
  | mk a =>
    have : a = #[c] := by
      have h' : a.toList = [c] := h
      rw [← Array.toArray_toList (xs := a), h']
    rw [this]
theorem rs_in {K : PySem.W.Frag} : R2Sm (rInU K) pyIn := by
  intro L H x y d e z Q hL hx hy hg hq
  cases e with
  | tuple ds =>
    dsimp only [pyIn, inD] at hg
    split at hg
    · rename_i hf
      rw [Bool.and_eq_true] at hf
      cases hg
      obtain ⟨p, vs, rfl, hp, hv⟩ := dq_tup hy
      refine .inl ⟨p, vs, rfl, .inr (.of (wo_some hp).1), by rw [flat_of hx]; exact hf.1, by rw [flatAll_of hv]; exact hf.2, ?_⟩
      rw [inV_of hx hf.1 hv hf.2]
      exact hq _ H (Same.refl H) (.bl _)
    · cases hg
  | list ds =>
    dsimp only [pyIn, inD] at hg
    split at hg
    · rename_i hf
      rw [Bool.and_eq_true] at hf
      cases hg
      exact .inr (.inl ⟨d, ds, Dq.dp _ _ (dq_wo hx), Dq.dp _ _ (dq_wo hy), hf.1, hf.2, hq _ H (Same.refl H) (.bl _)⟩)
    · cases hg
  | str t =>
    cases d with
    | str s =>
      dsimp only [pyIn, inD] at hg
      split at hg
      · rename_i c hc
        cases hg
        exact .inr (.inr ⟨c, t, by rw [dq_str hx, one_sign hc], dq_str hy, hq _ H (Same.refl H) (.bl _)⟩)
      · cases hg
    | _ => cases hg
  | _ => cases hg
theorem rs_notIn {K : PySem.W.Frag} : R2Sm (rNotInU K) pyNotIn := by
  intro L H x y d e z Q hL hx hy hg hq
  cases e with
  | tuple ds =>
    dsimp only [pyNotIn, inD] at hg
    split at hg
    · rename_i hf
      rw [Bool.and_eq_true] at hf
      cases hg
      obtain ⟨p, vs, rfl, hp, hv⟩ := dq_tup hy
      refine .inl ⟨p, vs, rfl, .inr (.of (wo_some hp).1), by rw [flat_of hx]; exact hf.1, by rw [flatAll_of hv]; exact hf.2, ?_⟩
      rw [inV_of hx hf.1 hv hf.2]
      exact hq _ H (Same.refl H) (.bl _)
    · cases hg
  | list ds =>
    dsimp only [pyNotIn, inD] at hg
    split at hg
    · rename_i hf
      rw [Bool.and_eq_true] at hf
      cases hg
      exact .inr (.inl ⟨d, ds, Dq.dp _ _ (dq_wo hx), Dq.dp _ _ (dq_wo hy), hf.1, hf.2, hq _ H (Same.refl H) (.bl _)⟩)
    · cases hg
  | str t =>
    cases d with
    | str s =>
      dsimp only [pyNotIn, inD] at hg
      split at hg
      · rename_i c hc
        cases hg
        exact .inr (.inr ⟨c, t, by rw [dq_str hx, one_sign hc], dq_str hy, hq _ H (Same.refl H) (.bl _)⟩)
      · cases hg
    | _ => cases hg
  | _ => cases hg

/-! ### subscripts, slices -/
def pyIx : PyData → PyData → Option PyData
  | .list ds, .int i => atI ds i
  | .tuple ds, .int i => atI ds i
  | .str t, .int i => if t.length ≤ 1000000 then (atI t.cps.toList i).map fun c => .str ⟨#[c]⟩ else none
  | _, _ => none
theorem atI_dq {H : Hp} {vs : List V} {ds : List PyData} {i : Int} {d : PyData} (h : DqAll H vs ds) (e : atI ds i = some d) : ∃ v, atI vs i = some v ∧ Dq H v d := by
  unfold atI at e ⊢
  rw [h.length]
  cases q : ixN ds.length i with
  | none => rw [q] at e; cases e
  | some j =>
    rw [q] at e
    obtain ⟨v, h1, h2⟩ := h.get (i := j) (d := d) e
    exact ⟨v, h1, h2⟩
theorem rs_ix {K : PySem.W.Frag} : R2Sm (rIx K) pyIx := by
  intro L H x y d e z Q hL hx hy hg hq
  cases d with
  | list ds =>
    cases e with
    | int i =>
      obtain ⟨p, vs, rfl, hp, hv⟩ := dq_lst hx
      obtain ⟨v, h1, h2⟩ := atI_dq hv hg
      exact .inl ⟨p, vs, i, v, rfl, dq_int hy, .of (wo_some hp).1, h1, hq _ H (Same.refl H) h2⟩
    | _ => cases hg
  | tuple ds =>
    cases e with
    | int i =>
      obtain ⟨p, vs, rfl, hp, hv⟩ := dq_tup hx
      obtain ⟨v, h1, h2⟩ := atI_dq hv hg
      exact .inr (.inl ⟨p, vs, i, v, rfl, dq_int hy, .of (wo_some hp).1, h1, hq _ H (Same.refl H) h2⟩)
    | _ => cases hg
  | str t =>
    cases e with
    | int i =>
      dsimp only [pyIx] at hg
      split at hg
      · rename_i hl
        cases e1 : atI t.cps.toList i with
        | none => rw [e1] at hg; cases hg
        | some c =>
          rw [e1] at hg
          cases hg
          exact .inr (.inr ⟨t, i, c, dq_str hx, dq_int hy, szb hl, e1, hq _ H (Same.refl H) (.str _)⟩)
      · cases hg
    | _ => cases hg
  | _ => cases hg
def cutD (xs : List PyData) (lo hi : Option Int) : List PyData := (xs.drop (HT.sIx xs.length 0 lo)).take (HT.sIx xs.length xs.length hi - HT.sIx xs.length 0 lo)
theorem cut_dq {H : Hp} {vs : List V} {ds : List PyData} (h : DqAll H vs ds) (lo hi : Option Int) : DqAll H (cutV vs lo hi) (cutD ds lo hi) := by
  unfold cutV cutD
  rw [h.length]
  exact (h.drop _).take _
def pySl (x : PyData) (lo hi : Option Int) : Option PyData := match x with
  | .list ds => some (.list (cutD ds lo hi))
  | .tuple ds => some (.tuple (cutD ds lo hi))
  | .str t => if t.length ≤ 1000000 then some (.str (cutS t lo hi)) else none
  | _ => none
def rSlU (K : PySem.W.Frag) : V → Option Int → Option Int → Hp → VK → Prop := fun x lo hi H Q => rSlL K x lo hi H Q ∨ (rSlA K x lo hi H Q ∨ rSlS x lo hi H Q)
theorem sl_U {X : Cx} : L2.SlR X (rSlU X.K) := sl_list.or (sl_tupA.or sl_str)
theorem rs_sl {K : PySem.W.Frag} (L : List Addr) (H : Hp) (x : V) (d z : PyData) (lo hi : Option Int) (Q : VK) (hL : ∀ a ∈ L, H a ≠ none) (hx : Dq (wo H L) x d) (hg : pySl d lo hi = some z) (hq : ∀ v H', Same H H' → Dq (wo H' L) v z → Q v H') : rSlU K x lo hi H Q := by
  cases d with
  | list ds =>
    cases hg
    obtain ⟨p, vs, rfl, hp, hv⟩ := dq_lst hx
    exact .inl ⟨p, vs, rfl, .of (wo_some hp).1, fun r hr => hq _ _ (same_new hr) (dq_newL hL hr (cut_dq hv lo hi))⟩
  | tuple ds =>
    cases hg
    obtain ⟨p, vs, rfl, hp, hv⟩ := dq_tup hx
    refine .inr (.inl ⟨p, vs, rfl, .of (wo_some hp).1, fun e => ?_, fun _ r hr => hq _ _ (same_new hr) (dq_newT hL hr (cut_dq hv lo hi))⟩)
    refine hq _ H (Same.refl H) ?_
    have e' : cutD ds lo hi = ds := by
      unfold cutD
      rw [← hv.length, e.1, e.2, List.drop_zero, Nat.sub_zero, hv.length, List.take_length]
    rw [e']
    exact .tup hp hv
  | str t =>
    dsimp only [pySl] at hg
    split at hg
    · rename_i hl
      cases hg
      exact .inr (.inr ⟨t, dq_str hx, szb hl, hq _ H (Same.refl H) (.str _)⟩)
    · cases hg
  | _ => cases hg
section
variable {G : Gm} {E : XK}
/-- the parts of a slice -/
def WantO (G : Gm) (E : XK) (L : List Addr) (H : Hp) (r : Rs G.S (Option Int)) (Q : Option Int → Hp → Prop) : Prop := match r with
  | .ok b s' => ∀ H', Stp G H H' → G.ok s' H' → Q b H'
  | .exc c s' => ∀ H', Stp G H H' → G.ok s' H' → E (.ref (G.cl c)) none H'
  | .stuck => False
def SmO (G : Gm) (E : XK) (te : TO) (f : List Sl → G.S → Rs G.S (Option Int)) : Prop := ∀ (L O : List Addr) (σD : List Sl) (s : G.S) (σ : L2.St) (H : Hp) (R : Option Int → Hp → Prop), SR G L O σD s σ H → WantO G E L H (f σD s) R → te σ H R
def oNo {S : Type} : List Sl → S → Rs S (Option Int) := fun _ s => .ok none s
def wI : W → Option (Option Int)
  | .d (.int i) => some (some i)
  | _ => none
def oPart {S : Type} (f : List Sl → S → Rs S W) : List Sl → S → Rs S (Option Int) := fun σ s => (f σ s).bind fun x s => optR (wI x) s
theorem smo_no : SmO G E tNoPart oNo := fun L O σD s σ H Q R h => h H Stp.refl R.ok
theorem smo_part {te : TE} {f : List Sl → G.S → Rs G.S W} (h : Sm G E te f) : SmO G E (tPart te) (oPart f) := fun L O σD s σ H Q R hw => by
  refine h L O σD s σ H _ R ?_
  unfold oPart at hw
  cases e : f σD s with
  | ok x s1 =>
    rw [e] at hw
    have hw' : WantO G E L H (optR (wI x) s1) Q := hw
    intro v H1 st ok1 wr
    cases x with
    | d d =>
      cases d with
      | int i => exact ⟨i, dq_int wr, hw' H1 st ok1⟩
      | _ => exact hw'.elim
    | ref _ => exact hw'.elim
    | dic _ => exact hw'.elim
  | exc cc s1 => rw [e] at hw; exact hw
  | stuck => rw [e] at hw; exact hw
def eSl {S : Type} (f : List Sl → S → Rs S W) (lo hi : List Sl → S → Rs S (Option Int)) : List Sl → S → Rs S W := fun σ s => (f σ s).bind fun x s => (lo σ s).bind fun a s => (hi σ s).bind fun b s => match x with
  | .d x => optR ((pySl x a b).map .d) s
  | _ => .stuck
theorem SmO.thenV {te : TO} {f : List Sl → G.S → Rs G.S (Option Int)} {L O : List Addr} {σD : List Sl} {s : G.S} {σ : L2.St} {H : Hp} (h : SmO G E te f) (R : SR G L O σD s σ H) {k : Option Int → G.S → Rs G.S W} {Q : VK} (w : Want G E L H ((f σD s).bind k) Q) {Q' : Option Int → Hp → Prop}
    (c : ∀ x s1 H1, Stp G H H1 → SR G L O σD s1 σ H1 → Want G E L H1 (k x s1) Q → Q' x H1) : te σ H Q' := by
  refine h L O σD s σ H Q' R ?_
  cases e : f σD s with
  | ok x s1 =>
    rw [e] at w
    exact fun H1 st ok1 => c x s1 H1 st (R.step st ok1) (Want.later st w)
  | exc cc s1 => rw [e] at w; exact w
  | stuck => rw [e] at w; exact w
theorem sm_sl {K : PySem.W.Frag} {te : TE} {tl th : TO} {f : List Sl → G.S → Rs G.S W} {lo hi : List Sl → G.S → Rs G.S (Option Int)} (h : Sm G E te f) (hl : SmO G E tl lo) (hh : SmO G E th hi) : Sm G E (tSl (rSlU K) te tl th) (eSl f lo hi) := fun L O σD s σ H Q R hw =>
  h.thenV R hw fun x s1 v H1 e1 R1 wx h1 => hl.thenV R1 h1 fun a s2 H2 e2 R2 h2 => hh.thenV R2 h2 fun b s3 H3 e3 R3 h3 => by
    cases x with
    | d d =>
      obtain ⟨w, ew, hq⟩ := optR_want h3
      cases eg : pySl d a b with
      | none => rw [eg] at ew; cases ew
      | some z =>
        rw [eg] at ew
        cases ew
        exact rs_sl L H3 v d z a b Q R3.live (dq_same (stp_wo R.l0 (e2.trans e3)) _ _ wx) eg fun v' H' e' hv => hq v' H' (Stp.of e') (G.ok_same R3.ok e') hv
    | ref _ => exact h3.elim
    | dic _ => exact h3.elim
end

/-! ### built-ins -/
def lenD : PyData → Option PyData
  | .list ds => some (.int ds.length)
  | .tuple ds => some (.int ds.length)
  | .str t => if t.length ≤ 1000000 then some (.int t.length) else none
  | _ => none
def pyLen : List PyData → Option PyData
  | [x] => lenD x
  | _ => none
def rLenU (K : PySem.W.Frag) : List V → Hp → VK → Prop := fun xs H Q => (∃ p ys, xs = [.ref p] ∧ (SqL K H p ys ∨ SqT K H p ys) ∧ Q (.int ys.length) H) ∨ ∃ z, xs = [.str z] ∧ z.length ≤ sizeLine ∧ Q (.int z.length) H
theorem call_lenU {X : Cx} : CallR X (.builtin "len") (rLenU X.K) := call_len_seq.or call_len_str
theorem dqAll_one {H : Hp} {vs : List V} {d : PyData} (h : DqAll H vs [d]) : ∃ v, vs = [v] ∧ Dq H v d := by
  cases h with
  | cons h1 h2 => cases h2; exact ⟨_, rfl, h1⟩
theorem dqAll_two {H : Hp} {vs : List V} {d e : PyData} (h : DqAll H vs [d, e]) : ∃ v u, vs = [v, u] ∧ Dq H v d ∧ Dq H u e := by
  cases h with
  | cons h1 h2 => obtain ⟨u, rfl, h3⟩ := dqAll_one h2; exact ⟨_, _, rfl, h1, h3⟩
theorem cs_len {K : PySem.W.Frag} : CSm (rLenU K) pyLen := by
  intro L H vs ds z Q hL hv hg hq
  match ds, hv, hg with
  | [x], hv, hg =>
    obtain ⟨v, rfl, h1⟩ := dqAll_one hv
    cases x with
    | list es =>
      cases hg
      obtain ⟨p, us, rfl, hp, hu⟩ := dq_lst h1
      exact .inl ⟨p, us, rfl, .inl (.of (wo_some hp).1), by rw [hu.length]; exact hq _ H (Same.refl H) (.int _)⟩
    | tuple es =>
      cases hg
      obtain ⟨p, us, rfl, hp, hu⟩ := dq_tup h1
      exact .inl ⟨p, us, rfl, .inr (.of (wo_some hp).1), by rw [hu.length]; exact hq _ H (Same.refl H) (.int _)⟩
    | str t =>
      dsimp only [pyLen, lenD] at hg
      split at hg
      · rename_i hl
        cases hg
        exact .inr ⟨t, by rw [dq_str h1], szb hl, hq _ H (Same.refl H) (.int _)⟩
      · cases hg
    | _ => cases hg
def dBools : List PyData → Option (List Bool)
  | [] => some []
  | .bool i :: r => (dBools r).map (i :: ·)
  | _ :: _ => none
theorem dBools_some : ∀ {ds : List PyData} {ns : List Bool}, dBools ds = some ns → ds = ns.map PyData.bool
  | [], _, h => by cases h; rfl
  | .bool x :: r, ds, h => by
    cases e : dBools r with
    | none => rw [dBools, e] at h; cases h
    | some q => rw [dBools, e] at h; cases h; rw [dBools_some e]; rfl
  | .none :: _, _, h => by cases h
  | .int _ :: _, _, h => by cases h
  | .str _ :: _, _, h => by cases h
  | .list _ :: _, _, h => by cases h
  | .tuple _ :: _, _, h => by cases h
  | .dict _ :: _, _, h => by cases h
theorem dqAll_bools {H : Hp} : ∀ {vs : List V} {ns : List Bool}, DqAll H vs (ns.map PyData.bool) → vs = ns.map V.bl
  | _, [], h => by cases h; rfl
  | _, n :: ns, h => by
    cases h with
    | cons h1 h2 => rw [dq_bool h1, dqAll_bools h2]; rfl
def pyAll : List PyData → Option PyData
  | [.list ds] => (dBools ds).map fun bs => .bool (bs.all id)
  | _ => none
theorem cs_all {K : PySem.W.Frag} : CSm (rAll K) pyAll := by
  intro L H vs ds z Q hL hv hg hq
  match ds, hg with
  | [.list es], hg =>
    cases e : dBools es with
    | none => rw [pyAll, e] at hg; cases hg
    | some bs =>
      rw [pyAll, e] at hg
      cases hg
      have := dBools_some e
      subst this
      obtain ⟨v, rfl, h1⟩ := dqAll_one hv
      obtain ⟨p, us, rfl, hp, hu⟩ := dq_lst h1
      rw [dqAll_bools hu] at hp
      exact ⟨p, bs, rfl, .of (wo_some hp).1, hq _ H (Same.refl H) (.bl _)⟩
def pySum : List PyData → Option PyData
  | [.list ds] => (dInts ds).map fun bs => .int bs.sum
  | _ => none
theorem cs_sum {K : PySem.W.Frag} : CSm (rSum K) pySum := by
  intro L H vs ds z Q hL hv hg hq
  match ds, hg with
  | [.list es], hg =>
    cases e : dInts es with
    | none => rw [pySum, e] at hg; cases hg
    | some bs =>
      rw [pySum, e] at hg
      cases hg
      have := dInts_some e
      subst this
      obtain ⟨v, rfl, h1⟩ := dqAll_one hv
      obtain ⟨p, us, rfl, hp, hu⟩ := dq_lst h1
      rw [dqAll_ints hu] at hp
      exact ⟨p, bs, rfl, .of (wo_some hp).1, hq _ H (Same.refl H) (.int _)⟩
def pyTupleOf : List PyData → Option PyData
  | [.list ds] => some (.tuple ds)
  | [.tuple ds] => some (.tuple ds)
  | _ => none
def rTupleU (K : PySem.W.Frag) : List V → Hp → VK → Prop := fun xs H Q => ∃ p ys, xs = [.ref p] ∧ ((SqL K H p ys ∧ ∀ l, H l = none → Q (.ref l) (upd H l (.tup ys))) ∨ (SqT K H p ys ∧ Q (.ref p) H))
theorem cs_tuple {K : PySem.W.Frag} : CSm (rTupleU K) pyTupleOf := by
  intro L H vs ds z Q hL hv hg hq
  match ds, hg with
  | [.list es], hg =>
    cases hg
    obtain ⟨v, rfl, h1⟩ := dqAll_one hv
    obtain ⟨p, us, rfl, hp, hu⟩ := dq_lst h1
    exact ⟨p, us, rfl, .inl ⟨.of (wo_some hp).1, fun r hr => hq _ _ (same_new hr) (dq_newT hL hr hu)⟩⟩
  | [.tuple es], hg =>
    cases hg
    obtain ⟨v, rfl, h1⟩ := dqAll_one hv
    obtain ⟨p, us, rfl, hp, hu⟩ := dq_tup h1
    exact ⟨p, us, rfl, .inr ⟨.of (wo_some hp).1, hq _ H (Same.refl H) h1⟩⟩
def pyListOf : List PyData → Option PyData
  | [.list ds] => some (.list ds)
  | [.tuple ds] => some (.list ds)
  | _ => none
def rListU (K : PySem.W.Frag) : List V → Hp → VK → Prop := fun xs H Q => ∃ p ys, xs = [.ref p] ∧ (SqL K H p ys ∨ SqT K H p ys) ∧ ∀ l, H l = none → Q (.ref l) (upd H l (.lst ys))
theorem cs_list {K : PySem.W.Frag} : CSm (rListU K) pyListOf := by
  intro L H vs ds z Q hL hv hg hq
  match ds, hg with
  | [.list es], hg =>
    cases hg
    obtain ⟨v, rfl, h1⟩ := dqAll_one hv
    obtain ⟨p, us, rfl, hp, hu⟩ := dq_lst h1
    exact ⟨p, us, rfl, .inl (.of (wo_some hp).1), fun r hr => hq _ _ (same_new hr) (dq_newL hL hr hu)⟩
  | [.tuple es], hg =>
    cases hg
    obtain ⟨v, rfl, h1⟩ := dqAll_one hv
    obtain ⟨p, us, rfl, hp, hu⟩ := dq_tup h1
    exact ⟨p, us, rfl, .inr (.of (wo_some hp).1), fun r hr => hq _ _ (same_new hr) (dq_newL hL hr hu)⟩
def pyAbs : List PyData → Option PyData
  | [.int i] => some (.int (if i < 0 then -i else i))
  | _ => none
theorem cs_abs : CSm (fun xs H Q => ∃ i, xs = [.int i] ∧ Q (.int (if i < 0 then -i else i)) H) pyAbs := by
  intro L H vs ds z Q hL hv hg hq
  match ds, hg with
  | [.int i], hg =>
    cases hg
    obtain ⟨v, rfl, h1⟩ := dqAll_one hv
    exact ⟨i, by rw [dq_int h1], hq _ H (Same.refl H) (.int _)⟩
def pyMax2 : List PyData → Option PyData
  | [.int i, .int j] => some (.int (if j > i then j else i))
  | _ => none
theorem cs_max2 : CSm (fun xs H Q => ∃ i j, xs = [.int i, .int j] ∧ Q (.int (if j > i then j else i)) H) pyMax2 := by
  intro L H vs ds z Q hL hv hg hq
  match ds, hg with
  | [.int i, .int j], hg =>
    cases hg
    obtain ⟨v, u, rfl, h1, h2⟩ := dqAll_two hv
    exact ⟨i, j, by rw [dq_int h1, dq_int h2], hq _ H (Same.refl H) (.int _)⟩
def pyMin2 : List PyData → Option PyData
  | [.int i, .int j] => some (.int (if j < i then j else i))
  | _ => none
theorem cs_min2 : CSm (fun xs H Q => ∃ i j, xs = [.int i, .int j] ∧ Q (.int (if j < i then j else i)) H) pyMin2 := by
  intro L H vs ds z Q hL hv hg hq
  match ds, hg with
  | [.int i, .int j], hg =>
    cases hg
    obtain ⟨v, u, rfl, h1, h2⟩ := dqAll_two hv
    exact ⟨i, j, by rw [dq_int h1, dq_int h2], hq _ H (Same.refl H) (.int _)⟩
def pyInt1 : List PyData → Option PyData
  | [.int i] => some (.int i)
  | [.bool k] => some (.int (if k then 1 else 0))
  | _ => none
theorem cs_int1 : CSm (fun xs H Q => (∃ i, xs = [.int i] ∧ Q (.int i) H) ∨ ∃ k, xs = [.bl k] ∧ Q (.int (if k then 1 else 0)) H) pyInt1 := by
  intro L H vs ds z Q hL hv hg hq
  match ds, hg with
  | [.int i], hg =>
    cases hg
    obtain ⟨v, rfl, h1⟩ := dqAll_one hv
    exact .inl ⟨i, by rw [dq_int h1], hq _ H (Same.refl H) (.int _)⟩
  | [.bool k], hg =>
    cases hg
    obtain ⟨v, rfl, h1⟩ := dqAll_one hv
    exact .inr ⟨k, by rw [dq_bool h1], hq _ H (Same.refl H) (.int _)⟩
/-- isinstance(x, T), T one of the plain types -/
def tyName : PyData → String
  | .none => "NoneType"
  | .bool _ => "bool"
  | .int _ => "int"
  | .str _ => "str"
  | .list _ => "list"
  | .tuple _ => "tuple"
  | .dict _ => "dict"
inductive Ty where
  | int | bool | tuple | str | list
def Ty.nm : Ty → String
  | .int => "int"
  | .bool => "bool"
  | .tuple => "tuple"
  | .str => "str"
  | .list => "list"
def isiB (t : Ty) (d : PyData) : Bool := match t, d with
  | .int, .int _ => true
  | .int, .bool _ => true
  | .bool, .bool _ => true
  | .tuple, .tuple _ => true
  | .str, .str _ => true
  | .list, .list _ => true
  | _, _ => false
theorem kitT (t : Ty) (d : PyData) : kitB (tyName d) t.nm = some (isiB t d) := by
  cases t <;> cases d <;> (dsimp only [tyName, Ty.nm, isiB]; decide +kernel)
theorem tyX_of {K : PySem.W.Frag} {H : Hp} {v : V} {d : PyData} (h : Dq H v d) : TyX K H v (.type (tyName d)) := by
  cases h with
  | non => exact .base .non
  | bl b => exact .base (.bl b)
  | int b => exact .base (.int b)
  | str b => exact .base (.str b)
  | lst e _ => exact .base (.lst e)
  | tup e _ => exact .base (.tup e)
def eIsi {S : Type} (n : Ty) (f : List Sl → S → Rs S W) : List Sl → S → Rs S W := fun σ s => (f σ s).bind fun x s => match x with
  | .d d => .ok (.d (.bool (isiB n d))) s
  | _ => .stuck
theorem sm_isi {G : Gm} {E : XK} {K : PySem.W.Frag} (n : Ty) {te : TE} {f : List Sl → G.S → Rs G.S W} (h : Sm G E te f) : Sm G E (tCB (rIsi K) (tCons te (tCons (tC (.ty n.nm)) tNil))) (eIsi n f) := fun L O σD s σ H Q R hw =>
  h.thenV R hw fun x s1 v H1 e1 R1 wx h1 => by
    cases x with
    | d d => exact ⟨v, .ty n.nm, .type (tyName d), .type n.nm, isiB n d, rfl, .ty n.nm, tyX_of (dq_wo wx), kit_ty (kitT n d), h1 _ H1 Stp.refl R1.ok (.bl _)⟩
    | ref _ => exact h1.elim
    | dic _ => exact h1.elim
end CS
/-! Core3: what is walked, comprehensions, statements, loops, defs -/
namespace CS
open PySem PySem.Spec PyProof.Rows L2

/-! ### from one state to a later one -/
structure Later (G : Gm) (L O : List Addr) (H : Hp) (L' O' : List Addr) (H' : Hp) : Prop where
  keep : ∀ b o, b ∉ G.L0 → b ∉ O → H b = some o → H' b = some o
  out : ∀ b o, b ∉ L → H b = some o → b ∉ L'
  fore : ∀ b, b ∈ L → b ∉ O → b ∈ L'
  newO : ∀ b o, H b = some o → b ∈ O' → b ∈ O
section
variable {G : Gm} {E : XK} {L O L1 O1 L2' O2 : List Addr} {σD : List Sl} {s : G.S} {σ : L2.St} {H H1 H2 H' : Hp}
theorem Later.refl : Later G L O H L O H := ⟨fun _ _ _ _ h => h, fun _ _ h _ => h, fun _ h _ => h, fun _ _ _ h => h⟩
theorem Later.of_stp (e : Stp G H H') : Later G L O H L O H' := ⟨fun b o h _ q => e b o h q, fun _ _ h _ => h, fun _ h _ => h, fun _ _ _ h => h⟩
theorem Later.trans (l0 : ∀ a ∈ G.L0, a ∈ L) (oL : ∀ a ∈ O, a ∈ L ∧ a ∉ G.L0) (live : ∀ a ∈ L, H a ≠ none) (live1 : ∀ a ∈ L1, H1 a ≠ none) (l01 : ∀ a ∈ G.L0, a ∈ L1) (a : Later G L O H L1 O1 H1) (b : Later G L1 O1 H1 L2' O2 H2) : Later G L O H L2' O2 H2 where
  keep := fun c o h1 h2 q => b.keep c o h1 (fun z => h2 (a.newO c o q z)) (a.keep c o h1 h2 q)
  out := fun c o h q => b.out c o (a.out c o h q) (a.keep c o (fun z => h (l0 c z)) (fun z => h (oL c z).1) q)
  fore := fun c h1 h2 => by
    refine b.fore c (a.fore c h1 h2) fun z => ?_
    cases q : H c with
    | none => exact live c h1 q
    | some o => exact h2 (a.newO c o q z)
  newO := fun c o q h => by
    by_cases hO : c ∈ O
    · exact hO
    · refine a.newO c o q ?_
      by_cases h0 : c ∈ G.L0
      · cases q1 : H1 c with
        | none => exact absurd q1 (live1 c (l01 c h0))
        | some o1 => exact b.newO c o1 q1 h
      · exact b.newO c o (a.keep c o h0 hO q) h
theorem SR.trans (R : SR G L O σD s σ H) {σD' : List Sl} {s' : G.S} {σ' : L2.St} (R1 : SR G L1 O1 σD' s' σ' H1) (a : Later G L O H L1 O1 H1) (b : Later G L1 O1 H1 L2' O2 H2) : Later G L O H L2' O2 H2 :=
  Later.trans R.l0 R.oL R.live R1.live R1.l0 a b
theorem later_wo (R : SR G L O σD s σ H) (a : Later G L O H L1 O1 H1) : Same (wo H L) (wo H1 L1) := fun b o e => by
  obtain ⟨e1, e2⟩ := wo_some e
  exact wo_of (a.keep b o (fun z => e2 (R.l0 b z)) (fun z => e2 (R.oL b z).1) e1) (a.out b o e2 e1)

/-! ### slots set, wiped, frozen -/
theorem SR.set (R : SR G L O σD s σ H) (i : Nat) {w : W} {v : V} (h : WR (wo H L) w v) : SR G L O (σD.set i (.w w)) s (σ.set i (some v)) H where
  l0 := R.l0
  oL := R.oL
  nt := R.nt
  ok := R.ok
  sl := fun j x e => by
    by_cases hj : i = j
    · subst hj
      have hi : i < σD.length := by
        have := (List.getElem?_eq_some_iff.mp e).1
        rwa [List.length_set] at this
      rw [List.getElem?_set_self hi] at e
      cases e
      obtain ⟨o, h1, _⟩ := R.sl i _ (List.getElem?_eq_getElem hi)
      have hs : i < σ.length := (List.getElem?_eq_some_iff.mp h1).1
      exact ⟨some v, List.getElem?_set_self hs, v, rfl, h⟩
    · rw [List.getElem?_set_ne hj] at e ⊢
      exact R.sl j x e
  df := fun j k x y a e1 e2 o1 o2 q1 q2 => by
    have n1 : i ≠ j := fun z => by
      subst z
      have hi : i < σD.length := by
        have := (List.getElem?_eq_some_iff.mp e1).1
        rwa [List.length_set] at this
      rw [List.getElem?_set_self hi] at e1
      cases e1
      cases o1
    have n2 : i ≠ k := fun z => by
      subst z
      have hi : i < σD.length := by
        have := (List.getElem?_eq_some_iff.mp e2).1
        rwa [List.length_set] at this
      rw [List.getElem?_set_self hi] at e2
      cases e2
      cases o2
    rw [List.getElem?_set_ne n1] at e1 q1
    rw [List.getElem?_set_ne n2] at e2 q2
    exact R.df j k x y a e1 e2 o1 o2 q1 q2
theorem SR.clear (R : SR G L O σD s σ H) (i : Nat) (o : Option V) : SR G L O (σD.set i .non) s (σ.set i o) H where
  l0 := R.l0
  oL := R.oL
  nt := R.nt
  ok := R.ok
  sl := fun j x e => by
    by_cases hj : i = j
    · subst hj
      have hi : i < σD.length := by
        have := (List.getElem?_eq_some_iff.mp e).1
        rwa [List.length_set] at this
      rw [List.getElem?_set_self hi] at e
      cases e
      obtain ⟨o', h1, _⟩ := R.sl i _ (List.getElem?_eq_getElem hi)
      have hs : i < σ.length := (List.getElem?_eq_some_iff.mp h1).1
      exact ⟨o, List.getElem?_set_self hs, trivial⟩
    · rw [List.getElem?_set_ne hj] at e ⊢
      exact R.sl j x e
  df := fun j k x y a e1 e2 o1 o2 q1 q2 => by
    have n1 : i ≠ j := fun z => by
      subst z
      have hi : i < σD.length := by
        have := (List.getElem?_eq_some_iff.mp e1).1
        rwa [List.length_set] at this
      rw [List.getElem?_set_self hi] at e1
      cases e1
      cases o1
    have n2 : i ≠ k := fun z => by
      subst z
      have hi : i < σD.length := by
        have := (List.getElem?_eq_some_iff.mp e2).1
        rwa [List.length_set] at this
      rw [List.getElem?_set_self hi] at e2
      cases e2
      cases o2
    rw [List.getElem?_set_ne n1] at e1 q1
    rw [List.getElem?_set_ne n2] at e2 q2
    exact R.df j k x y a e1 e2 o1 o2 q1 q2
def wipeD (σ : List Sl) : List Nat → List Sl
  | [] => σ
  | v :: vs => (wipeD σ vs).set v .non
theorem SR.wipe (R : SR G L O σD s σ H) : ∀ vs : List Nat, SR G L O (wipeD σD vs) s (L2.wipe σ vs) H
  | [] => R
  | v :: vs => (SR.wipe R vs).clear v none
theorem wipe_set {i : Nat} {o : Option V} : ∀ {vs : List Nat} (σ : L2.St), i ∈ vs → L2.wipe (σ.set i o) vs = L2.wipe σ vs
  | v :: vs, σ, h => by
    show (L2.wipe (σ.set i o) vs).set v none = (L2.wipe σ vs).set v none
    by_cases hv : i ∈ vs
    · rw [wipe_set σ hv]
    · have e : i = v := by
        rcases List.mem_cons.mp h with z | z
        · exact z
        · exact absurd z hv
      subst e
      have c : ∀ (us : List Nat), i ∉ us → L2.wipe (σ.set i o) us = (L2.wipe σ us).set i o := by
        intro us
        induction us with
        | nil => intro _; rfl
        | cons u us ih =>
          intro hu
          show (L2.wipe (σ.set i o) us).set u none = ((L2.wipe σ us).set u none).set i o
          rw [ih fun z => hu (List.mem_cons_of_mem _ z), List.set_comm _ _ (show i ≠ u from fun z => hu (by rw [z]; exact List.mem_cons_self))]
      rw [c vs hv, List.set_set]
theorem wipe_wipe (σ : L2.St) (vs : List Nat) : L2.wipe (L2.wipe σ vs) vs = L2.wipe σ vs := by
  have c : ∀ us : List Nat, (∀ u ∈ us, u ∈ vs) → L2.wipe (L2.wipe σ us) vs = L2.wipe σ vs := by
    intro us
    induction us with
    | nil => intro _; rfl
    | cons u us ih =>
      intro h
      show L2.wipe ((L2.wipe σ us).set u none) vs = L2.wipe σ vs
      rw [wipe_set _ (h u List.mem_cons_self)]
      exact ih fun z hz => h z (List.mem_cons_of_mem _ hz)
  exact c vs fun u h => h

/-! ### targets -/
def GSm (g : TG) (b : PyData → List Sl → Option (List Sl)) (is : List Nat) : Prop := ∀ (G : Gm) (L O : List Addr) (σD σD' : List Sl) (s : G.S) (σ : L2.St) (H : Hp) (v : V) (d : PyData) (R : L2.St → Hp → Prop), SR G L O σD s σ H → Dq (wo H L) v d → b d σD = some σD' →
  (∀ σ', SR G L O σD' s σ' H → (∀ vs : List Nat, (∀ i ∈ is, i ∈ vs) → L2.wipe σ' vs = L2.wipe σ vs) → R σ' H) → g v σ H R
def bName (i : Nat) : PyData → List Sl → Option (List Sl) := fun d σ => some (σ.set i (.w (.d d)))
theorem gs_name {i : Nat} : GSm (gName i) (bName i) [i] := fun G L O σD σD' s σ H v d R hR hv hb h => by
  cases hb
  exact h _ (hR.set i (w := .d d) hv) fun vs hvs => wipe_set σ (hvs i List.mem_cons_self)
def bNames : List Nat → List PyData → List Sl → Option (List Sl)
  | [], [], σ => some σ
  | i :: is, d :: ds, σ => bNames is ds (σ.set i (.w (.d d)))
  | _, _, _ => none
def bTup (is : List Nat) : PyData → List Sl → Option (List Sl) := fun d σ => match d with
  | .tuple ds => bNames is ds σ
  | _ => none
def gNames : List Nat → TGs
  | [] => gNil
  | i :: is => gCons (gName i) (gNames is)
theorem gs_names : ∀ (is : List Nat) (G : Gm) (L O : List Addr) (σD σD' : List Sl) (s : G.S) (σ : L2.St) (H : Hp) (vs : List V) (ds : List PyData) (R : L2.St → Hp → Prop), SR G L O σD s σ H → DqAll (wo H L) vs ds → bNames is ds σD = some σD' →
    (∀ σ', SR G L O σD' s σ' H → (∀ us : List Nat, (∀ i ∈ is, i ∈ us) → L2.wipe σ' us = L2.wipe σ us) → R σ' H) → vs.length = is.length ∧ gNames is vs σ H R
  | [], G, L, O, σD, σD', s, σ, H, vs, ds, R, hR, hv, hb, h => by
    cases ds with
    | nil => cases hv; cases hb; exact ⟨rfl, rfl, h σ hR fun _ _ => rfl⟩
    | cons d ds => cases hb
  | i :: is, G, L, O, σD, σD', s, σ, H, vs, ds, R, hR, hv, hb, h => by
    cases ds with
    | nil => cases hb
    | cons d ds =>
      cases hv with
      | cons h1 h2 =>
        rename_i v vs
        obtain ⟨q1, q2⟩ := gs_names is G L O _ σD' s (σ.set i (some v)) H vs ds R (hR.set i (w := .d d) h1) h2 hb fun σ' R' hw => h σ' R' fun us hu => by
          rw [hw us fun j hj => hu j (List.mem_cons_of_mem _ hj), wipe_set σ (hu i List.mem_cons_self)]
        exact ⟨by rw [List.length_cons, List.length_cons, q1], v, vs, rfl, q2⟩
theorem gs_tup {K : PySem.W.Frag} {n : Nat} (is : List Nat) (hn : is.length = n) : GSm (gTup K n (gNames is)) (bTup is) is := fun G L O σD σD' s σ H v d R hR hv hb h => by
  cases d with
  | tuple ds =>
    obtain ⟨a, vs, rfl, ha, hd⟩ := dq_tup hv
    obtain ⟨q1, q2⟩ := gs_names is G L O σD σD' s σ H vs ds R hR hd hb h
    exact ⟨a, vs, rfl, .of (wo_some ha).1, q1.trans hn, q2⟩
  | _ => cases hb

/-! ### what is walked -/
def Walks (G : Gm) (J : It) (items : List PyData) (L O : List Addr) (H : Hp) : Prop := ∀ (L2' O2 : List Addr) (H2 : Hp), Later G L O H L2' O2 H2 → (∀ a ∈ L2', NT (H2 a)) →
  (∀ i d, items[i]? = some d → J.go i H2 ∧ ∀ x H3, J.yld i H2 x H3 → Same H2 H3 ∧ Dq (wo H3 L2') x d) ∧ ∀ i, items.length ≤ i → J.stop i H2
def WantI (G : Gm) (E : XK) (L O : List Addr) (H : Hp) (r : Rs G.S (List PyData)) (R : It → Hp → Prop) : Prop := match r with
  | .ok items s' => ∀ J H', Stp G H H' → G.ok s' H' → Walks G J items L O H' → R J H'
  | .exc c s' => ∀ H', Stp G H H' → G.ok s' H' → E (.ref (G.cl c)) none H'
  | .stuck => False
def ISm (G : Gm) (E : XK) (wi : TI) (f : List Sl → G.S → Rs G.S (List PyData)) : Prop := ∀ (L O : List Addr) (σD : List Sl) (s : G.S) (σ : L2.St) (H : Hp) (R : It → Hp → Prop), SR G L O σD s σ H → WantI G E L O H (f σD s) R → wi σ H R
/-- an expression's value, then .. -/
theorem Sm.thenI {te : TE} {f : List Sl → G.S → Rs G.S W} (h : Sm G E te f) (R : SR G L O σD s σ H) {k : W → G.S → Rs G.S (List PyData)} {Q : It → Hp → Prop} (w : WantI G E L O H ((f σD s).bind k) Q) {Q' : VK}
    (c : ∀ x s1 v H1, Stp G H H1 → SR G L O σD s1 σ H1 → WR (wo H1 L) x v → (∀ items s2, k x s1 = .ok items s2 → ∀ J H', Stp G H1 H' → G.ok s2 H' → Walks G J items L O H' → Q J H') → (k x s1 = .stuck → False) → (∀ c s2, k x s1 = .exc c s2 → ∀ H', Stp G H1 H' → G.ok s2 H' → E (.ref (G.cl c)) none H') → Q' v H1) : te σ H Q' := by
  refine h L O σD s σ H Q' R ?_
  cases e : f σD s with
  | ok x s1 =>
    rw [e] at w
    refine fun v H1 st ok1 wr => c x s1 v H1 st (R.step st ok1) wr (fun items s2 ek J H' st' ok' hw => ?_) (fun ek => ?_) (fun cc s2 ek H' st' ok' => ?_)
    · have w' : WantI G E L O H (k x s1) Q := w
      rw [ek] at w'
      exact w' J H' (st.trans st') ok' hw
    · have w' : WantI G E L O H (k x s1) Q := w
      rw [ek] at w'
      exact w'
    · have w' : WantI G E L O H (k x s1) Q := w
      rw [ek] at w'
      exact w' H' (st.trans st') ok'
  | exc cc s1 => rw [e] at w; exact w
  | stuck => rw [e] at w; exact w
def iSeqD {S : Type} (w : W) (s : S) : Rs S (List PyData) := match w with
  | .d (.list ds) => .ok ds s
  | .d (.tuple ds) => .ok ds s
  | _ => .stuck
/-- over a list or a tuple -/
def iSeq (K : PySem.W.Frag) (tl : TE) : TI := fun σ H R => tl σ H fun x H1 => (∃ a, x = .ref a ∧ (∃ xs, SqL K H1 a xs) ∧ R (Itl K a) H1) ∨ ∃ a, x = .ref a ∧ (∃ xs, SqT K H1 a xs) ∧ R (Itt K a) H1
theorem pi_seq {X : Cx} {tg l : Expr} {tl : TE} (hl : PE X l tl) : PI X tg l (iSeq X.K tl) := by
  refine ⟨fun pins s σ H R I h => ?_⟩
  refine thn (hl.run pins s σ H _ I h) fun v s1 ⟨x, H1, I1, r1, q1⟩ => ?_
  rcases q1 with q1 | q1
  · obtain ⟨a, e, ⟨xs, hq⟩, q⟩ := q1
    subst e
    cases r1
    obtain ⟨its, rv, p, hz⟩ := I1.list hq
    refine wpAny_pyIter_list p.isList ?_
    refine ⟨s1.heap.objs.size, [s1.heap.objs.size], _, _, H1, rfl, I1.kept (t' := s1.toks) fun b o e => Heap.get?_push_of_some _ e, turn_list a _, ⟨_, Heap.get?_push_size _ rfl, rfl, rfl⟩, fun b hb => ?_, q⟩
    have e : b = s1.heap.objs.size := by simpa using hb
    subst e
    exact I1.fpOk (Nat.le_refl _) (I1.hok.fresh (Nat.le_refl _))
  · obtain ⟨a, e, ⟨xs, hq⟩, q⟩ := q1
    subst e
    cases r1
    obtain ⟨its, rv, p, hz⟩ := I1.tuple hq
    refine wpAny_pyIter_tuple (show s1.heap.IsTuple a its.toArray from p) ?_
    refine ⟨s1.heap.objs.size, [s1.heap.objs.size], _, _, H1, rfl, I1.kept (t' := s1.toks) fun b o e => Heap.get?_push_of_some _ e, turn_tuple a _, ⟨_, Heap.get?_push_size _ rfl, rfl, rfl⟩, fun b hb => ?_, q⟩
    have e : b = s1.heap.objs.size := by simpa using hb
    subst e
    exact I1.fpOk (Nat.le_refl _) (I1.hok.fresh (Nat.le_refl _))
theorem walks_list {K : PySem.W.Frag} (R : SR G L O σD s σ H) {a : Addr} {vs : List V} {ds : List PyData} (ha : wo H L a = some (.lst vs)) (hv : DqAll (wo H L) vs ds) : Walks G (Itl K a) ds L O H := fun L2' O2 H2 la live2 => by
  have sm := later_wo R la
  have ha2 : H2 a = some (.lst vs) := (wo_some (sm a _ ha)).1
  have hv2 := dqAll_same sm _ _ hv
  refine ⟨fun i d hd => ?_, fun i hi => ⟨vs, .of ha2, by rw [hv.length]; exact hi⟩⟩
  obtain ⟨v, h1, h2⟩ := hv2.get hd
  refine ⟨⟨vs, v, .of ha2, h1⟩, fun x H3 hy => ?_⟩
  obtain ⟨rfl, hy⟩ := hy
  have hx := hy vs (.of ha2)
  rw [h1] at hx
  cases hx
  exact ⟨Same.refl _, h2⟩
theorem walks_tup {K : PySem.W.Frag} (R : SR G L O σD s σ H) {a : Addr} {vs : List V} {ds : List PyData} (ha : wo H L a = some (.tup vs)) (hv : DqAll (wo H L) vs ds) : Walks G (Itt K a) ds L O H := fun L2' O2 H2 la live2 => by
  have sm := later_wo R la
  have ha2 : H2 a = some (.tup vs) := (wo_some (sm a _ ha)).1
  have hv2 := dqAll_same sm _ _ hv
  refine ⟨fun i d hd => ?_, fun i hi => ⟨vs, .of ha2, by rw [hv.length]; exact hi⟩⟩
  obtain ⟨v, h1, h2⟩ := hv2.get hd
  refine ⟨⟨vs, v, .of ha2, h1⟩, fun x H3 hy => ?_⟩
  obtain ⟨rfl, hy⟩ := hy
  have hx := hy vs (.of ha2)
  rw [h1] at hx
  cases hx
  exact ⟨Same.refl _, h2⟩
def iOf {S : Type} (f : List Sl → S → Rs S W) : List Sl → S → Rs S (List PyData) := fun σ s => (f σ s).bind iSeqD
theorem is_seq {K : PySem.W.Frag} {te : TE} {f : List Sl → G.S → Rs G.S W} (h : Sm G E te f) : ISm G E (iSeq K te) (iOf f) := fun L O σD s σ H Q R hw =>
  h.thenI R hw fun x s1 v H1 st R1 wr k kst kex => by
    cases x with
    | d d =>
      cases d with
      | list ds =>
        obtain ⟨a, vs, rfl, ha, hv⟩ := dq_lst wr
        exact .inl ⟨a, rfl, ⟨vs, .of (wo_some ha).1⟩, k ds s1 rfl _ H1 Stp.refl R1.ok (walks_list R1 ha hv)⟩
      | tuple ds =>
        obtain ⟨a, vs, rfl, ha, hv⟩ := dq_tup wr
        exact .inr ⟨a, rfl, ⟨vs, .of (wo_some ha).1⟩, k ds s1 rfl _ H1 Stp.refl R1.ok (walks_tup R1 ha hv)⟩
      | _ => exact (kst rfl).elim
    | ref _ => exact (kst rfl).elim
    | dic _ => exact (kst rfl).elim
/-- argument lists ahead of a walk -/
theorem SmA.thenI {ta : TA} {f : List Sl → G.S → Rs G.S (List W)} (h : SmA G E ta f) (R : SR G L O σD s σ H) {k : List W → G.S → Rs G.S (List PyData)} {Q : It → Hp → Prop} (w : WantI G E L O H ((f σD s).bind k) Q) {Q' : List V → Hp → Prop}
    (c : ∀ x s1 v H1, Stp G H H1 → SR G L O σD s1 σ H1 → WRs (wo H1 L) x v → (∀ items s2, k x s1 = .ok items s2 → ∀ J H', Stp G H1 H' → G.ok s2 H' → Walks G J items L O H' → Q J H') → (k x s1 = .stuck → False) → (∀ c s2, k x s1 = .exc c s2 → False) → Q' v H1)
    (nx : ∀ x s1 c s2, k x s1 ≠ .exc c s2) : ta σ H Q' := by
  refine h L O σD s σ H Q' R ?_
  cases e : f σD s with
  | ok x s1 =>
    rw [e] at w
    refine fun v H1 st ok1 wr => c x s1 v H1 st (R.step st ok1) wr (fun items s2 ek J H' st' ok' hw => ?_) (fun ek => ?_) (fun cc s2 ek => nx x s1 cc s2 ek)
    · have w' : WantI G E L O H (k x s1) Q := w
      rw [ek] at w'
      exact w' J H' (st.trans st') ok' hw
    · have w' : WantI G E L O H (k x s1) Q := w
      rw [ek] at w'
      exact w'
  | exc cc s1 => rw [e] at w; exact w
  | stuck => rw [e] at w; exact w
def rgD (lo : Int) (n : Nat) : List PyData := (List.range n).map fun i => .int (lo + (i : Nat))
theorem rgD_get {lo : Int} {n i : Nat} {d : PyData} (h : (rgD lo n)[i]? = some d) : i < n ∧ d = .int (lo + (i : Nat)) := by
  unfold rgD at h
  rw [List.getElem?_map] at h
  by_cases hi : i < n
  · rw [List.getElem?_range hi] at h
    cases h
    exact ⟨hi, rfl⟩
  · rw [List.getElem?_eq_none (by rw [List.length_range]; omega)] at h
    cases h
theorem rgD_len (lo : Int) (n : Nat) : (rgD lo n).length = n := by unfold rgD; rw [List.length_map, List.length_range]
theorem walks_range {lo : Int} {n : Nat} : Walks G (Itr lo n) (rgD lo n) L O H := fun L2' O2 H2 la live2 => by
  refine ⟨fun i d hd => ?_, fun i hi => by rw [rgD_len] at hi; exact hi⟩
  obtain ⟨h1, rfl⟩ := rgD_get hd
  refine ⟨h1, fun x H3 hy => ?_⟩
  obtain ⟨rfl, rfl⟩ := hy
  exact ⟨Same.refl _, .int _⟩
def iRg1D {S : Type} (ws : List W) (s : S) : Rs S (List PyData) := match ws with
  | [.d (.int j)] => if -1000000 ≤ j ∧ j ≤ 1000000 then .ok (rgD 0 j.toNat) s else .stuck
  | _ => .stuck
def iRg2D {S : Type} (ws : List W) (s : S) : Rs S (List PyData) := match ws with
  | [.d (.int i), .d (.int j)] => if -1000000 ≤ i ∧ i ≤ 1000000 ∧ -1000000 ≤ j ∧ j ≤ 1000000 then .ok (rgD i (j - i).toNat) s else .stuck
  | _ => .stuck
theorem WRs.one_d {H : Hp} {d : PyData} {vs : List V} (h : WRs H [.d d] vs) : ∃ v, vs = [v] ∧ Dq H v d := by
  cases h with
  | cons h1 h2 => cases h2; exact ⟨_, rfl, h1⟩
theorem WRs.two_d {H : Hp} {d e : PyData} {vs : List V} (h : WRs H [.d d, .d e] vs) : ∃ v u, vs = [v, u] ∧ Dq H v d ∧ Dq H u e := by
  cases h with
  | cons h1 h2 => obtain ⟨u, rfl, h3⟩ := h2.one_d; exact ⟨_, _, rfl, h1, h3⟩
theorem iRg1D_inv {S : Type} {ws : List W} {s : S} : (iRg1D ws s = .stuck) ∨ ∃ j : Int, ws = [.d (.int j)] ∧ -1000000 ≤ j ∧ j ≤ 1000000 ∧ iRg1D ws s = .ok (rgD 0 j.toNat) s := by
  unfold iRg1D
  split
  · split
    · rename_i h; exact .inr ⟨_, rfl, h.1, h.2, rfl⟩
    · exact .inl rfl
  · exact .inl rfl
theorem iRg2D_inv {S : Type} {ws : List W} {s : S} : (iRg2D ws s = .stuck) ∨ ∃ i j : Int, ws = [.d (.int i), .d (.int j)] ∧ (-1000000 ≤ i ∧ i ≤ 1000000 ∧ -1000000 ≤ j ∧ j ≤ 1000000) ∧ iRg2D ws s = .ok (rgD i (j - i).toNat) s := by
  unfold iRg2D
  split
  · split
    · rename_i h; exact .inr ⟨_, _, rfl, h, rfl⟩
    · exact .inl rfl
  · exact .inl rfl
def iRange1 {S : Type} (f : List Sl → S → Rs S (List W)) : List Sl → S → Rs S (List PyData) := fun σ s => (f σ s).bind iRg1D
def iRange2 {S : Type} (f : List Sl → S → Rs S (List W)) : List Sl → S → Rs S (List PyData) := fun σ s => (f σ s).bind iRg2D
theorem is_range1 {ta : TA} {f : List Sl → G.S → Rs G.S (List W)} (h : SmA G E ta f) : ISm G E (iRng1 ta) (iRange1 f) := fun L O σD s σ H Q R hw =>
  h.thenI R hw (fun x s1 v H1 st R1 wr k kst _ => by
    rcases iRg1D_inv (ws := x) (s := s1) with e | ⟨j, rfl, h1, h2, e⟩
    · exact (kst e).elim
    · obtain ⟨u, rfl, hu⟩ := wr.one_d
      exact ⟨j, by rw [dq_int hu], by omega, by omega, k _ s1 e _ H1 Stp.refl R1.ok walks_range⟩) (fun x s1 c s2 e => by
    rcases iRg1D_inv (ws := x) (s := s1) with e' | ⟨j, _, _, _, e'⟩ <;> rw [e'] at e <;> cases e)
theorem is_range2 {ta : TA} {f : List Sl → G.S → Rs G.S (List W)} (h : SmA G E ta f) : ISm G E (iRng2 ta) (iRange2 f) := fun L O σD s σ H Q R hw =>
  h.thenI R hw (fun x s1 v H1 st R1 wr k kst _ => by
    rcases iRg2D_inv (ws := x) (s := s1) with e | ⟨i, j, rfl, h1, e⟩
    · exact (kst e).elim
    · obtain ⟨u, u2, rfl, hu, hu2⟩ := wr.two_d
      exact ⟨i, j, by rw [dq_int hu, dq_int hu2], by omega, k _ s1 e _ H1 Stp.refl R1.ok walks_range⟩) (fun x s1 c s2 e => by
    rcases iRg2D_inv (ws := x) (s := s1) with e' | ⟨i, j, _, _, e'⟩ <;> rw [e'] at e <;> cases e)
/-- enumerate -/
def enD (n : Nat) : List PyData → List PyData
  | [] => []
  | d :: ds => .tuple [.int (n : Nat), d] :: enD (n + 1) ds
theorem enD_len : ∀ (ds : List PyData) (n : Nat), (enD n ds).length = ds.length
  | [], _ => rfl
  | d :: ds, n => by rw [enD, List.length_cons, List.length_cons, enD_len ds]
theorem enD_get : ∀ {ds : List PyData} {n i : Nat} {e : PyData}, (enD n ds)[i]? = some e → ∃ d, ds[i]? = some d ∧ e = .tuple [.int ((n + i : Nat) : Int), d]
  | [], _, _, _, h => by simp [enD] at h
  | d :: ds, n, 0, e, h => by
    simp [enD] at h
    exact ⟨d, rfl, h.symm⟩
  | d :: ds, n, i + 1, e, h => by
    have h' : (enD (n + 1) ds)[i]? = some e := by simpa [enD] using h
    obtain ⟨x, h1, h2⟩ := enD_get h'
    refine ⟨x, by simpa using h1, ?_⟩
    rw [h2, show n + 1 + i = n + (i + 1) by omega]
theorem walks_enum {K : PySem.W.Frag} (R : SR G L O σD s σ H) {a : Addr} {vs : List V} {ds : List PyData} (ha : wo H L a = some (.lst vs)) (hv : DqAll (wo H L) vs ds) : Walks G (Ite K a) (enD 0 ds) L O H := fun L2' O2 H2 la live2 => by
  have sm := later_wo R la
  have ha2 : H2 a = some (.lst vs) := (wo_some (sm a _ ha)).1
  have hv2 := dqAll_same sm _ _ hv
  refine ⟨fun i d hd => ?_, fun i hi => ⟨vs, .of ha2, by rw [hv.length]; rw [enD_len] at hi; exact hi⟩⟩
  obtain ⟨e, he, rfl⟩ := enD_get hd
  obtain ⟨v, h1, h2⟩ := hv2.get he
  refine ⟨⟨vs, v, .of ha2, h1⟩, fun x H3 hy => ?_⟩
  obtain ⟨T, y, rfl, hT, rfl, hy⟩ := hy
  have hx := hy vs (.of ha2)
  rw [h1] at hx
  cases hx
  refine ⟨same_new hT, dq_newT (fun a h => (live2 a h).ne) hT (.cons ?_ (.cons h2 .nil))⟩
  rw [Nat.zero_add]
  exact .int _
def iEnD {S : Type} (ws : List W) (s : S) : Rs S (List PyData) := match ws with
  | [.d (.list ds)] => .ok (enD 0 ds) s
  | _ => .stuck
theorem iEnD_inv {S : Type} {ws : List W} {s : S} : (iEnD ws s = .stuck) ∨ ∃ ds, ws = [.d (.list ds)] ∧ iEnD ws s = .ok (enD 0 ds) s := by
  unfold iEnD
  split
  · exact .inr ⟨_, rfl, rfl⟩
  · exact .inl rfl
def iEnumL {S : Type} (f : List Sl → S → Rs S (List W)) : List Sl → S → Rs S (List PyData) := fun σ s => (f σ s).bind iEnD
theorem is_enum {K : PySem.W.Frag} {ta : TA} {f : List Sl → G.S → Rs G.S (List W)} (h : SmA G E ta f) : ISm G E (iEnum K ta) (iEnumL f) := fun L O σD s σ H Q R hw =>
  h.thenI R hw (fun x s1 v H1 st R1 wr k kst _ => by
    rcases iEnD_inv (ws := x) (s := s1) with e | ⟨ds, rfl, e⟩
    · exact (kst e).elim
    · obtain ⟨u, rfl, hu⟩ := wr.one_d
      obtain ⟨a, vs, rfl, ha, hv⟩ := dq_lst hu
      exact ⟨a, vs, rfl, .of (wo_some ha).1, k _ s1 e _ H1 Stp.refl R1.ok (walks_enum R1 ha hv)⟩) (fun x s1 c s2 e => by
    rcases iEnD_inv (ws := x) (s := s1) with e' | ⟨j, _, e'⟩ <;> rw [e'] at e <;> cases e)

/-! ### comprehensions -/
def cGo {S : Type} (b : PyData → List Sl → Option (List Sl)) (t : List Sl → S → Rs S Bool) (e : List Sl → S → Rs S W) (σ0 : List Sl) : List PyData → S → Rs S (List PyData)
  | [], s => .ok [] s
  | d :: r, s => match b d σ0 with
    | none => .stuck
    | some σ1 => match t σ1 s with
      | .ok true s1 => match e σ1 s1 with
        | .ok (.d x) s2 => match cGo b t e σ0 r s2 with
          | .ok xs s3 => .ok (x :: xs) s3
          | .exc _ _ => .stuck
          | .stuck => .stuck
        | _ => .stuck
      | .ok false s1 => cGo b t e σ0 r s1
      | _ => .stuck
def lstR {S : Type} (pre : List PyData) (r : Rs S (List PyData)) : Rs S W := match r with
  | .ok xs s => .ok (.d (.list (pre ++ xs))) s
  | .exc _ _ => .stuck
  | .stuck => .stuck
def eComp {S : Type} (fi : List Sl → S → Rs S (List PyData)) (vs : List Nat) (b : PyData → List Sl → Option (List Sl)) (t : List Sl → S → Rs S Bool) (e : List Sl → S → Rs S W) : List Sl → S → Rs S W := fun σ s => match fi σ s with
  | .ok items s1 => if items.length < 1000000 then lstR [] (cGo b t e (wipeD σ vs) items s1) else .stuck
  | .exc c s1 => .exc c s1
  | .stuck => .stuck
def yes {S : Type} : List Sl → S → Rs S Bool := fun _ s => .ok true s
theorem smt_yes : SmT G E tYes yes := fun L O σD s σ H Q R h => h H Stp.refl R.ok
/-- a list that was just made -/
def WantL (G : Gm) (E : XK) (L : List Addr) (H : Hp) (r : Rs G.S W) (Q : VK) : Prop := match r with
  | .ok (.d (.list ds)) s' => ∀ p vs H', Stp G H H' → H p = none → G.ok s' H' → H' p = some (.lst vs) → DqAll (wo H' (p :: L)) vs ds → Q (.ref p) H'
  | .ok _ _ => False
  | .exc c s' => ∀ H', Stp G H H' → G.ok s' H' → E (.ref (G.cl c)) none H'
  | .stuck => False
def SmL (G : Gm) (E : XK) (te : TE) (f : List Sl → G.S → Rs G.S W) : Prop := ∀ (L O : List Addr) (σD : List Sl) (s : G.S) (σ : L2.St) (H : Hp) (Q : VK), SR G L O σD s σ H → WantL G E L H (f σD s) Q → te σ H Q
def NewL {S : Type} (f : List Sl → S → Rs S W) : Prop := ∀ σ s w s', f σ s = .ok w s' → ∃ ds, w = .d (.list ds)
theorem SmL.sm {te : TE} {f : List Sl → G.S → Rs G.S W} (h : SmL G E te f) (hn : NewL f) : Sm G E te f := fun L O σD s σ H Q R hw => by
  refine h L O σD s σ H Q R ?_
  cases e : f σD s with
  | ok w s' =>
    obtain ⟨ds, rfl⟩ := hn σD s w s' e
    rw [e] at hw
    refine fun p vs H' st hp ok' h' hd => hw _ H' st ok' (.lst (wo_of h' fun z => R.live p z hp) (dqAll_same (same_wo_sub fun b o _ h1 h2 => h1 (List.mem_cons_of_mem _ h2)) _ _ hd))
  | exc c s' => rw [e] at hw; exact hw
  | stuck => rw [e] at hw; exact hw
theorem newL_comp {S : Type} {fi : List Sl → S → Rs S (List PyData)} {vs : List Nat} {b : PyData → List Sl → Option (List Sl)} {t : List Sl → S → Rs S Bool} {e : List Sl → S → Rs S W} : NewL (eComp fi vs b t e) := fun σ s w s' h => by
  unfold eComp at h
  split at h
  · split at h
    · unfold lstR at h
      split at h
      · cases h; exact ⟨_, rfl⟩
      · cases h
      · cases h
    · cases h
  · cases h
  · cases h
/-- a new list D: apart from all else -/
theorem wo_push {D : Addr} {o : HO} (hD : H D = none) : Same (wo H L) (wo (upd H D o) (D :: L)) := fun b u' e' => by
  obtain ⟨e1, e2⟩ := wo_some e'
  refine wo_of (same_new hD b u' e1) fun z => ?_
  rcases List.mem_cons.mp z with z | z
  · subst z; rw [hD] at e1; cases e1
  · exact e2 z
theorem SR.push (R : SR G L O σD s σ H) {D : Addr} {o : HO} (ho : NT (some o)) (hD : H D = none) : SR G (D :: L) O σD s σ (upd H D o) where
  l0 := fun a h => List.mem_cons_of_mem _ (R.l0 a h)
  oL := fun a h => ⟨List.mem_cons_of_mem _ (R.oL a h).1, (R.oL a h).2⟩
  nt := fun a h => by
    rcases List.mem_cons.mp h with e | h
    · subst e
      rw [upd_same]
      exact ho
    · obtain ⟨u, q, n⟩ := R.nt a h
      rw [same_new hD a u q]
      exact ⟨u, rfl, n⟩
  ok := G.ok_same R.ok (same_new hD)
  sl := fun i x e => by
    obtain ⟨u, h1, h2⟩ := R.sl i x e
    refine ⟨u, h1, ?_⟩
    have sm : Same (wo H L) (wo (upd H D o) (D :: L)) := wo_push hD
    cases x with
    | non => trivial
    | w x => obtain ⟨v, q1, q2⟩ := h2; exact ⟨v, q1, q2.same sm⟩
    | own ds => obtain ⟨a, vs, q1, q2, q3, q4⟩ := h2; exact ⟨a, vs, q1, q2, same_new hD a _ q3, dqAll_same sm _ _ q4⟩
    | odc ds => obtain ⟨a, vs, q1, q2, q3, q4⟩ := h2; exact ⟨a, vs, q1, q2, same_new hD a _ q3, q4.same sm⟩
  df := R.df
theorem Later.push {D : Addr} {o : HO} (hD : H D = none) : Later G L O H (D :: L) O (upd H D o) where
  keep := fun b u _ _ q => same_new hD b u q
  out := fun b u h q z => by
    rcases List.mem_cons.mp z with z | z
    · subst z; rw [hD] at q; cases q
    · exact h z
  fore := fun b h _ => List.mem_cons_of_mem _ h
  newO := fun b u q z => z
theorem wo_mut {D : Addr} {o : HO} (hD : D ∈ L) : Same (wo H L) (wo (upd H D o) L) := fun b u e => by
  obtain ⟨e1, e2⟩ := wo_some e
  refine wo_of ?_ e2
  rw [upd_ne (show b ≠ D from fun z => e2 (by rw [z]; exact hD))]
  exact e1
theorem ok_mut (R : SR G L O σD s σ H) {D : Addr} {o u : HO} (h0 : D ∉ G.L0) (hD : H D = some u) (hu : fixO u = false) : G.ok s (upd H D o) := by
  refine G.mono s H _ (fun a ha => upd_ne fun z => h0 (z ▸ ha)) (fun a o' ha hf q => ?_) R.ok
  rw [upd_ne fun z => ?_]
  · exact q
  · subst z
    rw [hD] at q
    cases q
    rw [hu] at hf
    cases hf
/-- the mutable object at D (of no slot) is rewritten: all else as it was -/
theorem SR.rewrite (R : SR G L O σD s σ H) {D : Addr} {o u : HO} (ho : NT (some o)) (hL : D ∈ L) (hO : D ∉ O) (h0 : D ∉ G.L0) (hD : H D = some u) (hu : fixO u = false) : SR G L O σD s σ (upd H D o) where
  l0 := R.l0
  oL := R.oL
  nt := fun a h => by
    by_cases e : a = D
    · subst e; rw [upd_same]; exact ho
    · rw [upd_ne e]; exact R.nt a h
  ok := ok_mut R h0 hD hu
  sl := fun i x e => by
    obtain ⟨u', h1, h2⟩ := R.sl i x e
    refine ⟨u', h1, ?_⟩
    have sm : Same (wo H L) (wo (upd H D o) L) := wo_mut hL
    cases x with
    | non => trivial
    | w x => obtain ⟨v, q1, q2⟩ := h2; exact ⟨v, q1, q2.same sm⟩
    | own ds => obtain ⟨a, vs, q1, q2, q3, q4⟩ := h2; exact ⟨a, vs, q1, q2, by rw [upd_ne (show a ≠ D from fun z => hO (by rw [← z]; exact q2))]; exact q3, dqAll_same sm _ _ q4⟩
    | odc ds => obtain ⟨a, vs, q1, q2, q3, q4⟩ := h2; exact ⟨a, vs, q1, q2, by rw [upd_ne (show a ≠ D from fun z => hO (by rw [← z]; exact q2))]; exact q3, q4.same sm⟩
  df := R.df
theorem smL_compAt {wi : TI} {g : TG} {tt : TT} {te : TE} {vs is : List Nat} {fi : List Sl → G.S → Rs G.S (List PyData)} {b : PyData → List Sl → Option (List Sl)} {t : List Sl → G.S → Rs G.S Bool} {e : List Sl → G.S → Rs G.S W}
    {Q : VK} (R : SR G L O σD s σ H) (hi : ∀ R' : It → Hp → Prop, WantI G E L O H (fi σD s) R' → wi σ H R') (hg : GSm g b is) (hsub : ∀ i ∈ is, i ∈ vs) (ht : SmT G E0 tt t) (he : Sm G E0 te e) (hw : WantL G E L H (eComp fi vs b t e σD s) Q) : tLc wi g tt te vs σ H Q := by
  refine hi _ ?_
  unfold eComp at hw
  cases ei : fi σD s with
  | exc c s1 => rw [ei] at hw; exact hw
  | stuck => rw [ei] at hw; exact hw
  | ok items s1 =>
    rw [ei] at hw
    dsimp only at hw
    by_cases hlen : items.length < 1000000
    case neg => rw [if_neg hlen] at hw; exact hw.elim
    rw [if_pos hlen] at hw
    intro J H1 st1 ok1 hwk D hD
    have R1 : SR G L O σD s1 σ H1 := R.step st1 ok1
    have RD : SR G (D :: L) O (wipeD σD vs) s1 (L2.wipe σ vs) (upd H1 D (.lst [])) := (R1.push .lst hD).wipe vs
    have hD0 : H D = none := by
      cases q : H D with
      | none => rfl
      | some o =>
        by_cases z : D ∈ G.L0
        · exact absurd hD (R1.live D (R1.l0 D z))
        · rw [st1 D o z q] at hD; cases hD
    have nO : D ∉ O := fun z => R1.live D (R1.oL D z).1 hD
    have n0 : D ∉ G.L0 := fun z => R1.live D (R1.l0 D z) hD
    refine ⟨fun i m H2 => i + m = items.length ∧ ∃ (s2 : G.S) (acc : List PyData) (us : List V), SR G (D :: L) O (wipeD σD vs) s2 (L2.wipe σ vs) H2 ∧ Stp G H1 H2 ∧ H2 D = some (.lst us) ∧ DqAll (wo H2 (D :: L)) us acc ∧ acc.length ≤ i ∧
        lstR [] (cGo b t e (wipeD σD vs) items s1) = lstR acc (cGo b t e (wipeD σD vs) (items.drop i) s2),
      ⟨items.length, by omega, s1, [], [], RD, Stp.of (same_new hD), upd_same, .nil, Nat.le_refl _, by rw [List.drop_zero]⟩, ?_⟩
    rintro i m H2 ⟨him, s2, acc, us, R2, st2, hD2, hus, hal, heq⟩
    have la : Later G L O H1 (D :: L) O H2 := ⟨fun b' o' h1 _ q => st2 b' o' h1 q, (Later.push (G := G) (O := O) (o := .lst []) hD).out, fun b' h1 _ => List.mem_cons_of_mem _ h1, fun _ _ _ z => z⟩
    obtain ⟨wk1, wk2⟩ := hwk (D :: L) O H2 la R2.nt
    rw [heq] at hw
    by_cases hlt : i < items.length
    case neg =>
      refine .inl ⟨wk2 i (by omega), ?_⟩
      rw [List.drop_of_length_le (by omega)] at hw
      have hw' : WantL G E L H (.ok (.d (.list (acc ++ []))) s2) Q := hw
      rw [List.append_nil] at hw'
      exact hw' D us H2 (st1.trans st2) hD0 R2.ok hD2 hus
    obtain ⟨g1, g2⟩ := wk1 i items[i] (List.getElem?_eq_getElem hlt)
    refine .inr ⟨g1, fun H' => (i + 1) + (m - 1) = items.length ∧ ∃ (s2 : G.S) (acc : List PyData) (us : List V), SR G (D :: L) O (wipeD σD vs) s2 (L2.wipe σ vs) H' ∧ Stp G H1 H' ∧ H' D = some (.lst us) ∧ DqAll (wo H' (D :: L)) us acc ∧ acc.length ≤ i + 1 ∧
        lstR [] (cGo b t e (wipeD σD vs) items s1) = lstR acc (cGo b t e (wipeD σD vs) (items.drop (i + 1)) s2), fun H' h => ⟨m - 1, by omega, h⟩, fun x H' hy => ?_⟩
    obtain ⟨sm', hx⟩ := g2 x H' hy
    have R3 := R2.grow sm'
    rw [List.drop_eq_getElem_cons hlt] at hw heq
    cases eb : b items[i] (wipeD σD vs) with
    | none => rw [cGo, eb] at hw; exact hw.elim
    | some σ1 =>
      rw [cGo, eb] at hw heq
      dsimp only at hw heq
      refine hg G (D :: L) O (wipeD σD vs) σ1 s2 (L2.wipe σ vs) H' x items[i] _ R3 hx eb fun σ' R4 hwp => ⟨by rw [hwp vs hsub, wipe_wipe], ht (D :: L) O σ1 s2 σ' H' _ R4 ?_⟩
      cases et : t σ1 s2 with
      | exc c s3 => rw [et] at hw; exact hw.elim
      | stuck => rw [et] at hw; exact hw.elim
      | ok k s3 =>
        rw [et] at hw heq
        intro H3 st3 ok3
        have st23 : Stp G H2 H3 := (Stp.of sm').trans st3
        cases k with
        | false =>
          rw [if_neg Bool.false_ne_true]
          dsimp only at hw heq
          exact ⟨by omega, s3, acc, us, R2.step st23 ok3, st2.trans st23, st23 D _ n0 hD2, dqAll_same (stp_wo R2.l0 st23) _ _ hus, by omega, heq⟩
        | true =>
          rw [if_pos rfl]
          dsimp only at hw heq
          refine he (D :: L) O σ1 s3 σ' H3 _ (R4.step st3 ok3) ?_
          cases ee : e σ1 s3 with
          | exc c s4 => rw [ee] at hw; exact hw.elim
          | stuck => rw [ee] at hw; exact hw.elim
          | ok w s4 =>
            rw [ee] at hw heq
            cases w with
            | ref _ => exact hw.elim
            | dic _ => exact hw.elim
            | d y' =>
              intro y H4 st4 ok4 wr
              have st24 : Stp G H2 H4 := st23.trans st4
              have hD4 : H4 D = some (.lst us) := st24 D _ n0 hD2
              have R5 : SR G (D :: L) O (wipeD σD vs) s4 (L2.wipe σ vs) H4 := R2.step st24 ok4
              have sm5 : Same (wo H4 (D :: L)) (wo (upd H4 D (.lst (us ++ [y]))) (D :: L)) := wo_mut List.mem_cons_self
              refine ⟨us, hD4, szl ?_, by omega, s4, acc ++ [y'], us ++ [y], R5.rewrite .lst List.mem_cons_self nO n0 hD4 rfl, fun b' o' h1 q => ?_, upd_same, (dqAll_same sm5 _ _ (dqAll_same (stp_wo R2.l0 st24) _ _ hus)).append (.cons (WR.same sm5 wr) .nil), by rw [List.length_append]; simp; exact hal, ?_⟩
              · have := hus.length
                omega
              · rw [upd_ne (show b' ≠ D from fun z => by rw [z] at q; rw [hD] at q; cases q)]
                exact st2.trans st24 b' o' h1 q
              · rw [heq]
                dsimp only
                cases ec : cGo b t e (wipeD σD vs) (items.drop (i + 1)) s4 with
                | ok xs s5 => dsimp only [lstR]; rw [List.append_assoc]; rfl
                | exc c s5 => rfl
                | stuck => rfl
theorem smL_comp {wi : TI} {g : TG} {tt : TT} {te : TE} {vs is : List Nat} {fi : List Sl → G.S → Rs G.S (List PyData)} {b : PyData → List Sl → Option (List Sl)} {t : List Sl → G.S → Rs G.S Bool} {e : List Sl → G.S → Rs G.S W}
    (hi : ISm G E wi fi) (hg : GSm g b is) (hsub : ∀ i ∈ is, i ∈ vs) (ht : SmT G E0 tt t) (he : Sm G E0 te e) : SmL G E (tLc wi g tt te vs) (eComp fi vs b t e) := fun L O σD s σ H Q R hw => smL_compAt R (fun R' => hi L O σD s σ H R' R) hg hsub ht he hw
theorem sm_comp {wi : TI} {g : TG} {tt : TT} {te : TE} {vs is : List Nat} {fi : List Sl → G.S → Rs G.S (List PyData)} {b : PyData → List Sl → Option (List Sl)} {t : List Sl → G.S → Rs G.S Bool} {e : List Sl → G.S → Rs G.S W}
    (hi : ISm G E wi fi) (hg : GSm g b is) (hsub : ∀ i ∈ is, i ∈ vs) (ht : SmT G E0 tt t) (he : Sm G E0 te e) : Sm G E (tLc wi g tt te vs) (eComp fi vs b t e) := (smL_comp hi hg hsub ht he).sm newL_comp

/-! ### statements -/
inductive Fl (S : Type) where
  | nx (σ : List Sl) (s : S)
  | rt (w : W) (s : S)
  | rl (ds : List PyData) (s : S)
  | exc (c : Nat) (s : S)
  | stuck
def WantS (G : Gm) (E : XK) (L O : List Addr) (H : Hp) (D : Ends) (r : Fl G.S) : Prop := match r with
  | .nx σD' s' => ∀ L' O' σ' H', Later G L O H L' O' H' → SR G L' O' σD' s' σ' H' → D.nx σ' H'
  | .rt w s' => ∀ L' O' v H', Later G L O H L' O' H' → G.ok s' H' → WR (wo H' L') w v → D.rt v H'
  | .rl ds s' => ∀ L' O' a vs H', Later G L O H L' O' H' → G.ok s' H' → a ∈ O' → (∀ b ∈ O', b ∈ L') → H' a = some (.lst vs) → DqAll (wo H' L') vs ds → D.rt (.ref a) H'
  | .exc c s' => ∀ L' O' H', Later G L O H L' O' H' → G.ok s' H' → E (.ref (G.cl c)) none H'
  | .stuck => False
def SSm (G : Gm) (E : XK) (ts : TS) (g : List Sl → G.S → Fl G.S) : Prop := ∀ (L O : List Addr) (σD : List Sl) (s : G.S) (σ : L2.St) (H : Hp) (D : Ends), SR G L O σD s σ H → WantS G E L O H D (g σD s) → ts D σ H
theorem WantS.later (R : SR G L O σD s σ H) {σD' : List Sl} {s' : G.S} {σ' : L2.St} (R1 : SR G L1 O1 σD' s' σ' H1) (a : Later G L O H L1 O1 H1) {D : Ends} {r : Fl G.S} (h : WantS G E L O H D r) : WantS G E L1 O1 H1 D r := by
  cases r with
  | nx x y => exact fun L' O' σ' H' b R' => h L' O' σ' H' (R.trans R1 a b) R'
  | rt w y => exact fun L' O' v H' b k q => h L' O' v H' (R.trans R1 a b) k q
  | rl ds y => exact fun L' O' p vs H' b k q1 q2 q3 q4 => h L' O' p vs H' (R.trans R1 a b) k q1 q2 q3 q4
  | exc c y => exact fun L' O' H' b k => h L' O' H' (R.trans R1 a b) k
  | stuck => exact h
/-- the ends change in what follows alone -/
theorem WantS.nx_mono {D : Ends} {r : Fl G.S} {nx bk ct : L2.St → Hp → Prop} (h : WantS G E L O H D r) (hn : ∀ σD' s', r = .nx σD' s' → ∀ L' O' σ' H', Later G L O H L' O' H' → SR G L' O' σD' s' σ' H' → nx σ' H') : WantS G E L O H { D with nx := nx, bk := bk, ct := ct } r := by
  cases r with
  | nx x y => exact fun L' O' σ' H' b R' => hn x y rfl L' O' σ' H' b R'
  | rt w y => exact h
  | rl ds y => exact h
  | exc c y => exact h
  | stuck => exact h
def sNext {S : Type} : List Sl → S → Fl S := fun σ s => .nx σ s
theorem ss_next : SSm G E tNext sNext := fun L O σD s σ H D R h => h L O σ H Later.refl R
def sSeq {S : Type} (f g : List Sl → S → Fl S) : List Sl → S → Fl S := fun σ s => match f σ s with
  | .nx σ' s' => g σ' s'
  | .rt w s' => .rt w s'
  | .rl ds s' => .rl ds s'
  | .exc c s' => .exc c s'
  | .stuck => .stuck
theorem ss_seq {t u : TS} {f g : List Sl → G.S → Fl G.S} (h1 : SSm G E t f) (h2 : SSm G E u g) : SSm G E (tSeq t u) (sSeq f g) := fun L O σD s σ H D R h => by
  refine h1 L O σD s σ H _ R ?_
  unfold sSeq at h
  cases e : f σD s with
  | nx σD' s' => rw [e] at h; exact fun L' O' σ' H' a R' => h2 L' O' σD' s' σ' H' D R' (WantS.later R R' a h)
  | rt w s' => rw [e] at h; exact h
  | rl ds s' => rw [e] at h; exact h
  | exc c s' => rw [e] at h; exact h
  | stuck => rw [e] at h; exact h
def sE {S : Type} (f : List Sl → S → Rs S W) (k : List Sl → W → S → Fl S) : List Sl → S → Fl S := fun σ s => match f σ s with
  | .ok x s1 => k σ x s1
  | .exc c s1 => .exc c s1
  | .stuck => .stuck
/-- from an expression to a statement's end -/
theorem Sm.thenS {te : TE} {f : List Sl → G.S → Rs G.S W} (h : Sm G E te f) (R : SR G L O σD s σ H) {k : List Sl → W → G.S → Fl G.S} {D : Ends}
    (w : WantS G E L O H D (sE f k σD s)) {Q' : VK}
    (c : ∀ x s1 v H1, Stp G H H1 → SR G L O σD s1 σ H1 → WR (wo H1 L) x v → WantS G E L O H1 D (k σD x s1) → Q' v H1) : te σ H Q' := by
  refine h L O σD s σ H Q' R ?_
  unfold sE at w
  cases e : f σD s with
  | ok x s1 =>
    rw [e] at w
    exact fun v H1 st ok1 wr => c x s1 v H1 st (R.step st ok1) wr (WantS.later R (R.step st ok1) (Later.of_stp st) w)
  | exc cc s1 => rw [e] at w; exact fun H1 st ok1 => w L O H1 (Later.of_stp st) ok1
  | stuck => rw [e] at w; exact w
def sT {S : Type} (f : List Sl → S → Rs S Bool) (k : List Sl → Bool → S → Fl S) : List Sl → S → Fl S := fun σ s => match f σ s with
  | .ok x s1 => k σ x s1
  | .exc c s1 => .exc c s1
  | .stuck => .stuck
theorem SmT.thenS {te : TT} {f : List Sl → G.S → Rs G.S Bool} (h : SmT G E te f) (R : SR G L O σD s σ H) {k : List Sl → Bool → G.S → Fl G.S} {D : Ends}
    (w : WantS G E L O H D (sT f k σD s)) {Q' : Bool → Hp → Prop}
    (c : ∀ x s1 H1, Stp G H H1 → SR G L O σD s1 σ H1 → WantS G E L O H1 D (k σD x s1) → Q' x H1) : te σ H Q' := by
  refine h L O σD s σ H Q' R ?_
  unfold sT at w
  cases e : f σD s with
  | ok x s1 =>
    rw [e] at w
    exact fun H1 st ok1 => c x s1 H1 st (R.step st ok1) (WantS.later R (R.step st ok1) (Later.of_stp st) w)
  | exc cc s1 => rw [e] at w; exact fun H1 st ok1 => w L O H1 (Later.of_stp st) ok1
  | stuck => rw [e] at w; exact w
/-- name = e -/
def sAsg {S : Type} (i : Nat) (f : List Sl → S → Rs S W) : List Sl → S → Fl S := sE f fun σ w s => .nx (σ.set i (.w w)) s
theorem ss_asg {te : TE} {i : Nat} {f : List Sl → G.S → Rs G.S W} (h : Sm G E te f) : SSm G E (tAsg te (gName i)) (sAsg i f) := fun L O σD s σ H D R hw =>
  h.thenS (k := fun σ w s => .nx (σ.set i (.w w)) s) R hw fun x s1 v H1 st R1 wr k => k L O _ H1 Later.refl (R1.set i wr)
/-- a, b = e -/
def sAsgT {S : Type} (is : List Nat) (f : List Sl → S → Rs S W) : List Sl → S → Fl S := sE f fun σ w s => match w with
  | .d d => match bTup is d σ with
    | some σ' => .nx σ' s
    | none => .stuck
  | _ => .stuck
theorem ss_asgG {te : TE} {g : TG} {is : List Nat} {b : PyData → List Sl → Option (List Sl)} {f : List Sl → G.S → Rs G.S W} (hg : GSm g b is) (h : Sm G E te f) : SSm G E (tAsg te g) (sE f fun σ w s => match w with
  | .d d => match b d σ with
    | some σ' => .nx σ' s
    | none => .stuck
  | _ => .stuck) := fun L O σD s σ H D R hw =>
  h.thenS (k := fun σ w s => match w with
    | .d d => match b d σ with
      | some σ' => .nx σ' s
      | none => .stuck
    | _ => .stuck) R hw fun x s1 v H1 st R1 wr k => by
    cases x with
    | d d =>
      cases eb : b d σD with
      | none => dsimp only at k; rw [eb] at k; exact k.elim
      | some σD' =>
        dsimp only at k
        rw [eb] at k
        exact hg G L O σD σD' s1 σ H1 v d _ R1 wr eb fun σ' R' _ => k L O σ' H1 Later.refl R'
    | ref _ => exact k.elim
    | dic _ => exact k.elim
theorem ss_asgT {te : TE} {K : PySem.W.Frag} {n : Nat} (is : List Nat) (hn : is.length = n) {f : List Sl → G.S → Rs G.S W} (h : Sm G E te f) : SSm G E (tAsg te (gTup K n (gNames is))) (sAsgT is f) := ss_asgG (gs_tup is hn) h
/-- a, b = x, y -/
def sPar {S : Type} (i j : Nat) (f : List Sl → S → Rs S (List W)) : List Sl → S → Fl S := fun σ s => match f σ s with
  | .ok [x, y] s1 => .nx ((σ.set i (.w x)).set j (.w y)) s1
  | .ok _ _ => .stuck
  | .exc c s1 => .exc c s1
  | .stuck => .stuck
theorem ss_par {i j : Nat} {ta : TA} {f : List Sl → G.S → Rs G.S (List W)} (h : SmA G E ta f) : SSm G E (tPar i j ta) (sPar i j f) := fun L O σD s σ H D R hw => by
  refine h L O σD s σ H _ R ?_
  unfold sPar at hw
  cases e : f σD s with
  | exc c s1 => rw [e] at hw; exact fun H1 st ok1 => hw L O H1 (Later.of_stp st) ok1
  | stuck => rw [e] at hw; exact hw
  | ok ws s1 =>
    rw [e] at hw
    intro vs H1 st ok1 wr
    have R1 := R.step st ok1
    match ws, wr, hw with
    | [x, y], .cons h1 (.cons h2 .nil), hw => exact ⟨_, _, rfl, hw L O _ H1 (Later.of_stp st) ((R1.set i h1).set j h2)⟩
    | [], _, hw => exact hw.elim
    | [_], _, hw => exact hw.elim
    | _ :: _ :: _ :: _, _, hw => exact hw.elim
/-- name += e (ints) -/
def sAug {S : Type} (i : Nat) (g : Int → Int → Int) (f : List Sl → S → Rs S W) : List Sl → S → Fl S := fun σ s => match σ[i]? with
  | some (.w (.d (.int a))) => match f σ s with
    | .ok (.d (.int b)) s1 => .nx (σ.set i (.w (.d (.int (g a b))))) s1
    | .exc c s1 => .exc c s1
    | _ => .stuck
  | _ => .stuck
theorem ss_aug {i : Nat} {g : Int → Int → Int} {te : TE} {f : List Sl → G.S → Rs G.S W} (h : Sm G E te f) : SSm G E (tAug i te (ipI g)) (sAug i g f) := fun L O σD s σ H D R hw => by
  unfold sAug at hw
  split at hw
  · rename_i a ha
    obtain ⟨o, h1, v, h2, h3⟩ := R.sl i _ ha
    subst h2
    have hv : v = .int a := dq_int h3
    subst hv
    refine ⟨.int a, h1, h L O σD s σ H _ R ?_⟩
    cases e : f σD s with
    | exc c s1 => rw [e] at hw; exact fun H1 st ok1 => hw L O H1 (Later.of_stp st) ok1
    | stuck => rw [e] at hw; exact hw
    | ok w s1 =>
      rw [e] at hw
      intro y H1 st ok1 wr
      cases w with
      | ref _ => exact hw.elim
      | dic _ => exact hw.elim
      | d d =>
        cases d with
        | int b => exact ⟨a, b, rfl, dq_int wr, hw L O _ H1 (Later.of_stp st) ((R.step st ok1).set i (w := .d (.int (g a b))) (.int _))⟩
        | _ => exact hw.elim
  · exact hw.elim
/-- an expression's value dropped -/
def sDrop {S : Type} (f : List Sl → S → Rs S W) : List Sl → S → Fl S := sE f fun σ _ s => .nx σ s
theorem ss_drop {te : TE} {f : List Sl → G.S → Rs G.S W} (h : Sm G E te f) : SSm G E (tDrop te) (sDrop f) := fun L O σD s σ H D R hw =>
  h.thenS (k := fun σ _ s => .nx σ s) R hw fun x s1 v H1 st R1 wr k => k L O _ H1 Later.refl R1
def sRet {S : Type} (f : List Sl → S → Rs S W) : List Sl → S → Fl S := sE f fun _ w s => .rt w s
theorem ss_ret {te : TE} {f : List Sl → G.S → Rs G.S W} (h : Sm G E te f) : SSm G E (tRet te) (sRet f) := fun L O σD s σ H D R hw =>
  h.thenS (k := fun _ w s => .rt w s) R hw fun x s1 v H1 st R1 wr k => k L O v H1 Later.refl R1.ok wr
def sIf {S : Type} (t : List Sl → S → Rs S Bool) (f g : List Sl → S → Fl S) : List Sl → S → Fl S := sT t fun σ b s => if b = true then f σ s else g σ s
theorem ss_if {tt : TT} {u v : TS} {t : List Sl → G.S → Rs G.S Bool} {f g : List Sl → G.S → Fl G.S} (h : SmT G E tt t) (h1 : SSm G E u f) (h2 : SSm G E v g) : SSm G E (tIfS tt u v) (sIf t f g) := fun L O σD s σ H D R hw =>
  h.thenS (k := fun σ b s => if b = true then f σ s else g σ s) R hw fun b s1 H1 st R1 k => by
    cases b with
    | true => exact h1 L O σD s1 σ H1 D R1 k
    | false => exact h2 L O σD s1 σ H1 D R1 k
/-- raise -/
def sRaise {S : Type} (c : Nat) : List Sl → S → Fl S := fun _ s => .exc c s
/-- what is never reached -/
def sStuck {S : Type} : List Sl → S → Fl S := fun _ _ => .stuck
theorem ss_never : SSm G E tNever sStuck := fun L O σD s σ H D R h => h
/-! ### loops -/
def fGo {S : Type} (b : PyData → List Sl → Option (List Sl)) (f : List Sl → S → Fl S) : List PyData → List Sl → S → Fl S
  | [], σ, s => .nx σ s
  | d :: r, σ, s => match b d σ with
    | none => .stuck
    | some σ1 => match f σ1 s with
      | .nx σ' s' => fGo b f r σ' s'
      | .rt w s' => .rt w s'
      | .rl ds s' => .rl ds s'
      | .exc c s' => .exc c s'
      | .stuck => .stuck
def sFor {S : Type} (fi : List Sl → S → Rs S (List PyData)) (b : PyData → List Sl → Option (List Sl)) (f : List Sl → S → Fl S) : List Sl → S → Fl S := fun σ s => match fi σ s with
  | .ok items s1 => fGo b f items σ s1
  | .exc c s1 => .exc c s1
  | .stuck => .stuck
theorem ss_for {wi : TI} {g : TG} {tb : TS} {is : List Nat} {fi : List Sl → G.S → Rs G.S (List PyData)} {b : PyData → List Sl → Option (List Sl)} {f : List Sl → G.S → Fl G.S} (hi : ISm G E wi fi) (hg : GSm g b is) (hb : SSm G E tb f) : SSm G E (tFor wi g tb) (sFor fi b f) := fun L O σD s σ H D R hw => by
  refine hi L O σD s σ H _ R ?_
  unfold sFor at hw
  cases ei : fi σD s with
  | exc c s1 => rw [ei] at hw; exact fun H1 st ok1 => hw L O H1 (Later.of_stp st) ok1
  | stuck => rw [ei] at hw; exact hw
  | ok items s1 =>
    rw [ei] at hw
    dsimp only at hw
    intro J H1 st1 ok1 hwk
    have R1 : SR G L O σD s1 σ H1 := R.step st1 ok1
    refine ⟨fun i m σ2 H2 => i + m = items.length ∧ ∃ (L2' O2 : List Addr) (σD2 : List Sl) (s2 : G.S), SR G L2' O2 σD2 s2 σ2 H2 ∧ Later G L O H1 L2' O2 H2 ∧ WantS G E L2' O2 H2 D (fGo b f (items.drop i) σD2 s2),
      ⟨items.length, by omega, L, O, σD, s1, R1, Later.refl, by rw [List.drop_zero]; exact WantS.later R R1 (Later.of_stp st1) hw⟩, ?_⟩
    rintro i m σ2 H2 ⟨him, L2', O2, σD2, s2, R2, la, hw2⟩
    obtain ⟨wk1, wk2⟩ := hwk L2' O2 H2 la R2.nt
    by_cases hlt : i < items.length
    case neg =>
      refine .inl ⟨wk2 i (by omega), ?_⟩
      rw [List.drop_of_length_le (by omega)] at hw2
      exact hw2 L2' O2 σ2 H2 Later.refl R2
    obtain ⟨g1, g2⟩ := wk1 i items[i] (List.getElem?_eq_getElem hlt)
    refine .inr ⟨g1, fun σ' H' => (i + 1) + (m - 1) = items.length ∧ ∃ (L2' O2 : List Addr) (σD2 : List Sl) (s2 : G.S), SR G L2' O2 σD2 s2 σ' H' ∧ Later G L O H1 L2' O2 H' ∧ WantS G E L2' O2 H' D (fGo b f (items.drop (i + 1)) σD2 s2), fun σ' H' h => ⟨m - 1, by omega, h⟩, fun x H' hy => ?_⟩
    obtain ⟨sm', hx⟩ := g2 x H' hy
    have R3 := R2.grow sm'
    have la3 : Later G L2' O2 H2 L2' O2 H' := Later.of_stp (Stp.of sm')
    have hw3 := WantS.later R2 R3 la3 hw2
    rw [List.drop_eq_getElem_cons hlt, fGo] at hw3
    cases eb : b items[i] σD2 with
    | none => rw [eb] at hw3; exact hw3.elim
    | some σD3 =>
      rw [eb] at hw3
      dsimp only at hw3
      refine hg G L2' O2 σD2 σD3 s2 σ2 H' x items[i] _ R3 hx eb fun σ' R4 _ => hb L2' O2 σD3 s2 σ' H' _ R4 ?_
      cases ef : f σD3 s2 with
      | nx σD4 s4 =>
        rw [ef] at hw3
        exact fun L4 O4 σ4 H4 la4 R5 => ⟨by omega, L4, O4, σD4, s4, R5, R1.trans R2 la (R2.trans R4 la3 la4), WantS.later R4 R5 la4 hw3⟩
      | rt w s4 => rw [ef] at hw3; exact hw3
      | rl ds s4 => rw [ef] at hw3; exact hw3
      | exc c s4 => rw [ef] at hw3; exact hw3
      | stuck => rw [ef] at hw3; exact hw3
def wGo {S : Type} (t : List Sl → S → Rs S Bool) (f : List Sl → S → Fl S) : Nat → List Sl → S → Fl S
  | 0 => fun _ _ => .stuck
  | n + 1 => sT t fun σ b s => if b = true then sSeq f (wGo t f n) σ s else .nx σ s
/-- a while, by fuel told of the state ahead of it -/
def sWhile {S : Type} (n : List Sl → S → Nat) (t : List Sl → S → Rs S Bool) (f : List Sl → S → Fl S) : List Sl → S → Fl S := fun σ s => wGo t f (n σ s) σ s
theorem ss_while {tt : TT} {tb : TS} (n : List Sl → G.S → Nat) {t : List Sl → G.S → Rs G.S Bool} {f : List Sl → G.S → Fl G.S} (ht : SmT G E tt t) (hb : SSm G E tb f) : SSm G E (tWhile tt tb) (sWhile n t f) := fun L O σD s σ H D R hw => by
  unfold sWhile at hw
  refine ⟨fun m σ2 H2 => ∃ (L2' O2 : List Addr) (σD2 : List Sl) (s2 : G.S), SR G L2' O2 σD2 s2 σ2 H2 ∧ WantS G E L2' O2 H2 D (wGo t f m σD2 s2), ⟨n σD s, L, O, σD, s, R, hw⟩, ?_⟩
  rintro m σ2 H2 ⟨L2', O2, σD2, s2, R2, hw2⟩
  cases m with
  | zero => exact hw2.elim
  | succ m =>
    refine ht.thenS R2 (k := fun σ b s => if b = true then sSeq f (wGo t f m) σ s else .nx σ s) hw2 fun k s3 H3 st R3 hk => ?_
    cases k with
    | false =>
      rw [if_neg Bool.false_ne_true]
      rw [if_neg Bool.false_ne_true] at hk
      exact hk L2' O2 σ2 H3 Later.refl R3
    | true =>
      rw [if_pos rfl]
      rw [if_pos rfl] at hk
      unfold sSeq at hk
      refine ⟨fun σ' H' => ∃ (L2' O2 : List Addr) (σD2 : List Sl) (s2 : G.S), SR G L2' O2 σD2 s2 σ' H' ∧ WantS G E L2' O2 H' D (wGo t f m σD2 s2), fun σ' H' h => ⟨m, Nat.lt_succ_self m, h⟩, hb L2' O2 σD2 s3 σ2 H3 _ R3 ?_⟩
      cases ef : f σD2 s3 with
      | nx σD4 s4 =>
        rw [ef] at hk
        exact fun L4 O4 σ4 H4 la4 R5 => ⟨L4, O4, σD4, s4, R5, WantS.later R3 R5 la4 hk⟩
      | rt w s4 => rw [ef] at hk; exact hk
      | rl ds s4 => rw [ef] at hk; exact hk
      | exc c s4 => rw [ef] at hk; exact hk
      | stuck => rw [ef] at hk; exact hk
/-! ### a def -/
def slots (N : Nat) (ws : List W) : List Sl := ws.map Sl.w ++ List.replicate (N - ws.length) .non
/-- what a body makes of its arguments -/
def mDef {S : Type} (N : Nat) (f : List Sl → S → Fl S) : List W → S → Rs S W := fun ws s => match f (slots N ws) s with
  | .nx _ s' => .ok (.d .none) s'
  | .rt w s' => .ok w s'
  | .rl ds s' => .ok (.d (.list ds)) s'
  | .exc c s' => .exc c s'
  | .stuck => .stuck
theorem sr_start {N : List Str} {ws : List W} {vs : List V} (l0 : ∀ a ∈ G.L0, a ∈ L) (nt : ∀ a ∈ L, NT (H a)) (ok : G.ok s H) (wr : WRs (wo H L) ws vs) : SR G L [] (slots N.length ws) s (L2.start N vs) H where
  l0 := l0
  oL := fun a h => nomatch h
  nt := nt
  ok := ok
  sl := fun i x e => by
    unfold slots at e
    unfold L2.start
    have hl := wr.length
    by_cases hi : i < ws.length
    · rw [List.getElem?_append_left (by rw [List.length_map]; exact hi), List.getElem?_map] at e
      have : ∀ {ws : List W} {vs : List V} {i : Nat} {w : W}, WRs (wo H L) ws vs → ws[i]? = some w → ∃ v, vs[i]? = some v ∧ WR (wo H L) w v := by
        intro ws vs i w h
        induction h generalizing i with
        | nil => intro e; simp at e
        | cons h1 h2 ih =>
          intro e
          cases i with
          | zero => cases e; exact ⟨_, rfl, h1⟩
          | succ i => exact ih (i := i) (by simpa using e)
      cases ew : ws[i]? with
      | none => rw [ew] at e; cases e
      | some w =>
        rw [ew] at e
        cases e
        obtain ⟨v, h1, h2⟩ := this wr ew
        refine ⟨some v, ?_, v, rfl, h2⟩
        rw [List.getElem?_append_left (by rw [List.length_map, ← hl]; exact hi), List.getElem?_map, h1]
        rfl
    · rw [List.getElem?_append_right (by rw [List.length_map]; omega), List.length_map] at e
      rw [List.getElem?_append_right (by rw [List.length_map, ← hl]; omega), List.length_map]
      have h1 : i - ws.length < N.length - ws.length := by
        have := (List.getElem?_eq_some_iff.mp e).1
        rwa [List.length_replicate] at this
      rw [List.getElem?_replicate, if_pos h1] at e
      cases e
      exact ⟨none, by rw [List.getElem?_replicate, ← hl, if_pos h1], trivial⟩
  df := fun i j x y a e1 e2 o1 _ _ _ => by
    unfold slots at e1
    by_cases hi : i < ws.length
    · rw [List.getElem?_append_left (by rw [List.length_map]; exact hi), List.getElem?_map] at e1
      cases ew : ws[i]? with
      | none => rw [ew] at e1; cases e1
      | some w => rw [ew] at e1; cases e1; cases o1
    · rw [List.getElem?_append_right (by rw [List.length_map]; omega), List.getElem?_replicate] at e1
      split at e1
      · cases e1; cases o1
      · cases e1
/-- the body's reading, run from a def's promise -/
theorem def_reads {N : List Str} {n : Nat} {ts : TS} {f : List Sl → G.S → Fl G.S} (h : SSm G E ts f) {vs : List V} {Q : VK} (hs : spF G (mDef N.length f) n vs H Q E) : ts { nx := fun _ H' => Q .non H', rt := Q } (L2.start N vs) H := by
  obtain ⟨_, L, ws, s, l0, live, ok, wr, hw⟩ := hs
  have R : SR G L [] (slots N.length ws) s (L2.start N vs) H := sr_start l0 live ok wr
  refine h L [] _ s _ H _ R ?_
  unfold mDef at hw
  have stp : ∀ {L' O' : List Addr} {H' : Hp}, Later G L [] H L' O' H' → Stp G H H' := fun la b o h1 q => la.keep b o h1 (fun z => nomatch z) q
  cases e : f (slots N.length ws) s with
  | nx σD' s' =>
    rw [e] at hw
    exact fun L' O' σ' H' la R' => hw .non H' (stp la) R'.ok .non
  | rt w s' =>
    rw [e] at hw
    exact fun L' O' v H' la ok' wr' => hw v H' (stp la) ok' (wr'.same (same_wo_sub fun b o _ h1 h2 => h1 (la.fore b h2 fun z => nomatch z)))
  | rl ds s' =>
    rw [e] at hw
    intro L' O' a us H' la ok' ha hO h1 h2
    have na : a ∉ L := fun z => by
      cases q : H a with
      | none => exact (live a z).ne q
      | some o => exact nomatch la.newO a o q ha
    exact hw _ H' (stp la) ok' (.lst (wo_of h1 na) (dqAll_same (same_wo_sub fun b o _ g1 g2 => g1 (la.fore b g2 fun z => nomatch z)) _ _ h2))
  | exc c s' =>
    rw [e] at hw
    exact fun L' O' H' la ok' => hw H' (stp la) ok'
  | stuck => rw [e] at hw; exact hw
/-! ### a def that hands back a list of its own making -/
def spL (G : Gm) (m : List W → G.S → Rs G.S W) (n : Nat) : Sp := fun vs H Q E => vs.length = n ∧ ∃ (L : List Addr) (ws : List W) (s : G.S), (∀ a ∈ G.L0, a ∈ L) ∧ (∀ a ∈ L, NT (H a)) ∧ G.ok s H ∧ WRs (wo H L) ws vs ∧ WantL G E L H (m ws s) Q
/-- a body that hands back none but own lists -/
def mDefL {S : Type} (N : Nat) (f : List Sl → S → Fl S) : List W → S → Rs S W := fun ws s => match f (slots N ws) s with
  | .rl ds s' => .ok (.d (.list ds)) s'
  | .exc c s' => .exc c s'
  | _ => .stuck
theorem def_readsL {N : List Str} {n : Nat} {ts : TS} {f : List Sl → G.S → Fl G.S} (h : SSm G E ts f) {vs : List V} {Q : VK} (hs : spL G (mDefL N.length f) n vs H Q E) : ts { nx := fun _ H' => Q .non H', rt := Q } (L2.start N vs) H := by
  obtain ⟨_, L, ws, s, l0, live, ok, wr, hw⟩ := hs
  have R : SR G L [] (slots N.length ws) s (L2.start N vs) H := sr_start l0 live ok wr
  refine h L [] _ s _ H _ R ?_
  unfold mDefL at hw
  have stp : ∀ {L' O' : List Addr} {H' : Hp}, Later G L [] H L' O' H' → Stp G H H' := fun la b o h1 q => la.keep b o h1 (fun z => nomatch z) q
  cases e : f (slots N.length ws) s with
  | nx σD' s' => rw [e] at hw; exact hw.elim
  | rt w s' => rw [e] at hw; exact hw.elim
  | rl ds s' =>
    rw [e] at hw
    intro L' O' a us H' la ok' ha hO h1 h2
    have na : H a = none := by
      cases q : H a with
      | none => rfl
      | some o => exact nomatch la.newO a o q ha
    refine hw a us H' (stp la) na ok' h1 (dqAll_same (same_wo_sub fun b o _ g1 g2 => ?_) _ _ h2)
    rcases List.mem_cons.mp g2 with z | z
    · exact g1 (by rw [z]; exact hO a ha)
    · exact g1 (la.fore b z fun z => nomatch z)
  | exc c s' =>
    rw [e] at hw
    exact fun L' O' H' la ok' => hw H' (stp la) ok'
  | stuck => rw [e] at hw; exact hw
end
end CS
/-! Core4: raise, lists of ranges, dicts -/
namespace CS
open PySem PySem.Spec PyProof.Rows L2
theorem room65 {k : Nat} {A : Around} (hr : Room k A) : A.units + 65 < cLine := by have := hr.un; omega
/-! ### the rules with the written part named -/
section
variable {X : Cx} {K : PySem.W.Frag}
theorem op_addK (K : PySem.W.Frag) (h : X.K = K) : OpR X (binaryOp .Add) (rAddU K) := by subst h; exact op_addU
theorem op_mulK (K : PySem.W.Frag) (h : X.K = K) : OpR X (binaryOp .Mult) (rMulU K) := by subst h; exact op_mulU
theorem op_eqK (K : PySem.W.Frag) (h : X.K = K) (hu : X.A.units + 64 < cLine) : OpR X (compareOp .Eq) (rEqD K) := by subst h; exact op_eqD hu
theorem op_neK (K : PySem.W.Frag) (h : X.K = K) (hu : X.A.units + 64 < cLine) : OpR X (compareOp .NotEq) (rNeD K) := by subst h; exact op_neD hu
theorem op_leK (K : PySem.W.Frag) (h : X.K = K) (hu : X.A.units < cLine) : OpR X (compareOp .LtE) (rLeU K) := by subst h; exact op_leU hu
theorem op_inK (K : PySem.W.Frag) (h : X.K = K) (hu : X.A.units + 65 < cLine) : OpR X (compareOp .In) (rInU K) := by subst h; exact op_inU hu
theorem op_notInK (K : PySem.W.Frag) (h : X.K = K) (hu : X.A.units + 65 < cLine) : OpR X (compareOp .NotIn) (rNotInU K) := by subst h; exact op_notInU hu
theorem ix_K (K : PySem.W.Frag) (h : X.K = K) : IxR X (rIx K) := by subst h; exact ix_seq
theorem sl_K (K : PySem.W.Frag) (h : X.K = K) : L2.SlR X (rSlU K) := by subst h; exact sl_U
theorem call_lenK (K : PySem.W.Frag) (h : X.K = K) : CallR X (.builtin "len") (rLenU K) := by subst h; exact call_lenU
theorem call_allK (K : PySem.W.Frag) (h : X.K = K) (hc : X.calm = true) : CallR X (.builtin "all") (rAll K) := by subst h; exact cr_all hc
theorem call_sumK (K : PySem.W.Frag) (h : X.K = K) (hc : X.calm = true) : CallR X (.builtin "sum") (rSum K) := by subst h; exact cr_sum hc
theorem call_tupleK (K : PySem.W.Frag) (h : X.K = K) : CallR X (.type "tuple") (rTupleU K) := by subst h; exact call_tuple_of
theorem call_listK (K : PySem.W.Frag) (h : X.K = K) : CallR X (.type "list") (rListU K) := by subst h; exact call_list_of
theorem call_isK (K : PySem.W.Frag) (h : X.K = K) : CallR X (.builtin "isinstance") (rIsi K) := by subst h; exact call_isi
theorem pi_seqK {tg l : Expr} {tl : TE} (K : PySem.W.Frag) (h : X.K = K) (hl : PE X l tl) : PI X tg l (iSeq K tl) := by subst h; exact pi_seq hl
theorem pi_enumK {e : Expr} {ta : TA} {p pos tpos : Pos} {elts : List Expr} {kk : Nat} (K : PySem.W.Frag) (h : X.K = K) (hg : Gl X "enumerate") (hm : X.mg "enumerate" = none) (ha : PA X [e] ta) (hs : starEach [e] X.env = [(false, eval e X.env)] := by rfl) :
    PI X (.Tuple elts kk tpos) (.Call (.Name "enumerate" p) [e] [] pos) (iEnum K ta) := by subst h; exact pi_enum hg hm ha hs
theorem pg_tupK {es : List Expr} {k : Nat} {t : TGs} {n : Nat} {pos : Pos} (K : PySem.W.Frag) (h : X.K = K) (hc : X.calm = true) (hp : PGs X es t)
    (hn : (assignEach es X.env).length = n := by rfl) (hst : (assignEach es X.env).findIdx? (·.1) = none := by rfl) : PG X (.Tuple es k pos) (gTup K n t) := by subst h; exact pg_tup hc hp hn hst
end
section
variable {G : Gm} {E : XK} {L O : List Addr} {σD : List Sl} {s : G.S} {σ : L2.St} {H H1 H' : Hp}
theorem ss_raise {C : Addr} {c : Nat} (h : G.cl c = C) : SSm G E (fun _ σ H => (fun (_ : L2.St) H (Q : XK) => Q (.ref C) none H) σ H fun cls d H' => (fun cls d (_ : L2.St) H => E cls d H) cls d σ H') (sRaise c) := fun L O σD s σ H D R hw => by
  have := hw L O H Later.refl R.ok
  rw [h] at this
  exact this
/-- list(range(n)) -/
def eListRg {S : Type} (f : List Sl → S → Rs S W) : List Sl → S → Rs S W := fun σ s => (f σ s).bind fun x s => match x with
  | .d (.int n) => if 0 ≤ n ∧ n ≤ 1000 then .ok (.d (.list (rgD 0 n.toNat))) s else .stuck
  | _ => .stuck
theorem dqAll_rg (H : Hp) (n : Nat) : DqAll H (rgV 0 (n : Int)) (rgD 0 n) := by
  have e : ∀ l : List Nat, DqAll H (l.map fun i => V.int (0 + ((i : Nat) : Int))) (l.map fun i => PyData.int (0 + ((i : Nat) : Int))) := by
    intro l
    induction l with
    | nil => exact .nil
    | cons a l ih => exact .cons (.int _) ih
  unfold rgV rgD
  rw [show ((n : Int) - 0).toNat = n by omega]
  exact e _
theorem sm_listRg {te : TE} {f : List Sl → G.S → Rs G.S W} (h : Sm G E te f) : Sm G E (tLstRg (tRg1 te)) (eListRg f) := fun L O σD s σ H Q R hw =>
  h.thenV R hw fun x s1 v H1 e1 R1 wx h1 => by
    cases x with
    | d d =>
      cases d with
      | int n =>
        dsimp only at h1
        by_cases hn : 0 ≤ n ∧ n ≤ 1000
        · rw [if_pos hn] at h1
          refine ⟨n, dq_int wx, ⟨by omega, by omega, by omega, by omega, by omega⟩, fun q hq => h1 _ _ (Stp.of (same_new hq)) (G.ok_same R1.ok (same_new hq)) (dq_newL R1.live hq ?_)⟩
          obtain ⟨k, rfl⟩ : ∃ k : Nat, n = (k : Int) := ⟨n.toNat, by omega⟩
          rw [show ((k : Int)).toNat = k by omega]
          exact dqAll_rg _ k
        · rw [if_neg hn] at h1; exact h1.elim
      | _ => exact h1.elim
    | ref _ => exact h1.elim
    | dic _ => exact h1.elim

/-! ### enumerate of a list or a tuple, sum of either -/
end
end CS
/-! Core5: sorted of tuples of ints -/
namespace CS
open PySem PySem.Spec PyProof.Rows L2
open PySem.W (alike alikeAll dataLe dataLt keyToks keyToksAll AllAlike SortsAt dataKind dataType)

/-! ### a plain sort -/
section
variable {α : Type} (le : α → α → Bool)
def ins (x : α) : List α → List α
  | [] => [x]
  | y :: ys => if le x y then x :: y :: ys else y :: ins x ys
def isort : List α → List α
  | [] => []
  | x :: xs => ins le x (isort xs)
theorem ins_mem {x z : α} : ∀ {l : List α}, z ∈ ins le x l → z = x ∨ z ∈ l
  | [], h => by simp [ins] at h; exact .inl h
  | y :: ys, h => by
    unfold ins at h
    split at h
    · rcases List.mem_cons.mp h with h | h
      · exact .inl h
      · exact .inr h
    · rcases List.mem_cons.mp h with h | h
      · exact .inr (by rw [h]; exact List.mem_cons_self)
      · rcases ins_mem h with h | h
        · exact .inl h
        · exact .inr (List.mem_cons_of_mem _ h)
theorem ins_pairwise (T : PySem.W.TotalLe le) {x : α} : ∀ {l : List α}, l.Pairwise (fun a b => le a b = true) → (ins le x l).Pairwise (fun a b => le a b = true)
  | [], _ => by simp [ins]
  | y :: ys, h => by
    unfold ins
    split
    · rename_i hxy
      refine List.pairwise_cons.mpr ⟨fun z hz => ?_, h⟩
      rcases List.mem_cons.mp hz with e | hz
      · rw [e]; exact hxy
      · exact T.trans x y z hxy ((List.pairwise_cons.mp h).1 z hz)
    · rename_i hxy
      refine List.pairwise_cons.mpr ⟨fun z hz => ?_, ins_pairwise T (List.pairwise_cons.mp h).2⟩
      rcases ins_mem le hz with e | hz
      · rw [e]
        have := T.total x y
        cases q : le x y with
        | true => exact absurd q hxy
        | false => rw [q] at this; simpa using this
      · exact (List.pairwise_cons.mp h).1 z hz
theorem isort_pairwise (T : PySem.W.TotalLe le) : ∀ l : List α, (isort le l).Pairwise (fun a b => le a b = true)
  | [] => List.Pairwise.nil
  | x :: xs => ins_pairwise le T (isort_pairwise T xs)
theorem ins_filter (T : PySem.W.TotalLe le) {x : α} (c : α) : ∀ {l : List α}, (ins le x l).filter (PySem.W.sameRank le c) = (x :: l).filter (PySem.W.sameRank le c)
  | [] => rfl
  | y :: ys => by
    unfold ins
    split
    · rfl
    · rename_i hxy
      rw [List.filter_cons, ins_filter T c]
      by_cases hx : PySem.W.sameRank le c x = true
      · by_cases hy : PySem.W.sameRank le c y = true
        · exfalso
          unfold PySem.W.sameRank at hx hy
          rw [Bool.and_eq_true] at hx hy
          exact hxy (T.trans x c y hx.2 hy.1)
        · rw [if_neg hy, List.filter_cons, if_pos hx, List.filter_cons, if_pos hx, List.filter_cons, if_neg hy]
      · rw [List.filter_cons, if_neg hx, List.filter_cons, if_neg hx, List.filter_cons]
theorem isort_filter (T : PySem.W.TotalLe le) (c : α) : ∀ l : List α, (isort le l).filter (PySem.W.sameRank le c) = l.filter (PySem.W.sameRank le c)
  | [] => rfl
  | x :: xs => by
    unfold isort
    rw [ins_filter le T c, List.filter_cons, List.filter_cons, isort_filter T c xs]
theorem isort_eq (T : PySem.W.TotalLe le) (l : List α) : isort le l = l.mergeSort le := PySem.W.sort_unique T (isort_pairwise le T l) fun c => isort_filter le T c l
theorem isort_length : ∀ l : List α, (isort le l).length = l.length
  | [] => rfl
  | x :: xs => by
    have h : ∀ (l : List α), (ins le x l).length = l.length + 1 := by
      intro l
      induction l with
      | nil => rfl
      | cons y ys ih =>
        unfold ins
        split
        · rfl
        · rw [List.length_cons, ih, List.length_cons]
    unfold isort
    rw [h, isort_length xs, List.length_cons]
end

theorem each_right {α β : Type} {R : α → β → Prop} {as : List α} {bs : List β} (h : PySem.W.EachIs R as bs) : ∀ b ∈ bs, ∃ a, R a b := by
  induction h with
  | nil => intro b hb; cases hb
  | cons h1 _ ih =>
    intro b hb
    rcases List.mem_cons.mp hb with e | hb
    · rw [e]; exact ⟨_, h1⟩
    · exact ih b hb
/-! ### the comparison of two keys that are tuples, by their own < -/
section
open PySem.SeqAt
variable {prog : Program} {w : World} {A : Around} {E : Value → Shared → Prop} {s : Shared}
theorem tup_lt_call {Q : Value → Shared → Prop} {l b : Addr} {items items2 : Array Value} {e r : Nat → Bool} (hl : s.heap.IsTuple l items) (hb : s.heap.IsTuple b items2)
    (he : ∀ j (h1 : j < items.size) (h2 : j < items2.size), EqAt A.in1 s items[j] items2[j] (e j)) (hr : ∀ j (h1 : j < items.size) (h2 : j < items2.size), e j = false → RcLt A.in1 s items[j] items2[j] (r j))
    (h : Q (.bool (firstLt e r (decide (items.size < items2.size)) (List.range (min items.size items2.size)))) s) : wpAny (model prog w) A (call (.builtin "tuple.__lt__") [.ref l, .ref b]) Q E s := by
  obtain ⟨⟨c1, dd, da, sl⟩, ho, hc, n, hd⟩ := id hl
  obtain ⟨⟨c2, dd2, da2, sl2⟩, ho2, hc2, n2, hd2⟩ := id hb
  simp only at hc hd hc2 hd2
  subst hc hd hc2 hd2
  exact call_meets F.slot_tuple_lt ⟨_, ho, rfl⟩ F.entry_tuple_lt (F.args_tuple_lt_2 _ _) (tuple_ltAt l b items items2 n n2 dd dd2 sl sl2 e r) ⟨ho, ho2, he, hr, h⟩
theorem tup_oneLt {xs ys : List PyData} {a b : Value} {as bs : List Addr} {Q : Bool → Shared → Prop} (ra : Reads s.heap a (.tuple xs) as) (rb : Reads s.heap b (.tuple ys) bs) (hal : alikeAll xs ys = true)
    (hu : A.units + min (PyData.tuple xs).depth (PyData.tuple ys).depth < cLine) (hq : Q (dataLt (.tuple xs) (.tuple ys)) s) : wpAny (model prog w) A (oneLt' true a b) Q E s := by
  cases ra with
  | @tuple l o vs n _ as1 h1 h2 h3 h4 =>
    cases rb with
    | @tuple l' o' vs' n' _ bs1 k1 k2 k3 k4 =>
      have n1 : vs.size = xs.length := by simpa using SeqAt.ReadsAll.length _ _ _ h4
      have n2 : vs'.size = ys.length := by simpa using SeqAt.ReadsAll.length _ _ _ k4
      rw [PySem.W.dataLt_tuple, ← PySem.W.firstLt_toks xs ys hal, ← n1, ← n2] at hq
      rw [oneLt'_eq]
      simp only [if_true]
      refine wpAny_bind (wpAny_cRoomFor (room_here hu) ?_)
      refine wpAny_bind (wpAny_callSpecialIfBound?_slot (T := "tuple") ⟨_, h1, h2⟩ F.slot_tuple_lt (tup_lt_call (e := pairEq xs ys) (r := fun j => dataLt (xs.getD j .none) (ys.getD j .none)) ⟨_, h1, h2, _, h3⟩ ⟨_, k1, k2, _, k3⟩ (fun j j1 j2 => ?_) (fun j j1 j2 hj => ?_) ?_))
      · have := PySem.W.eqAt_alikeAll xs ys A.in1 s vs.toList vs'.toList _ _ h4 k4 hal (room_in hu) j (by simpa using j1) (by simpa using j2)
        simpa using this
      · have := PySem.W.rcLt_alikeAll xs ys A.in1 s vs.toList vs'.toList _ _ h4 k4 hal (room_in hu) j (by simpa using j1) (by simpa using j2) hj
        simpa using this
      · exact wpAny_truthy_bool hq
/-- the firsts of tuples -/
theorem tup_firsts {M : Model} : ∀ (vs : List Value) (ds : List PyData) {Q : List (Option Value) → Shared → Prop}, PySem.W.EachIs (fun v d => ∃ xs as, d = PyData.tuple xs ∧ Reads s.heap v d as) vs ds →
    (∀ fs : List (Option Value), fs.length = ds.length → (∀ (i : Nat) f, fs[i]? = some f → ds[i]? = some (.tuple []) → f = none) → Q fs s) → wpAny M A (vs.mapM firstOfTuple') Q E s
  | [], [], Q, _, h => by rw [List.mapM_nil]; exact wpAny_pure (h [] rfl fun i f e => by simp at e)
  | v :: vs, d :: ds, Q, .cons ⟨xs, as, e, r⟩ t, h => by
    subst e
    rw [List.mapM_cons]
    refine wpAny_bind ?_
    rw [PySem.W.kas_first_eq]
    cases r with
    | @tuple l o its n _ as1 h1 h2 h3 h4 =>
      have n1 : its.size = xs.length := by simpa using SeqAt.ReadsAll.length _ _ _ h4
      refine wpAny_bind (PySem.W.Looks.here (show PySem.W.Looks M s.heap (typeOf (.ref l)) o.cls from (PySem.W.Looks.ld h1).andThen .now) ?_)
      rw [h2, if_neg (by first | decide | simp)]
      refine wpAny_bind (PyProof.Rows.listItems_at h1 h3 (wpAny_pure ?_))
      refine wpAny_bind (tup_firsts vs ds (Q := fun bs s' => wpAny M A (pure (its[0]? :: bs)) Q E s') t fun fs hl hf => wpAny_pure (h _ (by rw [List.length_cons, List.length_cons, hl]) fun i f e1 e2 => ?_))
      cases i with
      | zero =>
        have q1 : its[0]? = f := by simpa using e1
        have q2 : xs = [] := by simpa using e2
        subst q2
        rw [← q1]
        exact Array.getElem?_eq_none (by rw [n1]; exact Nat.le_refl _)
      | succ i => exact hf i f (by simpa using e1) (by simpa using e2)
theorem tup_kind {M : Model} {vs : List Value} {ds : List PyData} {Q : SortKind → Shared → Prop} (e : PySem.W.EachIs (fun v d => ∃ xs as, d = PyData.tuple xs ∧ Reads s.heap v d as) vs (.tuple [] :: ds)) (h : Q oneType' s) : wpAny M A (keyKind' vs.toArray) Q E s := by
  rw [keyKind'_eq, List.mapM_toArray, map_eq_pure_bind]
  refine wpAny_bind (wpAny_bind (tup_firsts vs _ e fun fs hl hf => wpAny_pure ?_))
  obtain ⟨f0, fr, rfl⟩ : ∃ f0 fr, fs = f0 :: fr := by
    cases fs with
    | nil => simp at hl
    | cons a b => exact ⟨a, b, rfl⟩
  have z : f0 = none := hf 0 f0 rfl rfl
  subst z
  rw [if_neg (by simp), if_neg (by simp)]
  have hT : ∀ v ∈ vs, PySem.W.Looks M s.heap (typeOf v) (Value.type "tuple") := fun v hv => by
    obtain ⟨d, _, xs, as, rfl, r⟩ := e.left v hv
    exact PySem.W.looks_reads r
  rw [oneTypeOnly'_eq, List.mapM_toArray, map_eq_pure_bind]
  refine wpAny_bind (wpAny_bind (wpAny_bind (PySem.W.kas_mapM (r := Value.type "tuple") _ (fun v hv Q' hq => (hT v hv).here hq) (wpAny_pure ?_))))
  obtain ⟨v1, rest, rfl⟩ : ∃ v1 rest, vs = v1 :: rest := by
    cases e with
    | cons _ _ => exact ⟨_, _, rfl⟩
  have hall : ((List.map (fun _ => Value.type "tuple") (v1 :: rest)).toArray.all fun x => x == Value.type "tuple") = true := by
    simp only [List.all_toArray, List.all_map, List.all_eq_true]
    intro _ _
    rfl
  have h0 : (List.map (fun _ => Value.type "tuple") (v1 :: rest)).toArray[0]? = some (Value.type "tuple") := by simp
  rw [h0]
  simp only [hall, if_true]
  exact wpAny_pure (wpAny_pure h)
/-- tuples, the first one empty, can be sorted -/
theorem sorts_tups {vs : List Value} {ds : List PyData} (e : PySem.W.EachIs (fun v d => ∃ xs as, d = PyData.tuple xs ∧ Reads s.heap v d as) vs (.tuple [] :: ds)) (hal : AllAlike (.tuple [] :: ds)) (hu : ∀ d, d ∈ PyData.tuple [] :: ds → A.units + d.depth < cLine) :
    SortsAt prog w A s (dataKind s.heap (.tuple [] :: ds)) vs := by
  refine ⟨fun v hv => ?_, oneType', ?_, fun h2 E Q hq => tup_kind e hq⟩
  · obtain ⟨d, hd, xs, as, _, r⟩ := e.left v hv
    exact ⟨_, PySem.W.dataKind_some hal hd r⟩
  · intro E x y a b Q ha hb hq
    obtain ⟨d, as, hd, ra, rfl⟩ := PySem.W.dataKind_inv ha
    obtain ⟨d', as', hd', rb, rfl⟩ := PySem.W.dataKind_inv hb
    have tt : ∀ d, d ∈ PyData.tuple [] :: ds → ∃ xs, d = .tuple xs := fun d hd => by
      obtain ⟨v, xs, as, e', _⟩ := each_right e d hd
      exact ⟨xs, e'⟩
    obtain ⟨xs, rfl⟩ := tt d hd
    obtain ⟨ys, rfl⟩ := tt d' hd'
    rw [keyLt'_oneType]
    exact tup_oneLt ra rb (by simpa [alike] using hal _ hd _ hd') (Nat.lt_of_le_of_lt (Nat.add_le_add_left (Nat.min_le_left _ _) _) (hu _ hd)) hq
end

/-! ### sorted(xs) over the layer -/
def isTupI : PyData → Bool
  | .tuple ds => (dInts ds).isSome
  | _ => false
def isEmp : PyData → Bool
  | .tuple [] => true
  | _ => false
def leD : PyData → PyData → Bool := dataLe false id
/-- all are tuples of ints; none is empty, or the first one is -/
def sortOk (ds : List PyData) : Bool := ds.all isTupI && (ds.all (fun d => !isEmp d) || (match ds with | d :: _ => isEmp d | [] => true)) && decide (ds.length ≤ 1000000)
def pySorted : List PyData → Option PyData
  | [.list ds] => if sortOk ds then some (.list (isort leD ds)) else none
  | _ => none
theorem alike_ints : ∀ (ns ms : List Int), alikeAll (ns.map PyData.int) (ms.map PyData.int) = true
  | [], _ => by simp [alikeAll]
  | _ :: _, [] => by simp [alikeAll]
  | n :: ns, m :: ms => by simp [alikeAll, alike, alike_ints ns ms]
theorem depth_ints : ∀ (ns : List Int), (PyData.tuple (ns.map PyData.int)).depth ≤ 2
  | [] => by simp [PyData.depth, PyData.depthAll]
  | n :: ns => by
    have := depth_ints ns
    simp only [PyData.depth, List.map_cons, PyData.depthAll] at this ⊢
    omega
theorem isTupI_ex {d : PyData} (h : isTupI d = true) : ∃ ns : List Int, d = .tuple (ns.map PyData.int) := by
  cases d with
  | tuple ds =>
    cases e : dInts ds with
    | none => rw [isTupI, e] at h; cases h
    | some ns => exact ⟨ns, by rw [dInts_some e]⟩
  | _ => cases h
def rSortD (K : PySem.W.Frag) : List V → Hp → VK → Prop := fun vs H Q => ∃ (a : Addr) (xs : List V) (ds : List PyData) (R : V → PyData → Prop), vs = [V.ref a] ∧ SqL K H a xs ∧ PySem.W.EachIs R xs ds ∧ (∀ y d, R y d → Dq H y d) ∧ sortOk ds = true ∧
  ∀ p ys, H p = none → ys.length = xs.length → PySem.W.EachIs R ys (isort leD ds) → Q (.ref p) (upd H p (.lst ys))
theorem each_dq {H : Hp} : ∀ {vs : List V} {ds : List PyData}, PySem.W.EachIs (fun y d => Dq H y d) vs ds → DqAll H vs ds
  | _, _, .nil => .nil
  | _, _, .cons h t => .cons h (each_dq t)
theorem cr_sorted {X : Cx} (K : PySem.W.Frag) (hK : X.K = K) (hu : X.A.units + 65 < cLine) : CallR X (.builtin "sorted") (rSortD K) := by
  subst hK
  intro pins s σ H vs us Q I r h
  obtain ⟨a, xs, ds, R, rfl, hs, hd, hRq, hok, q⟩ := h
  obtain ⟨its, rv, hl, hz⟩ := I.list hs
  rw [Vals.ref1 r]
  unfold sortOk at hok
  rw [Bool.and_eq_true, Bool.and_eq_true] at hok
  obtain ⟨⟨h1, h2⟩, h3⟩ := hok
  have hall : ∀ d ∈ ds, isTupI d = true := List.all_eq_true.mp h1
  -- what the items are
  have each : ∀ {xs : List V} {ds : List PyData} {its : List Value}, PySem.W.EachIs R xs ds → Vals xs its → PySem.W.EachIs (fun v d => (∃ y, RelV y v ∧ R y d) ∧ ∃ as, Reads s.heap v d as) its ds := by
    intro xs ds its hd rv
    induction ds generalizing xs its with
    | nil => cases hd; cases rv; exact .nil
    | cons d ds ih =>
      cases hd with
      | cons g1 g2 =>
        cases rv with
        | cons r1 r2 => exact .cons ⟨⟨_, r1, g1⟩, Dp.reads I d _ _ (Dq.dp d _ (hRq _ _ g1)) r1⟩ (ih g2 r2)
  have e1 := each hd rv
  have eR : PySem.W.EachIs (fun v d => ∃ y, RelV y v ∧ R y d) its ds := e1.mono fun _ _ z => z.1
  have er : PySem.W.EachIs (fun v d => ∃ as, Reads s.heap v (id d) as) its ds := e1.mono fun _ _ z => z.2
  have hal : AllAlike (ds.map id) := by
    rw [List.map_id]
    intro d hd d' hd'
    obtain ⟨ns, rfl⟩ := isTupI_ex (hall d hd)
    obtain ⟨ms, rfl⟩ := isTupI_ex (hall d' hd')
    simp [alike, alike_ints ns ms]
  have hdep : ∀ d, d ∈ ds → X.A.units + 2 + (id d).depth < cLine := fun d hd => by
    obtain ⟨ns, rfl⟩ := isTupI_ex (hall d hd)
    have := depth_ints ns
    show X.A.units + 2 + (PyData.tuple (ns.map PyData.int)).depth < cLine
    omega
  have hLn : ds.length ≤ sizeLine := szb (of_decide_eq_true h3)
  have fin : ∀ out : List Value, out.length = ds.length → PySem.W.EachIs (fun v d => ∃ y, RelV y v ∧ R y d) out (ds.mergeSort (dataLe false id)) → EP X pins σ Q (.ref (s.heap.objs.size + 1)) { s with heap := PyProof.Rows.sortedAll s.heap its (List.toArray out) } := by
    intro out ho eo
    rw [← isort_eq (dataLe false id) (PySem.W.sortLe_total _ false _) ds] at eo
    obtain ⟨ep, he'⟩ := PyProof.Rows.sortedAll_at s.heap its out.toArray
    have ex : ∀ {out : List Value} {es : List PyData}, PySem.W.EachIs (fun v d => ∃ y, RelV y v ∧ R y d) out es → ∃ ys, Vals ys out ∧ PySem.W.EachIs R ys es := by
      intro out es h
      induction h with
      | nil => exact ⟨[], .nil, .nil⟩
      | cons z _ ih =>
        obtain ⟨y, ry, dy⟩ := z
        obtain ⟨ys, a1, a2⟩ := ih
        exact ⟨y :: ys, .cons ry a1, .cons dy a2⟩
    obtain ⟨ys, vy, ey⟩ := ex eo
    have hlen : ys.length = xs.length := by rw [vy.length, ho, hd.length]
    refine ⟨.ref _, upd H (s.heap.objs.size + 1) (.lst ys), I.laid (t' := s.toks) (fun _ _ => PyProof.Rows.sortedAll_old) (Nat.le_succ _) ⟨by rw [hlen, hd.length]; exact hLn, out, ep, vy, ?_⟩, rfl, q _ ys (I.hok.fresh (Nat.le_succ _)) hlen ey⟩
    simpa using he'
  rw [Bool.or_eq_true] at h2
  have byNe : (∀ d, d ∈ ds → ∃ x r, d = PyData.tuple (x :: r)) → wpAny (model X.prog X.w) X.A (call (.builtin "sorted") [.ref a]) (EP X pins σ Q) X.xe s := fun hne =>
    PySem.W.sorted_data hl.isList eR er hal (by rw [List.map_id]; exact .inl hne) hLn hdep fun out ho eo => fin out ho eo
  rcases h2 with h2 | h2
  · refine byNe fun d hd => ?_
    obtain ⟨ns, rfl⟩ := isTupI_ex (hall d hd)
    cases ns with
    | nil =>
      have := List.all_eq_true.mp h2 _ hd
      cases this
    | cons n ns => exact ⟨.int n, ns.map PyData.int, rfl⟩
  · cases ds with
    | nil => exact byNe fun d hd => nomatch hd
    | cons d0 ds =>
      have hd0 : d0 = .tuple [] := by
        cases d0 with
        | tuple l =>
          cases l with
          | nil => rfl
          | cons _ _ => cases h2
        | _ => cases h2
      subst hd0
      have er' : PySem.W.EachIs (fun v d => ∃ xs as, d = PyData.tuple xs ∧ Reads (PySem.W.sortingHeap (PySem.W.copyHeap s.heap its) (s.heap.objs.size + 1) its) v d as) its (.tuple [] :: ds) := by
        have mem : ∀ {vs : List Value} {es : List PyData}, PySem.W.EachIs (fun v d => ∃ as, Reads s.heap v (id d) as) vs es → (∀ d ∈ es, isTupI d = true) → PySem.W.EachIs (fun v d => ∃ xs as, d = PyData.tuple xs ∧ Reads (PySem.W.sortingHeap (PySem.W.copyHeap s.heap its) (s.heap.objs.size + 1) its) v d as) vs es := by
          intro vs es h
          induction h with
          | nil => intro _; exact .nil
          | cons z _ ih =>
            intro hm
            obtain ⟨as, rd⟩ := z
            obtain ⟨ns, en⟩ := isTupI_ex (hm _ List.mem_cons_self)
            exact .cons ⟨ns.map PyData.int, as, en, PyProof.Rows.Reads.keeps (fun _ _ => PySem.W.sorting_copy_old) rd⟩ (ih fun d hd => hm d (List.mem_cons_of_mem _ hd))
        exact mem er hall
      have S := sorts_tups (prog := X.prog) (w := X.w) (A := X.A.in1.in1) (s := { s with heap := PySem.W.sortingHeap (PySem.W.copyHeap s.heap its) (s.heap.objs.size + 1) its }) er' (by rw [List.map_id] at hal; exact hal) (fun d hd => by
        have := hdep d hd
        show X.A.units + 1 + 1 + d.depth < cLine
        have e : (id d).depth = d.depth := rfl
        omega)
      have er2 : PySem.W.EachIs (fun v d => ∃ as, Reads (PySem.W.sortingHeap (PySem.W.copyHeap s.heap its) (s.heap.objs.size + 1) its) v (id d) as) its (.tuple [] :: ds) := er'.mono fun _ _ ⟨_, as, _, r⟩ => ⟨as, r⟩
      refine PySem.W.sorted_vals hl.isList S (by rw [← rv.length, hd.length]; exact hLn) ?_
      have sv := PySem.W.sortVals_data false eR er2 hal
      rw [List.map_id] at sv
      exact fin _ (by rw [PySem.W.sortVals_length false rfl]; exact eR.length) sv
theorem each_of_dq {H : Hp} : ∀ {vs : List V} {ds : List PyData}, DqAll H vs ds → PySem.W.EachIs (fun y d => Dq H y d) vs ds
  | _, [], h => by cases h; exact .nil
  | _, d :: ds, h => by
    cases h with
    | cons h1 h2 => exact .cons h1 (each_of_dq h2)
theorem isort_mem {α : Type} (le : α → α → Bool) {z : α} : ∀ {l : List α}, z ∈ isort le l → z ∈ l
  | x :: xs, h => by
    rcases ins_mem le h with e | h
    · rw [e]; exact List.mem_cons_self
    · exact List.mem_cons_of_mem _ (isort_mem le h)
theorem cs_sorted {K : PySem.W.Frag} : CSm (rSortD K) pySorted := by
  intro L H vs ds z Q hL hv hg hq
  match ds, hv, hg with
  | [.list es], hv, hg =>
    dsimp only [pySorted] at hg
    split at hg
    · rename_i hs
      cases hg
      obtain ⟨v, rfl, h1⟩ := dqAll_one hv
      obtain ⟨p, us, rfl, hp, hu⟩ := dq_lst h1
      exact ⟨p, us, es, fun y d => Dq (wo H L) y d, rfl, .of (wo_some hp).1, each_of_dq hu, fun y d h => dq_wo h, hs, fun r ys hr hl he => hq _ _ (same_new hr) (dq_newL hL hr (each_dq he))⟩
    · cases hg
end CS
/-! Core6: lists and dicts that a def makes and changes, truth of ints, the dice -/
namespace CS
open PySem PySem.Spec PyProof.Rows L2
section
variable {G : Gm} {E : XK} {L O L1 O1 : List Addr} {σD : List Sl} {s : G.S} {σ : L2.St} {H H1 H' : Hp}

/-! ### truth of an int -/
def eTruth {S : Type} (f : List Sl → S → Rs S W) : List Sl → S → Rs S Bool := fun σ s => (f σ s).bind fun x s => match x with
  | .d (.int i) => .ok (i != 0) s
  | _ => .stuck
theorem smt_truth {K : PySem.W.Frag} {te : TE} {f : List Sl → G.S → Rs G.S W} (h : Sm G E te f) : SmT G E (fun σ H Q => te σ H fun x H' => ∃ k, TruV K x H' k ∧ Q k H') (eTruth f) := fun L O σD s σ H Q R hw =>
  h.thenT R hw fun x s1 v H1 e1 R1 wx h1 => by
    cases x with
    | d d =>
      cases d with
      | int i =>
        have hv : v = .int i := dq_int wx
        subst hv
        exact ⟨_, rfl, h1 H1 Stp.refl R1.ok⟩
      | _ => exact h1.elim
    | ref _ => exact h1.elim
    | dic _ => exact h1.elim
theorem pt_truthK {X : Cx} {a : Expr} {ta : TE} (K : PySem.W.Frag) (hK : X.K = K) (ha : PE X a ta) (he : ∀ whole, isTrue a X.env whole = (do let v ← whole; standAt a.pos; holding [v] (truthy v)) := by intro _; rfl) :
    PT X a (fun σ H Q => ta σ H fun x H' => ∃ k, TruV K x H' k ∧ Q k H') := by subst hK; exact pt_truth ha he

/-! ### an own slot -/
theorem own_set_get {x : Sl} {i j : Nat} (hij : i ≠ j) : (σD.set i x)[j]? = σD[j]? := List.getElem?_set_ne hij
/-- a new object at p goes to slot i -/
theorem SR.take (R : SR G L O σD s σ H) {p : Addr} (i : Nat) (x : Sl) (hp : p ∈ L) (h0 : p ∉ G.L0) (hO : p ∉ O) (hx : SlR (L) (p :: O) H x (some (.ref p))) (hn : ∀ (j : Nat) y, σD[j]? = some y → y.isOwn = true → σ[j]? ≠ some (some (.ref p))) :
    SR G L (p :: O) (σD.set i x) s (σ.set i (some (.ref p))) H where
  l0 := R.l0
  oL := fun a h => by
    rcases List.mem_cons.mp h with e | h
    · rw [e]; exact ⟨hp, h0⟩
    · exact R.oL a h
  nt := R.nt
  ok := R.ok
  sl := fun j y e => by
    by_cases hj : i = j
    · subst hj
      have hi : i < σD.length := by
        have := (List.getElem?_eq_some_iff.mp e).1
        rwa [List.length_set] at this
      rw [List.getElem?_set_self hi] at e
      cases e
      obtain ⟨o, h1, _⟩ := R.sl i _ (List.getElem?_eq_getElem hi)
      exact ⟨_, List.getElem?_set_self (List.getElem?_eq_some_iff.mp h1).1, hx⟩
    · rw [List.getElem?_set_ne hj] at e ⊢
      obtain ⟨o, h1, h2⟩ := R.sl j y e
      refine ⟨o, h1, ?_⟩
      cases y with
      | non => trivial
      | w y => exact h2
      | own ds => obtain ⟨a, vs, q1, q2, q3, q4⟩ := h2; exact ⟨a, vs, q1, List.mem_cons_of_mem _ q2, q3, q4⟩
      | odc ds => obtain ⟨a, vs, q1, q2, q3, q4⟩ := h2; exact ⟨a, vs, q1, List.mem_cons_of_mem _ q2, q3, q4⟩
  df := fun j k y z a e1 e2 o1 o2 q1 q2 => by
    by_cases hj : i = j
    · by_cases hk : i = k
      · exact hj.symm.trans hk
      · subst hj
        rw [List.getElem?_set_ne hk] at e2 q2
        have hs : i < (σ.set i (some (V.ref p))).length := (List.getElem?_eq_some_iff.mp q1).1
        rw [List.length_set] at hs
        rw [List.getElem?_set_self hs] at q1
        cases q1
        exact absurd q2 (hn k z e2 o2)
    · by_cases hk : i = k
      · subst hk
        rw [List.getElem?_set_ne hj] at e1 q1
        have hs : i < (σ.set i (some (V.ref p))).length := (List.getElem?_eq_some_iff.mp q2).1
        rw [List.length_set] at hs
        rw [List.getElem?_set_self hs] at q2
        cases q2
        exact absurd q1 (hn j y e1 o1)
      · rw [List.getElem?_set_ne hj] at e1 q1
        rw [List.getElem?_set_ne hk] at e2 q2
        exact R.df j k y z a e1 e2 o1 o2 q1 q2
/-- name = a new list -/
def sAsgO {S : Type} (i : Nat) (f : List Sl → S → Rs S W) : List Sl → S → Fl S := fun σ s => match f σ s with
  | .ok (.d (.list ds)) s1 => .nx (σ.set i (.own ds)) s1
  | .exc c s1 => .exc c s1
  | _ => .stuck
theorem own_ne (R : SR G L O σD s σ H) {p : Addr} (hp : H p = none) (j : Nat) (y : Sl) (h1 : σD[j]? = some y) (h2 : y.isOwn = true) : σ[j]? ≠ some (some (.ref p)) := fun e => by
  obtain ⟨o, q1, q2⟩ := R.sl j y h1
  rw [e] at q1
  cases q1
  cases y with
  | own ds => obtain ⟨a, vs, z1, z2, z3, _⟩ := q2; cases z1; rw [hp] at z3; cases z3
  | odc ds => obtain ⟨a, vs, z1, z2, z3, _⟩ := q2; cases z1; rw [hp] at z3; cases z3
  | non => cases h2
  | w _ => cases h2
theorem stp_none (R : SR G L O σD s σ H) {s' : G.S} (st : Stp G H H1) (k : G.ok s' H1) {p : Addr} {o : HO} (hp : H p = none) (h1 : H1 p = some o) : p ∉ L ∧ p ∉ O ∧ p ∉ G.L0 := by
  have hL : p ∉ L := fun z => R.live p z hp
  exact ⟨hL, fun z => hL (R.oL p z).1, fun z => hL (R.l0 p z)⟩
/-- a list made between H and H1 is taken as an own one -/
theorem SR.mine (R : SR G L O σD s σ H) {s' : G.S} (st : Stp G H H1) (k : G.ok s' H1) {p : Addr} {vs : List V} {ds : List PyData} (hp : H p = none) (h1 : H1 p = some (.lst vs)) (hd : DqAll (wo H1 (p :: L)) vs ds) (i : Nat) :
    SR G (p :: L) (p :: O) (σD.set i (.own ds)) s' (σ.set i (some (.ref p))) H1 ∧ Later G L O H (p :: L) (p :: O) H1 := by
  obtain ⟨n1, n2, n3⟩ := stp_none R st k hp h1
  have R1 := R.step st k
  have sm : Same (wo H L) (wo H1 (p :: L)) := fun b o e => by
    obtain ⟨e1, e2⟩ := wo_some e
    refine wo_of (st b o (fun z => e2 (R.l0 b z)) e1) fun z => ?_
    rcases List.mem_cons.mp z with z | z
    · rw [z, hp] at e1; cases e1
    · exact e2 z
  have R2 : SR G (p :: L) O σD s' σ H1 := {
    l0 := fun a h => List.mem_cons_of_mem _ (R.l0 a h)
    oL := fun a h => ⟨List.mem_cons_of_mem _ (R.oL a h).1, (R.oL a h).2⟩
    nt := fun a h => by
      rcases List.mem_cons.mp h with e | h
      · rw [e, h1]; exact .lst
      · exact R1.nt a h
    ok := k
    sl := fun j x e => by
      obtain ⟨o, q1, q2⟩ := R.sl j x e
      refine ⟨o, q1, ?_⟩
      cases x with
      | non => trivial
      | w x => obtain ⟨v, z1, z2⟩ := q2; exact ⟨v, z1, z2.same sm⟩
      | own es => obtain ⟨a, us, z1, z2, z3, z4⟩ := q2; exact ⟨a, us, z1, z2, st a _ (R.oL a z2).2 z3, dqAll_same sm _ _ z4⟩
      | odc es => obtain ⟨a, us, z1, z2, z3, z4⟩ := q2; exact ⟨a, us, z1, z2, st a _ (R.oL a z2).2 z3, z4.same sm⟩
    df := R.df }
  refine ⟨R2.take i (.own ds) List.mem_cons_self n3 n2 ⟨p, vs, rfl, List.mem_cons_self, h1, hd⟩ (own_ne R hp), ?_⟩
  exact ⟨fun b o h0 _ q => st b o h0 q, fun b o h q z => by
    rcases List.mem_cons.mp z with z | z
    · rw [z, hp] at q; cases q
    · exact h z, fun b h _ => List.mem_cons_of_mem _ h, fun b o q z => by
    rcases List.mem_cons.mp z with z | z
    · rw [z, hp] at q; cases q
    · exact z⟩
theorem ss_asgO {te : TE} {i : Nat} {f : List Sl → G.S → Rs G.S W} (h : SmL G E te f) : SSm G E (tAsg te (gName i)) (sAsgO i f) := fun L O σD s σ H D R hw => by
  refine h L O σD s σ H _ R ?_
  unfold sAsgO at hw
  cases e : f σD s with
  | exc c s1 => rw [e] at hw; exact fun H1 st ok1 => hw L O H1 (Later.of_stp st) ok1
  | stuck => rw [e] at hw; exact hw
  | ok w s1 =>
    rw [e] at hw
    cases w with
    | ref _ => exact hw.elim
    | dic _ => exact hw.elim
    | d d =>
      cases d with
      | list ds =>
        intro p vs H1 st hp ok1 h1 hd
        obtain ⟨R1, la⟩ := R.mine st ok1 hp h1 hd i
        exact hw _ _ _ H1 la R1
      | _ => exact hw.elim
theorem newL_lst {ta : TA} {g : List Sl → G.S → Rs G.S (List W)} (h : SmA G E ta g) : SmL G E (tLst ta) (eLst g) := fun L O σD s σ H Q R hw => by
  unfold eLst at hw
  refine h L O σD s σ H _ R ?_
  cases e : g σD s with
  | exc c s1 => rw [e] at hw; exact hw
  | stuck => rw [e] at hw; exact hw
  | ok ws s1 =>
    rw [e] at hw
    intro vs H1 st ok1 wr
    cases ed : wDs ws with
    | none =>
      have hw' : WantL G E L H (optR ((wDs ws).bind mkL) s1) Q := hw
      rw [ed] at hw'; exact hw'.elim
    | some ds =>
      have hw' : WantL G E L H (optR ((wDs ws).bind mkL) s1) Q := hw
      rw [ed] at hw'
      have hw2 : WantL G E L H (optR (mkL ds) s1) Q := hw'
      unfold mkL at hw2
      by_cases hl : ds.length ≤ 1000000
      · rw [if_pos hl] at hw2
        have := wDs_some ed
        subst this
        have hd := WRs.data wr
        refine ⟨szb (by rw [hd.length]; exact hl), fun p hp => ?_⟩
        have hp0 : H p = none := by
          cases q : H p with
          | none => rfl
          | some o =>
            by_cases z : p ∈ G.L0
            · exact absurd hp ((R.step st ok1).live p (R.l0 p z))
            · rw [st p o z q] at hp; cases hp
        exact hw2 p vs _ (st.trans (Stp.of (same_new hp))) hp0 (G.ok_same ok1 (same_new hp)) upd_same (dqAll_same (wo_push hp) _ _ hd)
      · rw [if_neg hl] at hw2; exact hw2.elim
/-- [..] * n, list(..) -/
theorem smL_op {r : R2} {g : PyData → PyData → Option PyData} {ta tb : TE} {fa fb : List Sl → G.S → Rs G.S W}
    (hr : ∀ (L : List Addr) (H : Hp) (x y : V) (d e z : PyData) (Q : VK), (∀ a ∈ L, H a ≠ none) → Dq (wo H L) x d → Dq (wo H L) y e → g d e = some z → (∃ ds, z = .list ds ∧ ∀ p vs, H p = none → DqAll (wo H L) vs ds → Q (.ref p) (upd H p (.lst vs))) → r x y H Q)
    (ha : Sm G E ta fa) (hb : Sm G E tb fb) (hz : ∀ d e z, g d e = some z → ∃ ds, z = .list ds) : SmL G E (tOp r ta tb) (eOp g fa fb) := fun L O σD s σ H Q R hw => by
  unfold eOp at hw
  refine ha L O σD s σ H _ R ?_
  cases e1 : fa σD s with
  | exc c s1 => rw [e1] at hw; exact hw
  | stuck => rw [e1] at hw; exact hw
  | ok x s1 =>
    rw [e1] at hw
    intro v H1 st1 ok1 wx
    have R1 := R.step st1 ok1
    refine hb L O σD s1 σ H1 _ R1 ?_
    have hw1 : WantL G E L H ((fb σD s1).bind fun y s => optR (lift2 g x y) s) Q := hw
    cases e2 : fb σD s1 with
    | exc c s2 => rw [e2] at hw1; exact fun H2 st2 ok2 => hw1 H2 (st1.trans st2) ok2
    | stuck => rw [e2] at hw1; exact hw1
    | ok y s2 =>
      rw [e2] at hw1
      intro u H2 st2 ok2 wy
      have R2 := R1.step st2 ok2
      have hw2 : WantL G E L H (optR (lift2 g x y) s2) Q := hw1
      cases el : lift2 g x y with
      | none => rw [el] at hw2; exact hw2.elim
      | some w =>
        rw [el] at hw2
        obtain ⟨d, e, z, rfl, rfl, rfl, eg⟩ := lift2_some el
        obtain ⟨ds, rfl⟩ := hz d e z eg
        refine hr L H2 v u d e _ Q R2.live (WR.same (w := .d d) (stp_wo R.l0 st2) wx) wy eg ⟨ds, rfl, fun p vs hp hd => ?_⟩
        have hp0 : H p = none := by
          cases q : H p with
          | none => rfl
          | some o =>
            by_cases z : p ∈ G.L0
            · exact absurd hp (R2.live p (R.l0 p z))
            · rw [(st1.trans st2) p o z q] at hp; cases hp
        exact hw2 p vs _ ((st1.trans st2).trans (Stp.of (same_new hp))) hp0 (G.ok_same ok2 (same_new hp)) upd_same (dqAll_same (wo_push hp) _ _ hd)
/-- [e, ..] * n alone -/
def pyMulL : PyData → PyData → Option PyData
  | .list a, .int k => if 0 ≤ k ∧ k ≤ 1000 ∧ a.length ≤ 1000 then some (.list (List.replicate k.toNat a).flatten) else none
  | _, _ => none
theorem smL_mul {K : PySem.W.Frag} {ta tb : TE} {fa fb : List Sl → G.S → Rs G.S W} (ha : Sm G E ta fa) (hb : Sm G E tb fb) : SmL G E (tOp (rMulU K) ta tb) (eOp pyMulL fa fb) := by
  refine smL_op (fun L H x y d e z Q hL hx hy hg hq => ?_) ha hb fun d e z h => ?_
  · cases d with
    | list a =>
      cases e with
      | int k =>
        dsimp only [pyMulL] at hg
        split at hg
        · rename_i hl
          cases hg
          obtain ⟨ds, e1, hq⟩ := hq
          cases e1
          obtain ⟨p, vs, rfl, hp, hv⟩ := dq_lst hx
          refine .inr (.inl ⟨p, k, vs, rfl, dq_int hy, (wo_some hp).1, by omega, by omega, szb ?_, fun r hr => hq _ _ hr (dqAll_rep hv _)⟩)
          have h1 : vs.length ≤ 1000 := by rw [hv.length]; exact hl.2.2
          have h2 : k.toNat ≤ 1000 := by omega
          exact Nat.le_trans (Nat.mul_le_mul h1 h2) (by decide)
        · cases hg
      | _ => cases hg
    | _ => cases hg
  · cases d with
    | list a =>
      cases e with
      | int k =>
        dsimp only [pyMulL] at h
        split at h
        · cases h; exact ⟨_, rfl⟩
        · cases h
      | _ => cases h
    | _ => cases h
/-- a def that hands back a list of its own making, called -/
theorem smL_F {m : List W → G.S → Rs G.S W} {n : Nat} {ta : TA} {fa : List Sl → G.S → Rs G.S (List W)} (ha : SmA G E ta fa) : SmL G E (tCall (spL G m n) [] E ta) (eF (lenIs n m) fa) := fun L O σD s σ H Q R hw => by
  unfold eF at hw
  refine ha L O σD s σ H _ R ?_
  cases e : fa σD s with
  | exc c s1 => rw [e] at hw; exact hw
  | stuck => rw [e] at hw; exact hw
  | ok ws s1 =>
    rw [e] at hw
    have hw1 : WantL G E L H (lenIs n m ws s1) Q := hw
    intro vs H1 st ok1 wr
    have R1 := R.step st ok1
    unfold lenIs at hw1
    by_cases hl : ws.length = n
    · rw [if_pos hl] at hw1
      rw [List.append_nil]
      refine ⟨by rw [← wr.length]; exact hl, L, ws, s1, R1.l0, R1.nt, R1.ok, wr, ?_⟩
      cases em : m ws s1 with
      | exc c s2 => rw [em] at hw1; exact fun H2 st2 ok2 => hw1 H2 (st.trans st2) ok2
      | stuck => rw [em] at hw1; exact hw1
      | ok w s2 =>
        rw [em] at hw1
        cases w with
        | ref _ => exact hw1.elim
        | dic _ => exact hw1.elim
        | d d =>
          cases d with
          | list ds =>
            intro p us H2 st2 hp ok2 h2 hd
            have hp0 : H p = none := by
              cases q : H p with
              | none => rfl
              | some o =>
                by_cases z : p ∈ G.L0
                · exact absurd hp (R1.live p (R.l0 p z))
                · rw [st p o z q] at hp; cases hp
            exact hw1 p us H2 (st.trans st2) hp0 ok2 h2 hd
          | _ => exact hw1.elim
    · rw [if_neg hl] at hw1; exact hw1.elim

/-! ### freezing: the object of an own slot changes no more -/
def frzS : Sl → Sl
  | .own ds => .w (.d (.list ds))
  | .odc kvs => .w (.dic kvs)
  | x => x
def frz (i : Nat) (σ : List Sl) : List Sl := match σ[i]? with
  | some x => σ.set i (frzS x)
  | none => σ
theorem SR.frz (R : SR G L O σD s σ H) (i : Nat) : ∃ L' O', SR G L' O' (frz i σD) s σ H ∧ Later G L O H L' O' H := by
  unfold CS.frz
  cases e : σD[i]? with
  | none => exact ⟨L, O, R, Later.refl⟩
  | some x =>
    have hset : ∀ y, y = x → σD.set i y = σD := fun y hy => by
      subst hy
      obtain ⟨hi, e'⟩ := List.getElem?_eq_some_iff.mp e
      rw [← e']
      exact List.set_getElem_self hi
    have main : ∀ (a : Addr) (z : Sl), σ[i]? = some (some (.ref a)) → a ∈ O → x.isOwn = true → z.isOwn = false → (∀ L', (∀ b, b ∈ L → b ≠ a → b ∈ L') → a ∉ L' → (∀ b, b ∈ L' → b ∈ L) → SlR L' (O.filter fun b => decide (b ≠ a)) H z (some (.ref a))) →
        ∃ L' O', SR G L' O' (σD.set i z) s σ H ∧ Later G L O H L' O' H := by
      intro a z hσ haO hx hz hzr
      have na0 : a ∉ G.L0 := (R.oL a haO).2
      have mL : ∀ b, b ∈ (L.filter fun b => decide (b ≠ a)) ↔ b ∈ L ∧ b ≠ a := fun b => by simp
      have mO : ∀ b, b ∈ (O.filter fun b => decide (b ≠ a)) ↔ b ∈ O ∧ b ≠ a := fun b => by simp
      have sm : Same (wo H L) (wo H (L.filter fun b => decide (b ≠ a))) := same_wo_sub fun b o _ h1 h2 => h1 ((mL b).mp h2).1
      have hi : i < σD.length := (List.getElem?_eq_some_iff.mp e).1
      refine ⟨L.filter fun b => decide (b ≠ a), O.filter fun b => decide (b ≠ a), ⟨fun b hb => (mL b).mpr ⟨R.l0 b hb, fun z => na0 (z ▸ hb)⟩, fun b hb => ?_, fun b hb => R.nt b ((mL b).mp hb).1, R.ok, fun j y ey => ?_, fun j k y y' b e1 e2 o1 o2 q1 q2 => ?_⟩, ⟨fun _ _ _ _ q => q, fun b o h _ z => h ((mL b).mp z).1, fun b h1 h2 => (mL b).mpr ⟨h1, fun z => h2 (z ▸ haO)⟩, fun b o _ h => ((mO b).mp h).1⟩⟩
      · obtain ⟨h1, h2⟩ := (mO b).mp hb
        exact ⟨(mL b).mpr ⟨(R.oL b h1).1, h2⟩, (R.oL b h1).2⟩
      · by_cases hj : i = j
        · subst hj
          rw [List.getElem?_set_self hi] at ey
          cases ey
          exact ⟨_, hσ, hzr _ (fun b h1 h2 => (mL b).mpr ⟨h1, h2⟩) (fun h => ((mL a).mp h).2 rfl) fun b h => ((mL b).mp h).1⟩
        · rw [List.getElem?_set_ne hj] at ey
          obtain ⟨o, h1, h2⟩ := R.sl j y ey
          refine ⟨o, h1, ?_⟩
          cases y with
          | non => trivial
          | w y => obtain ⟨v, z1, z2⟩ := h2; exact ⟨v, z1, z2.same sm⟩
          | own es =>
            obtain ⟨b, us, z1, z2, z3, z4⟩ := h2
            refine ⟨b, us, z1, (mO b).mpr ⟨z2, fun z => ?_⟩, z3, dqAll_same sm _ _ z4⟩
            subst z
            rw [z1] at h1
            exact hj (R.df i j x (.own es) b e ey hx rfl hσ h1)
          | odc es =>
            obtain ⟨b, us, z1, z2, z3, z4⟩ := h2
            refine ⟨b, us, z1, (mO b).mpr ⟨z2, fun z => ?_⟩, z3, z4.same sm⟩
            subst z
            rw [z1] at h1
            exact hj (R.df i j x (.odc es) b e ey hx rfl hσ h1)
      · have n1 : i ≠ j := fun z' => by
          subst z'
          rw [List.getElem?_set_self hi] at e1
          cases e1
          rw [hz] at o1
          cases o1
        have n2 : i ≠ k := fun z' => by
          subst z'
          rw [List.getElem?_set_self hi] at e2
          cases e2
          rw [hz] at o2
          cases o2
        rw [List.getElem?_set_ne n1] at e1
        rw [List.getElem?_set_ne n2] at e2
        exact R.df j k y y' b e1 e2 o1 o2 q1 q2
    cases x with
    | non => exact ⟨L, O, by dsimp only [frzS]; rw [hset _ rfl]; exact R, Later.refl⟩
    | w y => exact ⟨L, O, by dsimp only [frzS]; rw [hset _ rfl]; exact R, Later.refl⟩
    | own ds =>
      obtain ⟨o, h1, a, vs, rfl, h3, h4, h5⟩ := R.sl i _ e
      refine main a (.w (.d (.list ds))) h1 h3 rfl rfl fun L' g1 g2 g3 => ⟨.ref a, rfl, .lst (wo_of h4 g2) (dqAll_same (same_wo_sub fun b o _ z1 z2 => z1 (g3 b z2)) _ _ h5)⟩
    | odc kvs =>
      obtain ⟨o, h1, a, ks, rfl, h3, h4, h5⟩ := R.sl i _ e
      refine main a (.w (.dic kvs)) h1 h3 rfl rfl fun L' g1 g2 g3 => ⟨.ref a, rfl, a, ks, rfl, .inl (wo_of h4 g2), h5.same (same_wo_sub fun b o _ z1 z2 => z1 (g3 b z2))⟩
theorem ss_frz (i : Nat) {ts : TS} {g : List Sl → G.S → Fl G.S} (h : SSm G E ts g) : SSm G E ts (fun σ s => g (frz i σ) s) := fun L O σD s σ H D R hw => by
  obtain ⟨L', O', R', la⟩ := R.frz i
  exact h L' O' _ s σ H D R' (WantS.later R R' la hw)
/-- return of an own list -/
def sRetL {S : Type} (i : Nat) : List Sl → S → Fl S := fun σ s => match σ[i]? with
  | some (.own ds) => .rl ds s
  | _ => .stuck
theorem ss_retL {i : Nat} : SSm G E (tRet (tVar i)) (sRetL i) := fun L O σD s σ H D R hw => by
  unfold sRetL at hw
  cases e : σD[i]? with
  | none => rw [e] at hw; exact hw.elim
  | some x =>
    rw [e] at hw
    cases x with
    | own ds =>
      obtain ⟨o, h1, a, vs, rfl, h3, h4, h5⟩ := R.sl i _ e
      exact ⟨_, h1, hw L O a vs H Later.refl R.ok h3 (fun b hb => (R.oL b hb).1) h4 h5⟩
    | non => exact hw.elim
    | w _ => exact hw.elim
    | odc _ => exact hw.elim

/-! ### an own object is changed -/
theorem SR.change (R : SR G L O σD s σ H) {i : Nat} {a : Addr} {x z : Sl} {o u : HO} (e : σD[i]? = some x) (hx : x.isOwn = true) (hz : z.isOwn = true) (hσ : σ[i]? = some (some (.ref a))) (ha : a ∈ O) (hu : H a = some u) (hf : fixO u = false) (hzr : SlR L O (upd H a o) z (some (.ref a))) :
    SR G L O (σD.set i z) s σ (upd H a o) where
  l0 := R.l0
  oL := R.oL
  nt := fun b h => by
    by_cases e : b = a
    · subst e
      cases z with
      | own ds => obtain ⟨p, vs, q1, _, q3, _⟩ := hzr; cases q1; rw [q3]; exact .lst
      | odc ds => obtain ⟨p, vs, q1, _, q3, _⟩ := hzr; cases q1; rw [q3]; exact .dT
      | non => cases hz
      | w _ => cases hz
    · rw [upd_ne e]; exact R.nt b h
  ok := ok_mut R (R.oL a ha).2 hu hf
  sl := fun j y ey => by
    have hi : i < σD.length := (List.getElem?_eq_some_iff.mp e).1
    by_cases hj : i = j
    · subst hj
      rw [List.getElem?_set_self hi] at ey
      cases ey
      exact ⟨_, hσ, hzr⟩
    · rw [List.getElem?_set_ne hj] at ey
      obtain ⟨w, h1, h2⟩ := R.sl j y ey
      refine ⟨w, h1, ?_⟩
      have sm : Same (wo H L) (wo (upd H a o) L) := wo_mut (R.oL a ha).1
      cases y with
      | non => trivial
      | w y => obtain ⟨v, z1, z2⟩ := h2; exact ⟨v, z1, z2.same sm⟩
      | own es =>
        obtain ⟨b, us, z1, z2, z3, z4⟩ := h2
        refine ⟨b, us, z1, z2, ?_, dqAll_same sm _ _ z4⟩
        rw [upd_ne fun q => ?_]
        · exact z3
        · subst q; rw [z1] at h1; exact hj (R.df i j x (.own es) b e ey hx rfl hσ h1)
      | odc es =>
        obtain ⟨b, us, z1, z2, z3, z4⟩ := h2
        refine ⟨b, us, z1, z2, ?_, z4.same sm⟩
        rw [upd_ne fun q => ?_]
        · exact z3
        · subst q; rw [z1] at h1; exact hj (R.df i j x (.odc es) b e ey hx rfl hσ h1)
  df := fun j k y y' b e1 e2 o1 o2 q1 q2 => by
    have hi : i < σD.length := (List.getElem?_eq_some_iff.mp e).1
    have back : ∀ {j : Nat} {y : Sl}, (σD.set i z)[j]? = some y → y.isOwn = true → ∃ y', σD[j]? = some y' ∧ y'.isOwn = true := fun {j y} ej oj => by
      by_cases hj : i = j
      · subst hj; exact ⟨x, e, hx⟩
      · rw [List.getElem?_set_ne hj] at ej; exact ⟨y, ej, oj⟩
    obtain ⟨y1, g1, g2⟩ := back e1 o1
    obtain ⟨y2, g3, g4⟩ := back e2 o2
    exact R.df j k y1 y2 b g1 g3 g2 g4 q1 q2
theorem later_mut {a : Addr} {o : HO} (ha : a ∈ O) : Later G L O H L O (upd H a o) := ⟨fun b u _ h q => by rw [upd_ne (show b ≠ a from fun z => h (by rw [z]; exact ha))]; exact q, fun _ _ h _ => h, fun _ h _ => h, fun _ _ _ h => h⟩
/-- x.append(e) -/
def sApp {S : Type} (i : Nat) (f : List Sl → S → Rs S W) : List Sl → S → Fl S := fun σ s => match σ[i]? with
  | some (.own ds) => match f σ s with
    | .ok (.d d) s1 => if ds.length < 1000000 then .nx (σ.set i (.own (ds ++ [d]))) s1 else .stuck
    | .exc c s1 => .exc c s1
    | _ => .stuck
  | _ => .stuck
theorem ss_app {K : PySem.W.Frag} {i : Nat} {te : TE} {f : List Sl → G.S → Rs G.S W} (h : Sm G E te f) : SSm G E (tDrop (tBM K "list" rAppend (tVar i) (tCons te tNil))) (sApp i f) := fun L O σD s σ H D R hw => by
  unfold sApp at hw
  cases e : σD[i]? with
  | none => rw [e] at hw; exact hw.elim
  | some x =>
    rw [e] at hw
    cases x with
    | non => exact hw.elim
    | w _ => exact hw.elim
    | odc _ => exact hw.elim
    | own ds =>
      obtain ⟨o, h1, a, vs, rfl, h3, h4, h5⟩ := R.sl i _ e
      refine ⟨_, h1, .inl ⟨rfl, vs, .of h4⟩, h L O σD s σ H _ R ?_⟩
      dsimp only at hw
      cases ef : f σD s with
      | exc c s1 => rw [ef] at hw; exact fun H1 st ok1 => hw L O H1 (Later.of_stp st) ok1
      | stuck => rw [ef] at hw; exact hw
      | ok w s1 =>
        rw [ef] at hw
        intro y H1 st ok1 wr
        cases w with
        | ref _ => exact hw.elim
        | dic _ => exact hw.elim
        | d d =>
          dsimp only at hw
          by_cases hl : ds.length < 1000000
          · rw [if_pos hl] at hw
            have R1 := R.step st ok1
            have h41 : H1 a = some (.lst vs) := st a _ (R.oL a h3).2 h4
            have sm : Same (wo H1 L) (wo (upd H1 a (.lst (vs ++ [y]))) L) := wo_mut (R.oL a h3).1
            refine ⟨a, vs, y, rfl, rfl, h41, szl (by rw [h5.length]; exact hl), hw L O σ _ ((R.trans R1 (Later.of_stp st)) (later_mut h3)) ?_⟩
            exact R1.change e rfl rfl h1 h3 h41 rfl ⟨a, vs ++ [y], rfl, h3, upd_same, (dqAll_same sm _ _ (dqAll_same (stp_wo R.l0 st) _ _ h5)).append (.cons (dq_same sm _ _ wr) .nil)⟩
          · rw [if_neg hl] at hw; exact hw.elim
/-- x[j] = e -/
def sSetO {S : Type} (i : Nat) (fj f : List Sl → S → Rs S W) : List Sl → S → Fl S := fun σ s => match σ[i]? with
  | some (.own ds) => match f σ s with
    | .ok (.d d) s1 => match fj σ s1 with
      | .ok (.d (.int k)) s2 => match ixN ds.length k with
        | some j => .nx (σ.set i (.own (ds.set j d))) s2
        | none => .stuck
      | .exc c s2 => .exc c s2
      | _ => .stuck
    | .exc c s1 => .exc c s1
    | _ => .stuck
  | _ => .stuck
theorem ss_setO {i : Nat} {te tj : TE} {f fj : List Sl → G.S → Rs G.S W} (h : Sm G E te f) (hj : Sm G E tj fj) : SSm G E (tAsg te (gSub (tVar i) tj rSetL)) (sSetO i fj f) := fun L O σD s σ H D R hw => by
  unfold sSetO at hw
  cases e : σD[i]? with
  | none => rw [e] at hw; exact hw.elim
  | some x =>
    rw [e] at hw
    cases x with
    | non => exact hw.elim
    | w _ => exact hw.elim
    | odc _ => exact hw.elim
    | own ds =>
      obtain ⟨o, h1, a, vs, rfl, h3, h4, h5⟩ := R.sl i _ e
      refine h L O σD s σ H _ R ?_
      dsimp only at hw
      cases ef : f σD s with
      | exc c s1 => rw [ef] at hw; exact fun H1 st ok1 => hw L O H1 (Later.of_stp st) ok1
      | stuck => rw [ef] at hw; exact hw
      | ok w s1 =>
        rw [ef] at hw
        intro y H1 st ok1 wr
        cases w with
        | ref _ => exact hw.elim
        | dic _ => exact hw.elim
        | d d =>
          dsimp only at hw
          have R1 := R.step st ok1
          refine ⟨_, h1, hj L O σD s1 σ H1 _ R1 ?_⟩
          cases ej : fj σD s1 with
          | exc c s2 => rw [ej] at hw; exact fun H2 st2 ok2 => hw L O H2 (Later.of_stp (st.trans st2)) ok2
          | stuck => rw [ej] at hw; exact hw
          | ok w2 s2 =>
            rw [ej] at hw
            intro yj H2 st2 ok2 wr2
            cases w2 with
            | ref _ => exact hw.elim
            | dic _ => exact hw.elim
            | d d2 =>
              cases d2 with
              | int k =>
                dsimp only at hw
                cases ek : ixN ds.length k with
                | none => rw [ek] at hw; exact hw.elim
                | some j =>
                  rw [ek] at hw
                  have R2 := R1.step st2 ok2
                  have st12 := st.trans st2
                  have h42 : H2 a = some (.lst vs) := st12 a _ (R.oL a h3).2 h4
                  have sm : Same (wo H2 L) (wo (upd H2 a (.lst (vs.set j y))) L) := wo_mut (R.oL a h3).1
                  refine ⟨a, vs, k, j, rfl, dq_int wr2, h42, by rw [h5.length]; exact ek, hw L O σ _ ((R.trans R2 (Later.of_stp st12)) (later_mut h3)) ?_⟩
                  exact R2.change e rfl rfl h1 h3 h42 rfl ⟨a, vs.set j y, rfl, h3, upd_same, DqAll.set (dq_same sm _ _ (dq_same (stp_wo R.l0 st2) _ _ wr)) j (dqAll_same sm _ _ (dqAll_same (stp_wo R.l0 st12) _ _ h5))⟩
              | _ => exact hw.elim

/-! ### dicts with tuple keys -/
def keyD : List PyData → Option (List Key)
  | [] => some []
  | .int i :: r => (keyD r).map (Sum.inl i :: ·)
  | .str x :: r => (keyD r).map (Sum.inr x :: ·)
  | _ :: _ => none
theorem keyD_vals {H : Hp} : ∀ {ds : List PyData} {vs : List V} {k : List Key}, keyD ds = some k → DqAll H vs ds → vs = k.map kV
  | [], _, k, h, hv => by cases h; cases hv; rfl
  | .int i :: r, _, k, h, hv => by
    cases e : keyD r with
    | none => rw [keyD, e] at h; cases h
    | some q =>
      rw [keyD, e] at h
      cases h
      cases hv with
      | cons h1 h2 => rw [dq_int h1, keyD_vals e h2]; rfl
  | .str i :: r, _, k, h, hv => by
    cases e : keyD r with
    | none => rw [keyD, e] at h; cases h
    | some q =>
      rw [keyD, e] at h
      cases h
      cases hv with
      | cons h1 h2 => rw [dq_str h1, keyD_vals e h2]; rfl
  | .none :: _, _, _, h, _ => by cases h
  | .bool _ :: _, _, _, h, _ => by cases h
  | .list _ :: _, _, _, h, _ => by cases h
  | .tuple _ :: _, _, _, h, _ => by cases h
  | .dict _ :: _, _, _, h, _ => by cases h
def getD (kvs : List (List Key × PyData)) (k : List Key) : Option PyData := (kvs.find? fun kv => decide (kv.1 = k)).map (·.2)
def putD (kvs : List (List Key × PyData)) (k : List Key) (d : PyData) : List (List Key × PyData) :=
  if (kvs.any fun kv => decide (kv.1 = k)) = true then kvs.map (fun kv => if kv.1 = k then (kv.1, d) else kv) else kvs ++ [(k, d)]
theorem KvR.get {k : List Key} {ks : List (List Key × V)} {kvs : List (List Key × PyData)} (h : KvR H ks kvs) : ∀ {d : PyData}, getD kvs k = some d → ∃ v, valV ks k = some v ∧ Dq H v d := by
  induction h with
  | nil => intro d e; cases e
  | cons h1 h2 ih =>
    rename_i k' v d' r q
    intro d e
    unfold getD at e
    unfold valV
    rw [List.find?_cons] at e ⊢
    by_cases hk : k' = k
    · rw [show decide ((k', d').1 = k) = true from decide_eq_true hk] at e
      rw [show decide ((k', v).1 = k) = true from decide_eq_true hk]
      cases e
      exact ⟨v, rfl, h1⟩
    · rw [show decide ((k', d').1 = k) = false from decide_eq_false hk] at e
      rw [show decide ((k', v).1 = k) = false from decide_eq_false hk]
      exact ih e
theorem KvR.any {k : List Key} {ks : List (List Key × V)} {kvs : List (List Key × PyData)} (h : KvR H ks kvs) : (ks.any fun kv => decide (kv.1 = k)) = kvs.any fun kv => decide (kv.1 = k) := by
  induction h with
  | nil => rfl
  | cons h1 h2 ih => rw [List.any_cons, List.any_cons, ih]
theorem KvR.mapPut {k : List Key} {v : V} {d : PyData} (hv : Dq H v d) {ks : List (List Key × V)} {kvs : List (List Key × PyData)} (h : KvR H ks kvs) : KvR H (ks.map fun kv => if kv.1 = k then (kv.1, v) else kv) (kvs.map fun kv => if kv.1 = k then (kv.1, d) else kv) := by
  induction h with
  | nil => exact .nil
  | cons h1 h2 ih =>
    rename_i k' v' d' r q
    rw [List.map_cons, List.map_cons]
    by_cases hk : k' = k
    · rw [if_pos (show (k', v').1 = k from hk), if_pos (show (k', d').1 = k from hk)]; exact .cons hv ih
    · rw [if_neg (show ¬ (k', v').1 = k from hk), if_neg (show ¬ (k', d').1 = k from hk)]; exact .cons h1 ih
theorem KvR.snoc {k : List Key} {v : V} {d : PyData} (hv : Dq H v d) {ks : List (List Key × V)} {kvs : List (List Key × PyData)} (h : KvR H ks kvs) : KvR H (ks ++ [(k, v)]) (kvs ++ [(k, d)]) := by
  induction h with
  | nil => exact .cons hv .nil
  | cons h1 h2 ih => exact .cons h1 ih
theorem KvR.put {k : List Key} {v : V} {d : PyData} (hv : Dq H v d) {ks : List (List Key × V)} {kvs : List (List Key × PyData)} (h : KvR H ks kvs) : KvR H (putK ks k v) (putD kvs k d) := by
  unfold putK putD
  rw [h.any]
  split
  · exact h.mapPut hv
  · exact h.snoc hv
theorem KvR.length {ks : List (List Key × V)} {kvs : List (List Key × PyData)} (h : KvR H ks kvs) : ks.length = kvs.length := by
  induction h with
  | nil => rfl
  | cons _ _ ih => rw [List.length_cons, List.length_cons, ih]
/-- d[k], d a dict that changes no more -/
def eDGet {S : Type} (fd fk : List Sl → S → Rs S W) : List Sl → S → Rs S W := fun σ s => (fd σ s).bind fun x s => (fk σ s).bind fun y s => match x, y with
  | .dic kvs, .d (.tuple ds) => optR (((keyD ds).bind fun k => getD kvs k).map W.d) s
  | _, _ => .stuck
theorem sm_dget {td ty : TE} {fd fk : List Sl → G.S → Rs G.S W} (hd : Sm G E td fd) (hk : Sm G E ty fk) : Sm G E (tDGet td ty) (eDGet fd fk) := fun L O σD s σ H Q R hw =>
  hd.thenV R hw fun x s1 v H1 e1 R1 wx h1 => hk.thenV R1 h1 fun y s2 u H2 e2 R2 wy h2 => by
    cases x with
    | d _ => exact h2.elim
    | ref _ => exact h2.elim
    | dic kvs =>
      cases y with
      | ref _ => exact h2.elim
      | dic _ => exact h2.elim
      | d d =>
        cases d with
        | tuple ds =>
          obtain ⟨w, ew, hq⟩ := optR_want h2
          cases ek : keyD ds with
          | none => rw [ek] at ew; cases ew
          | some k =>
            rw [ek] at ew
            cases eg : getD kvs k with
            | none =>
              have ew' : (getD kvs k).map W.d = some w := ew
              rw [eg] at ew'; cases ew'
            | some z =>
              have ew' : (getD kvs k).map W.d = some w := ew
              rw [eg] at ew'; cases ew'
              obtain ⟨a, ks, rfl, ha, hr⟩ := WR.same (w := .dic kvs) (stp_wo R.l0 e2) wx
              obtain ⟨b, vs, rfl, hb, hv⟩ := dq_tup wy
              obtain ⟨v', g1, g2⟩ := hr.get eg
              rw [keyD_vals ek hv] at hb
              refine ⟨a, v', rfl, ?_, hq v' H2 Stp.refl R2.ok g2⟩
              rw [← g1]
              exact .inr ⟨ks, k, b, (rd_wo ha).1, rfl, (wo_some hb).1, rfl⟩
        | _ => exact h2.elim
/-- name = {} -/
def sNewD {S : Type} (i : Nat) : List Sl → S → Fl S := fun σ s => .nx (σ.set i (.odc [])) s
theorem ss_newD {i : Nat} : SSm G E (tAsg tDNewT (gName i)) (sNewD i) := fun L O σD s σ H D R hw => by
  intro p hp
  have n1 : p ∉ L := fun z => R.live p z hp
  have n2 : p ∉ O := fun z => n1 (R.oL p z).1
  have n3 : p ∉ G.L0 := fun z => n1 (R.l0 p z)
  have R1 := R.push (o := .dT []) .dT hp
  have R2 := R1.take i (.odc []) List.mem_cons_self n3 n2 ⟨p, [], rfl, List.mem_cons_self, upd_same, .nil⟩ (own_ne R hp)
  refine hw (p :: L) (p :: O) _ _ ⟨fun b o _ _ q => same_new hp b o q, (Later.push (G := G) (O := O) (o := .dT []) hp).out, fun b h _ => List.mem_cons_of_mem _ h, fun b o q z => ?_⟩ R2
  rcases List.mem_cons.mp z with z | z
  · rw [z, hp] at q; cases q
  · exact z
/-- d[k] = v -/
def sPutD {S : Type} (i : Nat) (fk f : List Sl → S → Rs S W) : List Sl → S → Fl S := fun σ s => match σ[i]? with
  | some (.odc kvs) => match f σ s with
    | .ok (.d d) s1 => match fk σ s1 with
      | .ok (.d (.tuple ds)) s2 => match keyD ds with
        | some k => if kvs.length < 1000000 then .nx (σ.set i (.odc (putD kvs k d))) s2 else .stuck
        | none => .stuck
      | .exc c s2 => .exc c s2
      | _ => .stuck
    | .exc c s1 => .exc c s1
    | _ => .stuck
  | _ => .stuck
theorem ss_putD {i : Nat} {ty tv : TE} {f fk : List Sl → G.S → Rs G.S W} (h : Sm G E tv f) (hk : Sm G E ty fk) : SSm G E (sDPut (tVar i) ty tv) (sPutD i fk f) := fun L O σD s σ H D R hw => by
  unfold sPutD at hw
  cases e : σD[i]? with
  | none => rw [e] at hw; exact hw.elim
  | some x =>
    rw [e] at hw
    cases x with
    | non => exact hw.elim
    | w _ => exact hw.elim
    | own _ => exact hw.elim
    | odc kvs =>
      obtain ⟨o, h1, a, ks, rfl, h3, h4, h5⟩ := R.sl i _ e
      refine h L O σD s σ H _ R ?_
      dsimp only at hw
      cases ef : f σD s with
      | exc c s1 => rw [ef] at hw; exact fun H1 st ok1 => hw L O H1 (Later.of_stp st) ok1
      | stuck => rw [ef] at hw; exact hw
      | ok w s1 =>
        rw [ef] at hw
        intro y H1 st ok1 wr
        cases w with
        | ref _ => exact hw.elim
        | dic _ => exact hw.elim
        | d d =>
          dsimp only at hw
          have R1 := R.step st ok1
          refine ⟨_, h1, hk L O σD s1 σ H1 _ R1 ?_⟩
          cases ej : fk σD s1 with
          | exc c s2 => rw [ej] at hw; exact fun H2 st2 ok2 => hw L O H2 (Later.of_stp (st.trans st2)) ok2
          | stuck => rw [ej] at hw; exact hw
          | ok w2 s2 =>
            rw [ej] at hw
            intro yj H2 st2 ok2 wr2
            cases w2 with
            | ref _ => exact hw.elim
            | dic _ => exact hw.elim
            | d d2 =>
              cases d2 with
              | tuple ds =>
                dsimp only at hw
                cases ek : keyD ds with
                | none => rw [ek] at hw; exact hw.elim
                | some k =>
                  rw [ek] at hw
                  dsimp only at hw
                  by_cases hl : kvs.length < 1000000
                  · rw [if_pos hl] at hw
                    have R2 := R1.step st2 ok2
                    have st12 := st.trans st2
                    have h42 : H2 a = some (.dT ks) := st12 a _ (R.oL a h3).2 h4
                    obtain ⟨b, us, rfl, hb, hv⟩ := dq_tup wr2
                    rw [keyD_vals ek hv] at hb
                    have sm : Same (wo H2 L) (wo (upd H2 a (.dT (putK ks k y))) L) := wo_mut (R.oL a h3).1
                    refine ⟨a, _, rfl, DPut.t h42 (wo_some hb).1 (szl (by rw [h5.length]; exact hl)), hw L O σ _ ((R.trans R2 (Later.of_stp st12)) (later_mut h3)) ?_⟩
                    exact R2.change e rfl rfl h1 h3 h42 rfl ⟨a, putK ks k y, rfl, h3, upd_same, ((h5.same (stp_wo R.l0 st12)).same sm).put (dq_same sm _ _ (dq_same (stp_wo R.l0 st2) _ _ wr))⟩
                  · rw [if_neg hl] at hw; exact hw.elim
              | _ => exact hw.elim
end

/-! ### the dice -/
abbrev DiceS := Int × Int
/-- a list of two ints at ad; more: what else the mode keeps -/
theorem tabS_mono {H H' : Hp} {L0 : List Addr} {P : Addr} {q : Str} (hP : P ∈ L0) (h : ∀ a ∈ L0, H' a = H a) (hf : ∀ a o, a ∉ L0 → fixO o = true → H a = some o → H' a = some o) (t : LamX.TabS H P q) : LamX.TabS H' P q := by
  obtain ⟨ps, h1, h2, h3⟩ := t
  refine ⟨ps, by rw [h P hP]; exact h1, h2, fun pos cv hc => ?_⟩
  obtain ⟨c, e1, e2⟩ := h3 pos cv hc
  refine ⟨c, e1, ?_⟩
  by_cases hm : c ∈ L0
  · rw [h c hm]; exact e2
  · exact hf c _ hm rfl e2
def diceG (cl : Nat → Addr) (ad : Addr) (dt : List (Addr × Str)) : Gm where
  cl := cl
  L0 := ad :: dt.map (·.1)
  S := DiceS
  ok := fun s H => H ad = some (.lst [.int s.1, .int s.2]) ∧ LamX.Tabs dt H
  mono := fun s H H' h hf k => ⟨by rw [h ad List.mem_cons_self]; exact k.1, fun p hp => tabS_mono (List.mem_cons_of_mem _ (List.mem_map.mpr ⟨p, hp, rfl⟩)) h hf (k.2 p hp)⟩
  lv := fun s H k a ha => by
    rcases List.mem_cons.mp ha with e | e
    · rw [e, k.1]
      exact .lst
    · obtain ⟨p, hp, e⟩ := List.mem_map.mp e
      obtain ⟨m, h, _⟩ := k.2 p hp
      rw [← e, h]
      exact ⟨_, rfl, fun _ z => by cases z⟩
end CS
/-! Core8: the dice read and thrown; the law's own loop over its rounds -/
namespace CS
open PySem PySem.Spec PyProof.Rows L2
/-! ### exceptions whose context is None -/
theorem passN {X : Cx} : Passes (L2N.CX X.prog X.w) X E0 := fun _ _ _ _ _ _ _ h => by
  obtain ⟨_, _, _, _, _, _, _, _, _, _, _, _, z⟩ := h
  exact z.elim
section
variable {P : Program} {w : World} {K : PySem.W.Frag} {mg : Str → Option Value} {base : Heap}
theorem okN {CX : CXT} {x qual : Str} {st : Stmt} {f : Addr} {fd : FuncData} {N ps : List Str} {k : Nat} {sp : Sp} (F : Fun K x qual st f fd) (S : FnScope N ps (defScope st)) (len : ∀ vs H Q E, sp vs H Q E → vs.length = ps.length)
    (hbody : ∀ (cdv : Value) (A : Around) (outer : List Env) (s : Shared) (H : Hp) (vs : List V) (Q : VK) (E : XK), Room k (A.deeper (envOfC qual (defScope st) s.heap.objs.size f cdv)) → sp vs H Q E →
      ∃ t, PSs (cxOf CX P w K mg base N qual (defScope st) f cdv A outer s H E) (defBody st) t ∧ t { nx := fun _ H' => Q .non H', rt := Q } (L2.start N vs) H) : FnOk P w K mg base CX (k + 1) f fd ps sp := by
  obtain ⟨oc, od, kV, doc, pm, an, cdv, ct, osl, rfl, lk, hcd⟩ := F.ex
  exact fn_of lk hcd S len fun A outer s H vs Q E hr hsp => hbody cdv A outer s H vs Q E hr hsp
/-- a def that never comes to an end is promised nothing -/
theorem ok_stuck {CX : CXT} {k : Nat} {f : Addr} {fd : FuncData} {ps : List Str} {G : Gm} {n : Nat} (hn : ps.length = n) : FnOk P w K mg base CX k f fd ps (spF G (fun _ _ => .stuck) n) :=
  ⟨fun vs H Q E h => h.1.trans hn.symm, fun A outer s H args us vs Q E hr e0 hb r hsp => by
    obtain ⟨_, _, _, _, _, _, _, _, hw⟩ := hsp
    exact hw.elim⟩
end
/-! ### an own list read in its place; fuel -/
def fuelAt (i : Nat) (σ : List Sl) : Nat := match σ[i]? with
  | some (.w (.d (.int b))) => b.natAbs + 1
  | _ => 0
def sFrz {S : Type} (i : Nat) (g : List Sl → S → Fl S) : List Sl → S → Fl S := fun σ s => g (frz i σ) s
section
variable {G : Gm} {E : XK} {K : PySem.W.Frag}
def eIxO {S : Type} (i : Nat) (fj : List Sl → S → Rs S W) : List Sl → S → Rs S W := fun σ s => match σ[i]? with
  | some (.own ds) => (fj σ s).bind fun y s => match y with
    | .d (.int k) => optR ((atI ds k).map W.d) s
    | _ => .stuck
  | some (.w x) => (fj σ s).bind fun y s => optR (lift2 pyIx x y) s
  | _ => .stuck
theorem sm_ixO {i : Nat} {tj : TE} {fj : List Sl → G.S → Rs G.S W} (hj : Sm G E tj fj) : Sm G E (tOp (rIx K) (tVar i) tj) (eIxO i fj) := fun L O σD s σ H Q R h => by
  unfold eIxO at h
  cases e : σD[i]? with
  | none => rw [e] at h; exact h.elim
  | some x =>
    rw [e] at h
    cases x with
    | non => exact h.elim
    | w _ =>
      refine (sm_op rs_ix sm_var hj) L O σD s σ H Q R ?_
      unfold eOp eVar
      rw [e]
      exact h
    | odc _ => exact h.elim
    | own ds =>
      obtain ⟨o, h1, a, vs, rfl, h3, h4, h5⟩ := R.sl i _ e
      refine ⟨_, h1, hj.thenV R h fun y s1 u H1 st R1 wr k => ?_⟩
      cases y with
      | ref _ => exact k.elim
      | dic _ => exact k.elim
      | d d =>
        cases d with
        | int j =>
          obtain ⟨w, ew, hq⟩ := optR_want k
          cases ea : atI ds j with
          | none => rw [ea] at ew; cases ew
          | some z =>
            rw [ea] at ew
            cases ew
            obtain ⟨v, g1, g2⟩ := atI_dq (dqAll_same (stp_wo R.l0 st) _ _ h5) ea
            exact .inl ⟨a, vs, j, v, rfl, dq_int wr, .of (st a _ (R.oL a h3).2 h4), g1, hq v H1 Stp.refl R1.ok g2⟩
        | _ => exact k.elim
def eLenO {S : Type} (i : Nat) : List Sl → S → Rs S W := fun σ s => match σ[i]? with
  | some (.own ds) => .ok (.d (.int ds.length)) s
  | _ => .stuck
theorem sm_lenO {i : Nat} : Sm G E (tCB (rLenU K) (tCons (tVar i) tNil)) (eLenO i) := fun L O σD s σ H Q R h => by
  unfold eLenO at h
  cases e : σD[i]? with
  | none => rw [e] at h; exact h.elim
  | some x =>
    rw [e] at h
    cases x with
    | non => exact h.elim
    | w _ => exact h.elim
    | odc _ => exact h.elim
    | own ds =>
      obtain ⟨o, h1, a, vs, rfl, h3, h4, h5⟩ := R.sl i _ e
      refine ⟨_, h1, .inl ⟨a, vs, rfl, .inl (.of h4), ?_⟩⟩
      rw [h5.length]
      exact h _ H Stp.refl R.ok (.int _)
end
/-! ### a, b = x, y where one of them is a new list that is changed later -/
section
variable {G : Gm} {E : XK}
/-- a list made between H and H1, of no slot yet -/
theorem SR.aside {L O : List Addr} {σD : List Sl} {s s' : G.S} {σ : L2.St} {H H1 : Hp} (R : SR G L O σD s σ H) (st : Stp G H H1) (k : G.ok s' H1) {p : Addr} {o : HO} (ho : NT (some o)) (hp : H p = none) (h1 : H1 p = some o) : SR G (p :: L) O σD s' σ H1 := by
  have sm : Same (wo H L) (wo H1 (p :: L)) := fun b o e => by
    obtain ⟨e1, e2⟩ := wo_some e
    refine wo_of (st b o (fun z => e2 (R.l0 b z)) e1) fun z => ?_
    rcases List.mem_cons.mp z with z | z
    · rw [z, hp] at e1; cases e1
    · exact e2 z
  exact {
    l0 := fun a h => List.mem_cons_of_mem _ (R.l0 a h)
    oL := fun a h => ⟨List.mem_cons_of_mem _ (R.oL a h).1, (R.oL a h).2⟩
    nt := fun a h => by
      rcases List.mem_cons.mp h with e | h
      · rw [e, h1]; exact ho
      · exact (R.step st k).nt a h
    ok := k
    sl := fun j x e => by
      obtain ⟨o, q1, q2⟩ := R.sl j x e
      refine ⟨o, q1, ?_⟩
      cases x with
      | non => trivial
      | w x => obtain ⟨v, z1, z2⟩ := q2; exact ⟨v, z1, z2.same sm⟩
      | own es => obtain ⟨a, us, z1, z2, z3, z4⟩ := q2; exact ⟨a, us, z1, z2, st a _ (R.oL a z2).2 z3, dqAll_same sm _ _ z4⟩
      | odc es => obtain ⟨a, us, z1, z2, z3, z4⟩ := q2; exact ⟨a, us, z1, z2, st a _ (R.oL a z2).2 z3, z4.same sm⟩
    df := R.df }
def sParO {S : Type} (i j : Nat) (fa fb : List Sl → S → Rs S W) : List Sl → S → Fl S := fun σ s => match fa σ s with
  | .ok (.d (.list ds)) s1 => match fb σ s1 with
    | .ok y s2 => .nx ((σ.set j (.w y)).set i (.own ds)) s2
    | .exc c s2 => .exc c s2
    | .stuck => .stuck
  | .exc c s1 => .exc c s1
  | _ => .stuck
theorem ss_parO {i j : Nat} (hij : i ≠ j) {ta tb : TE} {fa fb : List Sl → G.S → Rs G.S W} (ha : SmL G E ta fa) (hb : Sm G E tb fb) : SSm G E (tPar i j (tCons ta (tCons tb tNil))) (sParO i j fa fb) := fun L O σD s σ H D R hw => by
  unfold sParO at hw
  refine ha L O σD s σ H _ R ?_
  cases ea : fa σD s with
  | exc c s1 => rw [ea] at hw; exact fun H1 st ok1 => hw L O H1 (Later.of_stp st) ok1
  | stuck => rw [ea] at hw; exact hw
  | ok w s1 =>
    rw [ea] at hw
    cases w with
    | ref _ => exact hw.elim
    | dic _ => exact hw.elim
    | d d =>
      cases d with
      | list ds =>
        intro p vs H1 st hp ok1 h1 hd
        have R1 := R.aside st ok1 .lst hp h1
        dsimp only at hw
        refine hb (p :: L) O σD s1 σ H1 _ R1 ?_
        obtain ⟨n1, n2, n3⟩ := stp_none R st ok1 hp h1
        cases eb : fb σD s1 with
        | exc c s2 => rw [eb] at hw; exact fun H2 st2 ok2 => hw L O H2 (Later.of_stp (st.trans st2)) ok2
        | stuck => rw [eb] at hw; exact hw
        | ok y s2 =>
          rw [eb] at hw
          intro u H2 st2 ok2 wy
          have R2 := R1.step st2 ok2
          have h2 : H2 p = some (.lst vs) := st2 p _ n3 h1
          have R3 := R2.set j wy
          have hn : ∀ (k : Nat) (z : Sl), (σD.set j (.w y))[k]? = some z → z.isOwn = true → (σ.set j (some u))[k]? ≠ some (some (.ref p)) := fun k z hk hz => by
            by_cases hjk : j = k
            · subst hjk
              have hi : j < σD.length := by
                have := (List.getElem?_eq_some_iff.mp hk).1
                rwa [List.length_set] at this
              rw [List.getElem?_set_self hi] at hk
              cases hk
              cases hz
            · rw [List.getElem?_set_ne hjk] at hk ⊢
              exact own_ne R hp k z hk hz
          have R4 := R3.take i (.own ds) List.mem_cons_self n3 n2 ⟨p, vs, rfl, List.mem_cons_self, h2, dqAll_same (stp_wo R1.l0 st2) _ _ hd⟩ hn
          refine ⟨_, _, rfl, ?_⟩
          rw [List.set_comm _ _ hij]
          refine hw (p :: L) (p :: O) _ H2 ⟨fun b o h0 _ q => (st.trans st2) b o h0 q, fun b o h q z => ?_, fun b h _ => List.mem_cons_of_mem _ h, fun b o q z => ?_⟩ R4
          · rcases List.mem_cons.mp z with z | z
            · rw [z, hp] at q; cases q
            · exact h z
          · rcases List.mem_cons.mp z with z | z
            · rw [z, hp] at q; cases q
            · exact z
      | _ => exact hw.elim
def sParO2 {S : Type} (i j : Nat) (fa fb : List Sl → S → Rs S W) : List Sl → S → Fl S := fun σ s => match fa σ s with
  | .ok x s1 => match fb σ s1 with
    | .ok (.d (.list ds)) s2 => .nx ((σ.set i (.w x)).set j (.own ds)) s2
    | .exc c s2 => .exc c s2
    | _ => .stuck
  | .exc c s1 => .exc c s1
  | .stuck => .stuck
theorem ss_parO2 {i j : Nat} {ta tb : TE} {fa fb : List Sl → G.S → Rs G.S W} (ha : Sm G E ta fa) (hb : SmL G E tb fb) : SSm G E (tPar i j (tCons ta (tCons tb tNil))) (sParO2 i j fa fb) := fun L O σD s σ H D R hw => by
  unfold sParO2 at hw
  refine ha L O σD s σ H _ R ?_
  cases ea : fa σD s with
  | exc c s1 => rw [ea] at hw; exact fun H1 st ok1 => hw L O H1 (Later.of_stp st) ok1
  | stuck => rw [ea] at hw; exact hw
  | ok x s1 =>
    rw [ea] at hw
    intro v H1 st ok1 wx
    have R1 := R.step st ok1
    dsimp only at hw
    refine hb L O σD s1 σ H1 _ R1 ?_
    cases eb : fb σD s1 with
    | exc c s2 => rw [eb] at hw; exact fun H2 st2 ok2 => hw L O H2 (Later.of_stp (st.trans st2)) ok2
    | stuck => rw [eb] at hw; exact hw
    | ok w s2 =>
      rw [eb] at hw
      cases w with
      | ref _ => exact hw.elim
      | dic _ => exact hw.elim
      | d d =>
        cases d with
        | list ds =>
          intro p vs H2 st2 hp ok2 h2 hd
          obtain ⟨R2, la⟩ := (R1.set i wx).mine st2 ok2 hp h2 hd j
          exact ⟨_, _, rfl, hw _ _ _ H2 (R.trans (R1.set i wx) (Later.of_stp st) la) R2⟩
        | _ => exact hw.elim
end
/-! ### the dice: d[0], d[1] -/
section
variable {cl : Nat → Addr} {da : Addr} {dt : List (Addr × Str)} {E : XK} {K : PySem.W.Frag}
def dieAt (k : Bool) (s : DiceS) : Int := if k then s.2 else s.1
def dieIx (k : Bool) : Int := if k then 1 else 0
def dieSet (k : Bool) (v : Int) (s : DiceS) : DiceS := if k then (s.1, v) else (v, s.2)
def eDie (da : Addr) (i : Nat) (k : Bool) : List Sl → DiceS → Rs DiceS W := fun σ s => match σ[i]? with
  | some (.w (.ref a)) => if a = da then .ok (.d (.int (dieAt k s))) s else .stuck
  | _ => .stuck
theorem sm_die {i : Nat} {k : Bool} : Sm (diceG cl da dt) E (tOp (rIx K) (tVar i) (tC (.int (dieIx k)))) (eDie da i k) := fun L O σD s σ H Q R h => by
  unfold eDie at h
  cases e : σD[i]? with
  | none => rw [e] at h; exact h.elim
  | some x =>
    rw [e] at h
    cases x with
    | non => exact h.elim
    | own _ => exact h.elim
    | odc _ => exact h.elim
    | w x =>
      cases x with
      | d _ => exact h.elim
      | dic _ => exact h.elim
      | ref a =>
        dsimp only at h
        by_cases ha : a = da
        · rw [if_pos ha] at h
          subst ha
          obtain ⟨o, h1, v, h2, h3⟩ := R.sl i _ e
          subst h2
          have hv : v = .ref a := h3
          subst hv
          have hk : H a = some (.lst [.int s.1, .int s.2]) := R.ok.1
          refine ⟨.ref a, h1, .inl ⟨a, [.int s.1, .int s.2], dieIx k, .int (dieAt k s), rfl, rfl, .of hk, ?_, h _ H Stp.refl R.ok (.int _)⟩⟩
          cases k <;> rfl
        · rw [if_neg ha] at h; exact h.elim
def sDie (da : Addr) (i : Nat) (k : Bool) (f : List Sl → DiceS → Rs DiceS W) : List Sl → DiceS → Fl DiceS := fun σ s => match f σ s with
  | .ok (.d (.int v)) s1 => match σ[i]? with
    | some (.w (.ref a)) => if a = da then .nx σ (dieSet k v s1) else .stuck
    | _ => .stuck
  | .exc c s1 => .exc c s1
  | _ => .stuck
theorem ss_die {i : Nat} {k : Bool} {te : TE} {f : List Sl → DiceS → Rs DiceS W} (hf : Sm (diceG cl da dt) E te f) : SSm (diceG cl da dt) E (tAsg te (gSub (tVar i) (tC (.int (dieIx k))) rSetL)) (sDie da i k f) := fun L O σD s σ H D R hw => by
  unfold sDie at hw
  refine hf L O σD s σ H _ R ?_
  cases ef : f σD s with
  | exc c s1 => rw [ef] at hw; exact fun H1 st ok1 => hw L O H1 (Later.of_stp st) ok1
  | stuck => rw [ef] at hw; exact hw
  | ok w s1 =>
    rw [ef] at hw
    intro y H1 st ok1 wr
    cases w with
    | ref _ => exact hw.elim
    | dic _ => exact hw.elim
    | d d =>
      cases d with
      | int v =>
        dsimp only at hw
        have hy : y = .int v := dq_int wr
        subst hy
        cases e : σD[i]? with
        | none => rw [e] at hw; exact hw.elim
        | some x =>
          rw [e] at hw
          cases x with
          | non => exact hw.elim
          | own _ => exact hw.elim
          | odc _ => exact hw.elim
          | w x =>
            cases x with
            | d _ => exact hw.elim
            | dic _ => exact hw.elim
            | ref a =>
              dsimp only at hw
              by_cases ha : a = da
              · rw [if_pos ha] at hw
                subst ha
                have R1 := R.step st ok1
                obtain ⟨o, h1, v', h2, h3⟩ := R1.sl i _ e
                subst h2
                have hv : v' = .ref a := h3
                subst hv
                have hk : H1 a = some (.lst [.int s1.1, .int s1.2]) := R1.ok.1
                have hL : a ∈ L := R.l0 a List.mem_cons_self
                have hO : a ∉ O := fun z => (R.oL a z).2 List.mem_cons_self
                refine ⟨_, h1, a, [.int s1.1, .int s1.2], dieIx k, (if k then 1 else 0), rfl, rfl, hk, ?_, ?_⟩
                · cases k <;> rfl
                · have sm : Same (wo H1 L) (wo (upd H1 a (.lst ([V.int s1.1, .int s1.2].set (if k = true then 1 else 0) (.int v)))) L) := wo_mut hL
                  refine hw L O σ _ ⟨fun b u h0 _ q => ?_, fun _ _ h _ => h, fun _ h _ => h, fun _ _ _ h => h⟩ ⟨R.l0, R.oL, fun b hb => ?_, ?_, fun j x ex => ?_, R1.df⟩
                  · rw [upd_ne (show b ≠ a from fun z => h0 (by rw [z]; exact List.mem_cons_self))]
                    exact st b u h0 q
                  · by_cases eb : b = a
                    · rw [eb, upd_same]; exact .lst
                    · rw [upd_ne eb]; exact R1.nt b hb
                  · refine ⟨?_, fun t ht => ?_⟩
                    · show (upd H1 a (.lst ([V.int s1.1, .int s1.2].set (if k = true then 1 else 0) (.int v)))) a = some (.lst [.int (dieSet k v s1).1, .int (dieSet k v s1).2])
                      rw [upd_same]
                      cases k <;> rfl
                    · obtain ⟨m, hm, t2, t3⟩ := R1.ok.2 t ht
                      have up : ∀ b o, (∀ xs, o ≠ .lst xs) → H1 b = some o → (upd H1 a (.lst ([V.int s1.1, .int s1.2].set (if k = true then 1 else 0) (.int v)))) b = some o := fun b o no e => by
                        rw [upd_ne (show b ≠ a from fun z => by rw [z, hk] at e; exact no _ (Option.some.inj e).symm)]
                        exact e
                      refine ⟨m, up _ _ (fun _ z => by cases z) hm, t2, fun pos cv hc => ?_⟩
                      obtain ⟨c, e1, e2⟩ := t3 pos cv hc
                      exact ⟨c, e1, up _ _ (fun _ z => by cases z) e2⟩
                  · obtain ⟨o, g1, g2⟩ := R1.sl j x ex
                    refine ⟨o, g1, ?_⟩
                    cases x with
                    | non => trivial
                    | w x => obtain ⟨v, z1, z2⟩ := g2; exact ⟨v, z1, z2.same sm⟩
                    | own es => obtain ⟨b, us, z1, z2, z3, z4⟩ := g2; exact ⟨b, us, z1, z2, by rw [upd_ne (show b ≠ a from fun z => hO (by rw [← z]; exact z2))]; exact z3, dqAll_same sm _ _ z4⟩
                    | odc es => obtain ⟨b, us, z1, z2, z3, z4⟩ := g2; exact ⟨b, us, z1, z2, by rw [upd_ne (show b ≠ a from fun z => hO (by rw [← z]; exact z2))]; exact z3, z4.same sm⟩
              · rw [if_neg ha] at hw; exact hw.elim
      | _ => exact hw.elim
end
end CS
/-! Core9: enumerate, sum, max of tuples -/
namespace CS
open PySem PySem.Spec PyProof.Rows L2
open AutoSeq1 (wpAny_loadPart')
/-! ### enumerate(t) -/
theorem meets_enum1 {v : Value} {o : Obj} {H : Heap → Prop} (B : Begins v o H) :
    Meets (Builtin.«enumerate.__new__» ⟨[.type "enumerate", v], []⟩) (fun _ R s => H s.heap ∧
      R (.ok (.ret (.ref (s.heap.push o).objs.size))) { s with heap := (s.heap.push o).push { cls := .type "enumerate", data := .fields #[.none, .bool false, .ref s.heap.objs.size, rawInt 0, .none, .none] } }) :=
  .of_wp fun prog w A R s h => by
    obtain ⟨hp, g, d, tk, os⟩ := s; obtain ⟨h1, h⟩ := h
    have hsub := sub_enumerate
    have q1 : ∀ {A' : Around} {E : Value → Shared → Prop} {Q : Value → Shared → Prop}, Q (.ref hp.objs.size) ⟨hp.push o, g, d, tk, os⟩ → wpAny (model prog w) A' (pyIter v) Q E ⟨hp, g, d, tk, os⟩ :=
      fun q => B.iter prog w _ _ ⟨hp, g, d, tk, os⟩ _ h1 q
    wp_walk using q1
    refine wpAny_stack_any fun st => wpAny_pure ?_
    split
    · rename_i c _ _ _ _ _
      cases (c == Value.type "enumerate")
      · wp_walk using q1
        exact ⟨_, rfl, h⟩
      · wp_walk using q1
        exact ⟨_, rfl, h⟩
    · wp_walk using q1
      exact ⟨_, rfl, h⟩
section
variable {prog : Program} {w : World} {A : Around} {E : Value → Shared → Prop} {s : Shared}
theorem enum1_begins {v : Value} {o : Obj} {H : Heap → Prop} {Q : Value → Shared → Prop} (B : Begins v o H) (h1 : H s.heap)
    (h : ∀ h', IsEnum h' (s.heap.objs.size + 1) s.heap.objs.size 0 .none → h'.get? s.heap.objs.size = some o → h'.objs.size = s.heap.objs.size + 2 →
      (∀ b o, s.heap.get? b = some o → h'.get? b = some o) → Q (.ref (s.heap.objs.size + 1)) { s with heap := h' }) :
    wpAny (model prog w) A (call (.type "enumerate") [v]) Q E s := by
  refine callType_new F.called_enumerate (by decide) (F.typeCall_enumerate_1 _) (F.newCall_enumerate_1 _) (fun obj => F.args_object_init_2 obj _) F.entry_enumerate_new
    (meets_enum1 B) ⟨h1, ?_⟩
  have hz : (s.heap.push o).objs.size = s.heap.objs.size + 1 := Heap.size_push ..
  show _ ∧ _
  rw [hz]
  have he : IsEnum ((s.heap.push o).push { cls := .type "enumerate", data := .fields #[.none, .bool false, .ref s.heap.objs.size, rawInt 0, .none, .none] }) (s.heap.objs.size + 1) s.heap.objs.size 0 .none := by
    have := Heap.get?_push_size (s.heap.push o) (o := { cls := .type "enumerate", data := .fields #[.none, .bool false, .ref s.heap.objs.size, rawInt 0, .none, .none] }) rfl
    rw [hz] at this; exact this
  exact ⟨⟨_, he, rfl⟩, h _ he (Heap.get?_push_of_some _ (Heap.get?_push_size _ B.free)) (by rw [Heap.size_push, hz]) fun b o x => Heap.get?_push_of_some _ (Heap.get?_push_of_some _ x)⟩
end
/-- the items of the tuple at a, each in a new pair -/
def ItU (K : PySem.W.Frag) (a : Addr) : It :=
  ⟨fun i H => ∃ (xs : List V) (x : V), SqT K H a xs ∧ xs[i]? = some x, fun i H v H' => ∃ T x, v = .ref T ∧ H T = none ∧ H' = upd H T (.tup [.int (i : Nat), x]) ∧ ∀ xs, SqT K H a xs → xs[i]? = some x, fun i H => ∃ xs : List V, SqT K H a xs ∧ xs.length ≤ i⟩
theorem turn_enumU {P : Program} {w : World} {K : PySem.W.Frag} {elts : List Expr} {kk : Nat} {tpos : Pos} (a e it : Addr) (hai : a ≠ it) (hae : a ≠ e) :
    Turn P w K (.Tuple elts kk tpos) (ItU K a) [e, it] e (fun i h => (∃ old, IsEnum h e it ((i : Nat) : Int) old) ∧ h.IsTupleIter it a i ∧ e ≠ it) where
  mem := by simp
  obj := fun i h st b hb => by
    obtain ⟨⟨old, he⟩, ⟨o, ho, hc, hd⟩, _⟩ := st
    rcases (show b = e ∨ b = it by simpa using hb) with z | z
    · rw [z]; exact ⟨_, he, fun v q => nomatch q⟩
    · rw [z]; exact ⟨o, ho, fun v q => by rw [hd] at q; cases q⟩
  keep := fun i h h' st k => let ⟨⟨old, he⟩, hi, hne⟩ := st; ⟨⟨old, k e (by simp) _ he⟩, hi.at fun o q => k it (by simp) o q, hne⟩
  item := by
    intro X hP hw hK hc i pins s σ H E I hf st hg
    subst hP hw hK
    obtain ⟨⟨old, he⟩, hit, hne⟩ := st
    obtain ⟨xs, x, hq, hx⟩ := hg
    obtain ⟨its, rv, p, hz⟩ := I.tuple hq
    obtain ⟨u, hu, ru⟩ := rv.get hx
    have hel : e < s.heap.objs.size := Heap.lt_size he
    have hil : it < s.heap.objs.size := by obtain ⟨_, q, _⟩ := hit; exact Heap.lt_size q
    have hlt : i < its.toArray.size := by
      have := (List.getElem?_eq_some_iff.mp hu).1
      simpa using this
    refine wpAny_pyNext_enum_itemD (Draws.tuple (A := X.A.in1) (show X.A.in1.handled = none from I.ok.hd hc) it a hai its.toArray) he ⟨hit, p⟩ hlt hne (fun z => ?_) fun y h' tk hy ho hst' hT hsz hk => ?_
    · rcases (show e = it ∨ e = a by simpa using z) with z | z
      · exact hne z
      · exact hae z.symm
    · have ey : u = y := by
        have hy' : its[i]? = some y := by simpa using hy
        rw [hu] at hy'
        exact Option.some.inj hy'
      subst ey
      refine ⟨_, rfl, wpAny_letOwnedTupleGo_enum (s := { s with heap := h', toks := tk + 1 }) ho fun h'' he' sb => ?_⟩
      have hT2 : h''.get? s.heap.objs.size = some { cls := .type "tuple", data := .seq #[.int i tk, u] } := (sb.2 _ (Nat.ne_of_gt hel)).trans hT
      have new : ObjOk X.prog X.w (upd H s.heap.objs.size (.tup [.int (i : Nat), x])) h'' s.heap.objs.size (.tup [.int (i : Nat), x]) :=
        ⟨by show 2 ≤ sizeLine; decide, [.int i tk, u], .cons ⟨_, rfl⟩ (.cons ru .nil), ⟨_, hT2, rfl, _, rfl⟩⟩
      have I1 : Inv X pins σ (upd H s.heap.objs.size (.tup [.int (i : Nat), x])) { s with heap := h'', toks := tk + 1 } :=
        I.turnedNew (ch := [e, it]) (fun b ob hb q => (sb.2 b (fun z => hb (by simp [z]))).trans (hk b ob (fun z => hb (by simp [z])) (fun z => hb (by simp [z])) q)) hf (Nat.le_refl _) new
      refine ⟨.ref s.heap.objs.size, _, I1, rfl, ⟨_, x, rfl, I.hok.fresh (Nat.le_refl _), rfl, fun ys hy => by rw [I.tuple_inj hy hq]; exact hx⟩, ⟨⟨u, ?_⟩, hst'.1.at fun o q => (sb.2 it (Ne.symm hne)).trans q, hne⟩, fun b hb => ?_⟩
      · have e1 : ((i + 1 : Nat) : Int) = (i : Int) + 1 := by omega
        rw [e1]; exact he'
      · have hb' : b < s.heap.objs.size := by
          rcases (show b = e ∨ b = it by simpa using hb) with z | z
          · rw [z]; exact hel
          · rw [z]; exact hil
        rw [upd_ne (Nat.ne_of_lt hb')]
        exact (hf b hb).1
  done := by
    intro X hP hw hK hc i pins s σ H E I hf st hg
    subst hP hw hK
    obtain ⟨⟨old, he⟩, hit, hne⟩ := st
    obtain ⟨xs, hq, hx⟩ := hg
    obtain ⟨its, rv, p, hz⟩ := I.tuple hq
    obtain ⟨f0, f1, f2, f3, f4, f5⟩ := hf it (by simp)
    have hl := rv.length
    have hT : s.TypeIs (.ref e) "enumerate" := ⟨_, he, rfl⟩
    unfold pyNext
    refine wpAny_bind (wpAny_attempt (wpAny_callSpecial?_slot (name := Str.ofString "__next__") hT F.slot_enumerate_next
      (wpAny_call_entry F.slot_enumerate_next hT F.entry_enumerate_next ?_ (F.args_enumerate_next_1 _))))
    show wpAny _ _ (field (.ref e) 2 >>= _) _ _ _
    refine wpAny_bind (wpAny_field he rfl (x := .ref it) rfl ?_)
    refine wpAny_bind (wpAny_nextOf_tuple_end (show X.A.in1.handled = none from I.ok.hd hc) hit p (by simp; omega) fun h' x he' hx' => ?_)
    obtain ⟨o, ho, hc'⟩ := hx'
    refine wpAny_bind (wpAny_isInstance (T := "StopIteration") (b := true) ⟨o, ho, hc'⟩ isSubtype_stop ?_)
    exact wpAny_pure ⟨rfl, I.turned (t' := s.toks) (fun b o hb q => he' b o hb q) f0 f1 f3 f4 f5⟩
  self := fun A i s Q E st h => let ⟨⟨_, he⟩, _⟩ := st; wpAny_pyIter_enum he h
/-- enumerate of a list or a tuple -/
def iEnumA (K : PySem.W.Frag) (ta : TA) : TI := fun σ H R => ta σ H fun vs H1 => (∃ a xs, vs = [.ref a] ∧ SqL K H1 a xs ∧ R (Ite K a) H1) ∨ ∃ a xs, vs = [.ref a] ∧ SqT K H1 a xs ∧ R (ItU K a) H1
theorem pi_enumA {X : Cx} {e : Expr} {ta : TA} {p pos tpos : Pos} {elts : List Expr} {kk : Nat} (K : PySem.W.Frag) (hK : X.K = K) (hg : Gl X "enumerate") (hm : X.mg "enumerate" = none) (ha : PA X [e] ta) (hs : starEach [e] X.env = [(false, eval e X.env)] := by rfl) :
    PI X (.Tuple elts kk tpos) (.Call (.Name "enumerate" p) [e] [] pos) (iEnumA K ta) := by
  subst hK
  refine ⟨fun pins s σ H R I h => ?_⟩
  refine Call_ (ld_blt I hg hm boot_enumerate (PyProof.Rows.callWith_type1 (thn (ha.run pos pins s σ H _ I h) fun us s1 ⟨vs, H1, I1, r1, q1⟩ => ?_) hs rfl))
  rcases q1 with ⟨a, xs, ex, hq, q⟩ | ⟨a, xs, ex, hq, q⟩
  · subst ex
    rw [Vals.ref1 r1]
    obtain ⟨its, rv, p', hz⟩ := I1.list hq
    refine call_enumerate_list p'.isList fun h' he hit hsz hk => wpAny_pyIter_enum he ?_
    have I2 : Inv X pins σ H1 { s1 with heap := h' } := I1.kept (t' := s1.toks) hk
    refine ⟨s1.heap.objs.size + 1, [s1.heap.objs.size + 1, s1.heap.objs.size], _, _, H1, rfl, I2, turn_enum a (s1.heap.objs.size + 1) s1.heap.objs.size, ⟨⟨.none, he⟩, hit, Nat.succ_ne_self _⟩, fun b hb => ?_, q⟩
    have hle : s1.heap.objs.size ≤ b := by
      rcases (show b = s1.heap.objs.size + 1 ∨ b = s1.heap.objs.size by simpa using hb) with z | z
      · rw [z]; exact Nat.le_succ _
      · rw [z]; exact Nat.le_refl _
    exact I1.fpOk hle (I1.hok.fresh hle)
  · subst ex
    rw [Vals.ref1 r1]
    obtain ⟨its, rv, p', hz⟩ := I1.tuple hq
    have hlt : a < s1.heap.objs.size := p'.lt
    refine enum1_begins (begins_tuple a its.toArray) p' fun h' he hit hsz hk => wpAny_pyIter_enum he ?_
    have I2 : Inv X pins σ H1 { s1 with heap := h' } := I1.kept (t' := s1.toks) hk
    refine ⟨s1.heap.objs.size + 1, [s1.heap.objs.size + 1, s1.heap.objs.size], _, _, H1, rfl, I2, turn_enumU a (s1.heap.objs.size + 1) s1.heap.objs.size (Nat.ne_of_lt hlt) (Nat.ne_of_lt (Nat.lt_succ_of_lt hlt)), ⟨⟨.none, he⟩, ⟨_, hit, rfl, rfl⟩, Nat.succ_ne_self _⟩, fun b hb => ?_, q⟩
    have hle : s1.heap.objs.size ≤ b := by
      rcases (show b = s1.heap.objs.size + 1 ∨ b = s1.heap.objs.size by simpa using hb) with z | z
      · rw [z]; exact Nat.le_succ _
      · rw [z]; exact Nat.le_refl _
    exact I1.fpOk hle (I1.hok.fresh hle)
section
variable {G : Gm} {E : XK} {L O : List Addr} {σD : List Sl} {s : G.S} {σ : L2.St} {H H1 H' : Hp}
theorem walks_enumU {K : PySem.W.Frag} (R : SR G L O σD s σ H) {a : Addr} {vs : List V} {ds : List PyData} (ha : wo H L a = some (.tup vs)) (hv : DqAll (wo H L) vs ds) : Walks G (ItU K a) (enD 0 ds) L O H := fun L2' O2 H2 la live2 => by
  have sm := later_wo R la
  have ha2 : H2 a = some (.tup vs) := (wo_some (sm a _ ha)).1
  have hv2 := dqAll_same sm _ _ hv
  refine ⟨fun i d hd => ?_, fun i hi => ⟨vs, .of ha2, by rw [hv.length]; rw [enD_len] at hi; exact hi⟩⟩
  obtain ⟨e, he, rfl⟩ := enD_get hd
  obtain ⟨v, h1, h2⟩ := hv2.get he
  refine ⟨⟨vs, v, .of ha2, h1⟩, fun x H3 hy => ?_⟩
  obtain ⟨T, y, rfl, hT, rfl, hy⟩ := hy
  have hx := hy vs (.of ha2)
  rw [h1] at hx
  cases hx
  refine ⟨same_new hT, dq_newT (fun a h => (live2 a h).ne) hT (.cons ?_ (.cons h2 .nil))⟩
  rw [Nat.zero_add]
  exact .int _
def iEnAD {S : Type} (ws : List W) (s : S) : Rs S (List PyData) := match ws with
  | [.d (.list ds)] => .ok (enD 0 ds) s
  | [.d (.tuple ds)] => .ok (enD 0 ds) s
  | _ => .stuck
theorem iEnAD_inv {S : Type} {ws : List W} {s : S} : (iEnAD ws s = .stuck) ∨ ∃ ds, (ws = [.d (.list ds)] ∨ ws = [.d (.tuple ds)]) ∧ iEnAD ws s = .ok (enD 0 ds) s := by
  unfold iEnAD
  split
  · exact .inr ⟨_, .inl rfl, rfl⟩
  · exact .inr ⟨_, .inr rfl, rfl⟩
  · exact .inl rfl
def iEnumM {S : Type} (f : List Sl → S → Rs S (List W)) : List Sl → S → Rs S (List PyData) := fun σ s => (f σ s).bind iEnAD
theorem is_enumA {K : PySem.W.Frag} {ta : TA} {f : List Sl → G.S → Rs G.S (List W)} (h : SmA G E ta f) : ISm G E (iEnumA K ta) (iEnumM f) := fun L O σD s σ H Q R hw =>
  h.thenI R hw (fun x s1 v H1 st R1 wr k kst _ => by
    rcases iEnAD_inv (ws := x) (s := s1) with e | ⟨ds, e0, e⟩
    · exact (kst e).elim
    · rcases e0 with e0 | e0
      · subst e0
        obtain ⟨u, rfl, hu⟩ := wr.one_d
        obtain ⟨a, vs, rfl, ha, hv⟩ := dq_lst hu
        exact .inl ⟨a, vs, rfl, .of (wo_some ha).1, k _ s1 e _ H1 Stp.refl R1.ok (walks_enum R1 ha hv)⟩
      · subst e0
        obtain ⟨u, rfl, hu⟩ := wr.one_d
        obtain ⟨a, vs, rfl, ha, hv⟩ := dq_tup hu
        exact .inr ⟨a, vs, rfl, .of (wo_some ha).1, k _ s1 e _ H1 Stp.refl R1.ok (walks_enumU R1 ha hv)⟩) (fun x s1 c s2 e => by
    rcases iEnAD_inv (ws := x) (s := s1) with e' | ⟨j, _, e'⟩ <;> rw [e'] at e <;> cases e)
end

/-! ### sum, max of a list or a tuple of ints -/
section
variable {prog : Program} {w : World} {A : Around} {E : Value → Shared → Prop} {s : Shared} {l : Addr} {xs : Array (Int × Tok)}
theorem iter_intTup {Q : Value → Shared → Prop} (hl : s.heap.IsTuple l (intItems xs))
    (h : ∀ s2 : Shared, s2 = { s with heap := s.heap.push { cls := .type "tuple_iterator", data := .fields #[.ref l, .int 0 0] } } →
      (s2.heap.IsTupleIter s.heap.objs.size l 0 ∧ s2.heap.IsTuple l (intItems xs)) → (∀ b ∈ [s.heap.objs.size, l], b < s2.heap.objs.size) → l ≠ s.heap.objs.size → Q (.ref s.heap.objs.size) s2) :
    wpAny (model prog w) A (pyIter (.ref l)) Q E s := by
  have hlt : l < s.heap.objs.size := by obtain ⟨_, e, _⟩ := hl; exact Heap.lt_size e
  refine wpAny_pyIter_tuple hl (h _ rfl ⟨⟨_, Heap.get?_push_size _ rfl, rfl, rfl⟩, hl.push _⟩ (fun b hb => ?_) (Nat.ne_of_lt hlt))
  show b < (s.heap.push _).objs.size
  rw [Heap.size_push]
  rcases (show b = s.heap.objs.size ∨ b = l by simpa using hb) with z | z
  · rw [z]; exact Nat.lt_succ_self _
  · rw [z]; exact Nat.lt_succ_of_lt hlt
theorem kept_tup {h' : Heap} (hk : ∀ b o, b ∉ [s.heap.objs.size] → (s.heap.push { cls := .type "tuple_iterator", data := .fields #[.ref l, .int 0 0] }).get? b = some o → h'.get? b = some o) :
    ∀ b o, s.heap.get? b = some o → h'.get? b = some o := fun b o e => hk b o (fun hm => by
      have z : b = s.heap.objs.size := by simpa using hm
      exact absurd (z ▸ Heap.lt_size e) (Nat.lt_irrefl _)) (Heap.get?_push_of_some _ e)
theorem sum_intTup {Q : Value → Shared → Prop} (hh : A.handled = none) (hl : s.heap.IsTuple l (intItems xs))
    (h : ∀ h' tk t', (∀ b o, s.heap.get? b = some o → h'.get? b = some o) → Q (.int (preSum (numAt xs) xs.size) t') { s with heap := h', toks := tk }) :
    wpAny (model prog w) A (call (.builtin "sum") [.ref l]) Q E s := by
  refine call_sum_walkG (iter_intTup hl fun s2 e st hfp hlI => ?_)
  subst e
  refine ⟨_, _, _, _, _, _, numAt xs, rfl, PySem.Walks.tuple (A := A.in1) hh _ l hlI (intItems xs), st, hfp, (fun _ _ => intItems_at), fun h' tk t' hk => ?_⟩
  have := h h' tk t' (kept_tup hk)
  simpa [intItems] using this
theorem max_intTup {Q : Value → Shared → Prop} (hh : A.handled = none) (hl : s.heap.IsTuple l (intItems xs)) (hne : 0 < xs.size)
    (h : ∀ v h' tk, (intItems xs)[argBest (fun i j => decide (numAt xs i > numAt xs j)) (xs.size - 1)]? = some v → (∀ b o, s.heap.get? b = some o → h'.get? b = some o) → Q v { s with heap := h', toks := tk }) :
    wpAny (model prog w) A (call (.builtin "max") [.ref l]) Q E s := by
  refine call_max_walk (iter_intTup hl fun s2 e st hfp hlI => ?_)
  subst e
  refine ⟨_, _, _, _, _, _, _, rfl, PySem.Walks.tuple (A := A.in1) hh _ l hlI (intItems xs), st, hfp, by simpa [intItems] using hne, CmpOf.ints_gt (numAt xs) (fun _ _ => intItems_at), fun v h' tk hP hk => ?_⟩
  exact h v h' tk (by simpa [intItems] using hP) (kept_tup hk)
end
def rSumT (K : PySem.W.Frag) : List V → Hp → VK → Prop := fun vs H Q => ∃ (a : Addr) (ns : List Int), vs = [V.ref a] ∧ SqT K H a (ns.map V.int) ∧ Q (.int ns.sum) H
theorem cr_sumT {X : Cx} (hc : X.calm = true) : CallR X (.builtin "sum") (rSumT X.K) := by
  intro pins s σ H vs us Q I r h
  obtain ⟨a, ns, rfl, hs, q⟩ := h
  obtain ⟨its, rv, hl, _⟩ := I.tuple hs
  rw [Vals.ref1 r]
  have hi : IntsAre its ns := intsAre_of rv
  obtain ⟨xs, e⟩ := hi.allInts.items
  have hn : numsOf (intItems xs).toList = ns := by rw [← e]; exact hi.numsOf
  rw [nums_intItems] at hn
  rw [e] at hl
  refine sum_intTup (I.ok.hd hc) hl fun h' tk t' hk => ⟨.int _, H, I.kept hk, ⟨_, rfl⟩, ?_⟩
  rw [preSum_eq, List.take_of_length_le (by simp), hn]
  exact q
def rSumA (K : PySem.W.Frag) : List V → Hp → VK → Prop := fun vs H Q => rSum K vs H Q ∨ rSumT K vs H Q
theorem call_sumA {X : Cx} (K : PySem.W.Frag) (h : X.K = K) (hc : X.calm = true) : CallR X (.builtin "sum") (rSumA K) := by subst h; exact (cr_sum hc).or (cr_sumT hc)
def pySumA : List PyData → Option PyData
  | [.list ds] => (dInts ds).map fun bs => .int bs.sum
  | [.tuple ds] => (dInts ds).map fun bs => .int bs.sum
  | _ => none
theorem cs_sumA {K : PySem.W.Frag} : CSm (rSumA K) pySumA := by
  intro L H vs ds z Q hL hv hg hq
  match ds, hv, hg with
  | [.list es], hv, hg => exact .inl (cs_sum L H vs [.list es] z Q hL hv hg hq)
  | [.tuple es], hv, hg =>
    cases e : dInts es with
    | none => rw [pySumA, e] at hg; cases hg
    | some bs =>
      rw [pySumA, e] at hg
      cases hg
      have := dInts_some e
      subst this
      obtain ⟨v, rfl, h1⟩ := dqAll_one hv
      obtain ⟨p, us, rfl, hp, hu⟩ := dq_tup h1
      rw [dqAll_ints hu] at hp
      exact .inr ⟨p, bs, rfl, .of (wo_some hp).1, hq _ H (Same.refl H) (.int _)⟩
end CS
/-! Core10: the script's cells, the rounds, a law's main loop -/
namespace CS
open PySem PySem.Spec PyProof.Rows L2

theorem if_t {p q : Prop} (h : p) : if true = true then p else q := by rw [if_pos rfl]; exact h
theorem if_f {p q : Prop} (h : q) : if false = true then p else q := by rw [if_neg Bool.false_ne_true]; exact h
theorem sqL_same {K : PySem.W.Frag} {H H' : Hp} {a : Addr} {xs : List V} (h : SqL K H a xs) (e : Same H H') : SqL K H' a xs := by
  rcases h with (h | ⟨o, h⟩) | h
  · exact .inl (.inl (e _ _ h))
  · exact .inl (.inr ⟨o, e _ _ h⟩)
  · exact .inr h
theorem dpAll_ints {K : PySem.W.Frag} {H : Hp} : ∀ ns : List Int, DpAll K H (ns.map V.int) (ns.map PyData.int)
  | [] => .nil
  | n :: ns => .cons (.int n) (dpAll_ints ns)
theorem canLay_ints : ∀ ns : List Int, PyData.canLayAll0 (ns.map PyData.int) = true
  | [] => by simp only [List.map_nil, PyData.canLayAll0]
  | n :: ns => by simp only [List.map_cons, PyData.canLayAll0, PyData.canLay0, canLay_ints ns, Bool.and_true]
theorem depthA_ints : ∀ ns : List Int, PyData.depthAll (ns.map PyData.int) = 0
  | [] => by simp only [List.map_nil, PyData.depthAll]
  | n :: ns => by simp only [List.map_cons, PyData.depthAll, PyData.depth, depthA_ints ns]; rfl
theorem shaped_ints (ns : List Int) : SeqAt.shaped (.list (ns.map PyData.int)) = true := by
  unfold SeqAt.shaped
  simp only [PyData.canLay0, PyData.depth, canLay_ints, depthA_ints]
  decide

/-! ### _law_cell -/
def spCell (K : PySem.W.Frag) : Sp := fun vs H Q E => ∃ (a : Addr) (ns : List Int) (k : Int), vs = [.ref a, .int k] ∧ SqL K H a (ns.map V.int) ∧ ns.length ≤ 1000000 ∧ ∀ c H', Same H H' → Q (.int c) H'
theorem cell_reads {K : PySem.W.Frag} {H : Hp} {vs : List V} {Q : VK} {E : XK} {nx : L2.St → Hp → Prop} (h : spCell K vs H Q E) :
    (tSeq (tIfS (tTest (tOp (rEqD K) (tVar 0) (tLst tNil))) (tRet (tOp (rMulU K) (tVar 1) (tC (.int 7919)))) tNext)
      (tRet (tOp (rAddU K) (tOp (rIx K) (tVar 0) (tOp (rI (fun _ j => 0 < j) fun i j => .int (i % j)) (tVar 1) (tCB (rLenU K) (tCons (tVar 0) tNil))))
        (tOp (rMulU K) (tOp (rI CDivW fun i j => .int (i / j)) (tVar 1) (tCB (rLenU K) (tCons (tVar 0) tNil))) (tC (.int 104729)))))) { nx := nx, rt := Q } (L2.start ["script", "k"] vs) H := by
  obtain ⟨a, ns, k, rfl, hs, hl, hq⟩ := h
  refine ⟨.ref a, rfl, Nat.zero_le _, fun p hp => ⟨.list (ns.map PyData.int), .list [], .lst (sqL_same hs (same_new hp)) (dpAll_ints ns), .lst (.of upd_same) .nil, shaped_ints ns, shaped_ints [], _, rfl, ?_⟩⟩
  have sm := same_new (o := .lst []) hp
  have hs' := sqL_same hs sm
  cases ns with
  | nil =>
    have e : PyData.eqv (.list (List.map PyData.int [])) (.list []) = true := by decide
    rw [e]
    refine if_t ?_
    refine ⟨.int k, rfl, .inl (.inr ⟨k, 7919, rfl, rfl, ?_, hq _ _ sm⟩)⟩
    exact .inr (by decide)
  | cons n ns =>
    have e : PyData.eqv (.list (List.map PyData.int (n :: ns))) (.list []) = false := by
      simp only [List.map_cons, PyData.eqv, PyData.eqvAll]
    rw [e]
    refine if_f ?_
    have hpos : (0 : Int) < ((n :: ns).map V.int).length := by rw [List.length_map, List.length_cons]; omega
    have hlen : ((n :: ns).map V.int).length ≤ 1000000 := by rw [List.length_map]; exact hl
    obtain ⟨c, hc⟩ : ∃ c : Int, atI ((n :: ns).map V.int) (k % (((n :: ns).map V.int).length : Int)) = some (.int c) := by
      have h0 := Int.emod_nonneg k (Int.ne_of_gt hpos)
      have h1 := Int.emod_lt_of_pos k hpos
      generalize k % (((n :: ns).map V.int).length : Int) = j at h0 h1
      unfold atI ixN
      rw [if_pos h0]
      have h2 : j.toNat < ((n :: ns).map V.int).length := by omega
      rw [if_pos (by omega)]
      rw [List.length_map] at h2
      refine ⟨(n :: ns)[j.toNat], ?_⟩
      show ((n :: ns).map V.int)[j.toNat]? = _
      rw [List.getElem?_map, List.getElem?_eq_getElem h2]
      rfl
    refine ⟨.ref a, rfl, .int k, rfl, .ref a, rfl, .inl ⟨a, _, rfl, .inl hs', k, _, rfl, rfl, hpos, .inl ⟨a, _, _, _, rfl, rfl, hs', hc, .int k, rfl, .ref a, rfl, .inl ⟨a, _, rfl, .inl hs', k, _, rfl, rfl, ⟨hpos, ?_⟩, ?_⟩⟩⟩⟩
    · have hb : ((((n :: ns).map V.int).length : Nat) : Int).natAbs < 2 ^ 20 := by omega
      have := (Nat.log2_lt (n := (((n :: ns).map V.int).length : Int).natAbs) (k := 20) (by omega)).mpr hb
      omega
    · refine .inl (.inr ⟨_, 104729, rfl, rfl, .inr (by decide), .inl ⟨_, _, rfl, rfl, hq _ _ sm⟩⟩)
/-! ### _law_rounds: new cells -/
/-- cells ds with their numbers cs -/
def Cells (H : Hp) (ds : List Addr) (cs : List Int) : Prop := ds.length = cs.length ∧ ∀ (i : Nat) (d : Addr) (c : Int), ds[i]? = some d → cs[i]? = some c → H d = some (.lst [.int c, .int 0])
def spRounds (K : PySem.W.Frag) : Sp := fun vs H Q E => ∃ (a : Addr) (ns : List Int) (m : Int), vs = [.ref a, .int m] ∧ SqL K H a (ns.map V.int) ∧ ns.length ≤ 1000000 ∧ m ≤ 1000 ∧
  ∀ p ds cs H', Same H H' → H' p = some (.lst (ds.map V.ref)) → ds.Nodup → Cells H' ds cs → Q (.ref p) H'
theorem nodup_snoc {α : Type} {l : List α} {x : α} (h : l.Nodup) (hx : x ∉ l) : (l ++ [x]).Nodup := by
  rw [List.nodup_append]
  refine ⟨h, by simp, fun a ha b hb => ?_⟩
  have : b = x := by simpa using hb
  subst this
  exact fun z => hx (z ▸ ha)
theorem rounds_reads {K : PySem.W.Frag} {H : Hp} {vs : List V} {Q : VK} {E : XK} {nx : L2.St → Hp → Prop} {E' : XK} (h : spRounds K vs H Q E) :
    (tRet (tLc (iRng1 (tCons (tCB (fun xs H Q => ∃ i j, xs = [.int i, .int j] ∧ Q (.int (if j > i then j else i)) H) (tCons (tC (.int 1)) (tCons (tCB (fun xs H Q => ∃ i j, xs = [.int i, .int j] ∧ Q (.int (if j < i then j else i)) H) (tCons (tVar 1) (tCons (tCB (rLenU K) (tCons (tVar 0) tNil)) tNil))) tNil))) tNil))
      (gName 2) tYes (tLst (tCons (tCall (spCell K) [] E' (tCons (tVar 0) (tCons (tVar 2) tNil))) (tCons (tC (.int 0)) tNil))) [2])) { nx := nx, rt := Q } (L2.start ["script", "most", "k"] vs) H := by
  obtain ⟨a, ns, m, rfl, hs, hl, hm, hq⟩ := h
  refine ⟨.int m, rfl, .ref a, rfl, .inl ⟨a, _, rfl, .inl hs, m, _, rfl, 1, _, rfl, _, rfl, ?_, ?_, fun D hD => ?_⟩⟩
  · split
    · split <;> omega
    · omega
  · split
    · split <;> omega
    · omega
  generalize hN : (if (if (((ns.map V.int).length : Nat) : Int) < m then (((ns.map V.int).length : Nat) : Int) else m) > 1 then (if (((ns.map V.int).length : Nat) : Int) < m then (((ns.map V.int).length : Nat) : Int) else m) else 1).toNat = n
  have hn : n ≤ 1000 := by
    rw [← hN]
    split
    · split <;> omega
    · omega
  refine ⟨fun i k H2 => i + k = n ∧ ∃ (ds : List Addr) (cs : List Int), Same H H2 ∧ H2 D = some (.lst (ds.map V.ref)) ∧ ds.Nodup ∧ Cells H2 ds cs ∧ ds.length = i, ⟨n, by omega, [], [], same_new hD, upd_same, .nil, ⟨rfl, fun i d c h => by simp at h⟩, rfl⟩, ?_⟩
  rintro i k H2 ⟨hik, ds, cs, sm, hp, nd, hc, hi⟩
  by_cases hlt : i < n
  case neg => exact .inl ⟨by show n ≤ i; omega, hq D ds cs H2 sm hp nd hc⟩
  refine .inr ⟨hlt, fun H' => (i + 1) + (k - 1) = n ∧ ∃ (ds : List Addr) (cs : List Int), Same H H' ∧ H' D = some (.lst (ds.map V.ref)) ∧ ds.Nodup ∧ Cells H' ds cs ∧ ds.length = i + 1, fun H' h => ⟨k - 1, by omega, h⟩, fun x H' hy => ?_⟩
  obtain ⟨rfl, rfl⟩ := hy
  refine ⟨rfl, ?_⟩
  unfold tYes
  refine if_t ?_
  refine ⟨.ref a, rfl, .int _, rfl, a, ns, _, rfl, sqL_same hs sm, hl, fun c H3 sm3 => ⟨szb (by simp), fun p hp3 => ?_⟩⟩
  have hpD : H3 D = some (.lst (ds.map V.ref)) := sm3 _ _ hp
  have nD : p ≠ D := fun z => by rw [z, hpD] at hp3; cases hp3
  have hc4 : Cells (upd (upd H3 p (.lst [.int c, .int 0])) D (.lst (ds.map V.ref ++ [.ref p]))) (ds ++ [p]) (cs ++ [c]) := by
    refine ⟨by rw [List.length_append, List.length_append, hc.1]; rfl, fun j d c' hd hc' => ?_⟩
    by_cases hj : j < ds.length
    · rw [List.getElem?_append_left hj] at hd
      rw [List.getElem?_append_left (by rw [← hc.1]; exact hj)] at hc'
      have h1 := hc.2 j d c' hd hc'
      have h3 := sm3 _ _ h1
      have n1 : d ≠ p := fun z => by rw [z, hp3] at h3; cases h3
      have n2 : d ≠ D := fun z => by
        rw [z, hp] at h1
        have h1' := congrArg (fun o => o.map fun | HO.lst xs => xs | _ => []) h1
        have h1'' : ds.map V.ref = [.int c', .int 0] := by simpa using h1'
        cases ds with
        | nil => cases h1''
        | cons e es => cases h1''
      rw [upd_ne n2, upd_ne n1]
      exact h3
    · rw [List.getElem?_append_right (by omega)] at hd
      rw [List.getElem?_append_right (by rw [← hc.1]; omega)] at hc'
      have e0 : j - ds.length = 0 := by
        have := (List.getElem?_eq_some_iff.mp hd).1
        simp at this
        omega
      rw [e0] at hd
      rw [← hc.1, e0] at hc'
      have e1 : p = d := by simpa using hd
      have e2 : c = c' := by simpa using hc'
      subst e1
      subst e2
      rw [upd_ne nD, upd_same]
  refine ⟨ds.map V.ref, by rw [upd_ne nD.symm]; exact hpD, by rw [List.length_map]; exact szl (by omega), by omega, ds ++ [p], cs ++ [c], fun b o e => ?_, ?_, nodup_snoc nd fun z => ?_, hc4, by rw [List.length_append]; simp; exact hi⟩
  · have n1 : b ≠ p := fun z => by rw [z] at e; rw [sm3 _ _ (sm _ _ e)] at hp3; cases hp3
    have n2 : b ≠ D := fun z => by rw [z] at e; rw [hD] at e; cases e
    rw [upd_ne n2, upd_ne n1]
    exact sm3 _ _ (sm _ _ e)
  · rw [upd_same, List.map_append]
    rfl
  · obtain ⟨j, hj, e⟩ := List.getElem_of_mem z
    have hjc : j < cs.length := by rw [← hc.1]; exact hj
    have h1 := hc.2 j p cs[j] (by rw [List.getElem?_eq_getElem hj, e]) (List.getElem?_eq_getElem hjc)
    rw [sm3 _ _ h1] at hp3
    cases hp3

/-! ### a law's main loop -/
def spLaw (K : PySem.W.Frag) (dt : List (Addr × Str)) : Sp := fun vs H Q E => ∃ (a : Addr) (ns : List Int), vs = [.ref a] ∧ SqL K H a (ns.map V.int) ∧ ns.length ≤ 1000000 ∧ LamX.Tabs dt H ∧ ∀ H', Q (.bl true) H'
/-- the slots ahead of a round -/
def slots0 (n : Nat) (da : Addr) : List Sl := (List.replicate n .non).set 1 (.w (.ref da))
theorem sr_any {cl : Nat → Addr} {da : Addr} {dt : List (Addr × Str)} {H : Hp} {n : Nat} {σ : L2.St} {c : Int} (hd : H da = some (.lst [.int c, .int 0])) (ht : LamX.Tabs dt H) (hσ : n ≤ σ.length) :
    SR (diceG cl da dt) (da :: dt.map (·.1)) [] (slots0 n da) (c, 0) (σ.set 1 (some (.ref da))) H := by
  have ok : (diceG cl da dt).ok (c, 0) H := ⟨hd, ht⟩
  have R0 : SR (diceG cl da dt) (da :: dt.map (·.1)) [] (List.replicate n .non) (c, 0) σ H := by
    refine ⟨fun a h => h, (fun a h => nomatch h), (diceG cl da dt).lv _ H ok, ok, fun i x e => ?_, fun i j x y a e1 _ o1 => ?_⟩
    · rw [List.getElem?_replicate] at e
      split at e
      · rename_i hi
        cases e
        exact ⟨_, List.getElem?_eq_getElem (Nat.lt_of_lt_of_le hi hσ), trivial⟩
      · cases e
    · rw [List.getElem?_replicate] at e1
      split at e1
      · cases e1; cases o1
      · cases e1
  exact R0.set 1 (w := .ref da) rfl
theorem nodup_ne {α : Type} : ∀ {l : List α}, l.Nodup → ∀ {i j : Nat} (hi : i < l.length) (hj : j < l.length), i < j → l[i] ≠ l[j]
  | [], _, i, j, hi, _, _ => absurd hi (Nat.not_lt_zero _)
  | x :: xs, nd, i, j, hi, hj, h => by
    rw [List.nodup_cons] at nd
    cases j with
    | zero => exact absurd h (Nat.not_lt_zero _)
    | succ j =>
      cases i with
      | zero => exact fun z => nd.1 (by
          have z' : x = xs[j]'(by simpa using hj) := z
          rw [z']
          exact List.getElem_mem _)
      | succ i => exact nodup_ne nd.2 (i := i) (j := j) (by simpa using hi) (by simpa using hj) (by omega)
/-- a statement keeps the number of slots -/
def KeepLen {S : Type} (f : List Sl → S → Fl S) : Prop := ∀ σ s σ' s', f σ s = .nx σ' s' → σ'.length = σ.length
theorem law_reads {K : PySem.W.Frag} {cl : Nat → Addr} {dt : List (Addr × Str)} {H : Hp} {vs : List V} {Q : VK} {E : XK} {nx : L2.St → Hp → Prop} {m : Int} {N : List Str} {tb : TS} {f : Addr → List Sl → DiceS → Fl DiceS}
    (hN : 1 ≤ N.length) (hm : m ≤ 1000) (hb : ∀ da : Addr, SSm (diceG cl da dt) E tb (f da)) (hk : ∀ da : Addr, KeepLen (f da)) (hf : ∀ (da : Addr) (c : Int), ∃ σ' s', f da (slots0 N.length da) (c, 0) = .nx σ' s')
    (h : spLaw K dt vs H Q E) :
    (tSeq (tFor (iSeq K (tCall (spRounds K) [] E (tCons (tVar 0) (tCons (tC (.int m)) tNil)))) (gName 1) tb) (tRet (tC (.bl true)))) { nx := nx, rt := Q } (L2.start N vs) H := by
  obtain ⟨a, ns, rfl, hs, hl, ht, hq⟩ := h
  refine ⟨.ref a, rfl, a, ns, m, rfl, hs, hl, hm, fun p ds cs H1 sm hp nd hc => .inl ⟨p, rfl, ⟨_, .of hp⟩, ?_⟩⟩
  have htl : ∀ {H' : Hp}, Same H H' → LamX.Tabs dt H' := fun e => ht.ext e
  refine ⟨fun i k σ2 H2 => i + k = ds.length ∧ N.length ≤ σ2.length ∧ H2 p = some (.lst (ds.map V.ref)) ∧ (∀ (j : Nat) (d : Addr) (c : Int), i ≤ j → ds[j]? = some d → cs[j]? = some c → H2 d = some (.lst [.int c, .int 0])) ∧ LamX.Tabs dt H2,
    ⟨ds.length, by omega, ?_, hp, fun j d c _ => hc.2 j d c, htl sm⟩, ?_⟩
  · unfold L2.start
    rw [List.length_append, List.length_map, List.length_replicate]
    simp
    omega
  rintro i k σ2 H2 ⟨hik, hσ, hp2, hc2, ht2⟩
  by_cases hlt : i < ds.length
  case neg => exact .inl ⟨⟨_, .of hp2, by rw [List.length_map]; omega⟩, hq H2⟩
  have hlc : i < cs.length := by rw [← hc.1]; exact hlt
  have hd2 := hc2 i ds[i] cs[i] (Nat.le_refl i) (List.getElem?_eq_getElem hlt) (List.getElem?_eq_getElem hlc)
  refine .inr ⟨⟨_, _, .of hp2, by rw [List.getElem?_map, List.getElem?_eq_getElem hlt]; rfl⟩, fun σ' H' => (i + 1) + (k - 1) = ds.length ∧ N.length ≤ σ'.length ∧ H' p = some (.lst (ds.map V.ref)) ∧ (∀ (j : Nat) (d : Addr) (c : Int), i + 1 ≤ j → ds[j]? = some d → cs[j]? = some c → H' d = some (.lst [.int c, .int 0])) ∧ LamX.Tabs dt H',
    fun σ' H' h => ⟨k - 1, by omega, h⟩, fun x H' hy => ?_⟩
  obtain ⟨rfl, hy⟩ := hy
  have hx := hy _ (.of hp2)
  rw [List.getElem?_map, List.getElem?_eq_getElem hlt] at hx
  cases hx
  obtain ⟨σ', s', e⟩ := hf ds[i] cs[i]
  have hle := hk ds[i] _ _ _ _ e
  refine hb ds[i] (ds[i] :: dt.map (·.1)) [] (slots0 N.length ds[i]) (cs[i], 0) (σ2.set 1 (some (.ref ds[i]))) H' _ (sr_any hd2 ht2 hσ) ?_
  rw [e]
  intro L' O' σ3 H3 la R3
  have kp : ∀ b o, b ≠ ds[i] → (∀ t ∈ dt.map (·.1), b ≠ t) → H' b = some o → H3 b = some o := fun b o h1 h2 q => la.keep b o (fun z => by
    rcases List.mem_cons.mp z with z | z
    · exact h1 z
    · exact h2 b z rfl) (fun z => nomatch z) q
  have kl : ∀ b xs, b ≠ ds[i] → H' b = some (.lst xs) → H3 b = some (.lst xs) := fun b xs h1 q => kp b _ h1 (fun t h z => by
    obtain ⟨p, hp, e⟩ := List.mem_map.mp h
    obtain ⟨m, hm, _⟩ := ht2 p hp
    rw [z, ← e, hm] at q
    cases q) q
  refine ⟨by omega, ?_, kl p _ (fun z => ?_) hp2, fun j d c hj hd hcj => kl d _ (fun z => ?_) (hc2 j d c (by omega) hd hcj), R3.ok.2⟩
  · have h0 : (slots0 N.length ds[i]).length = N.length := by unfold slots0; rw [List.length_set, List.length_replicate]
    rw [← h0, ← hle]
    cases hz : σ'.length with
    | zero => exact Nat.zero_le _
    | succ n =>
      obtain ⟨o, ho, _⟩ := R3.sl n _ (List.getElem?_eq_getElem (by omega))
      have := (List.getElem?_eq_some_iff.mp ho).1
      omega
  · rw [z, hd2] at hp2
    have h1 : [V.int cs[i], .int 0] = ds.map V.ref := by injection hp2 with h; injection h
    cases hds : ds with
    | nil => rw [hds] at hlt; exact absurd hlt (Nat.not_lt_zero _)
    | cons e es => rw [hds] at h1; cases h1
  · have hj2 := (List.getElem?_eq_some_iff.mp hd)
    obtain ⟨hjl, hje⟩ := hj2
    rw [z] at hje
    have := nodup_ne nd hlt hjl (by omega)
    exact this hje.symm
end CS
/-! Core11: lists walked, summed and made while an exception is handled; what an exception is -/
namespace CS
open PySem PySem.Spec PyProof.Rows L2 HotX L2H
section
variable {prog : Program} {w : World} {A : Around} {E : Value → Shared → Prop} {s : Shared}
/-- a list's iterator at its end, an exception being handled -/
theorem next_list_end_hot {it l x1 : Addr} {i : Nat} {items : Array Value} {Q : Option Value → Shared → Prop} (hot : HotAt A x1 s.heap) (hx1 : x1 ≠ it)
    (hit : s.heap.IsListIter it l i) (hl : s.heap.IsList l items) (hx : items[i]? = none)
    (hQ : ∀ h', Heap.ExtBut it s.heap h' → Q none { s with heap := h' }) : wpAny (model prog w) A (pyNext (.ref it)) Q E s := by
  obtain ⟨o, ho, hc, hd⟩ := id hit
  obtain ⟨ol, hol, _, nl, hdl⟩ := hl
  obtain ⟨hh, o1, vs1, h1, d1, c1⟩ := hot
  unfold pyNext
  refine wpAny_bind (wpAny_attempt (wpAny_callSpecial?_slot (name := Str.ofString "__next__") hit.typeIs slot_listiter_next
    (wpAny_call_entry slot_listiter_next hit.typeIs entry_listiter_next ?_ (args_listiter_next _))))
  show wpAny _ _ (field (.ref it) 0 >>= _) _ _ s
  refine wpAny_bind (wpAny_field ho hd (x := .ref l) rfl ?_)
  show wpAny _ _ (if (Value.ref l == Value.none) = true then _ else _) _ _ s
  rw [if_neg (show ¬ ((Value.ref l == Value.none) = true) from Bool.false_ne_true)]
  show wpAny _ _ (field (.ref it) 1 >>= _) _ _ s
  refine wpAny_bind (wpAny_field ho hd (x := .int i 0) rfl ?_)
  show wpAny _ _ (seqItems? (.ref l) >>= _) _ _ s
  refine wpAny_bind (wpAny_seqItems hol hdl ?_)
  simp only [Int.toNat_natCast, hx]
  refine wpAny_bind (wpAny_rule (wpAny_bind (wpAny_setField ho hd (by simp) ?_)))
  show wpAny _ _ (newExc (.type "StopIteration") [] >>= _) _ _ _
  refine wpAny_bind ?_
  simp only [newExc, newTuple]
  refine wpAny_bind (wpAny_newObj_type ?_ (by size_fits))
  refine wpAny_bind (m := firstArgMember _ _) (wpAny_of_eq (a := Value.none) (by first | rfl | (simp only [firstArgMember]; rfl)) ?_)
  refine wpAny_newObj_type ?_ (by size_fits)
  have u1 := (Heap.get?_update_other s.heap (Obj.mapFields fun vs => vs.setIfInBounds 0 Value.none) (Ne.symm hx1)).trans h1
  refine raiseNew_hot ⟨hh, o1, vs1, Heap.get?_push_of_some _ (Heap.get?_push_of_some _ u1), d1, c1⟩ (Nat.ne_of_lt (Heap.lt_size (Heap.get?_push_of_some _ u1))) (Heap.get?_push_size _ rfl) rfl (by first | (simp; done) | (simp; omega) | (simp only [Array.size_append]; simp; omega)) ?_
  refine wpAny_bind (wpAny_isInstance (T := "StopIteration") (b := true) ⟨_, Heap.get?_update_self _ (Heap.get?_push_size _ rfl) rfl, rfl⟩ isSubtype_stop ?_)
  refine wpAny_pure (hQ _ fun b o hb e => ?_)
  have e1 := (Heap.get?_update_other s.heap (Obj.mapFields fun vs => vs.setIfInBounds 0 Value.none) (Ne.symm hb)).trans e
  rw [Heap.get?_update_other _ _ (Nat.ne_of_gt (Heap.lt_size (Heap.get?_push_of_some _ e1)))]
  exact Heap.get?_push_of_some _ (Heap.get?_push_of_some _ e1)
end
/-! ### sum of a list of ints -/
theorem walks_list_hot {prog : Program} {w : World} {A : Around} {x1 : Addr} {o1 : Obj} {vs1 : Array Value} (hh : A.handled = some (.ref x1)) (d1 : o1.data = .fields vs1) (c1 : vs1[2]? = some .none) (I ax : Addr) (hne : ax ≠ I) (n1 : x1 ≠ I) (items : Array Value) :
    PySem.Walks prog w A I [I, ax, x1] [I] items.size (fun i v => items[i]? = some v) (fun i h => h.IsListIter I ax i ∧ h.IsList ax items ∧ h.get? x1 = some o1) where
  sub := fun b hb => by simp at hb; simp [hb]
  frame := fun _ _ _ st hk => ⟨st.1.at fun o e => hk I (by simp) o e, st.2.1.at fun o e => hk ax (by simp) o e, hk x1 (by simp) _ st.2.2⟩
  item := fun i s Q E hi st hQ => by
    refine wpAny_pyNext_list_item st.1 st.2.1 (x := items[i]) (by simp [hi]) fun h' hit' hs' => ?_
    exact hQ _ h' s.toks (by simp [hi]) ⟨hit', st.2.1.extBut hs'.extBut hne, hs'.extBut x1 _ n1 st.2.2⟩ fun b o hb e => hs'.extBut b o (fun h => hb (by simp [h])) e
  done := fun s Q E st hQ => next_list_end_hot ⟨hh, o1, vs1, st.2.2, d1, c1⟩ n1 st.1 st.2.1 (by simp) fun h' he' => hQ h' s.toks fun b o hb e => he' b o (fun h => hb (by simp [h])) e
  self := fun _ _ _ _ st hQ => wpAny_pyIter_listiter st.1 hQ
section
variable {prog : Program} {w : World} {A : Around} {E : Value → Shared → Prop} {s : Shared}
theorem sum_hot {x1 l : Addr} {its : List Value} {ns : List Int} {Q : Value → Shared → Prop} (hot : HotAt A x1 s.heap) (hl : s.heap.IsList l its.toArray) (hi : IntsAre its ns)
    (h : ∀ h' tk t', (∀ b o, s.heap.get? b = some o → h'.get? b = some o) → Q (.int ns.sum t') { s with heap := h', toks := tk }) : wpAny (model prog w) A (call (.builtin "sum") [.ref l]) Q E s := by
  obtain ⟨xs, e⟩ := hi.allInts.items
  have hn : numsOf (intItems xs).toList = ns := by rw [← e]; exact hi.numsOf
  rw [nums_intItems] at hn
  rw [e] at hl
  obtain ⟨hh, o1, vs1, h1, d1, c1⟩ := hot
  refine call_sum_walkG (iter_intList hl fun s2 e st hfp hlI => ?_)
  subst e
  have n1 : x1 ≠ s.heap.objs.size := Nat.ne_of_lt (Heap.lt_size h1)
  have g1 := Heap.get?_push_of_some { cls := .type "list_iterator", data := .fields #[.ref l, .int 0 0] } h1
  refine ⟨_, _, _, _, _, _, numAt xs, rfl, walks_list_hot (A := A.in1) hh d1 c1 _ l hlI n1 (intItems xs), ⟨st.1, st.2, g1⟩, (fun b hb => ?_), (fun _ _ => intItems_at), fun h' tk t' hk => ?_⟩
  · rcases (show b = s.heap.objs.size ∨ b = l ∨ b = x1 by simpa using hb) with z | z | z
    · exact hfp b (by simp [z])
    · exact hfp b (by simp [z])
    · rw [z]; exact Heap.lt_size g1
  · have := h h' tk t' fun b o e => hk b o (fun hm => by
      have z : b = s.heap.objs.size := by simpa using hm
      exact absurd (z ▸ Heap.lt_size e) (Nat.lt_irrefl _)) (Heap.get?_push_of_some _ e)
    rw [preSum_eq, List.take_of_length_le (by simp [intItems]), hn]
    exact this
end
section
variable {X : Cx}
theorem cr_sumH (K : PySem.W.Frag) (hK : X.K = K) (hc : HotC X) : CallR X (.builtin "sum") (rSum K) := by
  subst hK
  intro pins s σ H vs us Q I r h
  obtain ⟨a, ns, rfl, hs, q⟩ := h
  obtain ⟨its, rv, hl, _⟩ := I.list hs
  obtain ⟨x1, hot⟩ := hc.at I
  rw [Vals.ref1 r]
  exact sum_hot hot hl.isList rv.ints fun h' tk t' hk => ⟨.int _, H, I.kept hk, ⟨_, rfl⟩, q⟩
/-! ### isinstance of the exception -/
theorem call_isX (K : PySem.W.Frag) (hK : X.K = K) {a D : Addr} {oe : Obj} (C : ExcC K D) (hp : (a, oe) ∈ X.pn) (hz : Zc (.ref D) none oe) (hf : ∃ vs, oe.data = .fields vs) : CallR X (.builtin "isinstance") (rIsE K D a) := by
  subst hK
  intro pins s σ H xs us Q I r h
  obtain ⟨c, cv, b, rfl, hcv, e, q⟩ := h
  cases r with
  | cons rx rr =>
    cases rr with
    | cons rt rr =>
      cases rr
      cases rx
      have ec := hcv _ rt
      subst ec
      obtain ⟨hget, _⟩ := I.pin (a, oe) (List.mem_append_left _ hp)
      obtain ⟨vs, hv⟩ := hf
      have J : PySem.W.InstAt s.heap a oe D none := by
        obtain ⟨oc, od, oda, osl⟩ := oe
        obtain ⟨h1, h2⟩ := hz
        dsimp only at h1 h2 hv
        subst h1 h2 hv
        exact ⟨hget, rfl, rfl, trivial⟩
      exact PySem.W.kia_one (PySem.W.handS_kitx_exc C.hg C.hk C.hs C.hd C.ha C.hn C.ht C.hm) I.kIn J e (fun z => nomatch z) fun tk => ⟨.bl b, H, I.kept (t' := tk) fun _ _ z => z, rfl, q⟩
/-! ### [int(x) for x in bools] -/
theorem hp_none {P : Program} {w : World} {H : Hp} {h : Heap} {a : Addr} (x : HOk P w H h) (e : h.get? a = none) : H a = none := by
  cases q : H a with
  | none => rfl
  | some u =>
    have k := x a u q
    cases u with
    | lst xs => obtain ⟨_, _, _, _, z⟩ := k; rw [e] at z; cases z
    | tup xs => obtain ⟨_, _, _, _, z, _⟩ := k; rw [e] at z; cases z
    | dK kvs => obtain ⟨_, _, _, _, o, _, _, z, _⟩ := k; rw [e] at z; cases z
    | dT kvs => obtain ⟨_, _, _, _, o, _, _, z, _⟩ := k; rw [e] at z; cases z
    | set S n => obtain ⟨o, _, _, _, z, _⟩ := k; rw [e] at z; cases z
    | ins C dx fs => obtain ⟨_, _, _, z, _⟩ := k; rw [e] at z; cases z
    | own y => obtain ⟨_, z⟩ := k; rw [e] at z; cases z
    | xd fs => obtain ⟨_, ⟨_, _, _, z, _⟩, _⟩ := k; rw [e] at z; cases z
    | rng lo hi => obtain ⟨_, _, _, z⟩ := k; rw [e] at z; cases z
    | frz ob u => obtain ⟨z, _⟩ := k; rw [e] at z; cases z
    | tbl ps => have z : h.get? a = some _ := k; rw [e] at z; cases z
    | met f y => have z : h.get? a = some _ := k; rw [e] at z; cases z
    | ext φ => obtain ⟨_, ⟨_, z⟩, _⟩ := k; rw [e] at z; cases z
theorem inv_laid0 {pins : List (Addr × Obj)} {σ : L2.St} {H : Hp} {s : Shared} {h' : Heap} {a : Addr} {o : HO} {t' : Nat} (I : Inv X pins σ H s) (k : ∀ b u, s.heap.get? b = some u → h'.get? b = some u) (hp : s.heap.get? a = none) (new : ObjOk X.prog X.w (upd H a o) h' a o) :
    Inv X pins σ (upd H a o) { s with heap := h', toks := t' } := by
  have hn := hp_none I.hok hp
  refine I.un ⟨fun b u q _ _ _ => k b u q, fun b u q _ _ _ => ⟨u.slots, k b u q⟩, fun b u q n _ => ?_, fun b u q _ => ⟨u, k b u q⟩, fun b xs q => ?_, fun b u xs q => ?_, fun b ps q => ⟨#[], ?_⟩⟩ fun b u e => ?_
  · rw [upd_ne fun z => by rw [z, hp] at q; cases q]; exact n
  · rw [upd_ne (ne_of_none q hn)]; exact q
  · rw [upd_ne (ne_of_none q hn)]; exact q
  · rw [upd_ne (ne_of_none q hn), q]; simp
  · by_cases hb : b = a
    · subst hb; rw [upd_same] at e; cases e; exact new
    · rw [upd_ne hb] at e
      exact (I.hok b u e).stay (fun c v _ q => k c v q) (fun c q => by rw [upd_ne (ne_of_none q hn)]; exact q) fun c xs q => by rw [upd_ne (ne_of_none q hn)]; exact q
def b2i (b : Bool) : Int := if b then 1 else 0
/-- a list of truth values, and the list of their numbers -/
def tLcB (K : PySem.W.Frag) (ta : TE) : TE := fun σ H Q => ta σ H fun v H1 => ∃ (a : Addr) (bs : List Bool), v = .ref a ∧ SqL K H1 a (bs.map V.bl) ∧ ∀ D, H1 D = none → Q (.ref D) (upd H1 D (.lst (bs.map fun b => V.int (b2i b))))
theorem vals_bls : ∀ {bs : List Bool} {us : List Value}, Vals (bs.map V.bl) us → us = bs.map Value.bool
  | [], us, h => by cases h; rfl
  | b :: bs, us, h => by
    cases h with
    | cons r t => cases r; rw [vals_bls t]; rfl
theorem paired_ints : ∀ {bs : List Bool} {ys : List Value}, Paired (fun v y => ∀ b, v = Value.bool b → ∃ t, y = .int (b2i b) t) (bs.map Value.bool) ys → Vals (bs.map fun b => V.int (b2i b)) ys
  | [], ys, h => by cases h; exact .nil
  | b :: bs, ys, h => by
    cases h with
    | cons r t => exact .cons (r b rfl) (paired_ints t)
theorem pe_lcB {x : Str} {pi px pf pc pos : Pos} {iter : Expr} {scope : Scope} {ta : TE} (K : PySem.W.Frag) (hK : X.K = K) (hc : HotC X) (ha : PE X iter ta) (hm : X.mg "int" = none)
    (hfree : ∀ y ∈ scope.names, y.2 ≠ .free) (hcell : ∀ y ∈ scope.names, y.2 ≠ .cell) (hkind : scope.kind = .function)
    (hnames : ∀ y ∈ scope.names, y.2 = .local → scope.names.lookup y.1 = some .local) (hx : scope.names.lookup x = some .local) (hi : scope.names.lookup ("int" : Str) = some .globalImplicit) (hd : (x == ("__debug__" : Str)) = false)
    (hs : ∀ x, foldedSetIterable iter X.env x = pure x := by intro _; rfl) :
    PE X (.ListComp (.Call (.Name "int" pi) [.Name x pf] [] pc) [⟨.Name x px, iter, [], 0⟩] scope pos) (tLcB K ta) := by
  subst hK
  refine ⟨fun pins s σ H Q I h => ?_⟩
  refine wpAny_ListComp_walk (fun _ => true) (fun v y => ∀ b, v = Value.bool b → ∃ t, y = .int (b2i b) t) hfree hcell hkind hnames hx (thn (ha.run pins s σ H _ I h) fun v s1 ⟨vv, H1, I1, r1, q1⟩ => ?_) hs
  obtain ⟨a, bs, rfl, hq, q⟩ := q1
  cases r1
  obtain ⟨its, rv, pl, hz⟩ := I1.list hq
  have hits := vals_bls rv
  subst hits
  obtain ⟨x1, hh, o1, vs1, h1, d1, c1⟩ := hc.at I1
  refine wpAny_pyIter_list pl.isList ?_
  have hlt : a < s1.heap.objs.size := by obtain ⟨_, e, _⟩ := pl.isList; exact Heap.lt_size e
  have n1 : x1 ≠ s1.heap.objs.size := Nat.ne_of_lt (Heap.lt_size h1)
  have ps : ∀ {b o}, s1.heap.get? b = some o → (s1.heap.push { cls := .type "list_iterator", data := .fields #[.ref a, .int 0 0] }).get? b = some o := fun e => Heap.get?_push_of_some _ e
  have nI : ∀ {b o}, s1.heap.get? b = some o → b ∉ [s1.heap.objs.size] := fun {b o} e z => by
    have z' : b = s1.heap.objs.size := by simpa using z
    exact absurd (z' ▸ Heap.lt_size e) (Nat.lt_irrefl _)
  refine ⟨s1.heap.objs.size, _, _, _, _, _, rfl, walks_list_hot hh d1 c1 _ a (Nat.ne_of_lt hlt) n1 _, ?_, ⟨⟨_, Heap.get?_push_size _ rfl, rfl, rfl⟩, pl.isList.push _, ps h1⟩, fun b hb => ?_, ⟨?_, ?_⟩, ?_⟩
  · rw [List.size_toArray, ← rv.length]; exact hz
  · show b < (s1.heap.push _).objs.size
    rw [Heap.size_push]
    rcases (show b = s1.heap.objs.size ∨ b = a ∨ b = x1 by simpa using hb) with z | z | z
    · rw [z]; exact Nat.lt_succ_self _
    · rw [z]; exact Nat.lt_succ_of_lt hlt
    · rw [z]; exact Nat.lt_succ_of_lt (Heap.lt_size h1)
  · intro C i v s3 m3 E' _ _ _ _ _
    rw [List.forIn_nil]
    exact wpAny_pure ⟨rfl, s3.heap, s3.toks, rfl, fun _ _ e => e⟩
  · intro C i v s3 m3 E' hP _ hn hmx hk _
    obtain ⟨mb, b1, b2⟩ := I1.mod.blt
    have up : ∀ b o, X.base.get? b = some o → s3.heap.get? b = some o := fun b o e => hk b o (nI (I1.bk b o e)) (ps (I1.bk b o e))
    refine Call_ (Calls.Name_function_global hkind hi (Calls.loadGlobal_builtin (mg := X.mg) (mb := mb) (v := .type "int") (by show s3.heap.Ns X.env.globals X.mg; rw [I1.ok.glob]; exact I1.mod.glob.keeps up) hm (by show s3.heap.Ns X.env.builtins mb; rw [I1.ok.blt]; exact b1.keeps up) ((b2 "int" (by decide)).trans (by decide +kernel))
      (PyProof.Rows.callWith_type1 (Calls.spliced_cons (wpAny_Name (wpAny_loadName_local hkind hx hn hmx (Calls.spliced_nil ?_)) hd)) (by rfl) rfl)))
    obtain ⟨b, rfl⟩ : ∃ b, v = Value.bool b := by
      have hP' : (bs.map Value.bool)[i]? = some v := by simpa using hP
      rw [List.getElem?_map] at hP'
      cases e : bs[i]? with
      | none => rw [e] at hP'; cases hP'
      | some b => rw [e] at hP'; cases hP'; exact ⟨b, rfl⟩
    exact call_int_bool ⟨fun b' e => by cases e; exact ⟨_, rfl⟩, s3.heap, s3.toks + 1, rfl, fun _ _ e => e⟩
  · intro D h' tk ys vs hD hl hpl hlen hP hF hk
    have hD1 : s1.heap.get? D = none := by
      cases e : s1.heap.get? D with
      | none => rfl
      | some o => rw [ps e] at hD; cases hD
    have hvs : vs = bs.map Value.bool := by
      refine List.ext_getElem? fun j => ?_
      cases e : vs[j]? with
      | none =>
        have hj : vs.length ≤ j := List.getElem?_eq_none_iff.mp e
        rw [List.getElem?_eq_none (by rw [List.size_toArray] at hlen; omega)]
      | some v =>
        have := hP j v e
        simpa using this.symm
    have hf : vs.filter (fun _ => true) = vs := List.filter_eq_self.mpr fun _ _ => rfl
    rw [hf, hvs] at hF
    have hv := paired_ints hF
    obtain ⟨n, hn⟩ := hpl
    refine ⟨.ref D, upd H1 D (.lst (bs.map fun b => V.int (b2i b))), inv_laid0 (s := s1) (t' := tk) I1 (fun b o e => hk b o (nI e) (ps e)) hD1 ⟨?_, ys.toList, n, hv, by simpa using hn⟩, rfl, q D (hp_none I1.hok hD1)⟩
    rw [List.length_map] at hz ⊢
    exact hz
end
end CS
/-! Core12: told(lambda: ..) -/
namespace CS
open PySem PySem.Spec PyProof.Rows L2 HotX L2H
/-! ### a def run in an except suite, the exception known -/
theorem run_hot {P : Program} {w : World} {K : PySem.W.Frag} {mg : Str → Option Value} {base : Heap} {k : Nat} {x qual : Str} {st : Stmt} {f : Addr} {fd : FuncData} {N ps : List Str} (F : Fun K x qual st f fd) (S : FnScope N ps (defScope st))
    {A : Around} {outer : List Env} {s : Shared} {H : Hp} {args : Args} {us : List Value} {vs : List V} {Q : VK} {p : Addr × Obj} (hr : RoomH (k + 1) A) (hot : Hot1 A p) (hpin : PinOk outer H s p) (e0 : Env0 P w K mg base A outer s H) (hb : BindsTo s fd args (ps.zip us)) (r : Vals vs us) (hl : vs.length = ps.length)
    (hbody : ∀ cdv, RoomH k (A.deeper (envOfC qual (defScope st) s.heap.objs.size f cdv)) → ∃ t, PSs (cxH C8.CX0 P w K mg base N qual (defScope st) f cdv A outer s H E0 p) (defBody st) t ∧ t { nx := fun _ H' => Q .non H', rt := Q } (L2.start N vs) H) :
    codeAny (model P w) A (.call (.ref f) args) (CR C8.CX0 outer P w H s Q E0) s := by
  obtain ⟨oc, od, kV, doc, pm, an, cdv, ct, osl, rfl, lk, hcd⟩ := F.ex
  have up := fun b o (e : base.get? b = some o) => (e0.bs b o e).1
  refine codeAny_call_function hr.depth (e0.mod.kin.keeps up _ _ lk) rfl S.co S.gen rfl (PySem.W.codeRec_of (e0.mod.kin.keeps up) hcd) (hb _ _ _ _ ?_)
  refine wpAny_newFunctionEnv_cells S.kind (fun ⟨n, v⟩ hy => (S.par n (List.of_mem_zip hy).1).imp id fun q => ⟨q, PySem.W.cellsFrom_some _ _ _ (.inl q)⟩) fun env he s1 x1 => ?_
  subst he
  obtain ⟨t, ht, hq⟩ := hbody cdv (hr.deeper _)
  refine ⟨(e0.mod.nolimit.keeps up).keeps x1.toInCall.keep, codeAny_func (wpAny_mono (ht.run [] s1 (L2.start N vs) H _ (inv_startH S hpin e0 hl r x1) hq) (fun fl s' hs => ?_) fun e s' hs => hs)⟩
  cases fl with
  | ret u =>
    obtain ⟨v, σ', H', J, rv, q⟩ := hs
    exact ⟨v, H', J.os, J.bare, J.base, J.hok, rv, q⟩
  | next =>
    obtain ⟨σ', H', J, q⟩ := hs
    exact ⟨.non, H', J.os, J.bare, J.base, J.hok, rfl, q⟩
  | brk => obtain ⟨_, _, _, q⟩ := hs; exact False.elim q
  | cont => obtain ⟨_, _, _, q⟩ := hs; exact False.elim q
/-- what _law_term tells of an exception of the class at D -/
def ErrT (H : Hp) (kind : Str) (Q : VK) : Prop := ∃ L : List Addr, (∀ a ∈ L, NT (H a)) ∧ ∀ v H', Same H H' → Dq (wo H' L) v (.tuple [.str "error", .str kind]) → Q v H'
/-- _law_term's promise -/
structure TermOk (P : Program) (w : World) (K : PySem.W.Frag) (mg : Str → Option Value) (base : Heap) (k : Nat) (f : Addr) (fd : FuncData) (D : Addr) (kind : Str) : Prop where
  run : ∀ (A : Around) (outer : List Env) (s : Shared) (H : Hp) (args : Args) (us : List Value) (Q : VK) (p : Addr × Obj), RoomH k A → Hot1 A p → PinOk outer H s p → L2N.Zn (.ref D) none p.2 → Env0 P w K mg base A outer s H → BindsTo s fd args ((["e"] : List Str).zip us) → Vals [.ref p.1] us →
    ErrT H kind Q → codeAny (model P w) A (.call (.ref f) args) (CR C8.CX0 outer P w H s Q E0) s
/-- _law_term(e) in the suite -/
theorem pe_term {X : Cx} {a : Addr} {oe : Obj} {pn : List (Addr × Obj)} {f : Addr} {fd : FuncData} {k i : Nat} {D : Addr} {kind x y : Str} {p1 p2 pos : Pos} (T : TermOk X.prog X.w X.K X.mg X.base k f fd D kind) (hz : L2N.Zn (.ref D) none oe) (hd : ∃ vs, oe.data = .fields vs)
    (hr : RoomH k X.A) (hg : Gl X x) (hm : X.mg x = some (.ref f)) (hk : PySem.W.keepIn X.K (.ref f) = true) (hb : Binds X.K fd ["e"] []) (hN : X.N[i]? = some y) (hv : Vis X.env.scope y) (hdx : (x == ("__debug__" : Str)) = false) (hdy : (y == ("__debug__" : Str)) = false) (hcy : (y == ("__classdict__" : Str)) = false) :
    PE (X.suite a ((a, oe) :: pn)) (.Call (.Name x p1) [.Name y p2] [] pos) (fun σ H Q => σ[i]? = some (some (.ref a)) ∧ ErrT H kind Q) := by
  refine ⟨fun pins s σ H Q I h => ?_⟩
  obtain ⟨hs, hq⟩ := h
  refine wpAny_Call_Name_kw (ld_glob I hg hm ?_ hdx)
  refine PySem.W.callWith_K (h₀ := X.base) I.ok.mod.kin hk ?_ (by rfl) (by rfl)
  refine Calls.spliced_cons (thn ((pe_var (X := X.suite a ((a, oe) :: pn)) (pos := p2) (i := i) hN hv hdy hcy).run pins s σ H (fun v H1 => v = .ref a ∧ H1 = H) I ⟨.ref a, hs, rfl, rfl⟩) fun u s1 ⟨v, H1, I1, r1, q1⟩ => ?_)
  obtain ⟨rfl, rfl⟩ := q1
  obtain rfl : u = Value.ref a := r1
  refine Calls.spliced_nil ⟨I1.kIn, ?_⟩
  obtain ⟨vs, hvs⟩ := hd
  have hot : Hot1 (X.A.mark (some (.ref a))) (a, oe) := ⟨rfl, vs, hvs, hz.2.2 vs hvs⟩
  have P1 := I1.pin (a, oe) (List.mem_append_left _ List.mem_cons_self)
  have hpin : PinOk X.stack H1 s1 (a, oe) := ⟨P1.1, P1.2.1, fun hm => (List.mem_cons.mp (I1.stkSub a hm)).elim P1.2.2.1 P1.2.2.2.1, P1.2.2.2.2⟩
  have b := hb s1 [.ref a] I1.kIn rfl
  refine wpAny_call (codeAny_mono (T.run (X.A.mark (some (.ref a))) X.stack s1 H1 ⟨[.ref a], []⟩ [.ref a] Q (a, oe) ⟨hr.dp, hr.un⟩ hot hpin hz I1.env0 b (.cons rfl .nil) hq) fun r s2 h2 => ?_)
  cases r with
  | error e => exact (show False from h2).elim
  | ok fl =>
    cases fl with
    | ret u => exact I1.after h2
    | next => exact False.elim h2
    | brk => exact False.elim h2
    | cont => exact False.elim h2
/-! ### a lambda without parameters, made -/
section
variable {X : Cx} {pins : List (Addr × Obj)} {σ : L2.St} {H : Hp} {s : Shared}
/-- all but the table at P stays -/
def ButT (P : Addr) (H H' : Hp) : Prop := ∀ b o, b ≠ P → H b = some o → H' b = some o
theorem lam_make3 {T : List (Addr × Str)} {c P : Addr} {params : Arguments} {body : Expr} {scope : Scope} {pos : Pos} {E : Value → Shared → Prop} {Q : Value → Shared → Prop} (I : Inv X pins σ H s) (TB : LamX.TabB X.base X.mg c P) (hcode : X.env.code = .ref c)
    (hm : (P, X.env.qual ++ "<lambda>") ∈ T) (hu : ∀ p ∈ T, p.1 = P → p.2 = X.env.qual ++ "<lambda>") (hT : LamX.Tabs T H) (hdef : defaultsOf params X.env = ([], [])) (hfree : ∀ y ∈ scope.names, y.2 = .free → ∃ c, X.env.cells.lookup y.1 = some c)
    (h : ∀ (f c' : Addr) (pm ctv : Value) (H1 : Hp) (s' : Shared), Inv X pins σ H1 s' → ButT P H H1 → LamX.Tabs T H1 →
      s'.heap.get? f = some (PySem.W.kla_obj "<lambda>" (X.env.qual ++ "<lambda>") params body scope (cloFrom X.env.cells scope.names []) pm c' ctv) → H1 f = none → f ∉ frs X.stack → H1 c' = some (LamX.CodeO c' (X.env.qual ++ "<lambda>")) → Q (.ref f) s') :
    wpAny (model X.prog X.w) X.A (eval (.Lambda params body scope pos) X.env) Q E s := by
  obtain ⟨ps, hP, ht, ha⟩ := hT _ hm
  refine PySem.W.kla_eval hdef ?_
  have hP' : s.heap.get? P = some { cls := .none, data := .fields ps } := I.hok P _ hP
  have nofr : ∀ f, s.heap.objs.size ≤ f → f ∉ frs X.stack := fun f hf z => (List.mem_cons.mp (I.stkSub _ z)).elim (fun e => Nat.lt_irrefl _ (Nat.lt_of_lt_of_le (e ▸ I.lt) hf)) fun e => I.nofs hf e
  cases hc : codeAmong pos ps.toList with
  | none =>
    refine PySem.W.kla_makeFunction (mg := X.mg) (c := c) (P := P) (ps := ps) (closure_ok hfree) I.ok.glob (I.mod.glob.keeps I.bk) hcode (TB.code.keeps I.bk) hP' ht hc TB.gP (TB.bm.keeps I.bk) fun c' ctv h' tk hx hge hlt hrec htb => ?_
    obtain ⟨c2, oc, vs, t, e2, hoc, hd, hv⟩ := hrec
    cases e2
    have hsz : s.heap.objs.size ≤ h'.objs.size := Nat.le_trans hge (Nat.le_of_lt hlt)
    have nC : H c' = none := I.hok.fresh hge
    have I1 := LamX.inv_table (t' := tk) (more := #[rawInt pos.line, rawInt pos.col, .ref c']) (h' := h'.push (PySem.W.kla_obj "<lambda>" (X.env.qual ++ "<lambda>") params body scope (cloFrom X.env.cells scope.names []) ((X.mg "__name__").getD .none) c' ctv)) I hP
      (fun b o hb e => Heap.get?_push_of_some _ (hx b o hb e)) (Heap.get?_push_of_some _ htb) hge ⟨oc, vs, t, Heap.get?_push_of_some _ hoc, hd, hv⟩
    have hE : ButT P H (upd (upd H P (.tbl (ps ++ #[rawInt pos.line, rawInt pos.col, .ref c']))) c' (LamX.CodeO c' (X.env.qual ++ "<lambda>"))) := fun b o n e => by
      rw [upd_ne (ne_of_none e nC), upd_ne n]
      exact e
    have eL : (ps ++ #[rawInt pos.line, rawInt pos.col, .ref c']).toList = ps.toList ++ [rawInt pos.line, rawInt pos.col, .ref c'] := by simp
    have co : ∀ c0 q0, H c0 = some (LamX.CodeO c0 q0) → (upd (upd H P (.tbl (ps ++ #[rawInt pos.line, rawInt pos.col, .ref c']))) c' (LamX.CodeO c' (X.env.qual ++ "<lambda>"))) c0 = some (LamX.CodeO c0 q0) := fun c0 q0 e => hE c0 _ (fun z => by
      rw [z, hP] at e
      exact LamX.codeO_ne ps (Option.some.inj e).symm) e
    refine h h'.objs.size c' ((X.mg "__name__").getD .none) ctv _ _ I1 hE (fun p hp => ?_) (Heap.get?_push_size _ rfl) ?_ (nofr _ hsz) upd_same
    · by_cases hb : p.1 = P
      · rw [hu p hp hb, hb]
        refine ⟨_, by rw [upd_ne (ne_of_none hP nC), upd_same], by rw [eL]; exact PySem.TriplesOk_snoc _ _ _ _ ht, fun p' cv hcv => ?_⟩
        rw [eL] at hcv
        rcases LamX.among_app _ ht hcv with z | z
        · obtain ⟨c0, e1, e2⟩ := ha p' cv z
          exact ⟨c0, e1, co _ _ e2⟩
        · exact ⟨c', z, upd_same⟩
      · obtain ⟨ps', a1, a2, a3⟩ := hT p hp
        refine ⟨ps', hE _ _ hb a1, a2, fun p' cv hcv => ?_⟩
        obtain ⟨c0, e1, e2⟩ := a3 p' cv hcv
        exact ⟨c0, e1, co _ _ e2⟩
    · rw [upd_ne (Nat.ne_of_gt hlt), upd_ne (Nat.ne_of_gt (Nat.lt_of_lt_of_le (Heap.lt_size hP') hsz))]
      exact I.hok.fresh hsz
  | some cv =>
    obtain ⟨c', e, hco⟩ := ha pos cv hc
    subst e
    refine PySem.W.kla_makeFunctionHit (mg := X.mg) (c := c) (P := P) (ps := ps) (closure_ok hfree) I.ok.glob (I.mod.glob.keeps I.bk) hcode (TB.code.keeps I.bk) hP' ht hc (TB.bm.keeps I.bk) fun ctv h' tk hx hsz => ?_
    exact h h'.objs.size c' ((X.mg "__name__").getD .none) ctv H _ (I.kept fun b o e => Heap.get?_push_of_some _ (hx b o e)) (fun _ _ _ e => e) hT (Heap.get?_push_size _ rfl) (I.hok.fresh hsz) (nofr _ hsz) hco
end
/-! ### its body, run -/
/-- the context of the lambda's body: what it lets out has no context of its own -/
def lamCxN (X : Cx) (A : Around) (outer : List Env) (s : Shared) (H : Hp) (E : XK) (scope : Scope) (f c' : Addr) : Cx :=
  (LamX.lamCx X A outer s H E0 scope f c').tr [] fun e s' => wpAny (model X.prog X.w) (A.deeper (LamX.lamEnv X scope s.heap.objs.size f c')) (leaving (LamX.lamEnv X scope s.heap.objs.size f c') e) (fun _ s'' => L2N.CX X.prog X.w outer H s E e s'') (fun e' s'' => L2N.CX X.prog X.w outer H s E e' s'') s'
section
variable {X : Cx} {pins : List (Addr × Obj)} {σ : L2.St} {H : Hp} {s : Shared}
/-- a(), in the def that got the lambda -/
theorem pe_actN {CXg : CXT} {Eg : XK} {Ng : List Str} {qg : Str} {sg : Scope} {g f c' : Addr} {cdg pm ctv : Value} {params : Arguments} {body : Expr} {scope : Scope} {k i : Nat} {a : Str} {pn : List (Addr × Obj)} {xe : Value → Shared → Prop} {W : WX} {tb : XK → TE} {p1 p2 : Pos}
    (I : Inv X pins σ H s) (L : LamX.LamS X.env.scope scope) (hf : s.heap.get? f = some (PySem.W.kla_obj "<lambda>" (X.env.qual ++ "<lambda>") params body scope (cloFrom X.env.cells scope.names []) pm c' ctv)) (hfn : H f = none) (hfr : f ∉ frs X.stack)
    (hbind : bindArgs (PySem.W.kla_fn "<lambda>" (X.env.qual ++ "<lambda>") params body scope (cloFrom X.env.cells scope.names []) pm (.ref c') ctv) ⟨[], []⟩ = pure [])
    (tk : L2N.Takes ((cxOf CXg X.prog X.w X.K X.mg X.base Ng qg sg g cdg X.A X.stack s H Eg).tr pn xe) W) (hr : Room (k + 1) (X.A.deeper (envOfC qg sg s.heap.objs.size g cdg)))
    (hbody : ∀ (A : Around) (outer : List Env) (s : Shared) (H : Hp) (E : XK), Room k (A.deeper (LamX.lamEnv X scope s.heap.objs.size f c')) → PE (lamCxN X A outer s H E scope f c') body (tb E))
    (hN : Ng[i]? = some a) (hv : Vis sg a) (hd : (a == ("__debug__" : Str)) = false := by decide) (hcd : (a == ("__classdict__" : Str)) = false := by decide) :
    PE ((cxOf CXg X.prog X.w X.K X.mg X.base Ng qg sg g cdg X.A X.stack s H Eg).tr pn xe) (.Call (.Name a p1) [] [] p2)
      (fun σZ HZ Q => ∃ E : XK, (∀ cls d H', E cls d H' → W cls d σZ H') ∧ σZ[i]? = some (some (.ref f)) ∧ HZ c' = some (LamX.CodeO c' (X.env.qual ++ "<lambda>")) ∧ tb E σ HZ Q) := by
  refine ⟨fun pinsZ sZ σZ HZ Q IZ h => ?_⟩
  obtain ⟨E, hW, hs, hc, ht⟩ := h
  refine wpAny_Call_Name_kw (thn ((pe_var (pos := p1) (i := i) hN hv hd hcd).run pinsZ sZ σZ HZ (fun v H1 => v = .ref f ∧ H1 = HZ) IZ ⟨.ref f, hs, rfl, rfl⟩) fun u s1 ⟨v, H1, I1, r1, q1⟩ => ?_)
  obtain ⟨ev, eH⟩ := q1
  subst ev
  rw [eH] at I1
  obtain rfl : u = Value.ref f := r1
  have of1 : s1.heap.get? f = some (PySem.W.kla_obj "<lambda>" (X.env.qual ++ "<lambda>") params body scope (cloFrom X.env.cells scope.names []) pm c' ctv) := I1.base.keep f _ hf hfn hfr (fun z => nomatch (show f ∈ ([] : List Addr) from z))
  refine PySem.W.callWith_F0 ⟨_, _, _, _, of1⟩ ?_
  have un : Un (frs X.stack) [] H HZ s.heap s1.heap := I1.base
  obtain ⟨⟨oc, vs, t, hoc, hdc, hvc⟩, _, _⟩ := I1.hok c' _ hc
  have rc : codeAny (model X.prog X.w) (X.A.deeper (envOfC qg sg s.heap.objs.size g cdg)) (.call (.ref f) ⟨[], []⟩) (CR (L2N.CX X.prog X.w) (envOfC qg sg s.heap.objs.size g cdg :: X.stack) X.prog X.w HZ s1 Q E) s1 := by
    refine PySem.W.kla_callFunE hr.depth of1 rfl L.co L.gen rfl ⟨c', oc, vs, t, rfl, hoc, hdc, hvc⟩ ?_
    rw [hbind]
    refine wpAny_pure (wpAny_newFunctionEnv (fun y hy => (L.own y hy).2) (fun y hy => absurd hy (by simp)) (fun h₁ hns hsb => ⟨I1.nolimit.fresh _ hsb, ?_⟩) L.kind)
    show codeAny _ _ (.expr body (LamX.lamEnv X scope s1.heap.objs.size f c')) _ _
    have kp : ∀ b o, s1.heap.get? b = some o → h₁.get? b = some o := fun b o e => hsb.extBut b o (Nat.ne_of_lt (Heap.lt_size e)) (Heap.get?_push_of_some _ e)
    have J := (LamX.lam_start2 (E := E0) (f := f) (c' := c') (tk := s1.toks + ([] : List (Str × Value)).length) I L I1.env0 hr.hd un hns kp).toTry (fun e s' => wpAny (model X.prog X.w) ((X.A.deeper (envOfC qg sg s.heap.objs.size g cdg)).deeper (LamX.lamEnv X scope s1.heap.objs.size f c')) (leaving (LamX.lamEnv X scope s1.heap.objs.size f c') e) (fun _ s'' => L2N.CX X.prog X.w (envOfC qg sg s.heap.objs.size g cdg :: X.stack) HZ s1 E e s'') (fun e' s'' => L2N.CX X.prog X.w (envOfC qg sg s.heap.objs.size g cdg :: X.stack) HZ s1 E e' s'') s')
    refine PySem.W.kla_codeExpr (wpAny_mono ((hbody _ _ s1 HZ E (hr.deeper _)).run [] _ _ HZ Q J ht) (fun v s' hq => ?_) fun e s' hq => hq)
    obtain ⟨w', H', J', rv, q⟩ := hq
    exact ⟨w', H', J'.os, J'.bare, J'.base, J'.hok, rv, q⟩
  refine wpAny_call (codeAny_mono rc fun r s' hq => ?_)
  cases r with
  | error e => exact tk e s' (L2N.XE.of_call I1 hW hq)
  | ok fl =>
    cases fl with
    | ret u => exact I1.after hq
    | next => exact False.elim hq
    | brk => exact False.elim hq
    | cont => exact False.elim hq
theorem takes0N {X : Cx} : L2N.Takes X (fun _ _ _ _ => False) := fun _ _ x => by
  obtain ⟨_, _, _, _, _, _, _, _, _, _, _, _, _, _, _, _, z⟩ := x
  exact z.elim
end
/-! ### told(lambda: body) -/
def tTold (T : List (Addr × Str)) (P : Addr) (TO : Addr → Str → Prop) (t : XK → TE) : TE := fun σ H Q => LamX.Tabs T H ∧ ∀ H1, ButT P H H1 → LamX.Tabs T H1 →
  t (fun cls d H' => d = none ∧ ∃ D kind, cls = .ref D ∧ TO D kind ∧ ErrT H' kind Q) σ H1 Q
theorem pe_told {X : Cx} {T : List (Addr × Str)} {x a er tm n : Str} {st : Stmt} {g c P SE ft : Addr} {k kt : Nat} {fdg fdt : FuncData} {Ng : List Str} {TO : Addr → Str → Prop} {params : Arguments} {body : Expr} {scope : Scope} {t : XK → TE} {p lpos pos p1 p2 p3 p4 p5 p6 p7 p8 p9 p10 : Pos}
    (hg : Gl X x) (hm : X.mg x = some (.ref g)) (F : Fun X.K x x st g fdg) (hb : Binds X.K fdg [a] []) (Sg : FnScope Ng [a] (defScope st)) (hNg : Ng[0]? = some a) (hN1 : Ng[1]? = some n) (hva : Vis (defScope st) a) (hln : (defScope st).names.lookup n = some .local)
    (hbd : defBody st = [.Try [.Return (some (.Call (.Name a p1) [] [] p2)) p3] [.ExceptHandler (some (.Name er p4)) (some n) [.Return (some (.Call (.Name tm p5) [.Name n p6] [] p7)) p8] p9] [] [] p10])
    (hge : (defScope st).names.lookup er = some .globalImplicit) (hme : X.mg er = some (.ref SE)) (hgt : (defScope st).names.lookup tm = some .globalImplicit) (hmt : X.mg tm = some (.ref ft)) (hkt : PySem.W.keepIn X.K (.ref ft) = true) (hbt : Binds X.K fdt ["e"] [])
    (hTO : ∀ D kind, TO D kind → TermOk X.prog X.w X.K X.mg X.base kt ft fdt D kind ∧ PySem.W.exmOne X.K (.ref D) (.ref SE) = some true)
    (TB : LamX.TabB X.base X.mg c P) (hcode : X.env.code = .ref c) (hmT : (P, X.env.qual ++ "<lambda>") ∈ T) (hu : ∀ p ∈ T, p.1 = P → p.2 = X.env.qual ++ "<lambda>") (hr : Room (k + 2) X.A) (hkk : kt ≤ k) (L : LamX.LamS X.env.scope scope) (hdef : defaultsOf params X.env = ([], []))
    (hbind : ∀ (q : Str) (cl : List (Str × Addr)) (pm cv ctv : Value), bindArgs (PySem.W.kla_fn "<lambda>" q params body scope cl pm cv ctv) ⟨[], []⟩ = pure [])
    (hbody : ∀ (A : Around) (outer : List Env) (s : Shared) (H : Hp) (E : XK) (f c' : Addr), Room k (A.deeper (LamX.lamEnv X scope s.heap.objs.size f c')) → PE (lamCxN X A outer s H E scope f c') body (t E))
    (hdx : (x == ("__debug__" : Str)) = false := by decide) (hda : (a == ("__debug__" : Str)) = false := by decide) (hca : (a == ("__classdict__" : Str)) = false := by decide) (hdn : (n == ("__debug__" : Str)) = false := by decide) (hcn : (n == ("__classdict__" : Str)) = false := by decide)
    (hde : (er == ("__debug__" : Str)) = false := by decide) (hdt : (tm == ("__debug__" : Str)) = false := by decide) :
    PE X (.Call (.Name x p) [.Lambda params body scope lpos] [] pos) (tTold T P TO t) := by
  refine ⟨fun pins s σ H Q I h => ?_⟩
  obtain ⟨hT, h⟩ := h
  obtain ⟨oc, od, kV, doc, pm, an, cdv, ct, osl, rfl, lk, hcd⟩ := F.ex
  refine wpAny_Call_Name_kw (ld_glob I hg hm ?_ hdx)
  refine PySem.W.callWith_K (h₀ := X.base) I.ok.mod.kin F.kp ?_ (by rfl) (by rfl)
  show wpAny _ _ (spliced ((false, eval (.Lambda params body scope lpos) X.env) :: backTo pos (starEach [] X.env))) _ _ s
  refine Calls.spliced_cons (lam_make3 I TB hcode hmT hu hT hdef (L.has I.ok) fun f c' pm' ctv H1 s' I1 eN T1 hf hfn hfr hco => ?_)
  refine Calls.spliced_nil ⟨I1.kIn, ?_⟩
  have hlen : ∀ f : Addr, (L2.start Ng [V.ref f])[0]? = some (some (V.ref f)) := fun f => rfl
  have rc : codeAny (model X.prog X.w) X.A (.call (.ref g) ⟨[.ref f], []⟩) (CR C8.CX0 X.stack X.prog X.w H1 s' Q C8.E0) s' := by
    refine LamX.run_ofS (N := Ng) (ps := [a]) (us := [.ref f]) (vs := [.ref f]) lk hcd Sg hr I1.env0 (hb s' [.ref f] I1.kIn rfl) (.cons rfl .nil) rfl fun hr' => ?_
    rw [hbd]
    refine ⟨_, (pss_one (L2N.ps_try_as (X := (cxOf C8.CX0 X.prog X.w X.K X.mg X.base Ng x (defScope st) g cdv X.A X.stack s' H1 C8.E0).nox) (c := .ref SE) (i := 1) (Wout := fun _ _ _ _ => False)
        (tb := fun W D σ' H' => ∃ E : XK, (∀ cls d H2, E cls d H2 → W cls d σ' H2) ∧ σ'[0]? = some (some (.ref f)) ∧ H' c' = some (LamX.CodeO c' (X.env.qual ++ "<lambda>")) ∧ t E σ H' D.rt)
        (ts := fun ea cls d D σ' H' => σ'[1]? = some (some (.ref ea)) ∧ d = none ∧ ∃ D0 kind, cls = .ref D0 ∧ TO D0 kind ∧ ErrT H' kind D.rt)
        rfl rfl Sg.nd hN1 hln ⟨hge, hde, .inl hme⟩ takes0N (fun W pn xe tk _ => ?_) (fun ea oe cls d pn hz hvs => ?_))).nox, ?_⟩
    · refine ⟨fun pins2 s2 σ2 H2 D I2 h2 => ?_⟩
      have hp := pe_actN (CXg := C8.CX0) (Eg := C8.E0) (p1 := p1) (p2 := p2) (k := k) (i := 0) I1 L hf hfn hfr (hbind _ _ _ _ _) tk hr' (fun A outer s H E hr2 => hbody A outer s H E f c' hr2) hNg hva hda hca
      exact (pss_one (ps_ret (pos := p3) hp)).run pins2 s2 σ2 H2 D I2 h2
    · refine ⟨fun pins2 s2 σ2 H2 D I2 h2 => ?_⟩
      obtain ⟨h1, rfl, D0, kind, rfl, to, hq⟩ := h2
      obtain ⟨tok, _⟩ := hTO D0 kind to
      have hp := pe_term (X := (cxOf C8.CX0 X.prog X.w X.K X.mg X.base Ng x (defScope st) g cdv X.A X.stack s' H1 C8.E0).nox) (a := ea) (pn := pn) (p1 := p5) (p2 := p6) (pos := p7) (i := 1) (x := tm) (y := n) tok hz hvs ((roomH_of hr').mono (by omega)) hgt hmt hkt hbt hN1 (.inl hln) hdt hdn hcn
      exact (pss_one (ps_ret (pos := p8) hp)).run pins2 s2 σ2 H2 D I2 ⟨h1, hq⟩
    · refine ⟨fun cls d H' => d = none ∧ ∃ D kind, cls = .ref D ∧ TO D kind ∧ ErrT H' kind Q, fun cls d H' ⟨e1, D0, kind, e2, to, q⟩ => ⟨true, by rw [e2]; exact (hTO D0 kind to).2, fun _ ea _ => ⟨?_, e1, D0, kind, e2, to, q⟩, fun z => by cases z⟩, hlen f, hco, h H1 eN T1⟩
      have l1 : 1 < Ng.length := (List.getElem?_eq_some_iff.mp hN1).1
      rw [List.getElem?_set_self]
      unfold L2.start
      rw [List.length_append, List.length_map, List.length_replicate]
      simp
      omega
  refine wpAny_call (codeAny_mono rc fun r s2 hq => ?_)
  cases r with
  | error e => exact (show False from hq).elim
  | ok fl =>
    cases fl with
    | ret u => exact I1.after hq
    | next => exact False.elim hq
    | brk => exact False.elim hq
    | cont => exact False.elim hq
/-! ### what _law_term does -/
theorem _root_.L2H.RoomH.units {k : Nat} {A : Around} (r : RoomH k A) : A.units + 64 < cLine := by have := r.un; omega
theorem _root_.L2H.RoomH.units65 {k : Nat} {A : Around} (r : RoomH k A) : A.units + 65 < cLine := by have := r.un; omega
def eIsX {S : Type} (a : Addr) (i : Nat) (b : Bool) : List Sl → S → Rs S W := fun σ s => match σ[i]? with
  | some (.w (.ref x)) => if x = a then .ok (.d (.bool b)) s else .stuck
  | _ => .stuck
section
variable {G : Gm} {E : XK} {K : PySem.W.Frag}
theorem sm_isX {D a : Addr} {c : V} {cv : Value} {i : Nat} {b : Bool} (hc : ∀ u, L2.RelV c u → u = cv) (h : PySem.W.kitOne K (.ref D) cv = some b) : Sm G E (tCB (rIsE K D a) (tCons (tVar i) (tCons (tC c) tNil))) (eIsX a i b) := fun L O σD s σ H Q R hw => by
  unfold eIsX at hw
  cases e : σD[i]? with
  | none => rw [e] at hw; exact hw.elim
  | some x =>
    rw [e] at hw
    cases x with
    | non => exact hw.elim
    | own _ => exact hw.elim
    | odc _ => exact hw.elim
    | w x =>
      cases x with
      | d _ => exact hw.elim
      | dic _ => exact hw.elim
      | ref y =>
        dsimp only at hw
        by_cases hy : y = a
        · rw [if_pos hy] at hw
          subst hy
          obtain ⟨o, h1, v, h2, h3⟩ := R.sl i _ e
          subst h2
          have hv : v = .ref y := h3
          subst hv
          exact ⟨.ref y, h1, c, cv, b, rfl, hc, h, hw _ H Stp.refl R.ok (.bl b)⟩
        · rw [if_neg hy] at hw; exact hw.elim
def blsD : List PyData → Option (List Bool)
  | [] => some []
  | .bool b :: r => (blsD r).map (b :: ·)
  | _ :: _ => none
theorem blsD_some : ∀ {ds : List PyData} {bs : List Bool}, blsD ds = some bs → ds = bs.map PyData.bool
  | [], _, h => by cases h; rfl
  | .bool b :: r, bs, h => by
    cases e : blsD r with
    | none => rw [blsD, e] at h; cases h
    | some q => rw [blsD, e] at h; cases h; rw [blsD_some e]; rfl
  | .none :: _, _, h => by cases h
  | .int _ :: _, _, h => by cases h
  | .str _ :: _, _, h => by cases h
  | .list _ :: _, _, h => by cases h
  | .tuple _ :: _, _, h => by cases h
  | .dict _ :: _, _, h => by cases h
theorem dqAll_bls {H : Hp} : ∀ {vs : List V} {bs : List Bool}, DqAll H vs (bs.map PyData.bool) → vs = bs.map V.bl
  | _, [], h => by cases h; rfl
  | _, b :: bs, h => by
    cases h with
    | cons h1 h2 => rw [dq_bool h1, dqAll_bls h2]; rfl
def eLcB {S : Type} (f : List Sl → S → Rs S W) : List Sl → S → Rs S W := fun σ s => (f σ s).bind fun x s => match x with
  | .d (.list ds) => optR ((blsD ds).map fun bs => .d (.list (bs.map fun b => .int (b2i b)))) s
  | _ => .stuck
theorem dqAll_b2i {H : Hp} : ∀ bs : List Bool, DqAll H (bs.map fun b => V.int (b2i b)) (bs.map fun b => .int (b2i b))
  | [] => .nil
  | b :: bs => .cons (.int _) (dqAll_b2i bs)
theorem sm_lcB {ta : TE} {f : List Sl → G.S → Rs G.S W} (h : Sm G E ta f) : Sm G E (tLcB K ta) (eLcB f) := fun L O σD s σ H Q R hw =>
  h.thenV R hw fun x s1 v H1 e1 R1 wx h1 => by
    cases x with
    | ref _ => exact h1.elim
    | dic _ => exact h1.elim
    | d d =>
      cases d with
      | list ds =>
        dsimp only at h1
        obtain ⟨w, ew, hq⟩ := optR_want h1
        cases eb : blsD ds with
        | none => rw [eb] at ew; cases ew
        | some bs =>
          rw [eb] at ew
          cases ew
          have := blsD_some eb
          subst this
          obtain ⟨a, vs, rfl, ha, hv⟩ := dq_lst wx
          have hvs := dqAll_bls hv
          subst hvs
          exact ⟨a, bs, rfl, .of (wo_some ha).1, fun D hD => hq _ _ (Stp.of (same_new hD)) (G.ok_same R1.ok (same_new hD)) (dq_newL R1.live hD (dqAll_b2i bs))⟩
      | _ => exact h1.elim
end
/-! ### l.index(x) -/
def firstEq (d : PyData) : List PyData → Option Nat
  | [] => none
  | z :: r => if PyData.eqv z d then some 0 else (firstEq d r).map (· + 1)
theorem firstEq_some {d : PyData} : ∀ {ds : List PyData} {j : Nat}, firstEq d ds = some j → ∃ z, ds[j]? = some z ∧ PyData.eqv z d = true ∧ ∀ (m : Nat) (z' : PyData), m < j → ds[m]? = some z' → PyData.eqv z' d = false
  | [], _, h => by cases h
  | z :: r, j, h => by
    unfold firstEq at h
    by_cases e : PyData.eqv z d = true
    · rw [if_pos e] at h
      cases h
      exact ⟨z, rfl, e, fun m _ hm _ => absurd hm (Nat.not_lt_zero m)⟩
    · rw [if_neg e] at h
      cases e2 : firstEq d r with
      | none => rw [e2] at h; cases h
      | some k =>
        rw [e2] at h
        cases h
        obtain ⟨z2, a1, a2, a3⟩ := firstEq_some e2
        refine ⟨z2, by simpa using a1, a2, fun m z' hm hz => ?_⟩
        cases m with
        | zero =>
          have e3 : z = z' := by simpa using hz
          rw [← e3]
          exact Bool.eq_false_iff.mpr e
        | succ m => exact a3 m z' (by have : m + 1 < k + 1 := hm; omega) (by simpa using hz)
def pyIndexD : PyData → PyData → Option PyData
  | .list ds, d => if SeqAt.shaped (.list ds) && SeqAt.shaped d then (firstEq d ds).map fun j => .int (j : Nat) else none
  | _, _ => none
theorem mt_indexK {X : Cx} (K : PySem.W.Frag) (h : X.K = K) (hu : X.A.units + 65 < cLine) : MtR X "list.index" (rIndexD K) := by subst h; exact mt_indexD hu
def eIndex {S : Type} (fo fe : List Sl → S → Rs S W) : List Sl → S → Rs S W := fun σ s => (fo σ s).bind fun x s => match x with
  | .d (.list ds) => (fe σ s).bind fun y s => optR (lift2 pyIndexD (.d (.list ds)) y) s
  | _ => .stuck
theorem sm_index {G : Gm} {E : XK} {K : PySem.W.Frag} {to te : TE} {fo fe : List Sl → G.S → Rs G.S W} (ho : Sm G E to fo) (he : Sm G E te fe) : Sm G E (tBM K "list" (rIndexD K) to (tCons te tNil)) (eIndex fo fe) := fun L O σD s σ H Q R h =>
  ho.thenV R h fun x s1 v H1 e1 R1 wx h1 => by
    cases x with
    | ref _ => exact h1.elim
    | dic _ => exact h1.elim
    | d d =>
      cases d with
      | list ds =>
        dsimp only at h1
        obtain ⟨a, vs, rfl, ha, hv⟩ := dq_lst wx
        refine ⟨.inl ⟨rfl, vs, .of (wo_some ha).1⟩, he.thenV R1 h1 fun y s2 u H2 e2 R2 wy h2 => ?_⟩
        obtain ⟨w, ew, hq⟩ := optR_want h2
        obtain ⟨d', e', z, hd', rfl, rfl, eg⟩ := lift2_some ew
        cases hd'
        dsimp only [pyIndexD] at eg
        split at eg
        case isFalse => cases eg
        rename_i hs
        rw [Bool.and_eq_true] at hs
        cases ef : firstEq e' ds with
        | none => rw [ef] at eg; cases eg
        | some j =>
          rw [ef] at eg
          cases eg
          obtain ⟨z, a1, a2, a3⟩ := firstEq_some ef
          have w2 := WR.same (w := .d (.list ds)) (stp_wo R.l0 e2) wx
          exact ⟨a, u, e', ds, j, z, rfl, rfl, Dq.dp _ _ (dq_same same_of_wo _ _ w2), Dq.dp _ _ (dq_same same_of_wo _ _ wy), hs.1, hs.2, a1, a2, a3, hq _ H2 Stp.refl R2.ok (.int _)⟩
      | _ => exact h1.elim
/-! ### the mirror's -/
def eTold (told : List Nat) (kd : Nat → Str) (f : List Sl → Unit → Rs Unit W) : List Sl → DiceS → Rs DiceS W := fun σ s => match f σ () with
  | .ok w _ => .ok w s
  | .exc c _ => if c ∈ told then .ok (.d (.tuple [.str "error", .str (kd c)])) s else .stuck
  | .stuck => .stuck
theorem sm_told {cl : Nat → Addr} {da P : Addr} {dt : List (Addr × Str)} {q : Str} {told : List Nat} {kd : Nat → Str} {TO : Addr → Str → Prop} {t : XK → TE} {f : List Sl → Unit → Rs Unit W} {E : XK} (hP : (P, q) ∈ dt) (hTO : ∀ c ∈ told, TO (cl c) (kd c)) (h : ∀ E, Sm (pureG cl) E (t E) f) :
    Sm (diceG cl da dt) E (tTold dt P TO t) (eTold told kd f) := fun L O σD s σ H Q R hw => by
  have okk := R.ok
  refine ⟨okk.2, fun H1 bt T1 => ?_⟩
  have hP0 : P ∈ (diceG cl da dt).L0 := List.mem_cons_of_mem _ (List.mem_map.mpr ⟨_, hP, rfl⟩)
  obtain ⟨ps, hps, _⟩ := okk.2 _ hP
  have nd : da ≠ P := fun z => by
    have e := okk.1
    rw [z, hps] at e
    cases e
  have ok1 : (diceG cl da dt).ok s H1 := ⟨bt da _ nd okk.1, T1⟩
  have st1 : Stp (diceG cl da dt) H H1 := fun b o hb e => bt b o (fun z => hb (z ▸ hP0)) e
  have R1 := R.step st1 ok1
  have RP : SR (pureG cl) L O σD () σ H1 := ⟨(fun a h => nomatch h), (fun a h => ⟨(R1.oL a h).1, fun z => nomatch z⟩), R1.nt, trivial, R1.sl, R1.df⟩
  refine h _ L O σD () σ H1 Q RP ?_
  unfold eTold at hw
  cases e : f σD () with
  | stuck => rw [e] at hw; exact hw
  | ok w u =>
    rw [e] at hw
    intro v H' st _ wr
    have sm : Same H1 H' := fun b o q => st b o (fun z => nomatch z) q
    exact hw v H' (st1.trans (Stp.of sm)) ((diceG cl da dt).ok_same ok1 sm) wr
  | exc c u =>
    rw [e] at hw
    dsimp only at hw
    split at hw
    case isFalse => exact hw.elim
    rename_i hc
    intro H' st _
    have sm : Same H1 H' := fun b o q => st b o (fun z => nomatch z) q
    refine ⟨rfl, cl c, kd c, rfl, hTO c hc, L, fun a ha => ?_, fun v H2 sm2 er => ?_⟩
    · obtain ⟨o, q, n⟩ := R1.nt a ha
      rw [sm a o q]
      exact ⟨o, rfl, n⟩
    · have sm3 : Same H1 H2 := fun b o q => sm2 b o (sm b o q)
      exact hw v H2 (st1.trans (Stp.of sm3)) ((diceG cl da dt).ok_same ok1 sm3) er
end CS
/-! Core13: the number of slots stays -/
namespace CS
open PySem PySem.Spec PyProof.Rows L2
section
variable {S : Type} {f g : List Sl → S → Fl S}
theorem kl_next : KeepLen (S := S) sNext := fun _ _ _ _ h => by cases h; rfl
theorem kl_stuck : KeepLen (S := S) sStuck := fun _ _ _ _ h => by cases h
theorem kl_raise {c : Nat} : KeepLen (S := S) (sRaise c) := fun _ _ _ _ h => by cases h
theorem kl_seq (h1 : KeepLen f) (h2 : KeepLen g) : KeepLen (sSeq f g) := fun σ s σ' s' h => by
  unfold sSeq at h
  split at h
  · rename_i e; rw [h2 _ _ _ _ h, h1 _ _ _ _ e]
  all_goals cases h
theorem kl_if {t : List Sl → S → Rs S Bool} (h1 : KeepLen f) (h2 : KeepLen g) : KeepLen (sIf t f g) := fun σ s σ' s' h => by
  unfold sIf sT at h
  split at h
  · dsimp only at h
    split at h
    · exact h1 _ _ _ _ h
    · exact h2 _ _ _ _ h
  all_goals cases h
theorem kl_asg {i : Nat} {e : List Sl → S → Rs S W} : KeepLen (sAsg i e) := fun σ s σ' s' h => by
  unfold sAsg sE at h
  split at h
  · cases h; rw [List.length_set]
  all_goals cases h
theorem bNames_len : ∀ {is : List Nat} {ds : List PyData} {σ σ' : List Sl}, bNames is ds σ = some σ' → σ'.length = σ.length
  | [], [], σ, σ', h => by cases h; rfl
  | i :: is, d :: ds, σ, σ', h => by rw [bNames_len (is := is) (ds := ds) h, List.length_set]
  | [], _ :: _, _, _, h => by cases h
  | _ :: _, [], _, _, h => by cases h
theorem kl_asgT {is : List Nat} {e : List Sl → S → Rs S W} : KeepLen (sAsgT is e) := fun σ s σ' s' h => by
  unfold sAsgT sE at h
  split at h
  · dsimp only at h
    split at h
    · split at h
      · rename_i e2
        cases h
        unfold bTup at e2
        split at e2
        · exact bNames_len e2
        · cases e2
      · cases h
    · cases h
  all_goals cases h
theorem kl_par {i j : Nat} {e : List Sl → S → Rs S (List W)} : KeepLen (sPar i j e) := fun σ s σ' s' h => by
  unfold sPar at h
  split at h
  · cases h; rw [List.length_set, List.length_set]
  all_goals cases h
theorem kl_aug {i : Nat} {op : Int → Int → Int} {e : List Sl → S → Rs S W} : KeepLen (sAug i op e) := fun σ s σ' s' h => by
  unfold sAug at h
  split at h
  · split at h
    · cases h; rw [List.length_set]
    all_goals cases h
  · cases h
theorem kl_drop {e : List Sl → S → Rs S W} : KeepLen (sDrop e) := fun σ s σ' s' h => by
  unfold sDrop sE at h
  split at h
  · cases h; rfl
  all_goals cases h
theorem kl_ret {e : List Sl → S → Rs S W} : KeepLen (sRet e) := fun σ s σ' s' h => by
  unfold sRet sE at h
  split at h
  all_goals cases h
theorem kl_retL {i : Nat} : KeepLen (S := S) (sRetL i) := fun σ s σ' s' h => by
  unfold sRetL at h
  split at h
  all_goals cases h
/-- a target keeps the slots' number -/
def KeepB (b : PyData → List Sl → Option (List Sl)) : Prop := ∀ d σ σ', b d σ = some σ' → σ'.length = σ.length
theorem kb_name {i : Nat} : KeepB (bName i) := fun d σ σ' h => by cases h; rw [List.length_set]
theorem kb_tup {is : List Nat} : KeepB (bTup is) := fun d σ σ' h => by
  unfold bTup at h
  split at h
  · exact bNames_len h
  · cases h
theorem kl_go {b : PyData → List Sl → Option (List Sl)} (hb : KeepB b) (h1 : KeepLen f) : ∀ (items : List PyData), KeepLen (fGo b f items)
  | [] => fun σ s σ' s' h => by cases h; rfl
  | d :: r => fun σ s σ' s' h => by
    unfold fGo at h
    split at h
    · cases h
    · rename_i e
      split at h
      · rename_i e2
        rw [kl_go hb h1 r _ _ _ _ h, h1 _ _ _ _ e2, hb _ _ _ e]
      all_goals cases h
theorem kl_for {fi : List Sl → S → Rs S (List PyData)} {b : PyData → List Sl → Option (List Sl)} (hb : KeepB b) (h1 : KeepLen f) : KeepLen (sFor fi b f) := fun σ s σ' s' h => by
  unfold sFor at h
  split at h
  · exact kl_go hb h1 _ _ _ _ _ h
  all_goals cases h
theorem kl_asgO {i : Nat} {e : List Sl → S → Rs S W} : KeepLen (sAsgO i e) := fun σ s σ' s' h => by
  unfold sAsgO at h
  split at h
  · cases h; rw [List.length_set]
  all_goals cases h
theorem kl_app {i : Nat} {e : List Sl → S → Rs S W} : KeepLen (sApp i e) := fun σ s σ' s' h => by
  unfold sApp at h
  split at h
  · split at h
    · split at h
      · cases h; rw [List.length_set]
      · cases h
    all_goals cases h
  · cases h
theorem kl_setO {i : Nat} {e j : List Sl → S → Rs S W} : KeepLen (sSetO i j e) := fun σ s σ' s' h => by
  unfold sSetO at h
  split at h
  · split at h
    · split at h
      · split at h
        · cases h; rw [List.length_set]
        · cases h
      all_goals cases h
    all_goals cases h
  · cases h
theorem kl_newD {i : Nat} : KeepLen (S := S) (sNewD i) := fun σ s σ' s' h => by cases h; rw [List.length_set]
theorem kl_putD {i : Nat} {e j : List Sl → S → Rs S W} : KeepLen (sPutD i j e) := fun σ s σ' s' h => by
  unfold sPutD at h
  split at h
  · split at h
    · split at h
      · split at h
        · split at h
          · cases h; rw [List.length_set]
          · cases h
        · cases h
      all_goals cases h
    all_goals cases h
  · cases h
theorem frz_len (i : Nat) (σ : List Sl) : (frz i σ).length = σ.length := by
  unfold frz
  split
  · rw [List.length_set]
  · rfl
theorem kl_frz {i : Nat} (h1 : KeepLen f) : KeepLen (sFrz i f) := fun σ s σ' s' h => by
  rw [h1 _ _ _ _ h, frz_len]
theorem kl_parO {i j : Nat} {a b : List Sl → S → Rs S W} : KeepLen (sParO i j a b) := fun σ s σ' s' h => by
  unfold sParO at h
  split at h
  · split at h
    · cases h; rw [List.length_set, List.length_set]
    all_goals cases h
  all_goals cases h
theorem kl_parO2 {i j : Nat} {a b : List Sl → S → Rs S W} : KeepLen (sParO2 i j a b) := fun σ s σ' s' h => by
  unfold sParO2 at h
  split at h
  · split at h
    · cases h; rw [List.length_set, List.length_set]
    all_goals cases h
  all_goals cases h
end
theorem kl_die {da : Addr} {i : Nat} {k : Bool} {e : List Sl → DiceS → Rs DiceS W} : KeepLen (sDie da i k e) := fun σ s σ' s' h => by
  unfold sDie at h
  split at h
  · split at h
    · split at h
      · cases h; rfl
      · cases h
    · cases h
  all_goals cases h
/-! ### defs that throw the dice, wherever the dice lie -/
def spX (cl : Nat → Addr) (dt : List (Addr × Str)) (m : Addr → List W → DiceS → Rs DiceS W) (n : Nat) : Sp := fun vs H Q E => ∃ da, spF (diceG cl da dt) (m da) n vs H Q E
def spXL (cl : Nat → Addr) (dt : List (Addr × Str)) (m : Addr → List W → DiceS → Rs DiceS W) (n : Nat) : Sp := fun vs H Q E => ∃ da, spL (diceG cl da dt) (m da) n vs H Q E
section
variable {P : Program} {w : World} {K : PySem.W.Frag} {mg : Str → Option Value} {base : Heap} {CX : CXT} {k : Nat} {f : Addr} {fd : FuncData} {ps : List Str} {cl : Nat → Addr} {dt : List (Addr × Str)} {m : Addr → List W → DiceS → Rs DiceS W} {n : Nat}
theorem fnok_ex (h : ∀ da, FnOk P w K mg base CX k f fd ps (spF (diceG cl da dt) (m da) n)) : FnOk P w K mg base CX k f fd ps (spX cl dt m n) :=
  ⟨fun vs H Q E ⟨da, z⟩ => (h da).len vs H Q E z, fun A outer s H args us vs Q E hr e0 hb r ⟨da, z⟩ => (h da).run A outer s H args us vs Q E hr e0 hb r z⟩
theorem fnok_exL (h : ∀ da, FnOk P w K mg base CX k f fd ps (spL (diceG cl da dt) (m da) n)) : FnOk P w K mg base CX k f fd ps (spXL cl dt m n) :=
  ⟨fun vs H Q E ⟨da, z⟩ => (h da).len vs H Q E z, fun A outer s H args us vs Q E hr e0 hb r ⟨da, z⟩ => (h da).run A outer s H args us vs Q E hr e0 hb r z⟩
theorem sm_FS {G : Gm} {E : XK} {m : List W → G.S → Rs G.S W} {sp : Sp} (hsp : ∀ vs H Q, spF G m n vs H Q E → sp vs H Q E) {ta : TA} {fa : List Sl → G.S → Rs G.S (List W)} (ha : SmA G E ta fa) : Sm G E (tCall sp [] E ta) (eF (lenIs n m) fa) := fun L O σD s σ H Q R hw =>
  ha.thenV R hw fun ws s1 vs H1 e1 R1 wr h1 => by
    unfold lenIs at h1
    split at h1
    · rename_i hl
      rw [List.append_nil]
      exact hsp _ _ _ ⟨by rw [← wr.length]; exact hl, L, ws, s1, R1.l0, R1.nt, R1.ok, wr, h1⟩
    · exact h1.elim
theorem smL_FS {G : Gm} {E : XK} {m : List W → G.S → Rs G.S W} {sp : Sp} (hsp : ∀ vs H Q, spL G m n vs H Q E → sp vs H Q E) {ta : TA} {fa : List Sl → G.S → Rs G.S (List W)} (ha : SmA G E ta fa) : SmL G E (tCall sp [] E ta) (eF (lenIs n m) fa) := fun L O σD s σ H Q R hw => by
  refine ha L O σD s σ H _ R ?_
  unfold eF at hw
  cases e : fa σD s with
  | exc c s1 => rw [e] at hw; exact hw
  | stuck => rw [e] at hw; exact hw
  | ok ws s1 =>
    rw [e] at hw
    intro vs H1 st ok1 wr
    have R1 := R.step st ok1
    have hw1 : WantL G E L H (lenIs n m ws s1) Q := hw
    unfold lenIs at hw1
    by_cases hl : ws.length = n
    · rw [if_pos hl] at hw1
      rw [List.append_nil]
      refine hsp _ _ _ ⟨by rw [← wr.length]; exact hl, L, ws, s1, R1.l0, R1.nt, R1.ok, wr, ?_⟩
      cases em : m ws s1 with
      | ok w s2 =>
        rw [em] at hw1
        cases w with
        | ref _ => exact hw1.elim
        | dic _ => exact hw1.elim
        | d d =>
          cases d with
          | list ds =>
            intro p us H' st' hp ok' h' hd
            refine hw1 p us H' (st.trans st') ?_ ok' h' hd
            cases q : H p with
            | none => rfl
            | some o =>
              by_cases z : p ∈ G.L0
              · exact absurd hp (R1.live p (R1.l0 p z))
              · rw [st p o z q] at hp; cases hp
          | _ => exact hw1.elim
      | exc c s2 => rw [em] at hw1; exact fun H' st' ok' => hw1 H' (st.trans st') ok'
      | stuck => rw [em] at hw1; exact hw1
    · rw [if_neg hl] at hw1; exact hw1.elim
theorem sm_FX {da : Addr} {E : XK} {ta : TA} {fa : List Sl → DiceS → Rs DiceS (List W)} (ha : SmA (diceG cl da dt) E ta fa) : Sm (diceG cl da dt) E (tCall (spX cl dt m n) [] E ta) (eF (lenIs n (m da)) fa) :=
  sm_FS (G := diceG cl da dt) (m := m da) (fun _ _ _ h => ⟨da, h⟩) ha
theorem smL_FX {da : Addr} {E : XK} {ta : TA} {fa : List Sl → DiceS → Rs DiceS (List W)} (ha : SmA (diceG cl da dt) E ta fa) : SmL (diceG cl da dt) E (tCall (spXL cl dt m n) [] E ta) (eF (lenIs n (m da)) fa) :=
  smL_FS (G := diceG cl da dt) (m := m da) (fun _ _ _ h => ⟨da, h⟩) ha
end
/-! ### the law's end -/
theorem cxN_end {P : Program} {w : World} {H : Hp} {s : Shared} {e : Value} {s' : Shared} (h : L2N.CX P w [] H s (fun _ _ _ => False) e s') : False := by
  obtain ⟨_, _, _, _, _, _, _, _, _, _, _, _, z⟩ := h
  exact z
/-- the end of a law's row: the tables of the defs' code objects told -/
theorem walk_ofT {l : PySem.W.OpenLaw} {n k : Nat} {q : Program} {loose : List Str} {XP : (Str → Option Value) → Heap → Prop} {YP : World → Heap → Prop} {d : DefRec} {K : Params → PySem.W.Frag} {CX : World → CXT} {x : Str}
    (hn : l.most = some n) (hn2 : n ≤ sizeLine) (hdf : d.params.defaults = []) (hr : Room k callerA) (hY : ∀ (w : World) (h : Heap), YP w h → (K w.params).In h)
    (F : ∀ (w : World) (mg : Str → Option Value) (fa : Addr) (h : Heap), (K w.params).In h → h.Ns mainGlobals mg → mg d.name = some (.ref fa) →
      (∀ (y : Str) (c P : Addr), ((recsOf q).find? (fun e => e.name == y)).isSome = true → PySem.W.tabIn (K w.params) y = some (c, P) → PySem.W.CodeHd h c P ∧ h.get? P = some { cls := .none, data := .fields #[] }) →
      LamX.LawAtS l w (K w.params) (CX w) k n x mg fa h)
    (hCX : ∀ (w : World) (H : Hp) (s : Shared) (e : Value) (s' : Shared), CX w [] H s (fun _ _ _ => False) e s' → False) :
    PySem.W.WalkO q loose XP YP l.row.toRowW d [] (fun f vs => PySem.call f vs) := by
  refine Att.attach_callB hn hdf fun w s₀ s₁ mg mb fa o pm cd doc a vs ns G Y ho hd hcd hmg hobj hints hlen hbits hg => ?_
  have KX := hY w _ Y
  obtain ⟨fd, cs, sp, hT, nT, C, hb, hsp, hF⟩ := F w mg fa _ KX G.T.g hmg fun y c P h1 h2 => by
    obtain ⟨d', hd'⟩ := Option.isSome_iff_exists.mp h1
    exact PySem.W.tab_of G.T KX hd' h2
  exact LamX.law_callTs KX G.T.g G.T.b G.T.builtins G.T.nolimit hg hT nT C G.T.bmain hobj hints (Nat.le_trans hlen hn2) hr hF hb (fun H hH hS => hsp H a ns hlen hbits hH hS) fun H e s' => hCX w H s₁ e s'
/-! ### what a class is -/
theorem kit_self {K : PySem.W.Frag} {C : Addr} : PySem.W.kitOne K (.ref C) (.ref C) = some true := by
  unfold PySem.W.kitOne
  rw [if_pos (beq_self_eq_true _)]
theorem kit_ne {K : PySem.W.Frag} {D C : Addr} (hs : PySem.W.subIn K (.ref D) (.ref D) = some true) (hc : PySem.W.isClsIn K C = true) (ht : PySem.W.typeIn K (.ref C) = some (.type "type")) (h : PySem.W.subIn K (.ref D) (.ref C) = some false) : PySem.W.kitOne K (.ref D) (.ref C) = some false := by
  have hne : ¬ ((Value.ref D == Value.ref C) = true) := fun z => by
    have e : D = C := Value.ref.inj (beq_iff_eq.mp z)
    rw [← e, hs] at h
    cases h
  unfold PySem.W.kitOne
  rw [if_neg hne]
  have hc' : (PySem.W.clsIn K C).isSome = true := hc
  show (if ((PySem.W.clsIn K C).isSome && PySem.W.typeIn K (.ref C) == some (.type "type")) = true then PySem.W.subIn K (.ref D) (.ref C) else none) = some false
  rw [if_pos (by rw [hc', ht]; rfl)]
  exact h
theorem kit_ty {K : PySem.W.Frag} {D : Addr} {T : String} (hm : PySem.W.kitMeta T = true) (h : PySem.W.subIn K (.ref D) (.type T) = some true) : PySem.W.kitOne K (.ref D) (.type T) = some true := by
  have hne : ¬ ((Value.ref D == Value.type T) = true) := fun z => by
    have e := beq_iff_eq.mp z
    cases e
  unfold PySem.W.kitOne
  rw [if_neg hne]
  show (if PySem.W.kitMeta T = true then PySem.W.subIn K (.ref D) (.type T) else none) = some true
  rw [if_pos hm]
  exact h
theorem tab_in {K : PySem.W.Frag} {x : Str} {f c P : Addr} {oc e : Value} {od dd : Option Addr} {fd : FuncData} {osl sl : Array (Option Value)} {vs : Array Value} (a : PySem.W.nsIn K mainGlobals x = some (some (.ref f))) (l : K.lookup f = some ⟨oc, od, .func fd, osl⟩) (hc : fd.code = .ref c)
    (lc : K.lookup c = some ⟨e, dd, .fields vs, sl⟩) (hv : vs[11]? = some (.ref P)) : PySem.W.tabIn K x = some (c, P) := by
  unfold PySem.W.tabIn
  rw [a]
  dsimp only
  rw [l]
  dsimp only
  rw [hc]
  dsimp only
  rw [lc]
  dsimp only
  rw [hv]
end CS
/-! Core14: the mirrors, evaluated -/
namespace CS
open PySem PySem.Spec PyProof.Rows L2
section
variable {S : Type} {b : PyData → List Sl → Option (List Sl)} {t : List Sl → S → Rs S Bool} {e : List Sl → S → Rs S W} {σ0 : List Sl} {f : List Sl → S → Fl S}
theorem cGo_map {g : PyData → PyData} : ∀ {items : List PyData} {s : S}, (∀ d ∈ items, ∃ σ1, b d σ0 = some σ1 ∧ (∀ s, t σ1 s = .ok true s) ∧ ∀ s, e σ1 s = .ok (.d (g d)) s) → cGo b t e σ0 items s = .ok (items.map g) s
  | [], s, _ => rfl
  | d :: r, s, h => by
    obtain ⟨σ1, h1, h2, h3⟩ := h d List.mem_cons_self
    rw [cGo, h1]
    dsimp only
    rw [h2]
    dsimp only
    rw [h3]
    dsimp only
    rw [cGo_map fun x hx => h x (List.mem_cons_of_mem _ hx)]
    rfl
theorem cGo_ex {P : PyData → Prop} : ∀ {items : List PyData} {s : S}, (∀ d ∈ items, ∃ σ1, b d σ0 = some σ1 ∧ (∀ s, t σ1 s = .ok true s) ∧ ∀ s, ∃ x s', e σ1 s = .ok (.d x) s' ∧ P x) → ∃ xs s', cGo b t e σ0 items s = .ok xs s' ∧ xs.length = items.length ∧ ∀ x ∈ xs, P x
  | [], s, _ => ⟨[], s, rfl, rfl, fun _ h => nomatch h⟩
  | d :: r, s, h => by
    obtain ⟨σ1, h1, h2, h3⟩ := h d List.mem_cons_self
    obtain ⟨x, s1, h4, hp⟩ := h3 s
    obtain ⟨xs, s2, h5, h6, h7⟩ := cGo_ex (items := r) (s := s1) fun x hx => h x (List.mem_cons_of_mem _ hx)
    refine ⟨x :: xs, s2, ?_, by rw [List.length_cons, List.length_cons, h6], fun y hy => ?_⟩
    · rw [cGo, h1]
      dsimp only
      rw [h2]
      dsimp only
      rw [h4]
      dsimp only
      rw [h5]
    · rcases List.mem_cons.mp hy with z | z
      · rw [z]; exact hp
      · exact h7 y z
theorem cGo_enum : ∀ {ds ys : List PyData} {k : Nat} {s : S}, ds.length = ys.length → (∀ (i : Nat) (x y : PyData), ds[i]? = some x → ys[i]? = some y → ∃ σ1, b (.tuple [.int ((k + i : Nat) : Int), x]) σ0 = some σ1 ∧ (∀ s, t σ1 s = .ok true s) ∧ ∀ s, e σ1 s = .ok (.d y) s) → cGo b t e σ0 (enD k ds) s = .ok ys s
  | [], [], k, s, _, _ => rfl
  | [], _ :: _, k, s, h, _ => by cases h
  | _ :: _, [], k, s, h, _ => by cases h
  | x :: r, y :: ys, k, s, hl, h => by
    obtain ⟨σ1, h1, h2, h3⟩ := h 0 x y rfl rfl
    rw [enD, cGo, show ((k : Nat) : Int) = ((k + 0 : Nat) : Int) from rfl, h1]
    dsimp only
    rw [h2]
    dsimp only
    rw [h3]
    dsimp only
    rw [cGo_enum (ds := r) (ys := ys) (k := k + 1) (by simpa using hl) fun i a b ha hb => by
      have := h (i + 1) a b (by simpa using ha) (by simpa using hb)
      rw [show k + (i + 1) = k + 1 + i by omega] at this
      exact this]
theorem fGo_inv (I : List Sl → S → Prop) : ∀ {items : List PyData} {σ : List Sl} {s : S}, (∀ d ∈ items, ∀ σ s, I σ s → ∃ σ1, b d σ = some σ1 ∧ ∃ σ' s', f σ1 s = .nx σ' s' ∧ I σ' s') → I σ s → ∃ σ' s', fGo b f items σ s = .nx σ' s' ∧ I σ' s'
  | [], σ, s, _, hi => ⟨σ, s, rfl, hi⟩
  | d :: r, σ, s, h, hi => by
    obtain ⟨σ1, h1, σ2, s2, h2, hi2⟩ := h d List.mem_cons_self σ s hi
    obtain ⟨σ3, s3, h3, hi3⟩ := fGo_inv I (items := r) (fun x hx => h x (List.mem_cons_of_mem _ hx)) hi2
    refine ⟨σ3, s3, ?_, hi3⟩
    rw [fGo, h1]
    dsimp only
    rw [h2]
    exact h3
/-- a loop that is over at once when the items are, by place -/
theorem fGo_at (I : Nat → List Sl → S → Prop) : ∀ {items : List PyData} {k : Nat} {σ : List Sl} {s : S}, (∀ i d, items[i]? = some d → ∀ σ s, I (k + i) σ s → ∃ σ1, b d σ = some σ1 ∧ ∃ σ' s', f σ1 s = .nx σ' s' ∧ I (k + i + 1) σ' s') → I k σ s → ∃ σ' s', fGo b f items σ s = .nx σ' s' ∧ I (k + items.length) σ' s'
  | [], k, σ, s, _, hi => ⟨σ, s, rfl, hi⟩
  | d :: r, k, σ, s, h, hi => by
    obtain ⟨σ1, h1, σ2, s2, h2, hi2⟩ := h 0 d rfl σ s hi
    obtain ⟨σ3, s3, h3, hi3⟩ := fGo_at I (items := r) (k := k + 1) (σ := σ2) (s := s2) (fun i x hx σ s hI => by
      have := h (i + 1) x (by simpa using hx) σ s (by rw [show k + (i + 1) = k + 1 + i by omega]; exact hI)
      rw [show k + (i + 1) + 1 = k + 1 + i + 1 by omega] at this
      exact this) hi2
    refine ⟨σ3, s3, ?_, by rw [List.length_cons, show k + (r.length + 1) = k + 1 + r.length by omega]; exact hi3⟩
    rw [fGo, h1]
    dsimp only
    rw [h2]
    exact h3
end
theorem log2_lt {i : Int} {n : Nat} (h1 : -(2 ^ n : Int) < i) (h2 : i < 2 ^ n) (hn : 0 < n) : i.natAbs.log2 < n := by
  by_cases h : i.natAbs = 0
  · rw [h]; simpa using hn
  · refine (Nat.log2_lt h).mpr ?_
    have : ((2 ^ n : Nat) : Int) = 2 ^ n := by norm_cast
    omega
theorem mul_some {i j : Int} (h : (i.natAbs.log2 + j.natAbs.log2 < 1000000 ∨ (-(2 ^ 64) < i ∧ i < 2 ^ 64) ∨ (-(2 ^ 64) < j ∧ j < 2 ^ 64))) : pyMul (.int i) (.int j) = some (.int (i * j)) := by
  show (if _ then _ else _) = _
  rw [if_pos h]
theorem fdiv_some {i j : Int} (h1 : 0 < j) (h2 : j < 2 ^ 64) : pyFdiv (.int i) (.int j) = some (.int (i / j)) := by
  have hl := log2_lt (i := j) (n := 64) (by omega) h2 (by decide)
  simp only [pyFdiv, pyI]
  rw [if_pos]
  rw [Bool.and_eq_true]
  exact ⟨decide_eq_true h1, decide_eq_true (by omega)⟩
theorem mod_some {i j : Int} (h1 : 0 < j) : pyMod (.int i) (.int j) = some (.int (i % j)) := by
  simp only [pyMod, pyI]
  rw [if_pos (decide_eq_true h1)]
theorem ix_some {ds : List PyData} {k : Int} (h0 : 0 ≤ k) (h1 : k < ds.length) : ∃ c, pyIx (.list ds) (.int k) = some c ∧ c ∈ ds ∧ ds[k.toNat]? = some c := by
  have hk : k.toNat < ds.length := by omega
  refine ⟨ds[k.toNat], ?_, List.getElem_mem hk, List.getElem?_eq_getElem hk⟩
  show atI ds k = _
  unfold atI ixN
  rw [if_pos h0, if_pos (by omega)]
  exact List.getElem?_eq_getElem hk
/-! ### statements, one after the other -/
section
variable {S : Type} {P : Fl S → Prop} {f g : List Sl → S → Fl S} {σ σ' : List Sl} {s s' : S}
theorem nx_seq (h : f σ s = .nx σ' s') (k : P (g σ' s')) : P (sSeq f g σ s) := by
  unfold sSeq
  rw [h]
  exact k
/-- first this (whatever it comes to), then that -/
theorem ex_seq {I : List Sl → S → Prop} (h : ∃ σ' s', f σ s = .nx σ' s' ∧ I σ' s') (k : ∀ σ' s', I σ' s' → P (g σ' s')) : P (sSeq f g σ s) := by
  obtain ⟨σ', s', e, hi⟩ := h
  exact nx_seq e (k σ' s' hi)
theorem if_nx {t : List Sl → S → Rs S Bool} {b : Bool} {s1 : S} (h : t σ s = .ok b s1) (k : P (if b = true then f σ s1 else g σ s1)) : P (sIf t f g σ s) := by
  unfold sIf sT
  rw [h]
  exact k
theorem for_nx {fi : List Sl → S → Rs S (List PyData)} {b : PyData → List Sl → Option (List Sl)} {items : List PyData} {s1 : S} (h : fi σ s = .ok items s1) (k : P (fGo b f items σ s1)) : P (sFor fi b f σ s) := by
  unfold sFor
  rw [h]
  exact k
theorem ex_for {fi : List Sl → S → Rs S (List PyData)} {b : PyData → List Sl → Option (List Sl)} {items : List PyData} {s1 : S} {I : List Sl → S → Prop} (h : fi σ s = .ok items s1) (k : ∃ σ' s', fGo b f items σ s1 = .nx σ' s' ∧ I σ' s') : ∃ σ' s', sFor fi b f σ s = .nx σ' s' ∧ I σ' s' := by
  unfold sFor
  rw [h]
  exact k
theorem ex_nx {I : List Sl → S → Prop} {r : Fl S} (h : ∀ Q : Fl S → Prop, (∀ σ' s', I σ' s' → Q (.nx σ' s')) → Q r) : ∃ σ' s', r = .nx σ' s' ∧ I σ' s' :=
  h (fun r => ∃ σ' s', r = .nx σ' s' ∧ I σ' s') fun σ' s' hi => ⟨σ', s', rfl, hi⟩
theorem frz_nx {i : Nat} (k : P (f (frz i σ) s)) : P (sFrz i f σ s) := k
end
end CS
/-! Core15: the mirrors, evaluated step by step -/
namespace CS
open PySem PySem.Spec PyProof.Rows L2
section
variable {S : Type} {σ σ' σ1 : List Sl} {s s' s1 s2 s3 : S} {f g fa fb fc : List Sl → S → Rs S W} {x y z : PyData} {w : W} {ws : List W} {ds : List PyData} {b b' c : Bool} {i j : Nat} {P : Fl S → Prop}
theorem j_c {d : PyData} : eC (S := S) d σ s = .ok (.d d) s := rfl
theorem j_var (h : σ[i]? = some (.w w)) : eVar i σ s = .ok w s := by unfold eVar; rw [h]
theorem j_op {o : PyData → PyData → Option PyData} (h1 : fa σ s = .ok (.d x) s1) (h2 : fb σ s1 = .ok (.d y) s2) (h3 : o x y = some z) : eOp o fa fb σ s = .ok (.d z) s2 := by
  simp only [eOp, h1, h2, Rs.bind, lift2, h3, Option.map_some, optR]
theorem j_un {o : PyData → Option PyData} (h1 : fa σ s = .ok (.d x) s1) (h3 : o x = some z) : eUn o fa σ s = .ok (.d z) s1 := by
  simp only [eUn, h1, Rs.bind, lift1, h3, Option.map_some, optR]
theorem j_nil : aNil (S := S) σ s = .ok [] s := rfl
theorem j_cons {ga : List Sl → S → Rs S (List W)} (h1 : f σ s = .ok w s1) (h2 : ga σ s1 = .ok ws s2) : aCons f ga σ s = .ok (w :: ws) s2 := by
  simp only [aCons, h1, h2, Rs.bind]
theorem j_b {o : List PyData → Option PyData} {ga : List Sl → S → Rs S (List W)} (h1 : ga σ s = .ok ws s1) (h2 : wDs ws = some ds) (h3 : o ds = some z) : eB o ga σ s = .ok (.d z) s1 := by
  simp only [eB, h1, Rs.bind, h2, Option.bind_some, h3, Option.map_some, optR]
theorem j_p {m : List W → Unit → Rs Unit W} {n : Nat} {ga : List Sl → S → Rs S (List W)} (h1 : ga σ s = .ok ws s1) (hl : ws.length = n) (h2 : m ws () = .ok w ()) : eP (lenIs n m) ga σ s = .ok w s1 := by
  simp only [eP, h1, Rs.bind, lenIs, hl, if_true, h2]
theorem j_px {m : List W → Unit → Rs Unit W} {n k : Nat} {ga : List Sl → S → Rs S (List W)} (h1 : ga σ s = .ok ws s1) (hl : ws.length = n) (h2 : m ws () = .exc k ()) : eP (lenIs n m) ga σ s = .exc k s1 := by
  simp only [eP, h1, Rs.bind, lenIs, hl, if_true, h2]
theorem j_f {m : List W → S → Rs S W} {n : Nat} {ga : List Sl → S → Rs S (List W)} (h1 : ga σ s = .ok ws s1) (hl : ws.length = n) (h2 : m ws s1 = .ok w s2) : eF (lenIs n m) ga σ s = .ok w s2 := by
  simp only [eF, h1, Rs.bind, lenIs, hl, if_true, h2]
theorem j_tup {ga : List Sl → S → Rs S (List W)} (h1 : ga σ s = .ok ws s1) (h2 : wDs ws = some ds) (h3 : ds.length ≤ 1000000) : eTup ga σ s = .ok (.d (.tuple ds)) s1 := by
  simp only [eTup, h1, Rs.bind, h2, Option.bind_some, mkT, h3, if_true, optR]
theorem j_lst {ga : List Sl → S → Rs S (List W)} (h1 : ga σ s = .ok ws s1) (h2 : wDs ws = some ds) (h3 : ds.length ≤ 1000000) : eLst ga σ s = .ok (.d (.list ds)) s1 := by
  simp only [eLst, h1, Rs.bind, h2, Option.bind_some, mkL, h3, if_true, optR]
theorem j_isi {n : Ty} (h : f σ s = .ok (.d x) s1) (hb : isiB n x = b) : eIsi n f σ s = .ok (.d (.bool b)) s1 := by
  simp only [eIsi, h, Rs.bind, hb]
theorem j_test (h : f σ s = .ok (.d (.bool b)) s1) (hb : b = b') : eTest f σ s = .ok b' s1 := by
  simp only [eTest, h, Rs.bind, wB, optR, hb]
theorem j_truth {k : Int} (h : f σ s = .ok (.d (.int k)) s1) (hb : (k != 0) = b) : eTruth f σ s = .ok b s1 := by
  simp only [eTruth, h, Rs.bind, hb]
/-- what is left of and, or behind the first part -/
def andK (b : Bool) (r : Rs S Bool) (s : S) : Rs S Bool := if b = true then r else .ok false s
def orK (b : Bool) (r : Rs S Bool) (s : S) : Rs S Bool := if b = true then .ok true s else r
theorem andK_t {r q : Rs S Bool} (h : r = q) : andK true r s = q := h
theorem andK_f {r : Rs S Bool} : andK false r s = .ok false s := rfl
theorem orK_t {r : Rs S Bool} : orK true r s = .ok true s := rfl
theorem orK_f {r q : Rs S Bool} (h : r = q) : orK false r s = q := h
theorem andK_any {r : Rs S Bool} (h : r = .ok c s) : andK b r s = .ok (b && c) s := by cases b <;> simp [andK, h]
theorem orK_any {r : Rs S Bool} (h : r = .ok c s) : orK b r s = .ok (b || c) s := by cases b <;> simp [orK, h]
theorem j_and {t u : List Sl → S → Rs S Bool} {q : Rs S Bool} (h1 : t σ s = .ok b s1) (h2 : andK b (u σ s1) s1 = q) : tAndT t u σ s = q := by
  simp only [tAndT, h1, Rs.bind]; exact h2
theorem j_or {t u : List Sl → S → Rs S Bool} {q : Rs S Bool} (h1 : t σ s = .ok b s1) (h2 : orK b (u σ s1) s1 = q) : tOrT t u σ s = q := by
  simp only [tOrT, h1, Rs.bind]; exact h2
theorem j_not {t : List Sl → S → Rs S Bool} (h1 : t σ s = .ok b s1) (hb : (!b) = b') : tNotT t σ s = .ok b' s1 := by
  simp only [tNotT, h1, Rs.bind, hb]
def andV (b : Bool) (r : Rs S W) (s : S) : Rs S W := if b = true then r else .ok (.d (.bool false)) s
def orV (b : Bool) (r : Rs S W) (s : S) : Rs S W := if b = true then .ok (.d (.bool true)) s else r
theorem andV_t {r q : Rs S W} (h : r = q) : andV true r s = q := h
theorem andV_f {r : Rs S W} : andV false r s = .ok (.d (.bool false)) s := rfl
theorem orV_t {r : Rs S W} : orV true r s = .ok (.d (.bool true)) s := rfl
theorem orV_f {r q : Rs S W} (h : r = q) : orV false r s = q := h
theorem andV_any {r : Rs S W} (h : r = .ok (.d (.bool c)) s) : andV b r s = .ok (.d (.bool (b && c))) s := by cases b <;> simp [andV, h]
theorem orV_any {r : Rs S W} (h : r = .ok (.d (.bool c)) s) : orV b r s = .ok (.d (.bool (b || c))) s := by cases b <;> simp [orV, h]
theorem j_andV {q : Rs S W} (h1 : f σ s = .ok (.d (.bool b)) s1) (hb : b = b') (h2 : andV b' (g σ s1) s1 = q) : eAndV f g σ s = q := by
  subst hb
  simp only [eAndV, h1, Rs.bind, wB]
  cases b <;> exact h2
theorem j_orV {q : Rs S W} (h1 : f σ s = .ok (.d (.bool b)) s1) (hb : b = b') (h2 : orV b' (g σ s1) s1 = q) : eOrV f g σ s = q := by
  subst hb
  simp only [eOrV, h1, Rs.bind, wB]
  cases b <;> exact h2
theorem j_notV (h1 : f σ s = .ok (.d (.bool b)) s1) (hb : (!b) = b') : eUn bNot f σ s = .ok (.d (.bool b')) s1 := by
  simp only [eUn, h1, Rs.bind, lift1, bNot, Option.map_some, optR, hb]
def ifK {α : Type} (b : Bool) (r q : α) : α := if b = true then r else q
theorem ifK_t {α : Type} {r q p : α} (h : r = p) : ifK true r q = p := h
theorem ifK_f {α : Type} {r q p : α} (h : q = p) : ifK false r q = p := h
theorem j_if {t : List Sl → S → Rs S Bool} {q : Rs S W} (h1 : t σ s = .ok b s1) (h2 : ifK b (f σ s1) (g σ s1) = q) : eIf t f g σ s = q := by
  simp only [eIf, h1, Rs.bind]; exact h2
theorem j_chain {o o' : PyData → PyData → Option PyData} {q : Rs S W} (h1 : fa σ s = .ok (.d x) s1) (h2 : fb σ s1 = .ok (.d y) s2) (h3 : o x y = some (.bool b)) (hb : b = b') (h4 : andV b' (eOp o' (fun _ s => .ok (.d y) s) fc σ s2) s2 = q) : eChain o o' fa fb fc σ s = q := by
  subst hb
  simp only [eChain, h1, h2, Rs.bind, lift2, h3, Option.map_some, Option.bind_some, wB]
  cases b
  · exact h4
  · rw [← h4]
    simp only [andV, eOp, Rs.bind, if_true]
    cases fc σ s2 <;> rfl
theorem j_k : (fun (_ : List Sl) (s : S) => (Rs.ok w s : Rs S W)) σ s = .ok w s := rfl
theorem j_sl {lo hi : List Sl → S → Rs S (Option Int)} {a b : Option Int} (h1 : f σ s = .ok (.d x) s1) (h2 : lo σ s1 = .ok a s2) (h3 : hi σ s2 = .ok b s3) (h4 : pySl x a b = some z) : eSl f lo hi σ s = .ok (.d z) s3 := by
  simp only [eSl, h1, h2, h3, Rs.bind, h4, Option.map_some, optR]
theorem j_oNo : oNo (S := S) σ s = .ok none s := rfl
theorem j_oPart {k : Int} (h : f σ s = .ok (.d (.int k)) s1) : oPart f σ s = .ok (some k) s1 := by
  simp only [oPart, h, Rs.bind, wI, optR]
theorem j_comp {fi : List Sl → S → Rs S (List PyData)} {vs : List Nat} {bd : PyData → List Sl → Option (List Sl)} {t : List Sl → S → Rs S Bool} {items xs : List PyData} (h1 : fi σ s = .ok items s1) (hl : items.length < 1000000) (h2 : cGo bd t f (wipeD σ vs) items s1 = .ok xs s2) : eComp fi vs bd t f σ s = .ok (.d (.list xs)) s2 := by
  simp only [eComp, h1, hl, if_true, h2, lstR, List.nil_append]
theorem j_iofL (h : f σ s = .ok (.d (.list ds)) s1) : iOf f σ s = .ok ds s1 := by simp only [iOf, h, Rs.bind, iSeqD]
theorem j_iofT (h : f σ s = .ok (.d (.tuple ds)) s1) : iOf f σ s = .ok ds s1 := by simp only [iOf, h, Rs.bind, iSeqD]
def seqOf : PyData → Option (List PyData)
  | .list ds => some ds
  | .tuple ds => some ds
  | _ => none
theorem j_iof (h : f σ s = .ok (.d x) s1) (h2 : seqOf x = some ds) : iOf f σ s = .ok ds s1 := by
  unfold seqOf at h2
  split at h2
  · cases h2; exact j_iofL h
  · cases h2; exact j_iofT h
  · cases h2
theorem j_range1 {ga : List Sl → S → Rs S (List W)} {n : Int} (h : ga σ s = .ok [.d (.int n)] s1) (hn : -1000000 ≤ n ∧ n ≤ 1000000) : iRange1 ga σ s = .ok (rgD 0 n.toNat) s1 := by
  simp only [iRange1, h, Rs.bind, iRg1D, hn, and_self, if_true]
theorem j_range2 {ga : List Sl → S → Rs S (List W)} {k n : Int} (h : ga σ s = .ok [.d (.int k), .d (.int n)] s1) (hn : -1000000 ≤ k ∧ k ≤ 1000000 ∧ -1000000 ≤ n ∧ n ≤ 1000000) : iRange2 ga σ s = .ok (rgD k (n - k).toNat) s1 := by
  simp only [iRange2, h, Rs.bind, iRg2D, hn, and_self, if_true]
theorem j_enum {ga : List Sl → S → Rs S (List W)} (h : ga σ s = .ok [.d x] s1) (h2 : seqOf x = some ds) : iEnumM ga σ s = .ok (enD 0 ds) s1 := by
  unfold seqOf at h2
  split at h2
  · cases h2; simp only [iEnumM, h, Rs.bind, iEnAD]
  · cases h2; simp only [iEnumM, h, Rs.bind, iEnAD]
  · cases h2
theorem j_index {k : Nat} (h1 : fa σ s = .ok (.d (.list ds)) s1) (h2 : fb σ s1 = .ok (.d y) s2) (h3 : pyIndexD (.list ds) y = some z) : eIndex fa fb σ s = .ok (.d z) s2 := by
  simp only [eIndex, h1, h2, Rs.bind, lift2, h3, Option.map_some, optR]
theorem j_listRg {n : Int} (h : f σ s = .ok (.d (.int n)) s1) (hn : 0 ≤ n ∧ n ≤ 1000) : eListRg f σ s = .ok (.d (.list (rgD 0 n.toNat))) s1 := by
  simp only [eListRg, h, Rs.bind, hn, and_self, if_true]
theorem j_dget {kvs : List (List Key × PyData)} {k : List Key} (h1 : fa σ s = .ok (.dic kvs) s1) (h2 : fb σ s1 = .ok (.d (.tuple ds)) s2) (h3 : keyD ds = some k) (h4 : getD kvs k = some z) : eDGet fa fb σ s = .ok (.d z) s2 := by
  simp only [eDGet, h1, h2, Rs.bind, h3, Option.bind_some, h4, Option.map_some, optR]
theorem j_ixO {k : Int} (h : σ[i]? = some (.own ds)) (h1 : fb σ s = .ok (.d (.int k)) s1) (h2 : atI ds k = some z) : eIxO i fb σ s = .ok (.d z) s1 := by
  simp only [eIxO, h, h1, Rs.bind, h2, Option.map_some, optR]
theorem j_lenO (h : σ[i]? = some (.own ds)) : eLenO i σ s = .ok (.d (.int ds.length)) s := by simp only [eLenO, h]
/-! statements -/
theorem j_next : sNext (S := S) σ s = .nx σ s := rfl
theorem j_asg (h : f σ s = .ok w s1) : sAsg i f σ s = .nx (σ.set i (.w w)) s1 := by simp only [sAsg, sE, h]
theorem j_asgT {is : List Nat} (h : f σ s = .ok (.d x) s1) (h2 : bTup is x σ = some σ') : sAsgT is f σ s = .nx σ' s1 := by simp only [sAsgT, sE, h, h2]
theorem j_par {ga : List Sl → S → Rs S (List W)} {w' : W} (h : ga σ s = .ok [w, w'] s1) : sPar i j ga σ s = .nx ((σ.set i (.w w)).set j (.w w')) s1 := by simp only [sPar, h]
theorem j_drop (h : f σ s = .ok w s1) : sDrop f σ s = .nx σ s1 := by simp only [sDrop, sE, h]
theorem j_ret (h : f σ s = .ok w s1) : sRet f σ s = .rt w s1 := by simp only [sRet, sE, h]
theorem j_sif {t : List Sl → S → Rs S Bool} {u v : List Sl → S → Fl S} {q : Fl S} (h1 : t σ s = .ok b s1) (h2 : ifK b (u σ s1) (v σ s1) = q) : sIf t u v σ s = q := by
  simp only [sIf, sT, h1]; exact h2
theorem j_seq {u v : List Sl → S → Fl S} {q : Fl S} (h1 : u σ s = .nx σ' s') (h2 : v σ' s' = q) : sSeq u v σ s = q := by
  simp only [sSeq, h1]; exact h2
theorem j_seqR {u v : List Sl → S → Fl S} (h1 : u σ s = .rt w s') : sSeq u v σ s = .rt w s' := by
  simp only [sSeq, h1]
theorem j_seqX {u v : List Sl → S → Fl S} {k : Nat} (h1 : u σ s = .exc k s') : sSeq u v σ s = .exc k s' := by
  simp only [sSeq, h1]
theorem j_raise {k : Nat} : sRaise (S := S) k σ s = .exc k s := rfl
theorem j_dropX {k : Nat} (h : f σ s = .exc k s1) : sDrop f σ s = .exc k s1 := by simp only [sDrop, sE, h]
theorem j_asgX {k : Nat} (h : f σ s = .exc k s1) : sAsg i f σ s = .exc k s1 := by simp only [sAsg, sE, h]
theorem j_retX {k : Nat} (h : f σ s = .exc k s1) : sRet f σ s = .exc k s1 := by simp only [sRet, sE, h]
theorem j_frz {u : List Sl → S → Fl S} {q : Fl S} (h : u (frz i σ) s = q) : sFrz i u σ s = q := h
theorem j_asgO (h : f σ s = .ok (.d (.list ds)) s1) : sAsgO i f σ s = .nx (σ.set i (.own ds)) s1 := by simp only [sAsgO, h]
theorem j_app (h0 : σ[i]? = some (.own ds)) (h : f σ s = .ok (.d x) s1) (hl : ds.length < 1000000) : sApp i f σ s = .nx (σ.set i (.own (ds ++ [x]))) s1 := by
  simp only [sApp, h0, h, hl, if_true]
theorem j_newD : sNewD (S := S) i σ s = .nx (σ.set i (.odc [])) s := rfl
theorem j_putD {kvs : List (List Key × PyData)} {k : List Key} (h0 : σ[i]? = some (.odc kvs)) (h : f σ s = .ok (.d x) s1) (h1 : g σ s1 = .ok (.d (.tuple ds)) s2) (h2 : keyD ds = some k) (hl : kvs.length < 1000000) : sPutD i g f σ s = .nx (σ.set i (.odc (putD kvs k x))) s2 := by
  simp only [sPutD, h0, h, h1, h2, hl, if_true]
theorem j_aug {g : Int → Int → Int} {a c : Int} (h0 : σ[i]? = some (.w (.d (.int a)))) (h : f σ s = .ok (.d (.int c)) s1) : sAug i g f σ s = .nx (σ.set i (.w (.d (.int (g a c))))) s1 := by
  simp only [sAug, h0, h]
theorem j_for {fi : List Sl → S → Rs S (List PyData)} {bd : PyData → List Sl → Option (List Sl)} {u : List Sl → S → Fl S} {items : List PyData} {q : Fl S} (h : fi σ s = .ok items s1) (h2 : fGo bd u items σ s1 = q) : sFor fi bd u σ s = q := by
  simp only [sFor, h]; exact h2
/-! defs -/
theorem j_defR {N : Nat} {u : List Sl → S → Fl S} (h : u (slots N ws) s = .rt w s1) : mDef N u ws s = .ok w s1 := by simp only [mDef, h]
theorem j_defN {N : Nat} {u : List Sl → S → Fl S} (h : u (slots N ws) s = .nx σ' s1) : mDef N u ws s = .ok (.d .none) s1 := by simp only [mDef, h]
theorem j_defX {N k : Nat} {u : List Sl → S → Fl S} (h : u (slots N ws) s = .exc k s1) : mDef N u ws s = .exc k s1 := by simp only [mDef, h]
end
theorem j_told {td : List Nat} {kd : Nat → Str} {σ : List Sl} {f : List Sl → Unit → Rs Unit W} {w : W} {s : DiceS} (h : f σ () = .ok w ()) : eTold td kd f σ s = .ok w s := by simp only [eTold, h]
theorem j_toldX {td : List Nat} {kd : Nat → Str} {σ : List Sl} {f : List Sl → Unit → Rs Unit W} {k : Nat} {s : DiceS} (h : f σ () = .exc k ()) (hk : k ∈ td) : eTold td kd f σ s = .ok (.d (.tuple [.str "error", .str (kd k)])) s := by simp only [eTold, h, hk, if_true]
/-! operators -/
theorem o_add {i j : Int} : pyAdd (.int i) (.int j) = some (.int (i + j)) := rfl
theorem o_addL {a b : List PyData} (h : a.length + b.length ≤ 1000000) : pyAdd (.list a) (.list b) = some (.list (a ++ b)) := if_pos h
theorem o_addT {a b : List PyData} (h : a.length + b.length ≤ 1000000) : pyAdd (.tuple a) (.tuple b) = some (.tuple (a ++ b)) := if_pos h
theorem o_sub {i j : Int} : pySub (.int i) (.int j) = some (.int (i - j)) := rfl
theorem o_neg {i : Int} : pyNeg (.int i) = some (.int (-i)) := rfl
theorem o_lt {i j : Int} : pyLt (.int i) (.int j) = some (.bool (decide (i < j))) := rfl
theorem o_le {i j : Int} : pyLe (.int i) (.int j) = some (.bool (decide (i ≤ j))) := rfl
theorem o_gt {i j : Int} : pyGt (.int i) (.int j) = some (.bool (decide (j < i))) := rfl
theorem o_ge {i j : Int} : pyGe (.int i) (.int j) = some (.bool (decide (j ≤ i))) := rfl
theorem o_is {d : PyData} : pyIs d .none = some (.bool (isNon d)) := rfl
theorem o_isN {d : PyData} : pyIsNot d .none = some (.bool (!isNon d)) := rfl
theorem sh_int (x : Int) : SeqAt.shaped (.int x) = true := by unfold SeqAt.shaped; simp only [PyData.canLay0, PyData.depth]; rfl
theorem sh_none : SeqAt.shaped .none = true := by decide +kernel
theorem sh_bool (b : Bool) : SeqAt.shaped (.bool b) = true := by cases b <;> decide +kernel
theorem o_eqi {x y : Int} : pyEq (.int x) (.int y) = some (.bool (x == y)) := by
  unfold pyEq
  rw [sh_int, sh_int, Bool.and_self, if_pos rfl]
  simp only [PyData.eqv]
theorem o_nei {x y : Int} : pyNe (.int x) (.int y) = some (.bool (!(x == y))) := by
  unfold pyNe
  rw [sh_int, sh_int, Bool.and_self, if_pos rfl]
  simp only [PyData.eqv]
theorem o_eq {x y : PyData} {b : Bool} (h1 : SeqAt.shaped x = true) (h2 : SeqAt.shaped y = true) (h : PyData.eqv x y = b) : pyEq x y = some (.bool b) := by
  unfold pyEq; rw [h1, h2, Bool.and_self, if_pos rfl, h]
theorem o_ne {x y : PyData} {b : Bool} (h1 : SeqAt.shaped x = true) (h2 : SeqAt.shaped y = true) (h : PyData.eqv x y = b) : pyNe x y = some (.bool (!b)) := by
  unfold pyNe; rw [h1, h2, Bool.and_self, if_pos rfl, h]
/-! data of small depth, without texts that cannot be laid -/
def flatOk (k : Nat) (d : PyData) : Prop := PyData.canLay0 d = true ∧ d.depth ≤ k
theorem lay_all {ds : List PyData} (h : ∀ d ∈ ds, PyData.canLay0 d = true) : PyData.canLayAll0 ds = true := by
  induction ds with
  | nil => rfl
  | cons d r ih =>
    simp only [PyData.canLayAll0, Bool.and_eq_true]
    exact ⟨h d List.mem_cons_self, ih fun x hx => h x (List.mem_cons_of_mem _ hx)⟩
theorem depth_all {ds : List PyData} {k : Nat} (h : ∀ d ∈ ds, d.depth ≤ k) : PyData.depthAll ds ≤ k := by
  induction ds with
  | nil => simp only [PyData.depthAll]; omega
  | cons d r ih =>
    simp only [PyData.depthAll]
    have h1 := h d List.mem_cons_self
    have h2 := ih fun x hx => h x (List.mem_cons_of_mem _ hx)
    omega
theorem fo_int {k : Nat} (i : Int) : flatOk k (.int i) := ⟨by simp only [PyData.canLay0], by simp only [PyData.depth]; omega⟩
theorem fo_bool {k : Nat} (i : Bool) : flatOk k (.bool i) := ⟨by simp only [PyData.canLay0], by simp only [PyData.depth]; omega⟩
theorem fo_none {k : Nat} : flatOk k .none := ⟨by simp only [PyData.canLay0], by simp only [PyData.depth]; omega⟩
theorem fo_list {k : Nat} {ds : List PyData} (h : ∀ d ∈ ds, flatOk k d) : flatOk (k + 1) (.list ds) := ⟨by simp only [PyData.canLay0]; exact lay_all fun d hd => (h d hd).1, by simp only [PyData.depth]; have := depth_all fun d hd => (h d hd).2; omega⟩
theorem fo_tuple {k : Nat} {ds : List PyData} (h : ∀ d ∈ ds, flatOk k d) : flatOk (k + 1) (.tuple ds) := ⟨by simp only [PyData.canLay0]; exact lay_all fun d hd => (h d hd).1, by simp only [PyData.depth]; have := depth_all fun d hd => (h d hd).2; omega⟩
theorem fo_nil {k : Nat} : ∀ d ∈ ([] : List PyData), flatOk k d := fun _ h => nomatch h
theorem fo_cons {k : Nat} {x : PyData} {ds : List PyData} (h : flatOk k x) (h2 : ∀ d ∈ ds, flatOk k d) : ∀ d ∈ x :: ds, flatOk k d := fun d hd => by
  rcases List.mem_cons.mp hd with e | e
  · rw [e]; exact h
  · exact h2 d e
theorem fo_map {α : Type} {k : Nat} {xs : List α} {q : α → PyData} (h : ∀ x ∈ xs, flatOk k (q x)) : ∀ d ∈ xs.map q, flatOk k d := fun d hd => by
  obtain ⟨x, hx, rfl⟩ := List.mem_map.mp hd
  exact h x hx
theorem fo_append {k : Nat} {xs ds : List PyData} (h : ∀ d ∈ xs, flatOk k d) (h2 : ∀ d ∈ ds, flatOk k d) : ∀ d ∈ xs ++ ds, flatOk k d := fun d hd => by
  rcases List.mem_append.mp hd with e | e
  · exact h d e
  · exact h2 d e
theorem fo_sh {k : Nat} {d : PyData} (h : flatOk k d) (hk : k ≤ 30) : SeqAt.shaped d = true := by
  unfold SeqAt.shaped
  rw [h.1, Bool.true_and]
  exact decide_eq_true (Nat.le_trans h.2 (Nat.le_trans hk (by decide)))
/-! equal data -/
mutual
theorem eqv_refl : ∀ d : PyData, PyData.canLay0 d = true → PyData.eqv d d = true
  | .none, _ => by simp only [PyData.eqv]
  | .bool b, _ => by simp only [PyData.eqv, beq_self_eq_true]
  | .int b, _ => by simp only [PyData.eqv, beq_self_eq_true]
  | .str b, _ => by simp only [PyData.eqv]; exact beq_self_eq_true b
  | .list ds, h => by simp only [PyData.eqv]; exact eqvAll_refl ds (by simpa only [PyData.canLay0] using h)
  | .tuple ds, h => by simp only [PyData.eqv]; exact eqvAll_refl ds (by simpa only [PyData.canLay0] using h)
  | .dict _, h => by simp [PyData.canLay0] at h
theorem eqvAll_refl : ∀ ds : List PyData, PyData.canLayAll0 ds = true → PyData.eqvAll ds ds = true
  | [], _ => by simp only [PyData.eqvAll]
  | d :: r, h => by
    simp only [PyData.canLayAll0, Bool.and_eq_true] at h
    simp only [PyData.eqvAll, Bool.and_eq_true]
    exact ⟨eqv_refl d h.1, eqvAll_refl r h.2⟩
end
theorem o_eqr {k : Nat} {x y : PyData} (h : x = y) (h1 : flatOk k x) (hk : k ≤ 30) : pyEq x y = some (.bool true) := by
  subst h; exact o_eq (fo_sh h1 hk) (fo_sh h1 hk) (eqv_refl x h1.1)
theorem o_ner {k : Nat} {x y : PyData} (h : x = y) (h1 : flatOk k x) (hk : k ≤ 30) : pyNe x y = some (.bool false) := by
  subst h; exact o_ne (fo_sh h1 hk) (fo_sh h1 hk) (eqv_refl x h1.1)
end CS
namespace CS
open PySem PySem.Spec PyProof.Rows L2
/-! whatever comes out of it -/
section
variable {S : Type} {σ σ' σ1 : List Sl} {s s' s1 s2 s3 : S} {f g fa fb fc : List Sl → S → Rs S W} {x y z : PyData} {w : W} {ws : List W} {ds : List PyData} {b b' c : Bool} {i j : Nat} {u v r : List Sl → S → Fl S} {q : Fl S} {q0 : Rs S W}
theorem j_pu {σ : List Sl} {m : List W → Unit → Rs Unit W} {n : Nat} {ga : List Sl → Unit → Rs Unit (List W)} {q : Rs Unit W} (h1 : ga σ () = .ok ws ()) (hl : ws.length = n) (h2 : m ws () = q) : eP (lenIs n m) ga σ () = q := by
  simp only [eP, h1, Rs.bind, lenIs, hl, if_true, h2]
  cases q <;> rfl
def nxK (q0 : Rs S W) (k : W → S → Fl S) : Fl S := match q0 with
  | .ok w s => k w s
  | .exc c s => .exc c s
  | .stuck => .stuck
theorem nxK_ok {k : W → S → Fl S} (h : k w s = q) : nxK (.ok w s) k = q := h
theorem nxK_exc {n : Nat} {k : W → S → Fl S} : nxK (.exc n s) k = .exc n s := rfl
theorem t_drop (h : f σ s = q0) (h2 : nxK q0 (fun _ s => r σ s) = q) : sSeq (sDrop f) r σ s = q := by
  subst h
  rw [← h2]
  unfold sSeq sDrop sE nxK
  cases f σ s <;> rfl
theorem t_asg (h : f σ s = q0) (h2 : nxK q0 (fun w s => r (σ.set i (.w w)) s) = q) : sSeq (sAsg i f) r σ s = q := by
  subst h
  rw [← h2]
  unfold sSeq sAsg sE nxK
  cases f σ s <;> rfl
theorem t_ret (h : f σ s = q0) (h2 : nxK q0 (fun w s => .rt w s) = q) : sRet f σ s = q := by
  subst h
  rw [← h2]
  unfold sRet sE nxK
  cases f σ s <;> rfl
theorem t_dropE (h : f σ s = q0) (h2 : nxK q0 (fun _ s => .nx σ s) = q) : sDrop f σ s = q := by
  subst h
  rw [← h2]
  unfold sDrop sE nxK
  cases f σ s <;> rfl
theorem t_asgE (h : f σ s = q0) (h2 : nxK q0 (fun w s => .nx (σ.set i (.w w)) s) = q) : sAsg i f σ s = q := by
  subst h
  rw [← h2]
  unfold sAsg sE nxK
  cases f σ s <;> rfl
theorem t_sret (h : sRet f σ s = q) (h2 : ∀ σ' s', q ≠ .nx σ' s') : sSeq (sRet f) r σ s = q := by
  subst h
  unfold sSeq
  cases h : sRet f σ s with
  | nx σ' s' => exact absurd h (h2 σ' s')
  | _ => rfl
theorem t_seqret (h : f σ s = q0) (h2 : nxK q0 (fun w s => .rt w s) = q) : sSeq (sRet f) r σ s = q := by
  subst h
  rw [← h2]
  unfold sSeq sRet sE nxK
  cases f σ s <;> rfl
theorem t_next (h : r σ s = q) : sSeq sNext r σ s = q := h
theorem t_raise {n : Nat} : sSeq (sRaise n) r σ s = .exc n s := rfl
theorem t_seq (h : sSeq u (sSeq v r) σ s = q) : sSeq (sSeq u v) r σ s = q := by
  rw [← h]
  unfold sSeq
  cases u σ s <;> rfl
theorem t_if {t : List Sl → S → Rs S Bool} (h1 : t σ s = .ok b s1) (h2 : ifK b (sSeq u r σ s1) (sSeq v r σ s1) = q) : sSeq (sIf t u v) r σ s = q := by
  rw [← h2]
  simp only [sSeq, sIf, sT, h1]
  cases b <;> rfl
theorem t_frz (h : sSeq u r (frz i σ) s = q) : sSeq (sFrz i u) r σ s = q := h
theorem t_any (h1 : u σ s = .nx σ' s') (h2 : r σ' s' = q) : sSeq u r σ s = q := j_seq h1 h2
/-- a def's end -/
def defK (q : Fl S) : Rs S W := match q with
  | .nx _ s' => .ok (.d .none) s'
  | .rt w s' => .ok w s'
  | .rl ds s' => .ok (.d (.list ds)) s'
  | .exc c s' => .exc c s'
  | .stuck => .stuck
theorem t_def {N : Nat} {q0 : Rs S W} (h : u (slots N ws) s = q) (h2 : defK q = q0) : mDef N u ws s = q0 := by
  subst h
  rw [← h2]
  rfl
theorem defK_rt : defK (.rt w s : Fl S) = .ok w s := rfl
theorem defK_nx : defK (.nx σ s : Fl S) = .ok (.d .none) s := rfl
theorem defK_exc {n : Nat} : defK (.exc n s : Fl S) = .exc n s := rfl
end
def toldK (td : List Nat) (kd : Nat → Str) (q : Rs Unit W) (s : DiceS) : Rs DiceS W := match q with
  | .ok w _ => .ok w s
  | .exc c _ => if c ∈ td then .ok (.d (.tuple [.str "error", .str (kd c)])) s else .stuck
  | .stuck => .stuck
theorem t_told {td : List Nat} {kd : Nat → Str} {σ : List Sl} {f : List Sl → Unit → Rs Unit W} {q0 : Rs Unit W} {q : Rs DiceS W} {s : DiceS} (h : f σ () = q0) (h2 : toldK td kd q0 s = q) : eTold td kd f σ s = q := by
  subst h
  rw [← h2]
  rfl
theorem toldK_ok {td : List Nat} {kd : Nat → Str} {w : W} {s : DiceS} : toldK td kd (.ok w ()) s = .ok w s := rfl
theorem toldK_exc {td : List Nat} {kd : Nat → Str} {n : Nat} {s : DiceS} (h : n ∈ td) : toldK td kd (.exc n ()) s = .ok (.d (.tuple [.str "error", .str (kd n)])) s := if_pos h
/-! truth values -/
theorem bl_t {p : Prop} [Decidable p] (h : p) : decide p = true := decide_eq_true h
theorem bl_f {p : Prop} [Decidable p] (h : ¬ p) : decide p = false := decide_eq_false h
theorem be_t {x y : Int} (h : x = y) : (x == y) = true := beq_iff_eq.mpr h
theorem be_f {x y : Int} (h : x ≠ y) : (x == y) = false := beq_eq_false_iff_ne.mpr h
theorem nb_t {x y : Int} (h : x ≠ y) : (!(x == y)) = true := by rw [be_f h]; rfl
theorem nb_f {x y : Int} (h : x = y) : (!(x == y)) = false := by rw [be_t h]; rfl
theorem isi_t {n : Ty} {x : PyData} (h : isiB n x = true) : isiB n x = true := h
theorem isi_f {n : Ty} {x : PyData} (h : isiB n x = false) : isiB n x = false := h
theorem e_rt {S : Type} {w : W} {s : S} : (Fl.rt w s : Fl S) = Fl.rt w s := rfl
theorem e_ok {S α : Type} {w : α} {s : S} : (Rs.ok w s : Rs S α) = Rs.ok w s := rfl
theorem e_nx {S : Type} {σ : List Sl} {s : S} : (Fl.nx σ s : Fl S) = Fl.nx σ s := rfl
theorem e_exc {S : Type} {n : Nat} {s : S} : (Fl.exc n s : Fl S) = Fl.exc n s := rfl
theorem e_rx {S α : Type} {n : Nat} {s : S} : (Rs.exc n s : Rs S α) = Rs.exc n s := rfl
theorem e_rtc {S : Type} {w w' : W} {s : S} (h : w = w') : (Fl.rt w s : Fl S) = Fl.rt w' s := by rw [h]
theorem e_okc {S α : Type} {w w' : α} {s : S} (h : w = w') : (Rs.ok w s : Rs S α) = Rs.ok w' s := by rw [h]
theorem e_nxc {S : Type} {σ σ' : List Sl} {s : S} (h : σ = σ') : (Fl.nx σ s : Fl S) = Fl.nx σ' s := by rw [h]
theorem not_t : (!true) = false := rfl
theorem not_f : (!false) = true := rfl
theorem o_mul {i j : Int} (h : (-18446744073709551616 < i ∧ i < 18446744073709551616) ∨ (-18446744073709551616 < j ∧ j < 18446744073709551616)) : pyMul (.int i) (.int j) = some (.int (i * j)) := mul_some (.inr h)
theorem o_div {i j : Int} (h1 : 0 < j) (h2 : j < 18446744073709551616) : pyFdiv (.int i) (.int j) = some (.int (i / j)) := fdiv_some h1 h2
theorem o_max {i j : Int} : pyMax2 [.int i, .int j] = some (.int (if j > i then j else i)) := rfl
theorem o_min {i j : Int} : pyMin2 [.int i, .int j] = some (.int (if j < i then j else i)) := rfl
theorem o_lenL {ds : List PyData} : pyLen [.list ds] = some (.int ds.length) := rfl
theorem o_lenT {ds : List PyData} : pyLen [.tuple ds] = some (.int ds.length) := rfl
theorem o_tupL {ds : List PyData} : pyTupleOf [.list ds] = some (.tuple ds) := rfl
theorem o_tupT {ds : List PyData} : pyTupleOf [.tuple ds] = some (.tuple ds) := rfl
theorem o_lstL {ds : List PyData} : pyListOf [.list ds] = some (.list ds) := rfl
theorem o_lstT {ds : List PyData} : pyListOf [.tuple ds] = some (.list ds) := rfl
theorem o_abs {i : Int} : pyAbs [.int i] = some (.int (if i < 0 then -i else i)) := rfl
theorem o_int {i : Int} : pyInt1 [.int i] = some (.int i) := rfl
theorem o_intB {b : Bool} : pyInt1 [.bool b] = some (.int (if b then 1 else 0)) := rfl
theorem o_all {ds : List PyData} {bs : List Bool} (h : dBools ds = some bs) : pyAll [.list ds] = some (.bool (bs.all id)) := by
  show (dBools ds).map (fun bs => PyData.bool (bs.all id)) = _
  rw [h]; rfl
theorem dBools_map {α : Type} : ∀ {xs : List α} {p : α → Bool}, dBools (xs.map fun d => .bool (p d)) = some (xs.map p)
  | [], _ => rfl
  | d :: ds, p => by rw [List.map_cons, dBools, dBools_map]; rfl
theorem dInts_mapF {α : Type} : ∀ {xs : List α} {p : α → Int}, dInts (xs.map fun d => .int (p d)) = some (xs.map p)
  | [], _ => rfl
  | d :: ds, p => by rw [List.map_cons, dInts, dInts_mapF]; rfl
theorem dInts_ints {xs : List Int} : dInts (xs.map .int) = some xs := by
  have := dInts_mapF (xs := xs) (p := fun x => x)
  rw [List.map_id'] at this
  exact this
theorem o_sum {ds : List PyData} {xs : List Int} (h : dInts ds = some xs) : pySumA [.list ds] = some (.int xs.sum) := by
  show (dInts ds).map (fun bs => PyData.int bs.sum) = _
  rw [h]; rfl
theorem o_sumT {ds : List PyData} {xs : List Int} (h : dInts ds = some xs) : pySumA [.tuple ds] = some (.int xs.sum) := by
  show (dInts ds).map (fun bs => PyData.int bs.sum) = _
  rw [h]; rfl
theorem o_ixL {ds : List PyData} {k : Int} (h : atI ds k = some z) : pyIx (.list ds) (.int k) = some z := h
theorem o_ixT {ds : List PyData} {k : Int} (h : atI ds k = some z) : pyIx (.tuple ds) (.int k) = some z := h
theorem at_nat {α : Type} {ds : List α} {k : Int} {z : α} (h0 : 0 ≤ k) (h : ds[k.toNat]? = some z) : atI ds k = some z := by
  unfold atI ixN
  have : k.toNat < ds.length := by
    rcases Nat.lt_or_ge k.toNat ds.length with h1 | h1
    · exact h1
    · rw [List.getElem?_eq_none h1] at h; cases h
  rw [if_pos h0, if_pos (by omega)]
  exact h
theorem le_ble {m n : Nat} (h : Nat.ble m n = true) : m ≤ n := Nat.le_of_ble_eq_true h
theorem lt_ble {m n : Nat} (h : Nat.ble (m + 1) n = true) : m < n := Nat.le_of_ble_eq_true h
end CS
/-! Core16: the mirrors as rewrite rules; what comes behind is not looked at before it is reached -/
namespace CS
open PySem PySem.Spec PyProof.Rows L2
section
variable {S : Type} {α β : Type} {σ : List Sl} {s : S} {w : W} {i n : Nat} {f g fa fb fc : List Sl → S → Rs S W} {t u : List Sl → S → Rs S Bool} {ga : List Sl → S → Rs S (List W)} {p q r : List Sl → S → Fl S}
/-! results -/
theorem r_bind_ok {a : α} {k : α → S → Rs S β} : Rs.bind (.ok a s) k = k a s := rfl
theorem r_bind_exc {c : Nat} {k : α → S → Rs S β} : Rs.bind (.exc c s : Rs S α) k = .exc c s := rfl
theorem r_optR_some {a : α} : optR (some a) s = .ok a s := rfl
theorem r_lift2_d {o : PyData → PyData → Option PyData} {x y : PyData} : lift2 o (.d x) (.d y) = (o x y).map .d := rfl
theorem r_lift1_d {o : PyData → Option PyData} {x : PyData} : lift1 o (.d x) = (o x).map .d := rfl
theorem r_mapD_some {x : PyData} : Option.map W.d (some x) = some (.d x) := rfl
theorem r_wDs_nil : wDs [] = some [] := rfl
theorem r_wDs_cons {x : PyData} {r : List W} : wDs (.d x :: r) = (wDs r).map (x :: ·) := rfl
theorem r_omap_some {a : α} {k : α → β} : Option.map k (some a) = some (k a) := rfl
theorem r_obind_some {a : α} {k : α → Option β} : Option.bind (some a) k = k a := rfl
/-! expressions -/
def varK (o : Option Sl) (s : S) : Rs S W := match o with
  | some (.w x) => .ok x s
  | _ => .stuck
theorem r_ev_var : eVar i σ s = varK (σ[i]?) s := rfl
theorem r_varK_some : varK (some (.w w)) s = .ok w s := rfl
theorem r_get0 {a : α} {l : List α} : (a :: l)[0]? = some a := rfl
theorem r_getS {a : α} {l : List α} : (a :: l)[n + 1]? = l[n]? := rfl
theorem r_set0 {a b : α} {l : List α} : (a :: l).set 0 b = b :: l := rfl
theorem r_setS {a b : α} {l : List α} : (a :: l).set (n + 1) b = a :: l.set n b := rfl
theorem r_ev_c {d : PyData} : eC (S := S) d σ s = .ok (.d d) s := rfl
def opK2 (o : PyData → PyData → Option PyData) (x y : W) (s : S) : Rs S W := optR (lift2 o x y) s
def opK1 (o : PyData → PyData → Option PyData) (fb : List Sl → S → Rs S W) (σ : List Sl) (x : W) (s : S) : Rs S W := (fb σ s).bind (opK2 o x)
theorem r_ev_op {o : PyData → PyData → Option PyData} : eOp o fa fb σ s = (fa σ s).bind (opK1 o fb σ) := rfl
theorem r_opK1 {o : PyData → PyData → Option PyData} : opK1 o fb σ w s = (fb σ s).bind (opK2 o w) := rfl
theorem r_opK2 {o : PyData → PyData → Option PyData} {x y : W} : opK2 o x y s = optR (lift2 o x y) s := rfl
def unK (o : PyData → Option PyData) (x : W) (s : S) : Rs S W := optR (lift1 o x) s
theorem r_ev_un {o : PyData → Option PyData} : eUn o fa σ s = (fa σ s).bind (unK o) := rfl
theorem r_unK {o : PyData → Option PyData} : unK o w s = optR (lift1 o w) s := rfl
theorem r_ev_nil : aNil (S := S) σ s = .ok [] s := rfl
def consK2 (x : W) (r : List W) (s : S) : Rs S (List W) := .ok (x :: r) s
def consK1 (ga : List Sl → S → Rs S (List W)) (σ : List Sl) (x : W) (s : S) : Rs S (List W) := (ga σ s).bind (consK2 x)
theorem r_ev_cons : aCons f ga σ s = (f σ s).bind (consK1 ga σ) := rfl
theorem r_consK1 : consK1 ga σ w s = (ga σ s).bind (consK2 w) := rfl
theorem r_consK2 {r : List W} : consK2 w r s = .ok (w :: r) s := rfl
def bK (o : List PyData → Option PyData) (ws : List W) (s : S) : Rs S W := optR (((wDs ws).bind o).map .d) s
theorem r_ev_b {o : List PyData → Option PyData} : eB o ga σ s = (ga σ s).bind (bK o) := rfl
theorem r_bK {o : List PyData → Option PyData} {ws : List W} : bK o ws s = optR (((wDs ws).bind o).map .d) s := rfl
def pK (q : Rs Unit W) (s : S) : Rs S W := match q with
  | .ok w _ => .ok w s
  | .exc c _ => .exc c s
  | .stuck => .stuck
theorem r_pK_ok : pK (.ok w ()) s = .ok w s := rfl
theorem r_pK_exc {c : Nat} : pK (.exc c ()) s = .exc c s := rfl
def pK1 (m : List W → Unit → Rs Unit W) (ws : List W) (s : S) : Rs S W := pK (m ws ()) s
theorem r_pK_unit {q : Rs Unit W} {u : Unit} : pK q u = q := by cases q <;> rfl
theorem r_ev_p {m : List W → Unit → Rs Unit W} : eP m ga σ s = (ga σ s).bind (pK1 m) := rfl
theorem r_pK1 {m : List W → Unit → Rs Unit W} {ws : List W} : pK1 m ws s = pK (m ws ()) s := rfl
theorem r_ev_f {m : List W → S → Rs S W} : eF m ga σ s = (ga σ s).bind m := rfl
theorem r_len0 {m : List W → S → Rs S W} : lenIs 0 m [] s = m [] s := rfl
theorem r_len1 {m : List W → S → Rs S W} {a : W} : lenIs 1 m [a] s = m [a] s := rfl
theorem r_len2 {m : List W → S → Rs S W} {a b : W} : lenIs 2 m [a, b] s = m [a, b] s := rfl
theorem r_len3 {m : List W → S → Rs S W} {a b c : W} : lenIs 3 m [a, b, c] s = m [a, b, c] s := rfl
theorem r_len4 {m : List W → S → Rs S W} {a b c d : W} : lenIs 4 m [a, b, c, d] s = m [a, b, c, d] s := rfl
theorem r_len5 {m : List W → S → Rs S W} {a b c d e : W} : lenIs 5 m [a, b, c, d, e] s = m [a, b, c, d, e] s := rfl
def tupK (ws : List W) (s : S) : Rs S W := optR ((wDs ws).bind mkT) s
def lstK (ws : List W) (s : S) : Rs S W := optR ((wDs ws).bind mkL) s
theorem r_ev_tup : eTup ga σ s = (ga σ s).bind tupK := rfl
theorem r_tupK {ws : List W} : tupK ws s = optR ((wDs ws).bind mkT) s := rfl
theorem r_lstK {ws : List W} : lstK ws s = optR ((wDs ws).bind mkL) s := rfl
theorem r_ev_lst : eLst ga σ s = (ga σ s).bind lstK := rfl
theorem r_mkT0 : mkT [] = some (.d (.tuple [])) := rfl
theorem r_mkT1 {a : PyData} : mkT [a] = some (.d (.tuple [a])) := rfl
theorem r_mkT2 {a b : PyData} : mkT [a, b] = some (.d (.tuple [a, b])) := rfl
theorem r_mkT3 {a b c : PyData} : mkT [a, b, c] = some (.d (.tuple [a, b, c])) := rfl
theorem r_mkT4 {a b c d : PyData} : mkT [a, b, c, d] = some (.d (.tuple [a, b, c, d])) := rfl
theorem r_mkL0 : mkL [] = some (.d (.list [])) := rfl
theorem r_mkL1 {a : PyData} : mkL [a] = some (.d (.list [a])) := rfl
theorem r_mkL2 {a b : PyData} : mkL [a, b] = some (.d (.list [a, b])) := rfl
theorem r_mkL3 {a b c : PyData} : mkL [a, b, c] = some (.d (.list [a, b, c])) := rfl
theorem mkL_any {l : List PyData} (h : l.length ≤ 1000000) : mkL l = some (.d (.list l)) := if_pos h
theorem mkT_any {l : List PyData} (h : l.length ≤ 1000000) : mkT l = some (.d (.tuple l)) := if_pos h
theorem r_mkL_4 {a b c d : PyData} {l : List PyData} (h : l.length ≤ 999996) : mkL (a :: b :: c :: d :: l) = some (.d (.list (a :: b :: c :: d :: l))) := if_pos (by simp only [List.length_cons]; omega)
theorem r_mkT_5 {a b c d e : PyData} {l : List PyData} (h : l.length ≤ 999995) : mkT (a :: b :: c :: d :: e :: l) = some (.d (.tuple (a :: b :: c :: d :: e :: l))) := if_pos (by simp only [List.length_cons]; omega)
def isiK (n : Ty) (x : W) (s : S) : Rs S W := match x with
  | .d d => .ok (.d (.bool (isiB n d))) s
  | _ => .stuck
theorem r_ev_isi {n : Ty} : eIsi n f σ s = (f σ s).bind (isiK n) := rfl
theorem r_isiK_d {n : Ty} {d : PyData} : isiK n (.d d) s = .ok (.d (.bool (isiB n d))) s := rfl
theorem r_isi_int_int {k : Int} : isiB .int (.int k) = true := rfl
theorem r_isi_int_bool {k : Bool} : isiB .int (.bool k) = true := rfl
theorem r_isi_bool_bool {k : Bool} : isiB .bool (.bool k) = true := rfl
theorem r_isi_bool_int {k : Int} : isiB .bool (.int k) = false := rfl
theorem r_isi_int_none : isiB .int .none = false := rfl
theorem r_isi_int_str {x : Str} : isiB .int (.str x) = false := rfl
theorem r_isi_int_list {x : List PyData} : isiB .int (.list x) = false := rfl
theorem r_isi_int_tuple {x : List PyData} : isiB .int (.tuple x) = false := rfl
theorem r_isi_int_dict {x : List (PyData × PyData)} : isiB .int (.dict x) = false := rfl
theorem r_isi_tuple_none : isiB .tuple .none = false := rfl
theorem r_isi_tuple_str {x : Str} : isiB .tuple (.str x) = false := rfl
theorem r_isi_tuple_list {x : List PyData} : isiB .tuple (.list x) = false := rfl
theorem r_isi_tuple_tuple {x : List PyData} : isiB .tuple (.tuple x) = true := rfl
theorem r_isi_tuple_int {k : Int} : isiB .tuple (.int k) = false := rfl
theorem r_isi_tuple_bool {k : Bool} : isiB .tuple (.bool k) = false := rfl
theorem r_isi_tuple_dict {x : List (PyData × PyData)} : isiB .tuple (.dict x) = false := rfl
theorem r_isi_str_str {x : Str} : isiB .str (.str x) = true := rfl
theorem r_isi_str_none : isiB .str .none = false := rfl
theorem r_isi_str_int {k : Int} : isiB .str (.int k) = false := rfl
theorem r_isi_str_list {x : List PyData} : isiB .str (.list x) = false := rfl
theorem r_isi_str_tuple {x : List PyData} : isiB .str (.tuple x) = false := rfl
/-! tests -/
def testK (x : W) (s : S) : Rs S Bool := optR (wB x) s
theorem r_ev_test : eTest f σ s = (f σ s).bind testK := rfl
theorem r_testK {b : Bool} : testK (.d (.bool b)) s = .ok b s := rfl
theorem r_wB_b {b : Bool} : wB (.d (.bool b)) = some b := rfl
def truK (x : W) (s : S) : Rs S Bool := match x with
  | .d (.int i) => .ok (i != 0) s
  | _ => .stuck
theorem r_ev_truth : eTruth f σ s = (f σ s).bind truK := rfl
theorem r_truK_i {k : Int} : truK (.d (.int k)) s = .ok (k != 0) s := rfl
def andT (q : Rs S Bool) (k : List Sl → S → Rs S Bool) (σ : List Sl) : Rs S Bool := q.bind fun b s => if b = true then k σ s else .ok false s
def orT (q : Rs S Bool) (k : List Sl → S → Rs S Bool) (σ : List Sl) : Rs S Bool := q.bind fun b s => if b = true then .ok true s else k σ s
theorem r_ev_and : tAndT t u σ s = andT (t σ s) u σ := rfl
theorem r_ev_or : tOrT t u σ s = orT (t σ s) u σ := rfl
theorem r_andT_t : andT (.ok true s) u σ = u σ s := rfl
theorem r_andT_f : andT (.ok false s) u σ = .ok false s := rfl
theorem r_orT_t : orT (.ok true s) u σ = .ok true s := rfl
theorem r_orT_f : orT (.ok false s) u σ = u σ s := rfl
def notK (b : Bool) (s : S) : Rs S Bool := .ok (!b) s
theorem r_ev_not : tNotT t σ s = (t σ s).bind notK := rfl
theorem r_notK {b : Bool} : notK b s = .ok (!b) s := rfl
def andW (q : Rs S W) (k : List Sl → S → Rs S W) (σ : List Sl) : Rs S W := q.bind fun x s => match wB x with
  | some true => k σ s
  | some false => .ok (.d (.bool false)) s
  | none => .stuck
def orW (q : Rs S W) (k : List Sl → S → Rs S W) (σ : List Sl) : Rs S W := q.bind fun x s => match wB x with
  | some true => .ok (.d (.bool true)) s
  | some false => k σ s
  | none => .stuck
theorem r_ev_andV : eAndV f g σ s = andW (f σ s) g σ := rfl
theorem r_ev_orV : eOrV f g σ s = orW (f σ s) g σ := rfl
theorem r_andW_t : andW (.ok (.d (.bool true)) s) f σ = f σ s := rfl
theorem r_andW_f : andW (.ok (.d (.bool false)) s) f σ = .ok (.d (.bool false)) s := rfl
theorem r_orW_t : orW (.ok (.d (.bool true)) s) f σ = .ok (.d (.bool true)) s := rfl
theorem r_orW_f : orW (.ok (.d (.bool false)) s) f σ = f σ s := rfl
theorem r_bNot_b {b : Bool} : bNot (.bool b) = some (.bool (!b)) := rfl
def ifW (q : Rs S Bool) (k l : List Sl → S → Rs S W) (σ : List Sl) : Rs S W := q.bind fun b s => if b = true then k σ s else l σ s
theorem r_ev_if : eIf t f g σ s = ifW (t σ s) f g σ := rfl
theorem r_ifW_t : ifW (.ok true s) f g σ = f σ s := rfl
theorem r_ifW_f : ifW (.ok false s) f g σ = g σ s := rfl
def chK (o : Option W) (o' : PyData → PyData → Option PyData) (fc : List Sl → S → Rs S W) (σ : List Sl) (y : W) (s : S) : Rs S W := match o.bind wB with
  | some true => (fc σ s).bind (opK2 o' y)
  | some false => .ok (.d (.bool false)) s
  | none => .stuck
def chK2 (o o' : PyData → PyData → Option PyData) (fc : List Sl → S → Rs S W) (σ : List Sl) (x y : W) (s : S) : Rs S W := chK (lift2 o x y) o' fc σ y s
def chK1 (o o' : PyData → PyData → Option PyData) (fb fc : List Sl → S → Rs S W) (σ : List Sl) (x : W) (s : S) : Rs S W := (fb σ s).bind (chK2 o o' fc σ x)
theorem r_ev_chain {o o' : PyData → PyData → Option PyData} : eChain o o' fa fb fc σ s = (fa σ s).bind (chK1 o o' fb fc σ) := rfl
theorem r_chK1 {o o' : PyData → PyData → Option PyData} {x : W} : chK1 o o' fb fc σ x s = (fb σ s).bind (chK2 o o' fc σ x) := rfl
theorem r_chK2 {o o' : PyData → PyData → Option PyData} {x y : W} : chK2 o o' fc σ x y s = chK (lift2 o x y) o' fc σ y s := rfl
theorem r_chK_t {o' : PyData → PyData → Option PyData} : chK (some (.d (.bool true))) o' fc σ w s = (fc σ s).bind (opK2 o' w) := rfl
theorem r_chK_f {o' : PyData → PyData → Option PyData} : chK (some (.d (.bool false))) o' fc σ w s = .ok (.d (.bool false)) s := rfl
/-! parts, walks -/
def slK (x : W) (a b : Option Int) (s : S) : Rs S W := match x with
  | .d x => optR ((pySl x a b).map .d) s
  | _ => .stuck
def slK2 (hi : List Sl → S → Rs S (Option Int)) (σ : List Sl) (x : W) (a : Option Int) (s : S) : Rs S W := (hi σ s).bind (slK x a)
def slK1 (lo hi : List Sl → S → Rs S (Option Int)) (σ : List Sl) (x : W) (s : S) : Rs S W := (lo σ s).bind (slK2 hi σ x)
theorem r_ev_sl {lo hi : List Sl → S → Rs S (Option Int)} : eSl f lo hi σ s = (f σ s).bind (slK1 lo hi σ) := rfl
theorem r_slK1 {lo hi : List Sl → S → Rs S (Option Int)} : slK1 lo hi σ w s = (lo σ s).bind (slK2 hi σ w) := rfl
theorem r_slK2 {hi : List Sl → S → Rs S (Option Int)} {a : Option Int} : slK2 hi σ w a s = (hi σ s).bind (slK w a) := rfl
theorem r_slK_d {x : PyData} {a b : Option Int} : slK (.d x) a b s = optR ((pySl x a b).map .d) s := rfl
theorem r_ev_oNo : oNo (S := S) σ s = .ok none s := rfl
def oPartK (x : W) (s : S) : Rs S (Option Int) := optR (wI x) s
theorem r_ev_oPart : oPart f σ s = (f σ s).bind oPartK := rfl
theorem r_oPartK {k : Int} : oPartK (.d (.int k)) s = .ok (some k) s := rfl
theorem r_wI_i {k : Int} : wI (.d (.int k)) = some (some k) := rfl
theorem r_pySl_l {ds : List PyData} {a b : Option Int} : pySl (.list ds) a b = some (.list (cutD ds a b)) := rfl
theorem r_pySl_t {ds : List PyData} {a b : Option Int} : pySl (.tuple ds) a b = some (.tuple (cutD ds a b)) := rfl
theorem r_cut_1 {d : PyData} {ds : List PyData} : cutD (d :: ds) (some 1) none = ds := by
  simp only [cutD, HT.sIx, List.length_cons]
  rw [if_neg (by decide), show (1 : Int).toNat = 1 from rfl, Nat.min_eq_left (by omega)]
  simp
theorem r_ev_iof : iOf f σ s = (f σ s).bind iSeqD := rfl
theorem r_iSeq_l {ds : List PyData} : iSeqD (.d (.list ds)) s = .ok ds s := rfl
theorem r_iSeq_t {ds : List PyData} : iSeqD (.d (.tuple ds)) s = .ok ds s := rfl
theorem r_ev_rg1 : iRange1 ga σ s = (ga σ s).bind iRg1D := rfl
theorem r_ev_rg2 : iRange2 ga σ s = (ga σ s).bind iRg2D := rfl
theorem r_rg1_ok {j : Int} (h : -1000000 ≤ j ∧ j ≤ 1000000) : iRg1D [.d (.int j)] s = .ok (rgD 0 j.toNat) s := if_pos h
theorem r_rg2_ok {j k : Int} (h : -1000000 ≤ j ∧ j ≤ 1000000 ∧ -1000000 ≤ k ∧ k ≤ 1000000) : iRg2D [.d (.int j), .d (.int k)] s = .ok (rgD j (k - j).toNat) s := if_pos h
theorem r_ev_enumM : iEnumM ga σ s = (ga σ s).bind iEnAD := rfl
theorem r_enA_l {ds : List PyData} : iEnAD [.d (.list ds)] s = .ok (enD 0 ds) s := rfl
theorem r_enA_t {ds : List PyData} : iEnAD [.d (.tuple ds)] s = .ok (enD 0 ds) s := rfl
def compK (q : Rs S (List PyData)) (b : PyData → List Sl → Option (List Sl)) (t : List Sl → S → Rs S Bool) (e : List Sl → S → Rs S W) (σ : List Sl) : Rs S W := match q with
  | .ok items s1 => if items.length < 1000000 then lstR [] (cGo b t e σ items s1) else .stuck
  | .exc c s1 => .exc c s1
  | .stuck => .stuck
theorem r_ev_comp {fi : List Sl → S → Rs S (List PyData)} {vs : List Nat} {b : PyData → List Sl → Option (List Sl)} : eComp fi vs b t f σ s = compK (fi σ s) b t f (wipeD σ vs) := rfl
theorem r_compK_ok {items : List PyData} {b : PyData → List Sl → Option (List Sl)} (h : items.length < 1000000) : compK (.ok items s) b t f σ = lstR [] (cGo b t f σ items s) := if_pos h
theorem r_lstR_ok {xs : List PyData} : lstR [] (.ok xs s) = .ok (.d (.list xs)) s := rfl
theorem r_wipe_nil : wipeD σ [] = σ := rfl
theorem r_wipe_cons {v : Nat} {vs : List Nat} : wipeD σ (v :: vs) = (wipeD σ vs).set v .non := rfl
def indK2 (ds : List PyData) (y : W) (s : S) : Rs S W := optR (lift2 pyIndexD (.d (.list ds)) y) s
def indK1 (fb : List Sl → S → Rs S W) (σ : List Sl) (x : W) (s : S) : Rs S W := match x with
  | .d (.list ds) => (fb σ s).bind (indK2 ds)
  | _ => .stuck
theorem r_ev_index : eIndex fa fb σ s = (fa σ s).bind (indK1 fb σ) := rfl
theorem r_indK1 {ds : List PyData} : indK1 fb σ (.d (.list ds)) s = (fb σ s).bind (indK2 ds) := rfl
theorem r_indK2 {ds : List PyData} {y : PyData} : indK2 ds (.d y) s = optR ((pyIndexD (.list ds) y).map .d) s := rfl
def lrgK (x : W) (s : S) : Rs S W := match x with
  | .d (.int n) => if 0 ≤ n ∧ n ≤ 1000 then .ok (.d (.list (rgD 0 n.toNat))) s else .stuck
  | _ => .stuck
theorem r_ev_listRg : eListRg f σ s = (f σ s).bind lrgK := rfl
theorem r_lrgK_ok {n : Int} (h : 0 ≤ n ∧ n ≤ 1000) : lrgK (.d (.int n)) s = .ok (.d (.list (rgD 0 n.toNat))) s := if_pos h
def dgK (x y : W) (s : S) : Rs S W := match x, y with
  | .dic kvs, .d (.tuple ds) => optR (((keyD ds).bind fun k => getD kvs k).map W.d) s
  | _, _ => .stuck
def dgK1 (fb : List Sl → S → Rs S W) (σ : List Sl) (x : W) (s : S) : Rs S W := (fb σ s).bind (dgK x)
theorem r_ev_dget : eDGet fa fb σ s = (fa σ s).bind (dgK1 fb σ) := rfl
theorem r_dgK1 : dgK1 fb σ w s = (fb σ s).bind (dgK w) := rfl
theorem r_dgK_ok {kvs : List (List Key × PyData)} {ds : List PyData} : dgK (.dic kvs) (.d (.tuple ds)) s = optR (((keyD ds).bind (getD kvs)).map W.d) s := rfl
theorem r_keyD_nil : keyD [] = some [] := rfl
theorem r_keyD_int {k : Int} {r : List PyData} : keyD (.int k :: r) = (keyD r).map (Sum.inl k :: ·) := rfl
def ixoI (ds : List PyData) (y : W) (s : S) : Rs S W := match y with
  | .d (.int k) => optR ((atI ds k).map W.d) s
  | _ => .stuck
def ixoK (o : Option Sl) (f : List Sl → S → Rs S W) (σ : List Sl) (s : S) : Rs S W := match o with
  | some (.own ds) => (f σ s).bind (ixoI ds)
  | some (.w x) => (f σ s).bind (opK2 pyIx x)
  | _ => .stuck
theorem r_ev_ixo : eIxO i f σ s = ixoK (σ[i]?) f σ s := rfl
theorem r_ixoK_w : ixoK (some (.w w)) f σ s = (f σ s).bind (opK2 pyIx w) := rfl
theorem r_ixoK_ok {ds : List PyData} : ixoK (some (.own ds)) f σ s = (f σ s).bind (ixoI ds) := rfl
theorem r_ixoI_ok {ds : List PyData} {k : Int} : ixoI ds (.d (.int k)) s = optR ((atI ds k).map W.d) s := rfl
def lenoK (o : Option Sl) (s : S) : Rs S W := match o with
  | some (.own ds) => .ok (.d (.int ds.length)) s
  | _ => .stuck
theorem r_ev_leno : eLenO i σ s = lenoK (σ[i]?) s := rfl
theorem r_lenoK_ok {ds : List PyData} : lenoK (some (.own ds)) s = .ok (.d (.int ds.length)) s := rfl
/-! statements -/
def seqK (x : Fl S) (g : List Sl → S → Fl S) : Fl S := match x with
  | .nx σ' s' => g σ' s'
  | .rt w s' => .rt w s'
  | .rl ds s' => .rl ds s'
  | .exc c s' => .exc c s'
  | .stuck => .stuck
theorem r_ev_seq : sSeq p q σ s = seqK (p σ s) q := rfl
theorem r_seqK_nx : seqK (.nx σ s) p = p σ s := rfl
theorem r_seqK_rt : seqK (.rt w s) p = .rt w s := rfl
theorem r_seqK_rl {ds : List PyData} : seqK (.rl ds s) p = .rl ds s := rfl
theorem r_seqK_exc {c : Nat} : seqK (.exc c s) p = .exc c s := rfl
theorem r_ev_next : sNext (S := S) σ s = .nx σ s := rfl
def eK (q : Rs S α) (k : α → S → Fl S) : Fl S := match q with
  | .ok w s => k w s
  | .exc c s => .exc c s
  | .stuck => .stuck
theorem r_eK_ok {a : α} {k : α → S → Fl S} : eK (.ok a s) k = k a s := rfl
theorem r_eK_exc {c : Nat} {k : α → S → Fl S} : eK (.exc c s : Rs S α) k = .exc c s := rfl
theorem sE_eK {k : List Sl → W → S → Fl S} : sE f k σ s = eK (f σ s) (k σ) := by
  unfold sE eK
  cases f σ s <;> rfl
theorem sT_eK {k : List Sl → Bool → S → Fl S} : sT t k σ s = eK (t σ s) (k σ) := by
  unfold sT eK
  cases t σ s <;> rfl
def asgK (i : Nat) (σ : List Sl) (w : W) (s : S) : Fl S := .nx (σ.set i (.w w)) s
theorem r_ev_asg : sAsg i f σ s = eK (f σ s) (asgK i σ) := sE_eK
theorem r_asgK : asgK i σ w s = .nx (σ.set i (.w w)) s := rfl
def asgTK (is : List Nat) (σ : List Sl) (w : W) (s : S) : Fl S := match w with
  | .d d => match bTup is d σ with
    | some σ' => .nx σ' s
    | none => .stuck
  | _ => .stuck
theorem r_ev_asgT {is : List Nat} : sAsgT is f σ s = eK (f σ s) (asgTK is σ) := sE_eK
theorem asgTK_d {is : List Nat} {d : PyData} : asgTK is σ (.d d) s = match bTup is d σ with
    | some σ' => .nx σ' s
    | none => .stuck := rfl
theorem r_asgTK_2 {a b : Nat} {x y : PyData} : asgTK [a, b] σ (.d (.tuple [x, y])) s = .nx ((σ.set a (.w (.d x))).set b (.w (.d y))) s := rfl
theorem r_asgTK_3 {a b c : Nat} {x y z : PyData} : asgTK [a, b, c] σ (.d (.tuple [x, y, z])) s = .nx (((σ.set a (.w (.d x))).set b (.w (.d y))).set c (.w (.d z))) s := rfl
theorem r_asgTK_4 {a b c d : Nat} {x y z v : PyData} : asgTK [a, b, c, d] σ (.d (.tuple [x, y, z, v])) s = .nx ((((σ.set a (.w (.d x))).set b (.w (.d y))).set c (.w (.d z))).set d (.w (.d v))) s := rfl
def parK (i j : Nat) (σ : List Sl) (ws : List W) (s : S) : Fl S := match ws with
  | [x, y] => .nx ((σ.set i (.w x)).set j (.w y)) s
  | _ => .stuck
theorem r_ev_par {i j : Nat} : sPar i j ga σ s = eK (ga σ s) (parK i j σ) := by
  unfold sPar eK
  cases ga σ s with
  | ok ws s1 =>
    match ws with
    | [] => rfl
    | [_] => rfl
    | [_, _] => rfl
    | _ :: _ :: _ :: _ => rfl
  | _ => rfl
theorem r_parK_ok {i j : Nat} {x y : W} : parK i j σ [x, y] s = .nx ((σ.set i (.w x)).set j (.w y)) s := rfl
def dropK (σ : List Sl) (w : W) (s : S) : Fl S := .nx σ s
def retK (w : W) (s : S) : Fl S := .rt w s
theorem r_ev_drop : sDrop f σ s = eK (f σ s) (dropK σ) := sE_eK
theorem r_ev_ret : sRet f σ s = eK (f σ s) retK := sE_eK
theorem r_dropK : dropK σ w s = .nx σ s := rfl
theorem r_retK : retK w s = .rt w s := rfl
def sifK (o : Rs S Bool) (p q : List Sl → S → Fl S) (σ : List Sl) : Fl S := eK o fun b s => if b = true then p σ s else q σ s
theorem r_ev_sif : sIf t p q σ s = sifK (t σ s) p q σ := sT_eK
theorem r_sifK_t : sifK (.ok true s) p q σ = p σ s := rfl
theorem r_sifK_f : sifK (.ok false s) p q σ = q σ s := rfl
theorem r_ev_raise {c : Nat} : sRaise (S := S) c σ s = .exc c s := rfl
def augK (o : Option Sl) (i : Nat) (σ : List Sl) (g : Int → Int → Int) (q : Rs S W) : Fl S := match o with
  | some (.w (.d (.int a))) => match q with
    | .ok (.d (.int b)) s1 => .nx (σ.set i (.w (.d (.int (g a b))))) s1
    | .exc c s1 => .exc c s1
    | _ => .stuck
  | _ => .stuck
theorem r_ev_aug {o : Int → Int → Int} : sAug i o f σ s = augK (σ[i]?) i σ o (f σ s) := by
  unfold sAug augK
  generalize σ[i]? = oo
  cases oo with
  | none => rfl
  | some x =>
    cases x with
    | w x =>
      cases x with
      | d x => cases x <;> rfl
      | _ => rfl
    | _ => rfl
theorem r_augK_ok {o : Int → Int → Int} {a b : Int} : augK (some (.w (.d (.int a)))) i σ o (.ok (.d (.int b)) s) = .nx (σ.set i (.w (.d (.int (o a b))))) s := rfl
def forK (q : Rs S (List PyData)) (b : PyData → List Sl → Option (List Sl)) (p : List Sl → S → Fl S) (σ : List Sl) : Fl S := eK q fun items s => fGo b p items σ s
theorem r_ev_for {fi : List Sl → S → Rs S (List PyData)} {b : PyData → List Sl → Option (List Sl)} : sFor fi b p σ s = forK (fi σ s) b p σ := by
  unfold sFor forK eK
  cases fi σ s <;> rfl
theorem r_forK_ok {items : List PyData} {b : PyData → List Sl → Option (List Sl)} : forK (.ok items s) b p σ = fGo b p items σ s := rfl
theorem r_ev_frz : sFrz i p σ s = p (frz i σ) s := rfl
theorem r_frz0 {x : Sl} {l : List Sl} : frz 0 (x :: l) = frzS x :: l := rfl
theorem r_frzN {x : Sl} {l : List Sl} : frz (n + 1) (x :: l) = x :: frz n l := by
  unfold frz
  rw [List.getElem?_cons_succ]
  cases l[n]? <;> rfl
theorem r_frzS_own {ds : List PyData} : frzS (.own ds) = .w (.d (.list ds)) := rfl
theorem r_frzS_odc {kvs : List (List Key × PyData)} : frzS (.odc kvs) = .w (.dic kvs) := rfl
theorem r_frzS_w : frzS (.w w) = .w w := rfl
theorem r_frzS_non : frzS .non = .non := rfl
def asgOK (i : Nat) (σ : List Sl) (w : W) (s : S) : Fl S := match w with
  | .d (.list ds) => .nx (σ.set i (.own ds)) s
  | _ => .stuck
theorem r_ev_asgO : sAsgO i f σ s = eK (f σ s) (asgOK i σ) := by
  unfold sAsgO eK
  cases f σ s with
  | ok w s1 =>
    cases w with
    | d x => cases x <;> rfl
    | _ => rfl
  | _ => rfl
theorem r_asgOK_ok {ds : List PyData} : asgOK i σ (.d (.list ds)) s = .nx (σ.set i (.own ds)) s := rfl
theorem r_mulL_ok {a : List PyData} {k : Int} (h : 0 ≤ k ∧ k ≤ 1000 ∧ a.length ≤ 1000) : pyMulL (.list a) (.int k) = some (.list (List.replicate k.toNat a).flatten) := if_pos h
def retLK (o : Option Sl) (s : S) : Fl S := match o with
  | some (.own ds) => .rl ds s
  | _ => .stuck
theorem r_ev_retL : sRetL i σ s = retLK (σ[i]?) s := rfl
theorem r_retLK_ok {ds : List PyData} : retLK (some (.own ds)) s = .rl ds s := rfl
def appK (o : Option Sl) (i : Nat) (σ : List Sl) (q : Rs S W) : Fl S := match o with
  | some (.own ds) => match q with
    | .ok (.d d) s1 => if ds.length < 1000000 then .nx (σ.set i (.own (ds ++ [d]))) s1 else .stuck
    | .exc c s1 => .exc c s1
    | _ => .stuck
  | _ => .stuck
theorem r_ev_app : sApp i f σ s = appK (σ[i]?) i σ (f σ s) := by
  unfold sApp appK
  generalize σ[i]? = oo
  cases oo with
  | none => rfl
  | some x =>
    cases x with
    | w x =>
      cases x with
      | d x => cases x <;> rfl
      | _ => rfl
    | _ => rfl
theorem r_appK_ok {ds : List PyData} {d : PyData} (h : ds.length < 1000000) : appK (some (.own ds)) i σ (.ok (.d d) s) = .nx (σ.set i (.own (ds ++ [d]))) s := if_pos h
theorem r_ev_newD : sNewD (S := S) i σ s = .nx (σ.set i (.odc [])) s := rfl
def putK (o : Option Sl) (i : Nat) (σ : List Sl) (q : Rs S W) (g : List Sl → S → Rs S W) : Fl S := match o with
  | some (.odc kvs) => match q with
    | .ok (.d d) s1 => match g σ s1 with
      | .ok (.d (.tuple ds)) s2 => match keyD ds with
        | some k => if kvs.length < 1000000 then .nx (σ.set i (.odc (putD kvs k d))) s2 else .stuck
        | none => .stuck
      | .exc c s2 => .exc c s2
      | _ => .stuck
    | .exc c s1 => .exc c s1
    | _ => .stuck
  | _ => .stuck
def putK2 (i : Nat) (σ : List Sl) (kvs : List (List Key × PyData)) (d : PyData) (q : Rs S W) : Fl S := match q with
      | .ok (.d (.tuple ds)) s2 => match keyD ds with
        | some k => if kvs.length < 1000000 then .nx (σ.set i (.odc (putD kvs k d))) s2 else .stuck
        | none => .stuck
      | .exc c s2 => .exc c s2
      | _ => .stuck
theorem r_ev_putD : sPutD i g f σ s = putK (σ[i]?) i σ (f σ s) g := by
  unfold sPutD putK
  generalize σ[i]? = oo
  cases oo with
  | none => rfl
  | some x =>
    cases x with
    | w x =>
      cases x with
      | d x => cases x <;> rfl
      | _ => rfl
    | _ => rfl
theorem r_putK_ok {kvs : List (List Key × PyData)} {d : PyData} : putK (some (.odc kvs)) i σ (.ok (.d d) s) g = putK2 i σ kvs d (g σ s) := rfl
theorem r_putK2_ok {kvs : List (List Key × PyData)} {d : PyData} {ds : List PyData} {k : List Key} (h1 : keyD ds = some k) (h : kvs.length < 1000000) : putK2 i σ kvs d (.ok (.d (.tuple ds)) s) = .nx (σ.set i (.odc (putD kvs k d))) s := by
  simp only [putK2, h1, if_pos h]
def setOK (o : Option Sl) (i : Nat) (σ : List Sl) (q : Rs S W) (g : List Sl → S → Rs S W) : Fl S := match o with
  | some (.own ds) => match q with
    | .ok (.d d) s1 => match g σ s1 with
      | .ok (.d (.int k)) s2 => match ixN ds.length k with
        | some j => .nx (σ.set i (.own (ds.set j d))) s2
        | none => .stuck
      | .exc c s2 => .exc c s2
      | _ => .stuck
    | .exc c s1 => .exc c s1
    | _ => .stuck
  | _ => .stuck
def setOK2 (i : Nat) (σ : List Sl) (ds : List PyData) (d : PyData) (q : Rs S W) : Fl S := match q with
      | .ok (.d (.int k)) s2 => match ixN ds.length k with
        | some j => .nx (σ.set i (.own (ds.set j d))) s2
        | none => .stuck
      | .exc c s2 => .exc c s2
      | _ => .stuck
theorem r_ev_setO : sSetO i g f σ s = setOK (σ[i]?) i σ (f σ s) g := by
  unfold sSetO setOK
  generalize σ[i]? = oo
  cases oo with
  | none => rfl
  | some x =>
    cases x with
    | w x =>
      cases x with
      | d x => cases x <;> rfl
      | _ => rfl
    | _ => rfl
theorem r_setOK_ok {ds : List PyData} {d : PyData} : setOK (some (.own ds)) i σ (.ok (.d d) s) g = setOK2 i σ ds d (g σ s) := rfl
theorem r_setOK2_ok {ds : List PyData} {d : PyData} {k : Int} (h0 : 0 ≤ k) (h1 : k < ds.length) : setOK2 i σ ds d (.ok (.d (.int k)) s) = .nx (σ.set i (.own (ds.set k.toNat d))) s := by
  simp only [setOK2, ixN, if_pos h0, if_pos h1]
def parOK2 (i j : Nat) (σ : List Sl) (ds : List PyData) (y : W) (s : S) : Fl S := .nx ((σ.set j (.w y)).set i (.own ds)) s
def parOK (i j : Nat) (g : List Sl → S → Rs S W) (σ : List Sl) (w : W) (s : S) : Fl S := match w with
  | .d (.list ds) => eK (g σ s) (parOK2 i j σ ds)
  | _ => .stuck
theorem r_ev_parO {i j : Nat} : sParO i j f g σ s = eK (f σ s) (parOK i j g σ) := by
  unfold sParO eK
  cases f σ s with
  | ok w s1 =>
    cases w with
    | d x =>
      cases x with
      | list ds => unfold parOK eK; dsimp only; cases g σ s1 <;> rfl
      | _ => rfl
    | _ => rfl
  | _ => rfl
theorem r_parOK {i j : Nat} {ds : List PyData} : parOK i j g σ (.d (.list ds)) s = eK (g σ s) (parOK2 i j σ ds) := rfl
theorem r_parOK2 {i j : Nat} {ds : List PyData} : parOK2 i j σ ds w s = .nx ((σ.set j (.w w)).set i (.own ds)) s := rfl
def parO2K (i j : Nat) (g : List Sl → S → Rs S W) (σ : List Sl) (x : W) (s : S) : Fl S := eK (g σ s) (asgOK j (σ.set i (.w x)))
theorem r_ev_parO2 {i j : Nat} : sParO2 i j f g σ s = eK (f σ s) (parO2K i j g σ) := by
  unfold sParO2 eK parO2K
  cases f σ s with
  | ok w s1 =>
    dsimp only
    cases g σ s1 with
    | ok w2 s2 =>
      cases w2 with
      | d x => cases x <;> rfl
      | _ => rfl
    | _ => rfl
  | _ => rfl
theorem r_parO2K {i j : Nat} : parO2K i j g σ w s = eK (g σ s) (asgOK j (σ.set i (.w w))) := rfl
/-! defs -/
theorem r_ev_def {N : Nat} {ws : List W} : mDef N p ws s = defK (p (slots N ws) s) := rfl
theorem r_defK_1 : defK (.rt w s : Fl S) = .ok w s := rfl
theorem r_defK_2 : defK (.nx σ s : Fl S) = .ok (.d .none) s := rfl
theorem r_defK_3 {c : Nat} : defK (.exc c s : Fl S) = .exc c s := rfl
theorem r_defK_4 {ds : List PyData} : defK (.rl ds s : Fl S) = .ok (.d (.list ds)) s := rfl
def defLK (x : Fl S) : Rs S W := match x with
  | .rl ds s' => .ok (.d (.list ds)) s'
  | .exc c s' => .exc c s'
  | _ => .stuck
theorem r_ev_defL {N : Nat} {ws : List W} : mDefL N p ws s = defLK (p (slots N ws) s) := rfl
theorem r_defLK_1 {ds : List PyData} : defLK (.rl ds s : Fl S) = .ok (.d (.list ds)) s := rfl
def nons (n : Nat) : List Sl := List.replicate n .non
theorem r_slots_nil {N : Nat} : slots N [] = nons N := rfl
theorem r_nons0 : nons 0 = [] := rfl
theorem r_nonsS : nons (n + 1) = .non :: nons n := rfl
theorem r_slots_cons {N : Nat} {ws : List W} : slots (N + 1) (w :: ws) = .w w :: slots N ws := by
  simp only [slots, List.map_cons, List.length_cons, List.cons_append, Nat.add_sub_add_right]
end
theorem r_ev_told {td : List Nat} {kd : Nat → Str} {σ : List Sl} {f : List Sl → Unit → Rs Unit W} {s : DiceS} : eTold td kd f σ s = toldK td kd (f σ ()) s := rfl
theorem r_toldK_1 {td : List Nat} {kd : Nat → Str} {w : W} {s : DiceS} : toldK td kd (.ok w ()) s = .ok w s := rfl
theorem toldK_2 {td : List Nat} {kd : Nat → Str} {n : Nat} {s : DiceS} (h : n ∈ td) : toldK td kd (.exc n ()) s = .ok (.d (.tuple [.str "error", .str (kd n)])) s := if_pos h
/-! operators -/
theorem r_w_add {i j : Int} : pyAdd (.int i) (.int j) = some (.int (i + j)) := rfl
theorem r_w_addL {a b : List PyData} (h : a.length + b.length ≤ 1000000) : pyAdd (.list a) (.list b) = some (.list (a ++ b)) := if_pos h
theorem r_w_addT {a b : List PyData} (h : a.length + b.length ≤ 1000000) : pyAdd (.tuple a) (.tuple b) = some (.tuple (a ++ b)) := if_pos h
theorem r_w_sub {i j : Int} : pySub (.int i) (.int j) = some (.int (i - j)) := rfl
theorem r_w_neg {i : Int} : pyNeg (.int i) = some (.int (-i)) := rfl
theorem r_w_lt {i j : Int} : pyLt (.int i) (.int j) = some (.bool (decide (i < j))) := rfl
theorem r_w_le {i j : Int} : pyLe (.int i) (.int j) = some (.bool (decide (i ≤ j))) := rfl
theorem r_w_gt {i j : Int} : pyGt (.int i) (.int j) = some (.bool (decide (j < i))) := rfl
theorem r_w_ge {i j : Int} : pyGe (.int i) (.int j) = some (.bool (decide (j ≤ i))) := rfl
theorem r_w_is {d : PyData} : pyIs d .none = some (.bool (isNon d)) := rfl
theorem r_w_isN {d : PyData} : pyIsNot d .none = some (.bool (!isNon d)) := rfl
theorem r_isNon_n : isNon .none = true := rfl
theorem r_isNon_i {i : Int} : isNon (.int i) = false := rfl
theorem r_isNon_t {ds : List PyData} : isNon (.tuple ds) = false := rfl
theorem r_isNon_l {ds : List PyData} : isNon (.list ds) = false := rfl
theorem r_w_eq {x y : Int} : pyEq (.int x) (.int y) = some (.bool (x == y)) := o_eqi
theorem r_w_ne {x y : Int} : pyNe (.int x) (.int y) = some (.bool (!(x == y))) := o_nei
theorem r_w_max {i j : Int} : pyMax2 [.int i, .int j] = some (.int (if j > i then j else i)) := rfl
theorem r_w_min {i j : Int} : pyMin2 [.int i, .int j] = some (.int (if j < i then j else i)) := rfl
theorem r_w_lenL {ds : List PyData} : pyLen [.list ds] = some (.int ds.length) := rfl
theorem r_w_lenT {ds : List PyData} : pyLen [.tuple ds] = some (.int ds.length) := rfl
theorem r_w_tupL {ds : List PyData} : pyTupleOf [.list ds] = some (.tuple ds) := rfl
theorem r_w_tupT {ds : List PyData} : pyTupleOf [.tuple ds] = some (.tuple ds) := rfl
theorem r_w_lstL {ds : List PyData} : pyListOf [.list ds] = some (.list ds) := rfl
theorem r_w_lstT {ds : List PyData} : pyListOf [.tuple ds] = some (.list ds) := rfl
theorem r_w_abs {i : Int} : pyAbs [.int i] = some (.int (if i < 0 then -i else i)) := rfl
theorem r_w_int {i : Int} : pyInt1 [.int i] = some (.int i) := rfl
theorem r_w_intB {b : Bool} : pyInt1 [.bool b] = some (.int (if b then 1 else 0)) := rfl
theorem r_w_ixT0 {a : PyData} {r : List PyData} : pyIx (.tuple (a :: r)) (.int 0) = some a := by
  show atI _ _ = _
  exact at_nat (by decide) rfl
theorem r_w_ixT1 {a b : PyData} {r : List PyData} : pyIx (.tuple (a :: b :: r)) (.int 1) = some b := by
  show atI _ _ = _
  exact at_nat (by decide) rfl
theorem r_w_ixT2 {a b c : PyData} {r : List PyData} : pyIx (.tuple (a :: b :: c :: r)) (.int 2) = some c := by
  show atI _ _ = _
  exact at_nat (by decide) rfl
theorem r_w_mul {i j : Int} (h : (-18446744073709551616 < i ∧ i < 18446744073709551616) ∨ (-18446744073709551616 < j ∧ j < 18446744073709551616)) : pyMul (.int i) (.int j) = some (.int (i * j)) := mul_some (.inr h)
theorem r_w_div {i j : Int} (h : 0 < j ∧ j < 18446744073709551616) : pyFdiv (.int i) (.int j) = some (.int (i / j)) := fdiv_some h.1 h.2
theorem r_w_mod {i j : Int} (h : 0 < j) : pyMod (.int i) (.int j) = some (.int (i % j)) := mod_some h
end CS
namespace CS
open PySem PySem.Spec PyProof.Rows L2
section
variable {S : Type} {b : PyData → List Sl → Option (List Sl)} {f rest : List Sl → S → Fl S} {items : List PyData} {σ : List Sl} {s : S} {P : Fl S → Prop}
def turnK (b : PyData → List Sl → Option (List Sl)) (f : List Sl → S → Fl S) (d : PyData) (σ : List Sl) (s : S) : Fl S := match b d σ with
  | some σ1 => f σ1 s
  | none => .stuck
theorem r_turn_name {i : Nat} {d : PyData} : turnK (bName i) f d σ s = f (σ.set i (.w (.d d))) s := rfl
theorem r_turn_t2 {i j : Nat} {x y : PyData} : turnK (bTup [i, j]) f (.tuple [x, y]) σ s = f ((σ.set i (.w (.d x))).set j (.w (.d y))) s := rfl
theorem r_turn_t3 {i j k : Nat} {x y z : PyData} : turnK (bTup [i, j, k]) f (.tuple [x, y, z]) σ s = f (((σ.set i (.w (.d x))).set j (.w (.d y))).set k (.w (.d z))) s := rfl
/-- it comes to the next statement, and that holds there -/
def Keeps (I : List Sl → S → Prop) (r : Fl S) : Prop := ∃ σ' s', r = .nx σ' s' ∧ I σ' s'
theorem Keeps.mk {I : List Sl → S → Prop} (h : I σ s) : Keeps I (.nx σ s) := ⟨σ, s, rfl, h⟩
theorem turn_inv {I : List Sl → S → Prop} {d : PyData} (h : Keeps I (turnK b f d σ s)) : ∃ σ1, b d σ = some σ1 ∧ ∃ σ' s', f σ1 s = .nx σ' s' ∧ I σ' s' := by
  unfold turnK at h
  split at h
  · exact ⟨_, by assumption, h⟩
  · obtain ⟨_, _, e, _⟩ := h; cases e
/-- a loop that never leaves, by what it keeps -/
theorem loop_seq (I : List Sl → S → Prop) (h0 : I σ s) (hstep : ∀ d ∈ items, ∀ σ s, I σ s → Keeps I (turnK b f d σ s)) (hk : ∀ σ' s', I σ' s' → P (rest σ' s')) : P (seqK (fGo b f items σ s) rest) := by
  obtain ⟨σ', s', e, hi⟩ := fGo_inv I (fun d hd σ s h => turn_inv (hstep d hd σ s h)) h0
  rw [e]
  exact hk σ' s' hi
theorem loop_end (I : List Sl → S → Prop) (h0 : I σ s) (hstep : ∀ d ∈ items, ∀ σ s, I σ s → Keeps I (turnK b f d σ s)) (hk : ∀ σ' s', I σ' s' → P (.nx σ' s')) : P (fGo b f items σ s) := by
  obtain ⟨σ', s', e, hi⟩ := fGo_inv I (fun d hd σ s h => turn_inv (hstep d hd σ s h)) h0
  rw [e]
  exact hk σ' s' hi
/-- by place -/
theorem loop_seqI (I : Nat → List Sl → S → Prop) (h0 : I 0 σ s) (hstep : ∀ i d, items[i]? = some d → ∀ σ s, I i σ s → Keeps (I (i + 1)) (turnK b f d σ s)) (hk : ∀ σ' s', I items.length σ' s' → P (rest σ' s')) : P (seqK (fGo b f items σ s) rest) := by
  obtain ⟨σ', s', e, hi⟩ := fGo_at (k := 0) I (fun i d hd σ s hI => by rw [Nat.zero_add] at hI ⊢; exact turn_inv (hstep i d hd σ s hI)) h0
  rw [e]
  rw [Nat.zero_add] at hi
  exact hk σ' s' hi
theorem loop_endI (I : Nat → List Sl → S → Prop) (h0 : I 0 σ s) (hstep : ∀ i d, items[i]? = some d → ∀ σ s, I i σ s → Keeps (I (i + 1)) (turnK b f d σ s)) (hk : ∀ σ' s', I items.length σ' s' → P (.nx σ' s')) : P (fGo b f items σ s) := by
  obtain ⟨σ', s', e, hi⟩ := fGo_at (k := 0) I (fun i d hd σ s hI => by rw [Nat.zero_add] at hI ⊢; exact turn_inv (hstep i d hd σ s hI)) h0
  rw [e]
  rw [Nat.zero_add] at hi
  exact hk σ' s' hi
/-- an if that comes to the next statement either way -/
theorem if_seq {p q : List Sl → S → Fl S} {c : Bool} (I : List Sl → S → Prop) (h1 : c = true → Keeps I (p σ s)) (h2 : c = false → Keeps I (q σ s)) (hk : ∀ σ' s', I σ' s' → P (rest σ' s')) : P (seqK (sifK (.ok c s) p q σ) rest) := by
  cases c with
  | true =>
    obtain ⟨σ', s', e, hi⟩ := h1 rfl
    rw [r_sifK_t, e]
    exact hk σ' s' hi
  | false =>
    obtain ⟨σ', s', e, hi⟩ := h2 rfl
    rw [r_sifK_f, e]
    exact hk σ' s' hi
/-- the loop's result, whatever it is, by place: for a loop that ends in a return -/
theorem fGo_nil : fGo b f [] σ s = .nx σ s := rfl
theorem fGo_cons {d : PyData} : fGo b f (d :: items) σ s = seqK (turnK b f d σ s) (fGo b f items) := by
  rw [fGo]
  unfold turnK
  cases b d σ with
  | none => rfl
  | some σ1 =>
    dsimp only
    cases f σ1 s <;> rfl
end
/-- told errors are equal to what is due -/
theorem err_ne {k k' : Str} (h : k = k') (hk : PyData.strOk k = true) : pyNe (.tuple [.str "error", .str k]) (.tuple [.str "error", .str k']) = some (.bool false) := by
  subst h
  have e0 : PyData.strOk "error" = true := by decide +kernel
  have e1 : PyData.canLay0 (.tuple [.str "error", .str k]) = true := by
    simp only [PyData.canLay0, PyData.canLayAll0, hk, e0, Bool.and_true]
  have e2 : SeqAt.shaped (.tuple [.str "error", .str k]) = true := by
    unfold SeqAt.shaped
    rw [e1, Bool.true_and]
    simp only [PyData.depth, PyData.depthAll]
    rfl
  rw [o_ne e2 e2 (eqv_refl _ e1)]
  rfl
end CS
namespace CS
/-- it comes to the next statement -/
def Nx {S : Type} (r : Fl S) : Prop := ∃ σ' s', r = .nx σ' s'
theorem Nx.mk {S : Type} {σ : List Sl} {s : S} : Nx (.nx σ s) := ⟨σ, s, rfl⟩
end CS
/-! Core17: d.get(k, x); max and min of one sequence -/
namespace CS
open PySem PySem.Spec PyProof.Rows L2
/-! ### d.get(k, x) -/
section
variable {G : Gm} {E : XK}
theorem KvR.getN {H : Hp} {k : List Key} {ks : List (List Key × V)} {kvs : List (List Key × PyData)} (h : KvR H ks kvs) : getD kvs k = none → valV ks k = none := by
  induction h with
  | nil => intro _; rfl
  | cons h1 h2 ih =>
    rename_i k' v d' r q
    intro e
    unfold getD at e
    unfold valV
    rw [List.find?_cons] at e ⊢
    by_cases hk : k' = k
    · rw [show decide ((k', d').1 = k) = true from decide_eq_true hk] at e
      cases e
    · rw [show decide ((k', d').1 = k) = false from decide_eq_false hk] at e
      rw [show decide ((k', v).1 = k) = false from decide_eq_false hk]
      exact ih e
def dg2K {S : Type} (x y z : W) (s : S) : Rs S W := match x, y, z with
  | .dic kvs, .d (.tuple ds), .d d => optR ((keyD ds).map fun k => W.d ((getD kvs k).getD d)) s
  | _, _, _ => .stuck
def dg2K2 {S : Type} (fx : List Sl → S → Rs S W) (σ : List Sl) (x y : W) (s : S) : Rs S W := (fx σ s).bind (dg2K x y)
def dg2K1 {S : Type} (fk fx : List Sl → S → Rs S W) (σ : List Sl) (x : W) (s : S) : Rs S W := match x with
  | .dic kvs => (fk σ s).bind (dg2K2 fx σ (.dic kvs))
  | _ => .stuck
def eDGet2 {S : Type} (fd fk fx : List Sl → S → Rs S W) : List Sl → S → Rs S W := fun σ s => (fd σ s).bind (dg2K1 fk fx σ)
theorem sm_dget2 {td ty tx : TE} {fd fk fx : List Sl → G.S → Rs G.S W} (hd : Sm G E td fd) (hk : Sm G E ty fk) (hx : Sm G E tx fx) : Sm G E (tDGet2 td ty tx) (eDGet2 fd fk fx) := fun L O σD s σ H Q R hw =>
  hd.thenV R hw fun x s1 v H1 e1 R1 wx h1 => by
    cases x with
    | d _ => exact h1.elim
    | ref _ => exact h1.elim
    | dic kvs =>
      obtain ⟨a, ks, rfl, ha, hr⟩ := wx
      refine ⟨a, rfl, .inr ⟨ks, (rd_wo ha).1⟩, ?_⟩
      exact hk.thenV R1 h1 fun y s2 u H2 e2 R2 wy h2 => hx.thenV R2 h2 fun z s3 t H3 e3 R3 wz h3 => by
        cases y with
        | ref _ => exact h3.elim
        | dic _ => exact h3.elim
        | d d =>
          cases z with
          | ref _ => cases d <;> exact h3.elim
          | dic _ => cases d <;> exact h3.elim
          | d dz =>
            cases d with
            | tuple ds =>
              obtain ⟨w, ew, hq⟩ := optR_want h3
              cases ek : keyD ds with
              | none => rw [ek] at ew; cases ew
              | some k =>
                rw [ek] at ew
                cases ew
                obtain ⟨a', ks', ea', ha', hr'⟩ := WR.same (w := .dic kvs) (stp_wo R1.l0 (e2.trans e3)) ⟨a, ks, rfl, ha, hr⟩
                cases ea'
                obtain ⟨b, vs, rfl, hb, hv⟩ := dq_tup (dq_same (stp_wo R2.l0 e3) _ _ wy)
                rw [keyD_vals ek hv] at hb
                refine ⟨_, .inr ⟨ks', k, b, (rd_wo ha').1, rfl, (wo_some hb).1, rfl⟩, ?_⟩
                cases eg : getD kvs k with
                | none => 
                  simp only [eg] at hq
                  rw [hr'.getN eg]
                  exact hq t H3 Stp.refl R3.ok wz
                | some z =>
                  simp only [eg] at hq
                  obtain ⟨v', g1, g2⟩ := hr'.get eg
                  rw [g1]
                  exact hq v' H3 Stp.refl R3.ok g2
            | _ => exact h3.elim
end
theorem newL_F {S : Type} {N n : Nat} {f : List Sl → S → Fl S} {fa : List Sl → S → Rs S (List W)} : NewL (eF (lenIs n (mDefL N f)) fa) := fun σ s w s' h => by
  unfold eF at h
  cases e : fa σ s with
  | exc c s1 => rw [e] at h; cases h
  | stuck => rw [e] at h; cases h
  | ok ws s1 =>
    rw [e] at h
    have h1 : lenIs n (mDefL N f) ws s1 = .ok w s' := h
    unfold lenIs at h1
    by_cases hl : ws.length = n
    · rw [if_pos hl] at h1
      unfold mDefL at h1
      split at h1
      · injection h1 with h1; exact ⟨_, h1.symm⟩
      · cases h1
      · cases h1
    · rw [if_neg hl] at h1; cases h1
/-! ### max(xs), min(xs) -/
section
variable {prog : Program} {w : World} {A : Around} {E : Value → Shared → Prop} {s : Shared} {l : Addr} {xs : Array (Int × Tok)}
theorem min_intTup {Q : Value → Shared → Prop} (hh : A.handled = none) (hl : s.heap.IsTuple l (intItems xs)) (hne : 0 < xs.size)
    (h : ∀ v h' tk, (intItems xs)[argBest (fun i j => decide (numAt xs i < numAt xs j)) (xs.size - 1)]? = some v → (∀ b o, s.heap.get? b = some o → h'.get? b = some o) → Q v { s with heap := h', toks := tk }) :
    wpAny (model prog w) A (call (.builtin "min") [.ref l]) Q E s := by
  refine call_min_walk (iter_intTup hl fun s2 e st hfp hlI => ?_)
  subst e
  refine ⟨_, _, _, _, _, _, _, rfl, PySem.Walks.tuple (A := A.in1) hh _ l hlI (intItems xs), st, hfp, by simpa [intItems] using hne, CmpOf.ints_lt (numAt xs) (fun _ _ => intItems_at), fun v h' tk hP hk => ?_⟩
  exact h v h' tk (by simpa [intItems] using hP) (kept_tup hk)
end
def rMaxT (K : PySem.W.Frag) : List V → Hp → VK → Prop := fun vs H Q => ∃ (a : Addr) (ns : List Int), vs = [V.ref a] ∧ SqT K H a (ns.map V.int) ∧ 0 < ns.length ∧ ∀ m, m ∈ ns → (∀ y, y ∈ ns → y ≤ m) → Q (.int m) H
def rMinT (K : PySem.W.Frag) : List V → Hp → VK → Prop := fun vs H Q => ∃ (a : Addr) (ns : List Int), vs = [V.ref a] ∧ SqT K H a (ns.map V.int) ∧ 0 < ns.length ∧ ∀ m, m ∈ ns → (∀ y, y ∈ ns → m ≤ y) → Q (.int m) H
theorem cr_maxT {X : Cx} (hc : X.calm = true) : CallR X (.builtin "max") (rMaxT X.K) := by
  intro pins s σ H vs us Q I r h
  obtain ⟨a, ns, rfl, hs, hne, q⟩ := h
  obtain ⟨its, rv, hl, _⟩ := I.tuple hs
  rw [Vals.ref1 r]
  have hi : IntsAre its ns := intsAre_of rv
  obtain ⟨xs, e⟩ := hi.allInts.items
  have hn : numsOf (intItems xs).toList = ns := by rw [← e]; exact hi.numsOf
  rw [nums_intItems] at hn
  subst hn
  rw [e] at hl
  have hsz : 0 < xs.size := by simpa using hne
  refine max_intTup (I.ok.hd hc) hl hsz fun v h' tk hv hk => ?_
  obtain ⟨t, rfl⟩ := intItems_at hv
  obtain ⟨h1, h2⟩ := argBest_gt (numAt xs) (xs.size - 1)
  refine ⟨.int _, H, I.kept hk, ⟨t, rfl⟩, q _ ?_ fun b hb => ?_⟩
  · rw [numAt_eq]; exact PySem.getD_mem (by rw [List.length_map, Array.length_toList]; omega)
  · obtain ⟨j, hj, rfl⟩ := mem_getD hb
    rw [List.length_map, Array.length_toList] at hj
    have := h2 j (by omega)
    rwa [numAt_eq] at this
theorem cr_minT {X : Cx} (hc : X.calm = true) : CallR X (.builtin "min") (rMinT X.K) := by
  intro pins s σ H vs us Q I r h
  obtain ⟨a, ns, rfl, hs, hne, q⟩ := h
  obtain ⟨its, rv, hl, _⟩ := I.tuple hs
  rw [Vals.ref1 r]
  have hi : IntsAre its ns := intsAre_of rv
  obtain ⟨xs, e⟩ := hi.allInts.items
  have hn : numsOf (intItems xs).toList = ns := by rw [← e]; exact hi.numsOf
  rw [nums_intItems] at hn
  subst hn
  rw [e] at hl
  have hsz : 0 < xs.size := by simpa using hne
  refine min_intTup (I.ok.hd hc) hl hsz fun v h' tk hv hk => ?_
  obtain ⟨t, rfl⟩ := intItems_at hv
  obtain ⟨h1, h2⟩ := argBest_lt (numAt xs) (xs.size - 1)
  refine ⟨.int _, H, I.kept hk, ⟨t, rfl⟩, q _ ?_ fun b hb => ?_⟩
  · rw [numAt_eq]; exact PySem.getD_mem (by rw [List.length_map, Array.length_toList]; omega)
  · obtain ⟨j, hj, rfl⟩ := mem_getD hb
    rw [List.length_map, Array.length_toList] at hj
    have := h2 j (by omega)
    rwa [numAt_eq xs j] at this
def rMax1 (K : PySem.W.Frag) : List V → Hp → VK → Prop := fun vs H Q => rMax K vs H Q ∨ rMaxT K vs H Q
def rMin1 (K : PySem.W.Frag) : List V → Hp → VK → Prop := fun vs H Q => rMin K vs H Q ∨ rMinT K vs H Q
theorem call_max1 {X : Cx} (K : PySem.W.Frag) (h : X.K = K) (hc : X.calm = true) : CallR X (.builtin "max") (rMax1 K) := by subst h; exact (cr_max hc).or (cr_maxT hc)
theorem call_min1 {X : Cx} (K : PySem.W.Frag) (h : X.K = K) (hc : X.calm = true) : CallR X (.builtin "min") (rMin1 K) := by subst h; exact (cr_min hc).or (cr_minT hc)
def maxL : List Int → Option Int
  | [] => none
  | b :: r => some (r.foldl max b)
def minL : List Int → Option Int
  | [] => none
  | b :: r => some (r.foldl min b)
def pyMax1 : List PyData → Option PyData
  | [.list ds] => (dInts ds).bind fun bs => (maxL bs).map .int
  | [.tuple ds] => (dInts ds).bind fun bs => (maxL bs).map .int
  | _ => none
def pyMin1 : List PyData → Option PyData
  | [.list ds] => (dInts ds).bind fun bs => (minL bs).map .int
  | [.tuple ds] => (dInts ds).bind fun bs => (minL bs).map .int
  | _ => none
theorem foldl_max {m : Int} : ∀ {r : List Int} {b : Int}, m ∈ b :: r → (∀ y, y ∈ b :: r → y ≤ m) → r.foldl max b = m
  | [], b, h, _ => (List.mem_singleton.mp h).symm
  | c :: r, b, h, h2 => by
    rw [List.foldl_cons]
    have hb := h2 b List.mem_cons_self
    have hc := h2 c (List.mem_cons_of_mem _ List.mem_cons_self)
    refine foldl_max (r := r) (b := max b c) ?_ fun y hy => ?_
    · rcases List.mem_cons.mp h with e | h
      · rw [show max b c = m by omega]; exact List.mem_cons_self
      · rcases List.mem_cons.mp h with e | h
        · rw [show max b c = m by omega]; exact List.mem_cons_self
        · exact List.mem_cons_of_mem _ h
    · rcases List.mem_cons.mp hy with e | h
      · omega
      · exact h2 y (List.mem_cons_of_mem _ (List.mem_cons_of_mem _ h))
theorem foldl_min {m : Int} : ∀ {r : List Int} {b : Int}, m ∈ b :: r → (∀ y, y ∈ b :: r → m ≤ y) → r.foldl min b = m
  | [], b, h, _ => (List.mem_singleton.mp h).symm
  | c :: r, b, h, h2 => by
    rw [List.foldl_cons]
    have hb := h2 b List.mem_cons_self
    have hc := h2 c (List.mem_cons_of_mem _ List.mem_cons_self)
    refine foldl_min (r := r) (b := min b c) ?_ fun y hy => ?_
    · rcases List.mem_cons.mp h with e | h
      · rw [show min b c = m by omega]; exact List.mem_cons_self
      · rcases List.mem_cons.mp h with e | h
        · rw [show min b c = m by omega]; exact List.mem_cons_self
        · exact List.mem_cons_of_mem _ h
    · rcases List.mem_cons.mp hy with e | h
      · omega
      · exact h2 y (List.mem_cons_of_mem _ (List.mem_cons_of_mem _ h))
theorem one_bind {ds : List PyData} {f : List Int → Option Int} {z : PyData} (h : ((dInts ds).bind fun bs => (f bs).map PyData.int) = some z) : ∃ bs m, ds = bs.map .int ∧ f bs = some m ∧ z = .int m := by
  cases e : dInts ds with
  | none => rw [e] at h; cases h
  | some bs =>
    rw [e] at h
    cases e2 : f bs with
    | none => rw [Option.bind_some, e2] at h; cases h
    | some m =>
      rw [Option.bind_some, e2] at h
      cases h
      exact ⟨bs, m, dInts_some e, e2, rfl⟩
theorem cs_max1 {K : PySem.W.Frag} : CSm (rMax1 K) pyMax1 := by
  intro L H vs ds z Q hL hv hg hq
  match ds, hv, hg with
  | [.list es], hv, hg =>
    obtain ⟨bs, m, rfl, em, rfl⟩ := one_bind hg
    obtain ⟨v, rfl, h1⟩ := dqAll_one hv
    obtain ⟨p, us, rfl, hp, hu⟩ := dq_lst h1
    rw [dqAll_ints hu] at hp
    cases bs with
    | nil => cases em
    | cons b r =>
      cases em
      exact .inl ⟨p, b :: r, rfl, .of (wo_some hp).1, Nat.succ_pos _, fun m h1 h2 => by rw [← foldl_max h1 h2]; exact hq _ H (Same.refl H) (.int _)⟩
  | [.tuple es], hv, hg =>
    obtain ⟨bs, m, rfl, em, rfl⟩ := one_bind hg
    obtain ⟨v, rfl, h1⟩ := dqAll_one hv
    obtain ⟨p, us, rfl, hp, hu⟩ := dq_tup h1
    rw [dqAll_ints hu] at hp
    cases bs with
    | nil => cases em
    | cons b r =>
      cases em
      exact .inr ⟨p, b :: r, rfl, .of (wo_some hp).1, Nat.succ_pos _, fun m h1 h2 => by rw [← foldl_max h1 h2]; exact hq _ H (Same.refl H) (.int _)⟩
theorem cs_min1 {K : PySem.W.Frag} : CSm (rMin1 K) pyMin1 := by
  intro L H vs ds z Q hL hv hg hq
  match ds, hv, hg with
  | [.list es], hv, hg =>
    obtain ⟨bs, m, rfl, em, rfl⟩ := one_bind hg
    obtain ⟨v, rfl, h1⟩ := dqAll_one hv
    obtain ⟨p, us, rfl, hp, hu⟩ := dq_lst h1
    rw [dqAll_ints hu] at hp
    cases bs with
    | nil => cases em
    | cons b r =>
      cases em
      exact .inl ⟨p, b :: r, rfl, .of (wo_some hp).1, Nat.succ_pos _, fun m h1 h2 => by rw [← foldl_min h1 h2]; exact hq _ H (Same.refl H) (.int _)⟩
  | [.tuple es], hv, hg =>
    obtain ⟨bs, m, rfl, em, rfl⟩ := one_bind hg
    obtain ⟨v, rfl, h1⟩ := dqAll_one hv
    obtain ⟨p, us, rfl, hp, hu⟩ := dq_tup h1
    rw [dqAll_ints hu] at hp
    cases bs with
    | nil => cases em
    | cons b r =>
      cases em
      exact .inr ⟨p, b :: r, rfl, .of (wo_some hp).1, Nat.succ_pos _, fun m h1 h2 => by rw [← foldl_min h1 h2]; exact hq _ H (Same.refl H) (.int _)⟩
/-! ### rules -/
section
variable {S : Type} {fa fb fc : List Sl → S → Rs S W} {σ : List Sl} {s : S}
theorem r_ev_dget2 : eDGet2 fa fb fc σ s = (fa σ s).bind (dg2K1 fb fc σ) := rfl
theorem r_dg2K1 {kvs : List (List Key × PyData)} : dg2K1 fb fc σ (.dic kvs) s = (fb σ s).bind (dg2K2 fc σ (.dic kvs)) := rfl
theorem r_dg2K2 {x y : W} : dg2K2 fc σ x y s = (fc σ s).bind (dg2K x y) := rfl
theorem r_dg2K {kvs : List (List Key × PyData)} {ds : List PyData} {d : PyData} : dg2K (.dic kvs) (.d (.tuple ds)) (.d d) s = optR ((keyD ds).map fun k => W.d ((getD kvs k).getD d)) s := rfl
end
theorem r_w_max1 {ds : List PyData} : pyMax1 [.list ds] = (dInts ds).bind fun bs => (maxL bs).map .int := rfl
theorem r_w_max1t {ds : List PyData} : pyMax1 [.tuple ds] = (dInts ds).bind fun bs => (maxL bs).map .int := rfl
theorem r_w_min1 {ds : List PyData} : pyMin1 [.list ds] = (dInts ds).bind fun bs => (minL bs).map .int := rfl
theorem r_w_min1t {ds : List PyData} : pyMin1 [.tuple ds] = (dInts ds).bind fun bs => (minL bs).map .int := rfl
end CS
/-! Core18: zip of any two of list and tuple -/
namespace CS
open PySem PySem.Spec PyProof.Rows L2
/-- k: a tuple, else a list -/
def SqAt (k : Bool) (g : Heap) (l : Addr) (xs : Array Value) : Prop := if k = true then g.IsTuple l xs else g.IsList l xs
def ItAt (k : Bool) (g : Heap) (i l : Addr) (n : Nat) : Prop := if k = true then g.IsTupleIter i l n else g.IsListIter i l n
section
variable {k k' : Bool} {g g' : Heap} {i l b : Addr} {n : Nat} {xs ys : Array Value}
theorem SqAt.ext (x : SqAt k g l xs) (e : Heap.ExtBut b g g') (n : l ≠ b) : SqAt k g' l xs := by
  cases k
  · exact Heap.IsList.extBut x e n
  · exact Heap.IsTuple.extBut x e n
theorem ItAt.ext (x : ItAt k g i l n) (e : Heap.ExtBut b g g') (h : i ≠ b) : ItAt k g' i l n := by
  cases k
  · exact Heap.IsListIter.extBut x e h
  · exact Heap.IsTupleIter.extBut x e h
theorem ItAt.move (x : ItAt k g i l n) (e : ∀ o, g.get? i = some o → g'.get? i = some o) : ItAt k g' i l n := by
  cases k
  · exact Heap.IsListIter.at x e
  · exact Heap.IsTupleIter.at x e
theorem ItAt.obj (x : ItAt k g i l n) : ∃ o, g.get? i = some o ∧ ∀ v, o.data = .cell v → False := by
  cases k
  · obtain ⟨o, e, _, d⟩ := x; exact ⟨o, e, fun v z => by rw [d] at z; cases z⟩
  · obtain ⟨o, e, _, d⟩ := x; exact ⟨o, e, fun v z => by rw [d] at z; cases z⟩
theorem SqAt.lt (x : SqAt k g l xs) : l < g.objs.size := by
  cases k
  · obtain ⟨o, e, _⟩ := x; exact Heap.lt_size e
  · obtain ⟨o, e, _⟩ := x; exact Heap.lt_size e
end
section
variable {prog : Program} {w : World} {A : Around} {E : Value → Shared → Prop} {s : Shared} {k k1 k2 : Bool}
theorem sqnext_item {it l : Addr} {i : Nat} {its : Array Value} {x : Value} {Q : Value → Shared → Prop} (hi : ItAt k s.heap it l i) (hl : SqAt k s.heap l its) (hx : its[i]? = some x)
    (hq : ∀ g, ItAt k g it l (i + 1) → Heap.SameBut it s.heap g → Q x { s with heap := g }) : wpAny (model prog w) A (Builtin.SmallTypes.nextOf (.ref it)) Q E s := by
  cases k
  · exact wpAny_nextOf_list_item hi hl hx hq
  · exact RZ.nextOf_tuple_item hi hl hx hq
theorem sqnext_end {it l : Addr} {i : Nat} {its : Array Value} {Q : Value → Shared → Prop} (hh : A.handled = none) (hi : ItAt k s.heap it l i) (hl : SqAt k s.heap l its) (hx : its[i]? = none)
    (he : ∀ g e, Heap.ExtBut it s.heap g → (∃ o, g.get? e = some o ∧ o.cls = .type "StopIteration") → E (.ref e) { s with heap := g }) : wpAny (model prog w) A (Builtin.SmallTypes.nextOf (.ref it)) Q E s := by
  cases k
  · exact wpAny_nextOf_list_end hh hi hl hx he
  · exact RZ.nextOf_tuple_end hh hi hl hx he
def itCls (k : Bool) : String := if k = true then "tuple_iterator" else "list_iterator"
def itObj (k : Bool) (l : Addr) : Obj := { cls := .type (itCls k), data := .fields #[.ref l, .int 0 0] }
theorem itAt_new {g : Heap} {i l : Addr} (h : g.get? i = some (itObj k l)) : ItAt k g i l 0 := by
  cases k
  · exact ⟨_, h, rfl, rfl⟩
  · exact ⟨_, h, rfl, rfl⟩
theorem sqIter {l : Addr} {its : Array Value} {Q : Value → Shared → Prop} (hl : SqAt k s.heap l its) (h : Q (.ref s.heap.objs.size) { s with heap := s.heap.push (itObj k l) }) : wpAny (model prog w) A (pyIter (.ref l)) Q E s := by
  cases k
  · exact wpAny_pyIter_list hl h
  · exact wpAny_pyIter_tuple hl h
abbrev zA (g : Heap) (k1 : Bool) (l1 : Addr) : Heap := g.push (itObj k1 l1)
abbrev zB (g : Heap) (k1 k2 : Bool) (l1 l2 : Addr) : Heap := (zA g k1 l1).push (itObj k2 l2)
abbrev zC (g : Heap) (k1 k2 : Bool) (l1 l2 : Addr) : Heap := (zB g k1 k2 l1 l2).push { cls := .type "tuple", data := .seq #[.ref g.objs.size, .ref (zA g k1 l1).objs.size] }
abbrev zD (g : Heap) (k1 k2 : Bool) (l1 l2 : Addr) : Heap := (zC g k1 k2 l1 l2).push { cls := .type "tuple", data := .seq #[.none, .none] }
abbrev zE (g : Heap) (k1 k2 : Bool) (l1 l2 : Addr) : Heap := (zD g k1 k2 l1 l2).push { cls := .type "zip", data := .fields #[.none, .bool false, .bool false, .ref (zB g k1 k2 l1 l2).objs.size, .ref (zC g k1 k2 l1 l2).objs.size] }
theorem SqAt.push {g : Heap} {l : Addr} {xs : Array Value} (x : SqAt k g l xs) (o : Obj) : SqAt k (g.push o) l xs := by
  cases k
  · exact Heap.IsList.push x o
  · exact Heap.IsTuple.push x o
theorem meets_zipM (k1 k2 : Bool) (l1 l2 : Addr) (xs ys : Array Value) : Meets (Builtin.«zip.__new__» ⟨[.type "zip", .ref l1, .ref l2], []⟩) (fun _ R s => SqAt k1 s.heap l1 xs ∧ SqAt k2 s.heap l2 ys ∧
      R (.ok (.ret (.ref (zD s.heap k1 k2 l1 l2).objs.size))) { s with heap := zE s.heap k1 k2 l1 l2 }) :=
  .of_wp fun prog w A R s h => by
    obtain ⟨hp, gg, dd, tk, os⟩ := s
    obtain ⟨q1, q2, h⟩ := h
    have sb := sub_zip
    have a1 : SqAt k1 (Shared.heap ⟨hp, gg, dd, tk, os⟩) l1 xs := q1
    have a2 : SqAt k2 (Shared.heap ⟨hp.push (itObj k1 l1), gg, dd, tk, os⟩) l2 ys := q2.push _
    wp_walk using sqIter a1, sqIter a2
    exact ⟨_, rfl, h⟩
theorem call_zipM {l1 l2 : Addr} {xs ys : Array Value} {Q : Value → Shared → Prop} (q1 : SqAt k1 s.heap l1 xs) (q2 : SqAt k2 s.heap l2 ys)
    (h : ∀ g, IsZip g (s.heap.objs.size + 4) (s.heap.objs.size + 2) (s.heap.objs.size + 3) .none → IsPair g (s.heap.objs.size + 2) (.ref s.heap.objs.size) (.ref (s.heap.objs.size + 1)) →
      IsPair g (s.heap.objs.size + 3) .none .none → ItAt k1 g s.heap.objs.size l1 0 → ItAt k2 g (s.heap.objs.size + 1) l2 0 →
      (∀ c o, s.heap.get? c = some o → g.get? c = some o) → Q (.ref (s.heap.objs.size + 4)) { s with heap := g }) : wpAny (model prog w) A (call (.type "zip") [.ref l1, .ref l2]) Q E s := by
  refine callType_new F.called_zip (by decide) (F.typeCall_zip_2 _ _) (F.newCall_zip_2 _ _) (fun ob => F.args_object_init_3 ob _ _) F.entry_zip_new (meets_zipM k1 k2 l1 l2 xs ys) ⟨q1, q2, ?_⟩
  have z1 : (zA s.heap k1 l1).objs.size = s.heap.objs.size + 1 := Heap.size_push ..
  have z2 : (zB s.heap k1 k2 l1 l2).objs.size = s.heap.objs.size + 2 := by rw [Heap.size_push, z1]
  have z3 : (zC s.heap k1 k2 l1 l2).objs.size = s.heap.objs.size + 3 := by rw [Heap.size_push, z2]
  have z4 : (zD s.heap k1 k2 l1 l2).objs.size = s.heap.objs.size + 4 := by rw [Heap.size_push, z3]
  have up : ∀ {g : Heap} {c : Addr} {o o' : Obj}, g.get? c = some o → (g.push o').get? c = some o := fun e => Heap.get?_push_of_some _ e
  have e5 : (zE s.heap k1 k2 l1 l2).get? (zD s.heap k1 k2 l1 l2).objs.size = some _ := Heap.get?_push_size _ rfl
  have e4 : (zE s.heap k1 k2 l1 l2).get? (zC s.heap k1 k2 l1 l2).objs.size = some _ := up (Heap.get?_push_size _ rfl)
  have e3 : (zE s.heap k1 k2 l1 l2).get? (zB s.heap k1 k2 l1 l2).objs.size = some _ := up (up (Heap.get?_push_size _ rfl))
  have e2 : (zE s.heap k1 k2 l1 l2).get? (zA s.heap k1 l1).objs.size = some (itObj k2 l2) := up (up (up (Heap.get?_push_size _ rfl)))
  have e1 : (zE s.heap k1 k2 l1 l2).get? s.heap.objs.size = some (itObj k1 l1) := up (up (up (up (Heap.get?_push_size _ rfl))))
  show _ ∧ _
  rw [z2, z3, z4] at e5
  rw [z1, z2] at e3
  rw [z3] at e4
  rw [z1] at e2
  rw [z4]
  exact ⟨⟨_, e5, rfl⟩, h _ e5 e3 e4 (itAt_new e1) (itAt_new e2) fun c o x => up (up (up (up (up x))))⟩
theorem zipM_item {z TI TO i1 i2 l1 l2 : Addr} {n1 n2 : Nat} {xs ys : Array Value} {x y a b : Value} {Q : Value → Shared → Prop} (ap : ZipApart z TI TO i1 i2 l1 l2)
    (hz : IsZip s.heap z TI TO .none) (hi : IsPair s.heap TI (.ref i1) (.ref i2)) (ho : IsPair s.heap TO a b) (h1 : ItAt k1 s.heap i1 l1 n1) (h2 : ItAt k2 s.heap i2 l2 n2) (q1 : SqAt k1 s.heap l1 xs) (q2 : SqAt k2 s.heap l2 ys) (hx : xs[n1]? = some x) (hy : ys[n2]? = some y)
    (hq : ∀ g, IsZip g z TI TO (rawInt s.heap.objs.size) → IsPair g TO x y → ItAt k1 g i1 l1 (n1 + 1) → ItAt k2 g i2 l2 (n2 + 1) → IsPair g s.heap.objs.size x y →
      (∀ c o, c ≠ z → c ≠ TO → c ≠ i1 → c ≠ i2 → s.heap.get? c = some o → g.get? c = some o) → Q (.ref s.heap.objs.size) { s with heap := g }) :
    wpAny (model prog w) A (Builtin.«zip.__next__» ⟨[.ref z], []⟩) (fun fin s' => ∃ v, fin = .done (.ret v) ∧ Q v s') E s := by
  show wpAny _ _ (field (.ref z) 2 >>= _) _ _ _
  refine wpAny_bind (wpAny_field hz rfl (x := .bool false) rfl ?_)
  show wpAny _ _ (field (.ref z) 3 >>= _) _ _ _
  refine wpAny_bind (wpAny_field hz rfl (x := .ref TI) rfl ?_)
  refine wpAny_bind (wpAny_seqItems hi rfl ?_)
  show wpAny _ _ (Builtin.SmallTypes.ownedTupleIsFree (.ref z) >>= _) _ _ _
  refine wpAny_bind ?_
  unfold Builtin.SmallTypes.ownedTupleIsFree
  refine wpAny_bind (wpAny_field hz rfl (x := .none) rfl (wpAny_pure ?_))
  simp only [if_true]
  refine wpAny_bind (wpAny_rule ?_)
  refine wpAny_bind (wpAny_field hz rfl (x := .ref TO) rfl ?_)
  refine wpAny_bind (wpAny_setField_rec hz (by simp) fun gA zz sA => ?_)
  replace zz : IsZip gA z TI TO .ellipsis := zz
  refine wpAny_bind ?_
  simp only [List.zipIdx_cons, List.zipIdx_nil, List.forIn_cons, List.forIn_nil]
  refine wpAny_bind (wpAny_bind (wpAny_onRaise ?_))
  show wpAny _ _ (Builtin.SmallTypes.nextOf (.ref i1) >>= _) _ _ _
  refine wpAny_bind (sqnext_item (h1.ext sA.extBut ap.i1z) (q1.ext sA.extBut ap.l1z) hx fun gB h1B sB => wpAny_pure ?_)
  have oB : IsPair gB TO a b := sB.extBut _ _ ap.TOi1 (sA.extBut _ _ ap.TOz ho)
  refine wpAny_bind (wpAny_seqItems oB rfl ?_)
  refine wpAny_bind (wpAny_updateSeq_pair oB fun gC oC sC => ?_)
  replace oC : IsPair gC TO x b := oC
  refine wpAny_bind (wpAny_letGo (wpAny_pure ?_))
  refine wpAny_bind (wpAny_bind (wpAny_onRaise ?_))
  show wpAny _ _ (Builtin.SmallTypes.nextOf (.ref i2) >>= _) _ _ _
  refine wpAny_bind (sqnext_item (((h2.ext sA.extBut ap.i2z).ext sB.extBut ap.i12.symm).ext sC.extBut ap.TOi2.symm) (((q2.ext sA.extBut ap.l2z).ext sB.extBut ap.l2i1).ext sC.extBut ap.l2TO) hy fun gD h2D sD => wpAny_pure ?_)
  have oD : IsPair gD TO x b := sD.extBut _ _ ap.TOi2 oC
  refine wpAny_bind (wpAny_seqItems oD rfl ?_)
  refine wpAny_bind (wpAny_updateSeq_pair oD fun gE oE sE => ?_)
  replace oE : IsPair gE TO x y := oE
  refine wpAny_bind (wpAny_letGo (wpAny_pure (wpAny_pure ?_)))
  refine wpAny_bind (wpAny_seqItems oE rfl ?_)
  refine wpAny_bind (wpAny_newTuple ?_)
  have hsz : gE.objs.size = s.heap.objs.size := by rw [sE.1, sD.1, sC.1, sB.1, sA.1]
  have zE' : IsZip gE z TI TO .ellipsis := sE.extBut _ _ ap.TOz.symm (sD.extBut _ _ ap.i2z.symm (sC.extBut _ _ ap.TOz.symm (sB.extBut _ _ ap.i1z.symm zz)))
  have kE : ∀ c o, c ≠ z → c ≠ TO → c ≠ i1 → c ≠ i2 → s.heap.get? c = some o → gE.get? c = some o := fun c o u1 u2 u3 u4 e =>
    sE.extBut _ _ u2 (sD.extBut _ _ u4 (sC.extBut _ _ u2 (sB.extBut _ _ u3 (sA.extBut _ _ u1 e))))
  have i1E : ItAt k1 gE i1 l1 (n1 + 1) := ((h1B.ext sC.extBut ap.TOi1.symm).ext sD.extBut ap.i12).ext sE.extBut ap.TOi1.symm
  have i2E : ItAt k2 gE i2 l2 (n2 + 1) := h2D.ext sE.extBut ap.TOi2.symm
  have lz : z < gE.objs.size := Heap.lt_size zE'
  show wpAny _ _ (Builtin.SmallTypes.ownedTupleHandOut (.ref z) (.ref gE.objs.size) >>= _) _ _ _
  refine wpAny_bind ?_
  unfold Builtin.SmallTypes.ownedTupleHandOut
  have zF : IsZip (gE.push { cls := .type "tuple", data := .seq #[x, y] }) z TI TO .ellipsis := Heap.get?_push_of_some _ zE'
  refine wpAny_bind (wpAny_setField_rec zF (by simp) fun gG zG sG => ?_)
  replace zG : IsZip gG z TI TO (rawInt gE.objs.size) := zG
  refine wpAny_setField_rec zG (by simp) fun gH zH sH => ?_
  replace zH : IsZip gH z TI TO (rawInt gE.objs.size) := zH
  have up : ∀ c o, c ≠ z → gE.get? c = some o → gH.get? c = some o := fun c o u1 e => sH.extBut _ _ u1 (sG.extBut _ _ u1 (Heap.get?_push_of_some _ e))
  have nH : IsPair gH gE.objs.size x y := sH.extBut _ _ (Nat.ne_of_gt lz) (sG.extBut _ _ (Nat.ne_of_gt lz) (Heap.get?_push_size _ rfl))
  rw [hsz] at zH nH
  refine wpAny_pure ⟨_, rfl, ?_⟩
  show Q (.ref gE.objs.size) _
  rw [hsz]
  exact hq gH zH (up _ _ ap.TOz oE) (i1E.move fun o e => up _ o ap.i1z e) (i2E.move fun o e => up _ o ap.i2z e) nH fun c o u1 u2 u3 u4 e => up c o u1 (kE c o u1 u2 u3 u4 e)
theorem zipM_end {z TI TO i1 i2 l1 l2 : Addr} {n1 n2 : Nat} {xs ys : Array Value} {a b : Value} {Q : PySem.Fin → Shared → Prop} (hh : A.handled = none) (ap : ZipApart z TI TO i1 i2 l1 l2)
    (hz : IsZip s.heap z TI TO .none) (hi : IsPair s.heap TI (.ref i1) (.ref i2)) (ho : IsPair s.heap TO a b) (h1 : ItAt k1 s.heap i1 l1 n1) (h2 : ItAt k2 s.heap i2 l2 n2) (q1 : SqAt k1 s.heap l1 xs) (q2 : SqAt k2 s.heap l2 ys) (hend : xs[n1]? = none ∨ ys[n2]? = none)
    (hE : ∀ g e, (∀ c o, c ≠ z → c ≠ TO → c ≠ i1 → c ≠ i2 → s.heap.get? c = some o → g.get? c = some o) → (∃ o, g.get? e = some o ∧ o.cls = .type "StopIteration") → E (.ref e) { s with heap := g }) :
    wpAny (model prog w) A (Builtin.«zip.__next__» ⟨[.ref z], []⟩) Q E s := by
  show wpAny _ _ (field (.ref z) 2 >>= _) _ _ _
  refine wpAny_bind (wpAny_field hz rfl (x := .bool false) rfl ?_)
  show wpAny _ _ (field (.ref z) 3 >>= _) _ _ _
  refine wpAny_bind (wpAny_field hz rfl (x := .ref TI) rfl ?_)
  refine wpAny_bind (wpAny_seqItems hi rfl ?_)
  show wpAny _ _ (Builtin.SmallTypes.ownedTupleIsFree (.ref z) >>= _) _ _ _
  refine wpAny_bind ?_
  unfold Builtin.SmallTypes.ownedTupleIsFree
  refine wpAny_bind (wpAny_field hz rfl (x := .none) rfl (wpAny_pure ?_))
  simp only [if_true]
  refine wpAny_bind (wpAny_rule ?_)
  refine wpAny_bind (wpAny_field hz rfl (x := .ref TO) rfl ?_)
  refine wpAny_bind (wpAny_setField_rec hz (by simp) fun gA zz sA => ?_)
  replace zz : IsZip gA z TI TO .ellipsis := zz
  refine wpAny_bind ?_
  simp only [List.zipIdx_cons, List.zipIdx_nil, List.forIn_cons, List.forIn_nil]
  refine wpAny_bind (wpAny_bind (wpAny_onRaise ?_))
  show wpAny _ _ (Builtin.SmallTypes.nextOf (.ref i1) >>= _) _ _ _
  cases hx : xs[n1]? with
  | none =>
    refine wpAny_bind (sqnext_end hh (h1.ext sA.extBut ap.i1z) (q1.ext sA.extBut ap.l1z) hx fun gB e sB he => ?_)
    obtain ⟨oe, e1, e2⟩ := he
    have zB' : IsZip gB z TI TO .ellipsis := sB _ _ ap.i1z.symm zz
    have nz : e ≠ z := fun q => by subst q; rw [zB'] at e1; cases e1; simp at e2
    exact wpAny_setField_rec zB' (by simp) fun gC _ sC => hE gC e (fun c o u1 _ u3 _ q => sC.extBut _ _ u1 (sB _ _ u3 (sA.extBut _ _ u1 q))) ⟨oe, sC.extBut _ _ nz e1, e2⟩
  | some x =>
    have hy : ys[n2]? = none := by
      rcases hend with h | h
      · rw [hx] at h; cases h
      · exact h
    refine wpAny_bind (sqnext_item (h1.ext sA.extBut ap.i1z) (q1.ext sA.extBut ap.l1z) hx fun gB h1B sB => wpAny_pure ?_)
    have oB : IsPair gB TO a b := sB.extBut _ _ ap.TOi1 (sA.extBut _ _ ap.TOz ho)
    refine wpAny_bind (wpAny_seqItems oB rfl ?_)
    refine wpAny_bind (wpAny_updateSeq_pair oB fun gC oC sC => ?_)
    refine wpAny_bind (wpAny_letGo (wpAny_pure ?_))
    refine wpAny_bind (wpAny_bind (wpAny_onRaise ?_))
    show wpAny _ _ (Builtin.SmallTypes.nextOf (.ref i2) >>= _) _ _ _
    refine wpAny_bind (sqnext_end hh (((h2.ext sA.extBut ap.i2z).ext sB.extBut ap.i12.symm).ext sC.extBut ap.TOi2.symm) (((q2.ext sA.extBut ap.l2z).ext sB.extBut ap.l2i1).ext sC.extBut ap.l2TO) hy fun gD e sD he => ?_)
    obtain ⟨oe, e1, e2⟩ := he
    have zD' : IsZip gD z TI TO .ellipsis := sD _ _ ap.i2z.symm (sC.extBut _ _ ap.TOz.symm (sB.extBut _ _ ap.i1z.symm zz))
    have nz : e ≠ z := fun q => by subst q; rw [zD'] at e1; cases e1; simp at e2
    exact wpAny_setField_rec zD' (by simp) fun gE _ sE => hE gE e (fun c o u1 u2 u3 u4 q => sE.extBut _ _ u1 (sD _ _ u4 (sC.extBut _ _ u2 (sB.extBut _ _ u3 (sA.extBut _ _ u1 q))))) ⟨oe, sE.extBut _ _ nz e1, e2⟩
theorem nextZ_item {z TI TO i1 i2 l1 l2 : Addr} {n1 n2 : Nat} {xs ys : Array Value} {x y a b : Value} {Q : Option Value → Shared → Prop} (ap : ZipApart z TI TO i1 i2 l1 l2)
    (hz : IsZip s.heap z TI TO .none) (hi : IsPair s.heap TI (.ref i1) (.ref i2)) (ho : IsPair s.heap TO a b) (h1 : ItAt k1 s.heap i1 l1 n1) (h2 : ItAt k2 s.heap i2 l2 n2) (q1 : SqAt k1 s.heap l1 xs) (q2 : SqAt k2 s.heap l2 ys) (hx : xs[n1]? = some x) (hy : ys[n2]? = some y)
    (hq : ∀ g, IsZip g z TI TO (rawInt s.heap.objs.size) → IsPair g TO x y → ItAt k1 g i1 l1 (n1 + 1) → ItAt k2 g i2 l2 (n2 + 1) → IsPair g s.heap.objs.size x y →
      (∀ c o, c ≠ z → c ≠ TO → c ≠ i1 → c ≠ i2 → s.heap.get? c = some o → g.get? c = some o) → Q (some (.ref s.heap.objs.size)) { s with heap := g }) : wpAny (model prog w) A (pyNext (.ref z)) Q E s := by
  have ty : s.TypeIs (.ref z) "zip" := ⟨_, hz, rfl⟩
  unfold pyNext
  exact wpAny_bind (wpAny_attempt (wpAny_callSpecial?_slot (name := Str.ofString "__next__") ty F.slot_zip_next (wpAny_call_entry F.slot_zip_next ty F.entry_zip_next
      (zipM_item ap hz hi ho h1 h2 q1 q2 hx hy fun g a1 a2 a3 a4 a5 a6 => wpAny_pure (hq g a1 a2 a3 a4 a5 a6)) (F.args_zip_next_1 _))))
theorem nextZ_end {z TI TO i1 i2 l1 l2 : Addr} {n1 n2 : Nat} {xs ys : Array Value} {a b : Value} {Q : Option Value → Shared → Prop} (hh : A.handled = none) (ap : ZipApart z TI TO i1 i2 l1 l2)
    (hz : IsZip s.heap z TI TO .none) (hi : IsPair s.heap TI (.ref i1) (.ref i2)) (ho : IsPair s.heap TO a b) (h1 : ItAt k1 s.heap i1 l1 n1) (h2 : ItAt k2 s.heap i2 l2 n2) (q1 : SqAt k1 s.heap l1 xs) (q2 : SqAt k2 s.heap l2 ys) (hend : xs[n1]? = none ∨ ys[n2]? = none)
    (hq : ∀ g, (∀ c o, c ≠ z → c ≠ TO → c ≠ i1 → c ≠ i2 → s.heap.get? c = some o → g.get? c = some o) → Q none { s with heap := g }) : wpAny (model prog w) A (pyNext (.ref z)) Q E s := by
  have ty : s.TypeIs (.ref z) "zip" := ⟨_, hz, rfl⟩
  unfold pyNext
  refine wpAny_bind (wpAny_attempt (wpAny_callSpecial?_slot (name := Str.ofString "__next__") ty F.slot_zip_next (wpAny_call_entry F.slot_zip_next ty F.entry_zip_next
      (zipM_end hh ap hz hi ho h1 h2 q1 q2 hend fun g e hk he => ?_) (F.args_zip_next_1 _))))
  obtain ⟨o, e1, e2⟩ := he
  exact wpAny_bind (wpAny_isInstance (T := "StopIteration") (b := true) ⟨o, e1, e2⟩ isSubtype_stop (wpAny_pure (hq _ hk)))
end
/-! ### over the layer -/
def SqV (k : Bool) (K : PySem.W.Frag) (H : Hp) (a : Addr) (xs : List V) : Prop := if k = true then SqT K H a xs else SqL K H a xs
theorem SqV.at {k : Bool} {X : Cx} {pins : List (Addr × Obj)} {σ : L2.St} {H : Hp} {s : Shared} {a : Addr} {xs : List V} (I : Inv X pins σ H s) (h : SqV k X.K H a xs) : ∃ its, Vals xs its ∧ SqAt k s.heap a its.toArray := by
  cases k
  · obtain ⟨its, rv, p, _⟩ := I.list h; exact ⟨its, rv, p.isList⟩
  · obtain ⟨its, rv, p, _⟩ := I.tuple h; exact ⟨its, rv, p⟩
theorem SqV.inj {k : Bool} {X : Cx} {pins : List (Addr × Obj)} {σ : L2.St} {H : Hp} {s : Shared} {a : Addr} {xs ys : List V} (I : Inv X pins σ H s) (h : SqV k X.K H a xs) (h' : SqV k X.K H a ys) : xs = ys := by
  cases k
  · exact I.list_inj h h'
  · exact I.tuple_inj h h'
def ItzM (K : PySem.W.Frag) (k1 k2 : Bool) (a b : Addr) : It :=
  ⟨fun i H => ∃ (xs ys : List V) (x y : V), SqV k1 K H a xs ∧ SqV k2 K H b ys ∧ xs[i]? = some x ∧ ys[i]? = some y,
    fun i H v H' => ∃ T x y, v = .ref T ∧ H T = none ∧ H' = upd H T (.tup [x, y]) ∧ (∀ xs, SqV k1 K H a xs → xs[i]? = some x) ∧ ∀ ys, SqV k2 K H b ys → ys[i]? = some y,
    fun i H => ∃ xs ys : List V, SqV k1 K H a xs ∧ SqV k2 K H b ys ∧ (xs.length ≤ i ∨ ys.length ≤ i)⟩
theorem mem5 {c z a b d e : Addr} (h : c ∈ [z, a, b, d, e]) : c = z ∨ c = a ∨ c = b ∨ c = d ∨ c = e := by simpa using h
theorem turn_zipM {P : Program} {w : World} {K : PySem.W.Frag} {k1 k2 : Bool} {elts : List Expr} {kk : Nat} {tpos : Pos} {a b z TI TO i1 i2 : Addr} (ap : ZipApart z TI TO i1 i2 a b) :
    Turn P w K (.Tuple elts kk tpos) (ItzM K k1 k2 a b) [z, TI, TO, i1, i2] z (fun i g => IsZip g z TI TO .none ∧ IsPair g TI (.ref i1) (.ref i2) ∧ (∃ x y, IsPair g TO x y) ∧ ItAt k1 g i1 a i ∧ ItAt k2 g i2 b i) where
  mem := List.mem_cons_self
  obj := fun i g st c hc => by
    obtain ⟨hz, hi, ⟨x, y, ho⟩, h1, h2⟩ := st
    rcases mem5 hc with rfl | rfl | rfl | rfl | rfl
    · exact ⟨_, hz, fun v q => nomatch q⟩
    · exact ⟨_, hi, fun v q => nomatch q⟩
    · exact ⟨_, ho, fun v q => nomatch q⟩
    · exact h1.obj
    · exact h2.obj
  keep := fun i g g' st k => by
    obtain ⟨hz, hi, ⟨x, y, ho⟩, h1, h2⟩ := st
    exact ⟨k z (by simp) _ hz, k TI (by simp) _ hi, ⟨x, y, k TO (by simp) _ ho⟩, h1.move fun o q => k i1 (by simp) o q, h2.move fun o q => k i2 (by simp) o q⟩
  item := by
    intro X hP hw hK hc i pins s σ H E I hf st hg
    subst hP hw hK
    obtain ⟨hz, hi, ⟨x0, y0, ho⟩, h1, h2⟩ := st
    obtain ⟨xs, ys, x, y, hx1, hy1, hx, hy⟩ := hg
    obtain ⟨its, rv, p⟩ := SqV.at I hx1
    obtain ⟨its2, rv2, p2⟩ := SqV.at I hy1
    obtain ⟨u, hu, ru⟩ := rv.get hx
    obtain ⟨u2, hu2, ru2⟩ := rv2.get hy
    have lz : z < s.heap.objs.size := Heap.lt_size hz
    refine nextZ_item ap hz hi ho h1 h2 p p2 (x := u) (y := u2) (by simpa using hu) (by simpa using hu2) fun g z' o' h1' h2' hT hk => ?_
    refine ⟨_, rfl, wpAny_letOwnedTupleGo_zip (s := { s with heap := g }) z' fun g2 z2 sb => ?_⟩
    have hT2 : g2.get? s.heap.objs.size = some { cls := .type "tuple", data := .seq #[u, u2] } := (sb.2 _ (Nat.ne_of_gt lz)).trans hT
    have nw : ObjOk X.prog X.w (upd H s.heap.objs.size (.tup [x, y])) g2 s.heap.objs.size (.tup [x, y]) := ⟨by show 2 ≤ sizeLine; decide, [u, u2], .cons ru (.cons ru2 .nil), ⟨_, hT2, rfl, _, rfl⟩⟩
    have ne : ∀ {c d : Addr}, c ∉ [z, TI, TO, i1, i2] → d ∈ [z, TI, TO, i1, i2] → c ≠ d := fun h1 h2 e => h1 (e ▸ h2)
    have I1 : Inv X pins σ (upd H s.heap.objs.size (.tup [x, y])) { s with heap := g2 } :=
      I.turnedNew (t' := s.toks) (ch := [z, TI, TO, i1, i2]) (fun c o hb q => (sb.2 c (ne hb (by simp))).trans (hk c o (ne hb (by simp)) (ne hb (by simp)) (ne hb (by simp)) (ne hb (by simp)) q)) hf (Nat.le_refl _) nw
    refine ⟨.ref s.heap.objs.size, _, I1, rfl, ⟨_, x, y, rfl, I.hok.fresh (Nat.le_refl _), rfl, fun l hl => by rw [SqV.inj I hl hx1]; exact hx, fun l hl => by rw [SqV.inj I hl hy1]; exact hy⟩, ⟨z2, ?_, ⟨u, u2, ?_⟩, ?_, ?_⟩, fun c hcm => ?_⟩
    · exact (sb.2 _ ap.TIz).trans (hk _ _ ap.TIz ap.TITO ap.TIi1 ap.TIi2 hi)
    · exact (sb.2 _ ap.TOz).trans o'
    · exact h1'.move fun o q => (sb.2 _ ap.i1z).trans q
    · exact h2'.move fun o q => (sb.2 _ ap.i2z).trans q
    · have hlt : c < s.heap.objs.size := by
        rcases mem5 hcm with q | q | q | q | q
        · rw [q]; exact lz
        · rw [q]; exact Heap.lt_size hi
        · rw [q]; exact Heap.lt_size ho
        · rw [q]; obtain ⟨_, e1, _⟩ := h1.obj; exact Heap.lt_size e1
        · rw [q]; obtain ⟨_, e2, _⟩ := h2.obj; exact Heap.lt_size e2
      rw [upd_ne (Nat.ne_of_lt hlt)]
      exact (hf c hcm).1
  done := by
    intro X hP hw hK hc i pins s σ H E I hf st hg
    subst hP hw hK
    obtain ⟨hz, hi, ⟨x0, y0, ho⟩, h1, h2⟩ := st
    obtain ⟨xs, ys, hx1, hy1, hend⟩ := hg
    obtain ⟨its, rv, p⟩ := SqV.at I hx1
    obtain ⟨its2, rv2, p2⟩ := SqV.at I hy1
    have e1 := rv.length
    have e2 := rv2.length
    have he : its.toArray[i]? = none ∨ its2.toArray[i]? = none := by
      rcases hend with q | q
      · exact .inl (by simp; omega)
      · exact .inr (by simp; omega)
    have ne : ∀ {c d : Addr}, c ∉ [z, TI, TO, i1, i2] → d ∈ [z, TI, TO, i1, i2] → c ≠ d := fun h1 h2 e => h1 (e ▸ h2)
    exact nextZ_end (I.ok.hd hc) ap hz hi ho h1 h2 p p2 he fun g hk => ⟨rfl, I.turnedL (t' := s.toks) (ch := [z, TI, TO, i1, i2]) (fun c o hb q => hk c o (ne hb (by simp)) (ne hb (by simp)) (ne hb (by simp)) (ne hb (by simp)) q) hf⟩
  self := fun A i s Q E st h => wpAny_pyIter_zip st.1 h
def iZipM (K : PySem.W.Frag) (ta : TA) : TI := fun σ H R => ta σ H fun vs H1 => ∃ k1 k2 a b xs ys, vs = [.ref a, .ref b] ∧ SqV k1 K H1 a xs ∧ SqV k2 K H1 b ys ∧ R (ItzM K k1 k2 a b) H1
theorem pi_zipM {X : Cx} {e e2 : Expr} {ta : TA} {p pos tpos : Pos} {elts : List Expr} {kk : Nat} (K : PySem.W.Frag) (hK : X.K = K) (hg : Gl X "zip") (hm : X.mg "zip" = none) (ha : PA X [e, e2] ta)
    (hs : starEach [e, e2] X.env = (false, eval e X.env) :: starEach [e2] X.env := by rfl) (hpl : (backTo pos (starEach [e2] X.env)).any (·.1) = false := by rfl) :
    PI X (.Tuple elts kk tpos) (.Call (.Name "zip" p) [e, e2] [] pos) (iZipM K ta) := by
  subst hK
  refine ⟨fun pins s σ H R I h => ?_⟩
  refine Call_ (ld_blt I hg hm PyProof.Rows.boot_zip (PyProof.Rows.callWith_type1 (thn (ha.run pos pins s σ H _ I h) fun us s1 ⟨vs, H1, I1, r1, q1⟩ => ?_) hs hpl))
  obtain ⟨k1, k2, a, b, xs, ys, rfl, hx1, hy1, q⟩ := q1
  cases r1 with
  | cons r rr =>
    cases rr with
    | cons r' rr =>
      cases rr
      cases r
      cases r'
      obtain ⟨its, rv, p1⟩ := SqV.at I1 hx1
      obtain ⟨its2, rv2, p2⟩ := SqV.at I1 hy1
      refine call_zipM p1 p2 fun g hz hi ho h1 h2 hk => wpAny_pyIter_zip hz ?_
      have I2 : Inv X pins σ H1 { s1 with heap := g } := I1.kept (t' := s1.toks) hk
      refine ⟨s1.heap.objs.size + 4, [s1.heap.objs.size + 4, s1.heap.objs.size + 2, s1.heap.objs.size + 3, s1.heap.objs.size, s1.heap.objs.size + 1], _, _, H1, rfl, I2, turn_zipM (PySem.W.ktu_apart s1.heap.objs.size a b p1.lt p2.lt), ⟨hz, hi, ⟨_, _, ho⟩, h1, h2⟩, fun c hcm => ?_, q⟩
      have hle : s1.heap.objs.size ≤ c := by
        rcases mem5 hcm with z | z | z | z | z
        · rw [z]; exact Nat.le_add_right _ _
        · rw [z]; exact Nat.le_add_right _ _
        · rw [z]; exact Nat.le_add_right _ _
        · rw [z]; exact Nat.le_refl _
        · rw [z]; exact Nat.le_add_right _ _
      exact I1.fpOk hle (I1.hok.fresh hle)
/-! ### the mirror -/
def zipD : List PyData → List PyData → List PyData
  | d :: ds, e :: es => .tuple [d, e] :: zipD ds es
  | _, _ => []
def seqD : PyData → Option (List PyData)
  | .list ds => some ds
  | .tuple ds => some ds
  | _ => none
def iZD {S : Type} (ws : List W) (s : S) : Rs S (List PyData) := match ws with
  | [.d x, .d y] => optR ((seqD x).bind fun ds => (seqD y).map fun es => zipD ds es) s
  | _ => .stuck
theorem zipD_get : ∀ {ds es : List PyData} {i : Nat} {z : PyData}, (zipD ds es)[i]? = some z → ∃ d e, ds[i]? = some d ∧ es[i]? = some e ∧ z = .tuple [d, e]
  | [], _, _, _, h => by simp [zipD] at h
  | _ :: _, [], _, _, h => by simp [zipD] at h
  | d :: ds, e :: es, 0, z, h => by
    simp [zipD] at h
    exact ⟨d, e, rfl, rfl, h.symm⟩
  | d :: ds, e :: es, i + 1, z, h => by
    have h' : (zipD ds es)[i]? = some z := by simpa [zipD] using h
    obtain ⟨x, y, h1, h2, h3⟩ := zipD_get h'
    exact ⟨x, y, by simpa using h1, by simpa using h2, h3⟩
theorem zipD_len : ∀ (ds es : List PyData), (zipD ds es).length = min ds.length es.length
  | [], _ => by simp [zipD]
  | _ :: _, [] => by simp [zipD]
  | d :: ds, e :: es => by rw [zipD, List.length_cons, List.length_cons, List.length_cons, zipD_len ds es]; omega
theorem iZD_inv {S : Type} {ws : List W} {s : S} : (iZD ws s = .stuck) ∨ ∃ x y ds es, ws = [.d x, .d y] ∧ seqD x = some ds ∧ seqD y = some es ∧ iZD ws s = .ok (zipD ds es) s := by
  unfold iZD
  split
  · rename_i x y
    cases e1 : seqD x with
    | none => exact .inl rfl
    | some ds =>
      cases e2 : seqD y with
      | none => exact .inl rfl
      | some es => exact .inr ⟨x, y, ds, es, rfl, e1, e2, rfl⟩
  · exact .inl rfl
def iZip {S : Type} (f : List Sl → S → Rs S (List W)) : List Sl → S → Rs S (List PyData) := fun σ s => (f σ s).bind iZD
section
variable {G : Gm} {E : XK} {L O : List Addr} {σD : List Sl} {s : G.S} {σ : L2.St} {H : Hp}
theorem seqD_at {K : PySem.W.Frag} {v : V} {x : PyData} {ds : List PyData} (hx : Dq (wo H L) v x) (h : seqD x = some ds) : ∃ k a vs, v = .ref a ∧ SqV k K H a vs ∧ DqAll (wo H L) vs ds ∧ wo H L a = some (if k = true then .tup vs else .lst vs) := by
  cases x with
  | list xs =>
    cases h
    obtain ⟨a, vs, rfl, ha, hv⟩ := dq_lst hx
    exact ⟨false, a, vs, rfl, .of (wo_some ha).1, hv, ha⟩
  | tuple xs =>
    cases h
    obtain ⟨a, vs, rfl, ha, hv⟩ := dq_tup hx
    exact ⟨true, a, vs, rfl, .of (wo_some ha).1, hv, ha⟩
  | _ => cases h
theorem sqV_of {K : PySem.W.Frag} {k : Bool} {a : Addr} {vs : List V} (h : wo H L a = some (if k = true then .tup vs else .lst vs)) : SqV k K H a vs := by
  cases k
  · exact .of (wo_some h).1
  · exact .of (wo_some h).1
theorem walks_zipM {K : PySem.W.Frag} (R : SR G L O σD s σ H) {k1 k2 : Bool} {a b : Addr} {vs us : List V} {ds es : List PyData} (ha : wo H L a = some (if k1 = true then .tup vs else .lst vs)) (hb : wo H L b = some (if k2 = true then .tup us else .lst us)) (hv : DqAll (wo H L) vs ds) (hu : DqAll (wo H L) us es) :
    Walks G (ItzM K k1 k2 a b) (zipD ds es) L O H := fun L2' O2 H2 la live2 => by
  have sm := later_wo R la
  have ha2 := sqV_of (K := K) (sm a _ ha)
  have hb2 := sqV_of (K := K) (sm b _ hb)
  have hv2 := dqAll_same sm _ _ hv
  have hu2 := dqAll_same sm _ _ hu
  refine ⟨fun i d hd => ?_, fun i hi => ⟨vs, us, ha2, hb2, ?_⟩⟩
  · obtain ⟨x, y, hx, hy, rfl⟩ := zipD_get hd
    obtain ⟨v, h1, h2⟩ := hv2.get hx
    obtain ⟨u, h3, h4⟩ := hu2.get hy
    refine ⟨⟨vs, us, v, u, ha2, hb2, h1, h3⟩, fun z H3 hz => ?_⟩
    obtain ⟨T, x', y', rfl, hT, rfl, f1, f2⟩ := hz
    have e1 := f1 vs ha2
    have e2 := f2 us hb2
    rw [h1] at e1
    rw [h3] at e2
    cases e1
    cases e2
    exact ⟨same_new hT, dq_newT (fun a h => (live2 a h).ne) hT (.cons h2 (.cons h4 .nil))⟩
  · rw [zipD_len] at hi
    rw [hv.length, hu.length]
    omega
theorem is_zipM {K : PySem.W.Frag} {ta : TA} {f : List Sl → G.S → Rs G.S (List W)} (h : SmA G E ta f) : ISm G E (iZipM K ta) (iZip f) := fun L O σD s σ H Q R hw =>
  h.thenI R hw (fun x s1 v H1 st R1 wr k kst _ => by
    rcases iZD_inv (ws := x) (s := s1) with e | ⟨p, q, ds, es, rfl, e1, e2, e⟩
    · exact (kst e).elim
    · obtain ⟨u, u2, rfl, hu, hu2⟩ := wr.two_d
      obtain ⟨k1, a, vs, rfl, a1, a2, a3⟩ := seqD_at (K := K) hu e1
      obtain ⟨k2, b, us, rfl, b1, b2, b3⟩ := seqD_at (K := K) hu2 e2
      exact ⟨k1, k2, a, b, vs, us, rfl, a1, b1, k _ s1 e _ H1 Stp.refl R1.ok (walks_zipM R1 a3 b3 a2 b2)⟩) (fun x s1 c s2 e => by
    rcases iZD_inv (ws := x) (s := s1) with e' | ⟨_, _, _, _, _, _, _, e'⟩ <;> rw [e'] at e <;> cases e)
end
theorem r_ev_zip {S : Type} {ga : List Sl → S → Rs S (List W)} {σ : List Sl} {s : S} : iZip ga σ s = (ga σ s).bind iZD := rfl
theorem r_iZD_tt {S : Type} {ds es : List PyData} {s : S} : iZD [.d (.tuple ds), .d (.tuple es)] s = .ok (zipD ds es) s := rfl
theorem r_iZD_tl {S : Type} {ds es : List PyData} {s : S} : iZD [.d (.tuple ds), .d (.list es)] s = .ok (zipD ds es) s := rfl
theorem r_iZD_lt {S : Type} {ds es : List PyData} {s : S} : iZD [.d (.list ds), .d (.tuple es)] s = .ok (zipD ds es) s := rfl
theorem r_iZD_ll {S : Type} {ds es : List PyData} {s : S} : iZD [.d (.list ds), .d (.list es)] s = .ok (zipD ds es) s := rfl
end CS
/-! Core19: a comprehension over a dict's keys -/
namespace CS
open PySem PySem.Spec PyProof.Rows L2
/-- lists and tuples stand -/
def SameQ (H H' : Hp) : Prop := (∀ b xs, H b = some (.lst xs) → H' b = some (.lst xs)) ∧ ∀ b xs, H b = some (.tup xs) → H' b = some (.tup xs)
mutual
theorem dq_sameQ {H H' : Hp} (e : SameQ H H') : ∀ (d : PyData) (v : V), Dq H v d → Dq H' v d
  | .none, _, h => by cases h; exact .non
  | .bool b, _, h => by cases h; exact .bl b
  | .int i, _, h => by cases h; exact .int i
  | .str x, _, h => by cases h; exact .str x
  | .list ds, _, h => by
    cases h with
    | lst hs ha => exact .lst (e.1 _ _ hs) (dqAll_sameQ e ds _ ha)
  | .tuple ds, _, h => by
    cases h with
    | tup hs ha => exact .tup (e.2 _ _ hs) (dqAll_sameQ e ds _ ha)
  | .dict _, _, h => by cases h
theorem dqAll_sameQ {H H' : Hp} (e : SameQ H H') : ∀ (ds : List PyData) (vs : List V), DqAll H vs ds → DqAll H' vs ds
  | [], _, h => by cases h; exact .nil
  | d :: ds, _, h => by
    cases h with
    | cons h1 h2 => exact .cons (dq_sameQ e d _ h1) (dqAll_sameQ e ds _ h2)
end
theorem KvR.sameQ {H H' : Hp} (e : SameQ H H') {r : List (List Key × V)} {q : List (List Key × PyData)} (h : KvR H r q) : KvR H' r q := by
  induction h with
  | nil => exact .nil
  | cons h1 _ ih => exact .cons (dq_sameQ e _ _ h1) ih
theorem wo_upd {H : Hp} {L : List Addr} {d : Addr} {o : HO} (h : d ∉ L) : wo (upd H d o) L = upd (wo H L) d o := by
  funext b
  by_cases e : b = d
  · subst e
    rw [upd_same]
    exact wo_of upd_same h
  · rw [upd_ne e]
    unfold wo
    rw [upd_ne e]
section
variable {H : Hp} {d : Addr} {od : Obj} {ks : List (List Key × V)} {w : W} {v : V}
theorem sameQ_dic {u u' : HO} (h : H d = some u) (h1 : ∀ xs, u ≠ .lst xs) (h2 : ∀ xs, u ≠ .tup xs) : SameQ H (upd H d u') :=
  ⟨fun b xs e => by
    have : b ≠ d := fun z => by subst z; rw [h] at e; cases e; exact h1 _ rfl
    rw [upd_ne this]; exact e, fun b xs e => by
    have : b ≠ d := fun z => by subst z; rw [h] at e; cases e; exact h2 _ rfl
    rw [upd_ne this]; exact e⟩
theorem WR.lock (h : H d = some (.dT ks)) (r : WR H w v) : WR (upd H d (.frz od (.dT ks))) w v := by
  have sq : SameQ H (upd H d (.frz od (.dT ks))) := sameQ_dic h (fun _ z => by cases z) (fun _ z => by cases z)
  cases w with
  | d x => exact dq_sameQ sq _ _ r
  | ref a => exact r
  | dic kvs =>
    obtain ⟨a, ks', h1, h2, h3⟩ := r
    refine ⟨a, ks', h1, ?_, h3.sameQ sq⟩
    by_cases e : a = d
    · subst e
      rcases h2 with h2 | ⟨o, h2⟩
      · rw [h] at h2; cases h2; exact .inr ⟨od, upd_same⟩
      · rw [h] at h2; cases h2
    · rcases h2 with h2 | ⟨o, h2⟩
      · exact .inl (by rw [upd_ne e]; exact h2)
      · exact .inr ⟨o, by rw [upd_ne e]; exact h2⟩
end
section
variable {G : Gm} {E : XK} {L O : List Addr} {σD : List Sl} {s : G.S} {σ : L2.St} {H : Hp} {d : Addr} {od : Obj} {ks : List (List Key × V)}
theorem SR.lock (R : SR G L O σD s σ H) (h : wo H L d = some (.dT ks)) : SR G L O σD s σ (upd H d (.frz od (.dT ks))) := by
  obtain ⟨h1, h2⟩ := wo_some h
  have h0 : d ∉ G.L0 := fun z => h2 (R.l0 d z)
  have sq : SameQ (wo H L) (wo (upd H d (.frz od (.dT ks))) L) := by
    rw [wo_upd h2]
    exact sameQ_dic h (fun _ z => by cases z) (fun _ z => by cases z)
  have ne : ∀ a ∈ L, a ≠ d := fun a ha z => h2 (z ▸ ha)
  exact {
    l0 := R.l0
    oL := R.oL
    nt := fun a ha => by rw [upd_ne (ne a ha)]; exact R.nt a ha
    ok := ok_mut R h0 h1 rfl
    sl := fun i x e => by
      obtain ⟨o, q1, q2⟩ := R.sl i x e
      refine ⟨o, q1, ?_⟩
      cases x with
      | non => trivial
      | w x =>
        obtain ⟨v, z1, z2⟩ := q2
        refine ⟨v, z1, ?_⟩
        rw [wo_upd h2]
        exact WR.lock h z2
      | own es => obtain ⟨a, us, z1, z2, z3, z4⟩ := q2; exact ⟨a, us, z1, z2, by rw [upd_ne (ne a (R.oL a z2).1)]; exact z3, dqAll_sameQ sq _ _ z4⟩
      | odc es => obtain ⟨a, us, z1, z2, z3, z4⟩ := q2; exact ⟨a, us, z1, z2, by rw [upd_ne (ne a (R.oL a z2).1)]; exact z3, z4.sameQ sq⟩
    df := R.df }
def kD : Key → PyData
  | .inl i => .int i
  | .inr x => .str x
def keysD (kvs : List (List Key × PyData)) : List PyData := kvs.map fun kv => .tuple (kv.1.map kD)
theorem dqAll_key {H : Hp} : ∀ k : List Key, DqAll H (k.map kV) (k.map kD)
  | [] => .nil
  | .inl i :: r => .cons (.int i) (dqAll_key r)
  | .inr x :: r => .cons (.str x) (dqAll_key r)
theorem KvR.key {H : Hp} {ks : List (List Key × V)} {kvs : List (List Key × PyData)} (h : KvR H ks kvs) : ∀ {i : Nat} {e : PyData}, (keysD kvs)[i]? = some e → ∃ k v, ks[i]? = some (k, v) ∧ e = .tuple (k.map kD) := by
  induction h with
  | nil => intro i e q; cases q
  | @cons k v d r q h1 h2 ih =>
    intro i e q
    cases i with
    | zero => cases q; exact ⟨k, v, rfl, rfl⟩
    | succ i => exact ih (i := i) (by simpa [keysD] using q)
theorem walks_keysT (R : SR G L O σD s σ H) {kvs : List (List Key × PyData)} (hd : wo H L d = some (.frz od (.dT ks))) (hr : KvR (wo H L) ks kvs) : Walks G (Itkt d od ks) (keysD kvs) L O H := fun L2' O2 H2 la live2 => by
  have hd2 : H2 d = some (.frz od (.dT ks)) := (wo_some (later_wo R la d _ hd)).1
  have hl := hr.length
  refine ⟨fun i e he => ?_, fun i hi => ⟨hd2, ?_⟩⟩
  · obtain ⟨k, v, h1, rfl⟩ := hr.key he
    refine ⟨⟨hd2, (List.getElem?_eq_some_iff.mp h1).1⟩, fun x H3 hy => ?_⟩
    obtain ⟨rfl, k', v', q, e1, rfl, e2⟩ := hy
    rw [h1] at e1
    cases e1
    refine ⟨Same.refl _, .tup (wo_of e2 fun z => ?_) (dqAll_key k)⟩
    obtain ⟨u, z1, z2⟩ := live2 q z
    rw [e2] at z1
    cases z1
    exact z2 _ rfl
  · unfold keysD at hi
    rw [List.length_map] at hi
    omega
def tLk (t : TE) : TE := fun σ H Q => tLockE t σ H Q ∨ t σ H Q
theorem pe_lk {X : Cx} {e : Expr} {t : TE} (h : PE X e t) : PE X e (tLk t) := by
  refine ⟨fun pins s σ H Q I hw => ?_⟩
  rcases hw with hw | hw
  · exact (pe_lock h).run pins s σ H Q I hw
  · exact h.run pins s σ H Q I hw
def eCompD {S : Type} (i : Nat) (vs : List Nat) (b : PyData → List Sl → Option (List Sl)) (t : List Sl → S → Rs S Bool) (e : List Sl → S → Rs S W) : List Sl → S → Rs S W := fun σ s => match σ[i]? with
  | some (.w (.dic kvs)) => if (keysD kvs).length < 1000000 then lstR [] (cGo b t e (wipeD σ vs) (keysD kvs) s) else .stuck
  | _ => .stuck
theorem smL_compD {i : Nat} {g : TG} {tt : TT} {te : TE} {vs is : List Nat} {b : PyData → List Sl → Option (List Sl)} {t : List Sl → G.S → Rs G.S Bool} {e : List Sl → G.S → Rs G.S W}
    (hg : GSm g b is) (hsub : ∀ i ∈ is, i ∈ vs) (ht : SmT G E0 tt t) (he : Sm G E0 te e) : SmL G E (tLk (tLc (iKeys (tVar i)) g tt te vs)) (eCompD i vs b t e) := fun L O σD s σ H Q R hw => by
  unfold eCompD at hw
  split at hw
  case h_2 => exact hw.elim
  rename_i kvs ei
  obtain ⟨o, h1, v, rfl, a, ks, rfl, hrd, hr⟩ := R.sl i _ ei
  have inner : ∀ {H : Hp} {od : Obj} {Q : VK}, SR G L O σD s σ H → wo H L a = some (.frz od (.dT ks)) → KvR (wo H L) ks kvs → WantL G E L H (if (keysD kvs).length < 1000000 then lstR [] (cGo b t e (wipeD σD vs) (keysD kvs) s) else .stuck) Q → tLc (iKeys (tVar i)) g tt te vs σ H Q := by
    intro H od Q R hd hr hw
    refine smL_compAt (G := G) (E := E) (fi := fun _ s => .ok (keysD kvs) s) R (fun R' hR' => ?_) hg hsub ht he hw
    exact ⟨_, h1, a, od, rfl, .inr ⟨ks, (wo_some hd).1, hR' _ H Stp.refl R.ok (walks_keysT R hd hr)⟩⟩
  rcases hrd with hrd | ⟨od, hrd⟩
  case inr => exact .inr (inner R hrd hr hw)
  refine .inl ⟨a, .dT ks, (wo_some hrd).1, trivial, fun od => ?_⟩
  obtain ⟨q1, q2⟩ := wo_some hrd
  have q0 : a ∉ G.L0 := fun z => q2 (R.l0 a z)
  have R1 := R.lock (od := od) hrd
  have sq : SameQ (wo H L) (wo (upd H a (.frz od (.dT ks))) L) := by
    rw [wo_upd q2]
    exact sameQ_dic hrd (fun _ z => by cases z) (fun _ z => by cases z)
  refine inner (od := od) R1 (by rw [wo_upd q2]; exact upd_same) (hr.sameQ sq) ?_
  by_cases hl : (keysD kvs).length < 1000000
  case neg => rw [if_neg hl] at hw; exact hw.elim
  rw [if_pos hl] at hw ⊢
  cases ec : cGo b t e (wipeD σD vs) (keysD kvs) s with
  | exc c s1 => rw [ec] at hw; exact hw.elim
  | stuck => rw [ec] at hw; exact hw.elim
  | ok xs s1 =>
    rw [ec] at hw
    intro p vs' H' st hp ok' h' hd'
    have ha' : H' a = some (.frz od (.dT ks)) := st a _ q0 upd_same
    have npa : p ≠ a := fun z => by rw [z, upd_same] at hp; cases hp
    refine ⟨ha', hw p vs' _ (fun b o hb hb' => ?_) ?_ ?_ ?_ ?_⟩
    · by_cases e : b = a
      · subst e; rw [q1] at hb'; cases hb'; exact upd_same
      · rw [upd_ne e]; exact st b o hb (by rw [upd_ne e]; exact hb')
    · rw [upd_ne npa] at hp; exact hp
    · refine G.mono s1 H' _ (fun c hc => upd_ne fun z => q0 (z ▸ hc)) (fun c o hc hf hco => ?_) ok'
      rw [upd_ne fun z => ?_]
      · exact hco
      · subst z; rw [ha'] at hco; cases hco; cases hf
    · rw [upd_ne npa]; exact h'
    · have nm : a ∉ p :: L := fun z => by
        rcases List.mem_cons.mp z with z | z
        · exact npa z.symm
        · exact q2 z
      rw [wo_upd nm]
      exact dqAll_sameQ (sameQ_dic (wo_of ha' nm) (fun _ z => by cases z) (fun _ z => by cases z)) _ _ hd'
theorem newL_compD {S : Type} {i : Nat} {vs : List Nat} {b : PyData → List Sl → Option (List Sl)} {t : List Sl → S → Rs S Bool} {e : List Sl → S → Rs S W} : NewL (eCompD i vs b t e) := fun σ s w s' h => by
  unfold eCompD at h
  split at h
  · split at h
    · unfold lstR at h
      split at h
      · cases h; exact ⟨_, rfl⟩
      · cases h
      · cases h
    · cases h
  · cases h
theorem sm_compD {i : Nat} {g : TG} {tt : TT} {te : TE} {vs is : List Nat} {b : PyData → List Sl → Option (List Sl)} {t : List Sl → G.S → Rs G.S Bool} {e : List Sl → G.S → Rs G.S W}
    (hg : GSm g b is) (hsub : ∀ i ∈ is, i ∈ vs) (ht : SmT G E0 tt t) (he : Sm G E0 te e) : Sm G E (tLk (tLc (iKeys (tVar i)) g tt te vs)) (eCompD i vs b t e) := (smL_compD hg hsub ht he).sm newL_compD
/-! ### d.get(k, x), d an own dict -/
def eDGet2O {S : Type} (i : Nat) (fk fx : List Sl → S → Rs S W) : List Sl → S → Rs S W := fun σ s => match σ[i]? with
  | some (.odc kvs) => (fk σ s).bind (dg2K2 fx σ (.dic kvs))
  | _ => .stuck
theorem sm_dget2O {i : Nat} {ty tx : TE} {fk fx : List Sl → G.S → Rs G.S W} (hk : Sm G E ty fk) (hx : Sm G E tx fx) : Sm G E (tDGet2 (tVar i) ty tx) (eDGet2O i fk fx) := fun L O σD s σ H Q R hw => by
  unfold eDGet2O at hw
  cases ei : σD[i]? with
  | none => rw [ei] at hw; exact hw.elim
  | some x =>
    rw [ei] at hw
    cases x with
    | non => exact hw.elim
    | w _ => exact hw.elim
    | own _ => exact hw.elim
    | odc kvs =>
      obtain ⟨o, h1, a, ks, rfl, ha, hd, hr⟩ := R.sl i _ ei
      refine ⟨_, h1, a, rfl, .inr ⟨ks, .inl hd⟩, ?_⟩
      exact hk.thenV R hw fun y s2 u H2 e2 R2 wy h2 => hx.thenV R2 h2 fun z s3 t H3 e3 R3 wz h3 => by
        have hd3 : H3 a = some (.dT ks) := (e2.trans e3) a _ (R.oL a ha).2 hd
        have hr3 : KvR (wo H3 L) ks kvs := hr.same (stp_wo R.l0 (e2.trans e3))
        cases y with
        | ref _ => exact h3.elim
        | dic _ => exact h3.elim
        | d d =>
          cases z with
          | ref _ => cases d <;> exact h3.elim
          | dic _ => cases d <;> exact h3.elim
          | d dz =>
            cases d with
            | tuple ds =>
              obtain ⟨w, ew, hq⟩ := optR_want h3
              cases ek : keyD ds with
              | none => rw [ek] at ew; cases ew
              | some k =>
                rw [ek] at ew
                cases ew
                obtain ⟨b, vs, rfl, hb, hv⟩ := dq_tup (dq_same (stp_wo R2.l0 e3) _ _ wy)
                rw [keyD_vals ek hv] at hb
                refine ⟨_, .inr ⟨ks, k, b, .inl hd3, rfl, (wo_some hb).1, rfl⟩, ?_⟩
                cases eg : getD kvs k with
                | none =>
                  simp only [eg] at hq
                  rw [hr3.getN eg]
                  exact hq t H3 Stp.refl R3.ok wz
                | some z =>
                  simp only [eg] at hq
                  obtain ⟨v', g1, g2⟩ := hr3.get eg
                  rw [g1]
                  exact hq v' H3 Stp.refl R3.ok g2
            | _ => exact h3.elim
end
/-! ### rules -/
section
variable {S : Type} {σ : List Sl} {s : S} {fk fx : List Sl → S → Rs S W} {i : Nat}
def compDK (o : Option Sl) (vs : List Nat) (b : PyData → List Sl → Option (List Sl)) (t : List Sl → S → Rs S Bool) (e : List Sl → S → Rs S W) (σ : List Sl) (s : S) : Rs S W := match o with
  | some (.w (.dic kvs)) => if (keysD kvs).length < 1000000 then lstR [] (cGo b t e (wipeD σ vs) (keysD kvs) s) else .stuck
  | _ => .stuck
theorem r_ev_compD {vs : List Nat} {b : PyData → List Sl → Option (List Sl)} {t : List Sl → S → Rs S Bool} {e : List Sl → S → Rs S W} : eCompD i vs b t e σ s = compDK (σ[i]?) vs b t e σ s := by
  unfold eCompD compDK
  generalize σ[i]? = oo
  cases oo with
  | none => rfl
  | some x =>
    cases x with
    | w x => cases x <;> rfl
    | _ => rfl
theorem r_compDK {vs : List Nat} {b : PyData → List Sl → Option (List Sl)} {t : List Sl → S → Rs S Bool} {e : List Sl → S → Rs S W} {kvs : List (List Key × PyData)} (h : (keysD kvs).length < 1000000) : compDK (some (.w (.dic kvs))) vs b t e σ s = lstR [] (cGo b t e (wipeD σ vs) (keysD kvs) s) := if_pos h
def dg2OK (o : Option Sl) (fk fx : List Sl → S → Rs S W) (σ : List Sl) (s : S) : Rs S W := match o with
  | some (.odc kvs) => (fk σ s).bind (dg2K2 fx σ (.dic kvs))
  | _ => .stuck
theorem r_ev_dg2O : eDGet2O i fk fx σ s = dg2OK (σ[i]?) fk fx σ s := by
  unfold eDGet2O dg2OK
  generalize σ[i]? = oo
  cases oo with
  | none => rfl
  | some x => cases x <;> rfl
theorem r_dg2OK {kvs : List (List Key × PyData)} : dg2OK (some (.odc kvs)) fk fx σ s = (fk σ s).bind (dg2K2 fx σ (.dic kvs)) := rfl
end
end CS
/-! Core20: sorted of tuples of any alike form -/
namespace CS
open PySem PySem.Spec PyProof.Rows L2
open PySem.W (alike alikeAll dataLe dataLt AllAlike)
def isNeT : PyData → Bool
  | .tuple (_ :: _) => true
  | _ => false
def sortOk2 (ds : List PyData) : Bool := ds.all (fun d => ds.all (fun e => alike d e)) && ds.all isNeT && ds.all (fun d => decide (d.depth ≤ 60)) && decide (ds.length ≤ 1000000)
def pySorted2 : List PyData → Option PyData
  | [.list ds] => if sortOk2 ds then some (.list (isort leD ds)) else none
  | _ => none
def rSortE (K : PySem.W.Frag) : List V → Hp → VK → Prop := fun vs H Q => ∃ (a : Addr) (xs : List V) (ds : List PyData) (R : V → PyData → Prop), vs = [V.ref a] ∧ SqL K H a xs ∧ PySem.W.EachIs R xs ds ∧ (∀ y d, R y d → Dq H y d) ∧ sortOk2 ds = true ∧
  ∀ p ys, H p = none → ys.length = xs.length → PySem.W.EachIs R ys (isort leD ds) → Q (.ref p) (upd H p (.lst ys))
theorem cr_sorted2 {X : Cx} (K : PySem.W.Frag) (hK : X.K = K) (hu : X.A.units + 65 < cLine) : CallR X (.builtin "sorted") (rSortE K) := by
  subst hK
  intro pins s σ H vs us Q I r h
  obtain ⟨a, xs, ds, R, rfl, hs, hd, hRq, hok, q⟩ := h
  obtain ⟨its, rv, hl, hz⟩ := I.list hs
  rw [Vals.ref1 r]
  unfold sortOk2 at hok
  rw [Bool.and_eq_true, Bool.and_eq_true, Bool.and_eq_true] at hok
  obtain ⟨⟨⟨h1, h2⟩, h3⟩, h4⟩ := hok
  have each : ∀ {xs : List V} {ds : List PyData} {its : List Value}, PySem.W.EachIs R xs ds → Vals xs its → PySem.W.EachIs (fun v d => (∃ y, RelV y v ∧ R y d) ∧ ∃ as, Reads s.heap v d as) its ds := by
    intro xs ds its hd rv
    induction ds generalizing xs its with
    | nil => cases hd; cases rv; exact .nil
    | cons d ds ih =>
      cases hd with
      | cons g1 g2 =>
        cases rv with
        | cons r1 r2 => exact .cons ⟨⟨_, r1, g1⟩, Dp.reads I d _ _ (Dq.dp d _ (hRq _ _ g1)) r1⟩ (ih g2 r2)
  have e1 := each hd rv
  have eR : PySem.W.EachIs (fun v d => ∃ y, RelV y v ∧ R y d) its ds := e1.mono fun _ _ z => z.1
  have er : PySem.W.EachIs (fun v d => ∃ as, Reads s.heap v (id d) as) its ds := e1.mono fun _ _ z => z.2
  have hal : AllAlike (ds.map id) := by
    rw [List.map_id]
    intro d hd d' hd'
    exact List.all_eq_true.mp (List.all_eq_true.mp h1 d hd) d' hd'
  have hdep : ∀ d, d ∈ ds → X.A.units + 2 + (id d).depth < cLine := fun d hd => by
    have := of_decide_eq_true (List.all_eq_true.mp h3 d hd)
    show X.A.units + 2 + d.depth < cLine
    omega
  have hLn : ds.length ≤ sizeLine := szb (of_decide_eq_true h4)
  have hne : ∀ d, d ∈ ds → ∃ x r, d = PyData.tuple (x :: r) := fun d hd => by
    have := List.all_eq_true.mp h2 d hd
    cases d with
    | tuple l =>
      cases l with
      | nil => cases this
      | cons x r => exact ⟨x, r, rfl⟩
    | _ => cases this
  refine PySem.W.sorted_data hl.isList eR er hal (by rw [List.map_id]; exact .inl hne) hLn hdep fun out ho eo => ?_
  rw [← isort_eq (dataLe false id) (PySem.W.sortLe_total _ false _) ds] at eo
  obtain ⟨ep, he'⟩ := PyProof.Rows.sortedAll_at s.heap its out.toArray
  have ex : ∀ {out : List Value} {es : List PyData}, PySem.W.EachIs (fun v d => ∃ y, RelV y v ∧ R y d) out es → ∃ ys, Vals ys out ∧ PySem.W.EachIs R ys es := by
    intro out es h
    induction h with
    | nil => exact ⟨[], .nil, .nil⟩
    | cons z _ ih =>
      obtain ⟨y, ry, dy⟩ := z
      obtain ⟨ys, a1, a2⟩ := ih
      exact ⟨y :: ys, .cons ry a1, .cons dy a2⟩
  obtain ⟨ys, vy, ey⟩ := ex eo
  have hlen : ys.length = xs.length := by rw [vy.length, ho, hd.length]
  refine ⟨.ref _, upd H (s.heap.objs.size + 1) (.lst ys), I.laid (t' := s.toks) (fun _ _ => PyProof.Rows.sortedAll_old) (Nat.le_succ _) ⟨by rw [hlen, hd.length]; exact hLn, out, ep, vy, ?_⟩, rfl, q _ ys (I.hok.fresh (Nat.le_succ _)) hlen ey⟩
  simpa using he'
theorem cs_sorted2 {K : PySem.W.Frag} : CSm (rSortE K) pySorted2 := by
  intro L H vs ds z Q hL hv hg hq
  match ds, hv, hg with
  | [.list es], hv, hg =>
    dsimp only [pySorted2] at hg
    split at hg
    · rename_i hs
      cases hg
      obtain ⟨v, rfl, h1⟩ := dqAll_one hv
      obtain ⟨p, us, rfl, hp, hu⟩ := dq_lst h1
      exact ⟨p, us, es, fun y d => Dq (wo H L) y d, rfl, .of (wo_some hp).1, each_of_dq hu, fun y d h => dq_wo h, hs, fun r ys hr hl he => hq _ _ (same_new hr) (dq_newL hL hr (each_dq he))⟩
    · cases hg
end CS
namespace CS
open PySem PySem.Spec PyProof.Rows L2
def topS (i : Nat) : Stmt := PySem.Challenge.pw_cutsums_k11_whole_between.main.body.getD i (.Pass ⟨0, 0, 0, 0⟩)
/-- what the top has written -/
structure Txt (K : PySem.W.Frag) (mg : Str → Option Value) (ad : Nat → Addr) (fd : Nat → FuncData) (cl : Nat → Addr) : Prop where
  F_law_cell : Fun K "_law_cell" "_law_cell" (topS 41) (ad 30) (fd 30)
  g_law_cell : mg "_law_cell" = some (.ref (ad 30))
  b_law_cell : Binds K (fd 30) ["script", "k"] []
  F_law_rounds : Fun K "_law_rounds" "_law_rounds" (topS 44) (ad 33) (fd 33)
  g_law_rounds : mg "_law_rounds" = some (.ref (ad 33))
  b_law_rounds : Binds K (fd 33) ["script", "most"] []
  F_law_as_dict : Fun K "_law_as_dict" "_law_as_dict" (topS 54) (ad 43) (fd 43)
  g_law_as_dict : mg "_law_as_dict" = some (.ref (ad 43))
  b_law_as_dict : Binds K (fd 43) ["weights"] []
  F_is_whole : Fun K "is_whole" "is_whole" (topS 17) (ad 9) (fd 9)
  g_is_whole : mg "is_whole" = some (.ref (ad 9))
  b_is_whole : Binds K (fd 9) ["value", "low", "high"] []
  F_is_shaped : Fun K "is_shaped" "is_shaped" (topS 19) (ad 11) (fd 11)
  g_is_shaped : mg "is_shaped" = some (.ref (ad 11))
  b_is_shaped : Binds K (fd 11) ["value"] []
  F_is_distance : Fun K "is_distance" "is_distance" (topS 18) (ad 10) (fd 10)
  g_is_distance : mg "is_distance" = some (.ref (ad 10))
  b_is_distance : Binds K (fd 10) ["value"] []
  F_is_table : Fun K "is_table" "is_table" (topS 20) (ad 12) (fd 12)
  g_is_table : mg "is_table" = some (.ref (ad 12))
  b_is_table : Binds K (fd 12) ["value"] []
  F_need_table : Fun K "need_table" "need_table" (topS 21) (ad 13) (fd 13)
  g_need_table : mg "need_table" = some (.ref (ad 13))
  b_need_table : Binds K (fd 13) ["table"] []
  F_is_cut : Fun K "is_cut" "is_cut" (topS 25) (ad 17) (fd 17)
  g_is_cut : mg "is_cut" = some (.ref (ad 17))
  b_is_cut : Binds K (fd 17) ["many", "value"] []
  F_need_cut : Fun K "need_cut" "need_cut" (topS 26) (ad 18) (fd 18)
  g_need_cut : mg "need_cut" = some (.ref (ad 18))
  b_need_cut : Binds K (fd 18) ["many", "cut"] []
  F_leaving : Fun K "leaving" "leaving" (topS 12) (ad 5) (fd 5)
  g_leaving : mg "leaving" = some (.ref (ad 5))
  b_leaving : Binds K (fd 5) ["rows", "basis", "column"] []
  F_divisor : Fun K "divisor" "divisor" (topS 7) (ad 0) (fd 0)
  g_divisor : mg "divisor" = some (.ref (ad 0))
  b_divisor : Binds K (fd 0) ["one", "other"] []
  F_reduced : Fun K "reduced" "reduced" (topS 9) (ad 2) (fd 2)
  g_reduced : mg "reduced" = some (.ref (ad 2))
  b_reduced : Binds K (fd 2) ["row"] []
  F_cleared : Fun K "cleared" "cleared" (topS 10) (ad 3) (fd 3)
  g_cleared : mg "cleared" = some (.ref (ad 3))
  b_cleared : Binds K (fd 3) ["row", "pivot", "column"] []
  F_pivoted : Fun K "pivoted" "pivoted" (topS 11) (ad 4) (fd 4)
  g_pivoted : mg "pivoted" = some (.ref (ad 4))
  b_pivoted : Binds K (fd 4) ["rows", "basis", "goal", "number", "column"] []
  F_lowered : Fun K "lowered" "lowered" (topS 13) (ad 6) (fd 6)
  g_lowered : mg "lowered" = some (.ref (ad 6))
  b_lowered : Binds K (fd 6) ["rows", "basis", "goal", "many"] []
  F_freed : Fun K "freed" "freed" (topS 14) (ad 7) (fd 7)
  g_freed : mg "freed" = some (.ref (ad 7))
  b_freed : Binds K (fd 7) ["rows", "basis", "goal", "many"] []
  F_lowest : Fun K "lowest" "lowest" (topS 8) (ad 1) (fd 1)
  g_lowest : mg "lowest" = some (.ref (ad 1))
  b_lowest : Binds K (fd 1) ["top", "under"] []
  F_least_sum : Fun K "least_sum" "least_sum" (topS 15) (ad 8) (fd 8)
  g_least_sum : mg "least_sum" = some (.ref (ad 8))
  b_least_sum : Binds K (fd 8) ["columns", "right", "costs"] []
  F_all_pairs : Fun K "all_pairs" "all_pairs" (topS 22) (ad 14) (fd 14)
  g_all_pairs : mg "all_pairs" = some (.ref (ad 14))
  b_all_pairs : Binds K (fd 14) ["many"] []
  F_marks_of : Fun K "marks_of" "marks_of" (topS 27) (ad 19) (fd 19)
  g_marks_of : mg "marks_of" = some (.ref (ad 19))
  b_marks_of : Binds K (fd 19) ["many", "cut"] []
  F_parts : Fun K "parts" "parts" (topS 23) (ad 15) (fd 15)
  g_parts : mg "parts" = some (.ref (ad 15))
  b_parts : Binds K (fd 15) ["first", "many"] []
  F_all_cuts : Fun K "all_cuts" "all_cuts" (topS 24) (ad 16) (fd 16)
  g_all_cuts : mg "all_cuts" = some (.ref (ad 16))
  b_all_cuts : Binds K (fd 16) ["many"] []
  F_as_weights : Fun K "as_weights" "as_weights" (topS 29) (ad 20) (fd 20)
  g_as_weights : mg "as_weights" = some (.ref (ad 20))
  b_as_weights : Binds K (fd 20) ["many", "factors"] []
  F_solved : Fun K "solved" "solved" (topS 30) (ad 21) (fd 21)
  g_solved : mg "solved" = some (.ref (ad 21))
  b_solved : Binds K (fd 21) ["table", "costs"] []
  F_lowest_cost : Fun K "lowest_cost" "lowest_cost" (topS 35) (ad 25) (fd 25)
  g_lowest_cost : mg "lowest_cost" = some (.ref (ad 25))
  b_lowest_cost : Binds K (fd 25) ["table", "costs"] []
  F_both_ends : Fun K "both_ends" "both_ends" (topS 37) (ad 27) (fd 27)
  g_both_ends : mg "both_ends" = some (.ref (ad 27))
  b_both_ends : Binds K (fd 27) ["table", "costs"] []
  F_weight_range : Fun K "weight_range" "weight_range" (topS 38) (ad 28) (fd 28)
  g_weight_range : mg "weight_range" = some (.ref (ad 28))
  b_weight_range : Binds K (fd 28) ["table", "cut"] []
  F_need_costs : Fun K "need_costs" "need_costs" (topS 34) (ad 24) (fd 24)
  g_need_costs : mg "need_costs" = some (.ref (ad 24))
  b_need_costs : Binds K (fd 24) ["many", "costs"] []
  F_least : Fun K "least" "least" (topS 36) (ad 26) (fd 26)
  g_least : mg "least" = some (.ref (ad 26))
  b_least : Binds K (fd 26) ["table", "costs"] []
  F_total_range : Fun K "total_range" "total_range" (topS 39) (ad 29) (fd 29)
  g_total_range : mg "total_range" = some (.ref (ad 29))
  b_total_range : Binds K (fd 29) ["table"] []
  F_law_divisor : Fun K "_law_divisor" "_law_divisor" (topS 49) (ad 38) (fd 38)
  g_law_divisor : mg "_law_divisor" = some (.ref (ad 38))
  b_law_divisor : Binds K (fd 38) ["one", "other"] []
  F_law_lowest : Fun K "_law_lowest" "_law_lowest" (topS 50) (ad 39) (fd 39)
  g_law_lowest : mg "_law_lowest" = some (.ref (ad 39))
  b_law_lowest : Binds K (fd 39) ["top", "under"] []
  F_law_plus : Fun K "_law_plus" "_law_plus" (topS 51) (ad 40) (fd 40)
  g_law_plus : mg "_law_plus" = some (.ref (ad 40))
  b_law_plus : Binds K (fd 40) ["one", "other"] []
  F_law_total : Fun K "_law_total" "_law_total" (topS 52) (ad 41) (fd 41)
  g_law_total : mg "_law_total" = some (.ref (ad 41))
  b_law_total : Binds K (fd 41) ["some"] []
  F_law_is_more : Fun K "_law_is_more" "_law_is_more" (topS 53) (ad 42) (fd 42)
  g_law_is_more : mg "_law_is_more" = some (.ref (ad 42))
  b_law_is_more : Binds K (fd 42) ["one", "other"] []
  F_law_drawn : Fun K "_law_drawn" "_law_drawn" (topS 42) (ad 31) (fd 31)
  g_law_drawn : mg "_law_drawn" = some (.ref (ad 31))
  b_law_drawn : Binds K (fd 31) ["cell", "k"] []
  F_law_roll : Fun K "_law_roll" "_law_roll" (topS 43) (ad 32) (fd 32)
  g_law_roll : mg "_law_roll" = some (.ref (ad 32))
  b_law_roll : Binds K (fd 32) ["dice", "many"] []
  F_free_costs : Fun K "free_costs" "free_costs" (topS 31) (ad 22) (fd 22)
  g_free_costs : mg "free_costs" = some (.ref (ad 22))
  b_free_costs : Binds K (fd 22) ["many"] []
  F_decomposition : Fun K "decomposition" "decomposition" (topS 32) (ad 23) (fd 23)
  g_decomposition : mg "decomposition" = some (.ref (ad 23))
  b_decomposition : Binds K (fd 23) ["table"] []
  F_law_cuts : Fun K "_law_cuts" "_law_cuts" (topS 46) (ad 35) (fd 35)
  g_law_cuts : mg "_law_cuts" = some (.ref (ad 35))
  b_law_cuts : Binds K (fd 35) ["many"] []
  F_law_pairs : Fun K "_law_pairs" "_law_pairs" (topS 45) (ad 34) (fd 34)
  g_law_pairs : mg "_law_pairs" = some (.ref (ad 34))
  b_law_pairs : Binds K (fd 34) ["many"] []
  F_law_marks : Fun K "_law_marks" "_law_marks" (topS 47) (ad 36) (fd 36)
  g_law_marks : mg "_law_marks" = some (.ref (ad 36))
  b_law_marks : Binds K (fd 36) ["many", "side"] []
  F_law_any_sum : Fun K "_law_any_sum" "_law_any_sum" (topS 48) (ad 37) (fd 37)
  g_law_any_sum : mg "_law_any_sum" = some (.ref (ad 37))
  b_law_any_sum : Binds K (fd 37) ["dice", "many", "turns"] []
  z_abs : mg "abs" = none
  z_all : mg "all" = none
  z_bool : mg "bool" = none
  z_enumerate : mg "enumerate" = none
  z_int : mg "int" = none
  z_isinstance : mg "isinstance" = none
  z_len : mg "len" = none
  z_list : mg "list" = none
  z_max : mg "max" = none
  z_min : mg "min" = none
  z_range : mg "range" = none
  z_sorted : mg "sorted" = none
  z_sum : mg "sum" = none
  z_tuple : mg "tuple" = none
  g_InvalidTable : mg "InvalidTable" = some (.ref (cl 0))
  g_InvalidCut : mg "InvalidCut" = some (.ref (cl 3))
  g_InvalidCosts : mg "InvalidCosts" = some (.ref (cl 6))
  g_NotDecomposable : mg "NotDecomposable" = some (.ref (cl 8))
  x_InvalidCosts : PySem.W.excIn K (cl 6) [.type "ValueError", .type "Exception", .type "BaseException", .type "object"] "ValueError.__new__" = true
  k_InvalidCosts : PySem.W.keepIn K (.ref (cl 6)) = true
  b_InvalidCosts : PySem.W.subIn K (.ref (cl 6)) (.type "BaseException") = some true
  t_InvalidCosts : PySem.W.typeIn K (.ref (cl 6)) = some (.type "type")
  x_InvalidCut : PySem.W.excIn K (cl 3) [.type "ValueError", .type "Exception", .type "BaseException", .type "object"] "ValueError.__new__" = true
  k_InvalidCut : PySem.W.keepIn K (.ref (cl 3)) = true
  b_InvalidCut : PySem.W.subIn K (.ref (cl 3)) (.type "BaseException") = some true
  t_InvalidCut : PySem.W.typeIn K (.ref (cl 3)) = some (.type "type")
  x_InvalidTable : PySem.W.excIn K (cl 0) [.type "ValueError", .type "Exception", .type "BaseException", .type "object"] "ValueError.__new__" = true
  k_InvalidTable : PySem.W.keepIn K (.ref (cl 0)) = true
  b_InvalidTable : PySem.W.subIn K (.ref (cl 0)) (.type "BaseException") = some true
  t_InvalidTable : PySem.W.typeIn K (.ref (cl 0)) = some (.type "type")
  x_NotDecomposable : PySem.W.excIn K (cl 8) [.type "ValueError", .type "Exception", .type "BaseException", .type "object"] "ValueError.__new__" = true
  k_NotDecomposable : PySem.W.keepIn K (.ref (cl 8)) = true
  b_NotDecomposable : PySem.W.subIn K (.ref (cl 8)) (.type "BaseException") = some true
  t_NotDecomposable : PySem.W.typeIn K (.ref (cl 8)) = some (.type "type")
abbrev s_law_cell : Stmt := topS 41
theorem sc_law_cell : FnScope ["script", "k"] ["script", "k"] (defScope s_law_cell) := ⟨rfl, rfl, rfl, by decide +kernel, rfl, by decide +kernel, by decide +kernel⟩
abbrev s_law_rounds : Stmt := topS 44
theorem sc_law_rounds : FnScope ["script", "most", "k"] ["script", "most"] (defScope s_law_rounds) := ⟨rfl, rfl, rfl, by decide +kernel, rfl, by decide +kernel, by decide +kernel⟩
abbrev s_law_as_dict : Stmt := topS 54
theorem sc_law_as_dict : FnScope ["weights", "found", "side", "weight"] ["weights"] (defScope s_law_as_dict) := ⟨rfl, rfl, rfl, by decide +kernel, rfl, by decide +kernel, by decide +kernel⟩
def b_law_as_dict : List Sl → Unit → Fl Unit := (sSeq (sNewD 1)
    (sSeq (sFor (iOf (eVar 0)) (bTup [2, 3]) (sPutD 1 (eVar 2) (eVar 3)))
    (sFrz 1 (sRet (eVar 1)))))
def m_law_as_dict : List W → Unit → Rs Unit W := mDef 4 (b_law_as_dict)
abbrev s_is_whole : Stmt := topS 17
theorem sc_is_whole : FnScope ["value", "low", "high"] ["value", "low", "high"] (defScope s_is_whole) := ⟨rfl, rfl, rfl, by decide +kernel, rfl, by decide +kernel, by decide +kernel⟩
def b_is_whole : List Sl → Unit → Fl Unit := (sRet (eAndV (eIsi .int (eVar 0)) (eAndV (eUn bNot (eIsi .bool (eVar 0))) (eChain pyLe pyLe (eVar 1) (eVar 0) (eVar 2)))))
def m_is_whole : List W → Unit → Rs Unit W := mDef 3 (b_is_whole)
abbrev s_is_shaped : Stmt := topS 19
theorem sc_is_shaped : FnScope ["value"] ["value"] (defScope s_is_shaped) := ⟨rfl, rfl, rfl, by decide +kernel, rfl, by decide +kernel, by decide +kernel⟩
def b_is_shaped : List Sl → Unit → Fl Unit := (sSeq (sIf (tOrT (tNotT (eTest (eIsi .tuple (eVar 0)))) (tOrT (eTest (eOp pyNe (eB pyLen (aCons (eVar 0) aNil)) (eC (.int 2)))) (tNotT (eTest (eP (lenIs 3 m_is_whole) (aCons (eOp pyIx (eVar 0) (eC (.int 0))) (aCons (eC (.int 2)) (aCons (eC (.int 6)) aNil)))))))) (sRet (eC (.bool false))) sNext)
    (sRet (eAndV (eIsi .tuple (eOp pyIx (eVar 0) (eC (.int 1)))) (eOp pyEq (eB pyLen (aCons (eOp pyIx (eVar 0) (eC (.int 1))) aNil)) (eOp pyFdiv (eOp pyMul (eOp pyIx (eVar 0) (eC (.int 0))) (eOp pySub (eOp pyIx (eVar 0) (eC (.int 0))) (eC (.int 1)))) (eC (.int 2)))))))
def m_is_shaped : List W → Unit → Rs Unit W := mDef 1 (b_is_shaped)
abbrev s_is_distance : Stmt := topS 18
theorem sc_is_distance : FnScope ["value"] ["value"] (defScope s_is_distance) := ⟨rfl, rfl, rfl, by decide +kernel, rfl, by decide +kernel, by decide +kernel⟩
def b_is_distance : List Sl → Unit → Fl Unit := (sRet (eP (lenIs 3 m_is_whole) (aCons (eVar 0) (aCons (eC (.int 0)) (aCons (eC (.int 99)) aNil)))))
def m_is_distance : List W → Unit → Rs Unit W := mDef 1 (b_is_distance)
abbrev s_is_table : Stmt := topS 20
theorem sc_is_table : FnScope ["value", "one"] ["value"] (defScope s_is_table) := ⟨rfl, rfl, rfl, by decide +kernel, rfl, by decide +kernel, by decide +kernel⟩
def b_is_table : List Sl → Unit → Fl Unit := (sRet (eAndV (eP (lenIs 1 m_is_shaped) (aCons (eVar 0) aNil)) (eB pyAll (aCons (eComp (iOf (eOp pyIx (eVar 0) (eC (.int 1)))) [1] (bName 1) yes (eP (lenIs 1 m_is_distance) (aCons (eVar 1) aNil))) aNil))))
def m_is_table : List W → Unit → Rs Unit W := mDef 2 (b_is_table)
abbrev s_need_table : Stmt := topS 21
theorem sc_need_table : FnScope ["table"] ["table"] (defScope s_need_table) := ⟨rfl, rfl, rfl, by decide +kernel, rfl, by decide +kernel, by decide +kernel⟩
def b_need_table : List Sl → Unit → Fl Unit := (sIf (tNotT (eTest (eP (lenIs 1 m_is_table) (aCons (eVar 0) aNil)))) (sRaise 0) sNext)
def m_need_table : List W → Unit → Rs Unit W := mDef 1 (b_need_table)
abbrev s_is_cut : Stmt := topS 25
theorem sc_is_cut : FnScope ["many", "value", "item", "place"] ["many", "value"] (defScope s_is_cut) := ⟨rfl, rfl, rfl, by decide +kernel, rfl, by decide +kernel, by decide +kernel⟩
def b_is_cut : List Sl → Unit → Fl Unit := (sSeq (sIf (tOrT (tNotT (eTest (eIsi .tuple (eVar 1)))) (tOrT (eTest (eOp pyEq (eVar 1) (eTup aNil))) (tNotT (eTest (eB pyAll (aCons (eComp (iOf (eVar 1)) [2] (bName 2) yes (eP (lenIs 3 m_is_whole) (aCons (eVar 2) (aCons (eC (.int 1)) (aCons (eOp pySub (eVar 0) (eC (.int 1))) aNil))))) aNil)))))) (sRet (eC (.bool false))) sNext)
    (sRet (eB pyAll (aCons (eComp (iRange1 (aCons (eOp pySub (eB pyLen (aCons (eVar 1) aNil)) (eC (.int 1))) aNil)) [3] (bName 3) yes (eOp pyLt (eOp pyIx (eVar 1) (eVar 3)) (eOp pyIx (eVar 1) (eOp pyAdd (eVar 3) (eC (.int 1)))))) aNil))))
def m_is_cut : List W → Unit → Rs Unit W := mDef 4 (b_is_cut)
abbrev s_need_cut : Stmt := topS 26
theorem sc_need_cut : FnScope ["many", "cut"] ["many", "cut"] (defScope s_need_cut) := ⟨rfl, rfl, rfl, by decide +kernel, rfl, by decide +kernel, by decide +kernel⟩
def b_need_cut : List Sl → Unit → Fl Unit := (sIf (tNotT (eTest (eP (lenIs 2 m_is_cut) (aCons (eVar 0) (aCons (eVar 1) aNil))))) (sRaise 3) sNext)
def m_need_cut : List W → Unit → Rs Unit W := mDef 2 (b_need_cut)
abbrev s_leaving : Stmt := topS 12
theorem sc_leaving : FnScope ["rows", "basis", "column", "best", "number", "row", "gap"] ["rows", "basis", "column"] (defScope s_leaving) := ⟨rfl, rfl, rfl, by decide +kernel, rfl, by decide +kernel, by decide +kernel⟩
def b_leaving : List Sl → Unit → Fl Unit := (sSeq (sAsg 3 (eC .none))
    (sSeq (sFor (iEnumM (aCons (eVar 0) aNil)) (bTup [4, 5]) (sIf (eTest (eOp pyGt (eOp pyIx (eVar 5) (eVar 2)) (eC (.int 0)))) (sIf (eTest (eOp pyIs (eVar 3) (eC .none))) (sAsg 3 (eVar 4)) (sSeq (sAsg 6 (eOp pySub (eOp pyMul (eOp pyIx (eVar 5) (eUn pyNeg (eC (.int 1)))) (eOp pyIx (eOp pyIx (eVar 0) (eVar 3)) (eVar 2))) (eOp pyMul (eOp pyIx (eOp pyIx (eVar 0) (eVar 3)) (eUn pyNeg (eC (.int 1)))) (eOp pyIx (eVar 5) (eVar 2)))))
    (sIf (tOrT (eTest (eOp pyLt (eVar 6) (eC (.int 0)))) (tAndT (eTest (eOp pyEq (eVar 6) (eC (.int 0)))) (eTest (eOp pyLt (eOp pyIx (eVar 1) (eVar 4)) (eOp pyIx (eVar 1) (eVar 3)))))) (sAsg 3 (eVar 4)) sNext))) sNext))
    (sRet (eVar 3))))
def m_leaving : List W → Unit → Rs Unit W := mDef 7 (b_leaving)
abbrev s_divisor : Stmt := topS 7
theorem sc_divisor : FnScope ["one", "other"] ["one", "other"] (defScope s_divisor) := ⟨rfl, rfl, rfl, by decide +kernel, rfl, by decide +kernel, by decide +kernel⟩
def b_divisor : List Sl → Unit → Fl Unit := (sSeq (sPar 0 1 (aCons (eB pyAbs (aCons (eVar 0) aNil)) (aCons (eB pyAbs (aCons (eVar 1) aNil)) aNil)))
    (sSeq (sWhile (fun σ _ => fuelAt 1 σ) (eTruth (eVar 1)) (sPar 0 1 (aCons (eVar 1) (aCons (eOp pyMod (eVar 0) (eVar 1)) aNil))))
    (sRet (eVar 0))))
def m_divisor : List W → Unit → Rs Unit W := mDef 2 (b_divisor)
abbrev s_reduced : Stmt := topS 9
theorem sc_reduced : FnScope ["row", "common", "number"] ["row"] (defScope s_reduced) := ⟨rfl, rfl, rfl, by decide +kernel, rfl, by decide +kernel, by decide +kernel⟩
def b_reduced : List Sl → Unit → Fl Unit := (sSeq (sAsg 1 (eC (.int 0)))
    (sSeq (sFor (iOf (eVar 0)) (bName 2) (sAsg 1 (eP (lenIs 2 m_divisor) (aCons (eVar 2) (aCons (eVar 1) aNil)))))
    (sRet (eIf (eTest (eOp pyGt (eVar 1) (eC (.int 1)))) (eComp (iOf (eVar 0)) [2] (bName 2) yes (eOp pyFdiv (eVar 2) (eVar 1))) (eVar 0)))))
def m_reduced : List W → Unit → Rs Unit W := mDef 3 (b_reduced)
abbrev s_cleared : Stmt := topS 10
theorem sc_cleared : FnScope ["row", "pivot", "column", "scale", "factor", "place", "number"] ["row", "pivot", "column"] (defScope s_cleared) := ⟨rfl, rfl, rfl, by decide +kernel, rfl, by decide +kernel, by decide +kernel⟩
def b_cleared : List Sl → Unit → Fl Unit := (sSeq (sIf (eTest (eOp pyEq (eOp pyIx (eVar 0) (eVar 2)) (eC (.int 0)))) (sRet (eVar 0)) sNext)
    (sSeq (sAsgT [3, 4] (eTup (aCons (eOp pyIx (eVar 1) (eVar 2)) (aCons (eOp pyIx (eVar 0) (eVar 2)) aNil))))
    (sRet (eP (lenIs 1 m_reduced) (aCons (eComp (iEnumM (aCons (eVar 0) aNil)) [5, 6] (bTup [5, 6]) yes (eOp pySub (eOp pyMul (eVar 6) (eVar 3)) (eOp pyMul (eOp pyIx (eVar 1) (eVar 5)) (eVar 4)))) aNil)))))
def m_cleared : List W → Unit → Rs Unit W := mDef 7 (b_cleared)
abbrev s_pivoted : Stmt := topS 11
theorem sc_pivoted : FnScope ["rows", "basis", "goal", "number", "column", "pivot", "made", "at", "row"] ["rows", "basis", "goal", "number", "column"] (defScope s_pivoted) := ⟨rfl, rfl, rfl, by decide +kernel, rfl, by decide +kernel, by decide +kernel⟩
def b_pivoted : List Sl → Unit → Fl Unit := (sSeq (sAsg 5 (eOp pyIx (eVar 0) (eVar 3)))
    (sSeq (sAsg 6 (eComp (iEnumM (aCons (eVar 0) aNil)) [7, 8] (bTup [7, 8]) yes (eIf (eTest (eOp pyEq (eVar 7) (eVar 3))) (eVar 8) (eP (lenIs 3 m_cleared) (aCons (eVar 8) (aCons (eVar 5) (aCons (eVar 4) aNil)))))))
    (sRet (eTup (aCons (eVar 6) (aCons (eOp pyAdd (eOp pyAdd (eSl (eVar 1) oNo (oPart (eVar 3))) (eLst (aCons (eVar 4) aNil))) (eSl (eVar 1) (oPart (eOp pyAdd (eVar 3) (eC (.int 1)))) oNo)) (aCons (eP (lenIs 3 m_cleared) (aCons (eVar 2) (aCons (eVar 5) (aCons (eVar 4) aNil)))) aNil)))))))
def m_pivoted : List W → Unit → Rs Unit W := mDef 9 (b_pivoted)
abbrev s_lowered : Stmt := topS 13
theorem sc_lowered : FnScope ["rows", "basis", "goal", "many", "better", "column", "number"] ["rows", "basis", "goal", "many"] (defScope s_lowered) := ⟨rfl, rfl, rfl, by decide +kernel, rfl, by decide +kernel, by decide +kernel⟩
def b_lowered (FU : Nat) : List Sl → Unit → Fl Unit := (sWhile (fun _ _ => FU) (eTest (eC (.bool true))) (sSeq (sAsg 4 (eComp (iRange1 (aCons (eVar 3) aNil)) [5] (bName 5) (eTest (eOp pyLt (eOp pyIx (eVar 2) (eVar 5)) (eC (.int 0)))) (eVar 5)))
    (sSeq (sIf (eTest (eOp pyEq (eVar 4) (eLst aNil))) (sRet (eTup (aCons (eVar 0) (aCons (eVar 1) (aCons (eVar 2) (aCons (eC (.bool true)) aNil)))))) sNext)
    (sSeq (sAsg 6 (eP (lenIs 3 m_leaving) (aCons (eVar 0) (aCons (eVar 1) (aCons (eOp pyIx (eVar 4) (eC (.int 0))) aNil)))))
    (sSeq (sIf (eTest (eOp pyIs (eVar 6) (eC .none))) (sRet (eTup (aCons (eVar 0) (aCons (eVar 1) (aCons (eVar 2) (aCons (eC (.bool false)) aNil)))))) sNext)
    (sAsgT [0, 1, 2] (eP (lenIs 5 m_pivoted) (aCons (eVar 0) (aCons (eVar 1) (aCons (eVar 2) (aCons (eVar 6) (aCons (eOp pyIx (eVar 4) (eC (.int 0))) aNil))))))))))))
def m_lowered (FU : Nat) : List W → Unit → Rs Unit W := mDef 7 (b_lowered FU)
abbrev s_freed : Stmt := topS 14
theorem sc_freed : FnScope ["rows", "basis", "goal", "many", "number", "columns", "column", "one"] ["rows", "basis", "goal", "many"] (defScope s_freed) := ⟨rfl, rfl, rfl, by decide +kernel, rfl, by decide +kernel, by decide +kernel⟩
def b_freed : List Sl → Unit → Fl Unit := (sSeq (sFor (iRange1 (aCons (eB pyLen (aCons (eVar 0) aNil)) aNil)) (bName 4) (sSeq (sAsg 5 (eComp (iRange1 (aCons (eVar 3) aNil)) [6] (bName 6) (eTest (eOp pyNe (eOp pyIx (eOp pyIx (eVar 0) (eVar 4)) (eVar 6)) (eC (.int 0)))) (eVar 6)))
    (sIf (tAndT (eTest (eOp pyGe (eOp pyIx (eVar 1) (eVar 4)) (eVar 3))) (eTest (eOp pyNe (eVar 5) (eLst aNil)))) (sSeq (sIf (eTest (eOp pyLt (eOp pyIx (eOp pyIx (eVar 0) (eVar 4)) (eOp pyIx (eVar 5) (eC (.int 0)))) (eC (.int 0)))) (sAsg 0 (eOp pyAdd (eOp pyAdd (eSl (eVar 0) oNo (oPart (eVar 4))) (eLst (aCons (eComp (iOf (eOp pyIx (eVar 0) (eVar 4))) [7] (bName 7) yes (eUn pyNeg (eVar 7))) aNil))) (eSl (eVar 0) (oPart (eOp pyAdd (eVar 4) (eC (.int 1)))) oNo))) sNext)
    (sAsgT [0, 1, 2] (eP (lenIs 5 m_pivoted) (aCons (eVar 0) (aCons (eVar 1) (aCons (eVar 2) (aCons (eVar 4) (aCons (eOp pyIx (eVar 5) (eC (.int 0))) aNil)))))))) sNext)))
    (sRet (eTup (aCons (eVar 0) (aCons (eVar 1) (aCons (eVar 2) aNil))))))
def m_freed : List W → Unit → Rs Unit W := mDef 8 (b_freed)
abbrev s_lowest : Stmt := topS 8
theorem sc_lowest : FnScope ["top", "under", "common"] ["top", "under"] (defScope s_lowest) := ⟨rfl, rfl, rfl, by decide +kernel, rfl, by decide +kernel, by decide +kernel⟩
def b_lowest : List Sl → Unit → Fl Unit := (sSeq (sAsg 2 (eP (lenIs 2 m_divisor) (aCons (eVar 0) (aCons (eVar 1) aNil))))
    (sRet (eTup (aCons (eOp pyFdiv (eVar 0) (eVar 2)) (aCons (eOp pyFdiv (eVar 1) (eVar 2)) aNil)))))
def m_lowest : List W → Unit → Rs Unit W := mDef 3 (b_lowest)
abbrev s_least_sum : Stmt := topS 15
theorem sc_least_sum : FnScope ["columns", "right", "costs", "many", "size", "rows", "place", "put_in", "other", "column", "basis", "goal", "is_bound", "number", "factors", "prices"] ["columns", "right", "costs"] (defScope s_least_sum) := ⟨rfl, rfl, rfl, by decide +kernel, rfl, by decide +kernel, by decide +kernel⟩
def b_least_sum (FU : Nat) : List Sl → Unit → Fl Unit := (sSeq (sAsgT [3, 4] (eTup (aCons (eB pyLen (aCons (eVar 0) aNil)) (aCons (eB pyLen (aCons (eVar 1) aNil)) aNil))))
    (sSeq (sAsgO 5 (eLst aNil))
    (sSeq (sFor (iRange1 (aCons (eVar 4) aNil)) (bName 6) (sSeq (sAsg 7 (eComp (iRange1 (aCons (eVar 4) aNil)) [8] (bName 8) yes (eIf (eTest (eOp pyEq (eVar 6) (eVar 8))) (eC (.int 1)) (eC (.int 0)))))
    (sApp 5 (eOp pyAdd (eOp pyAdd (eComp (iOf (eVar 0)) [9] (bName 9) yes (eOp pyIx (eVar 9) (eVar 6))) (eVar 7)) (eLst (aCons (eC (.int 0)) (aCons (eOp pyIx (eVar 1) (eVar 6)) aNil)))))))
    (sSeq (sAsg 10 (eComp (iRange1 (aCons (eVar 4) aNil)) [6] (bName 6) yes (eOp pyAdd (eVar 3) (eVar 6))))
    (sSeq (sAsg 11 (eOp pyAdd (eOp pyAdd (eComp (iOf (eVar 0)) [9] (bName 9) yes (eUn pyNeg (eB pySumA (aCons (eVar 9) aNil)))) (eOp pyMul (eLst (aCons (eC (.int 0)) aNil)) (eVar 4))) (eLst (aCons (eC (.int 1)) (aCons (eUn pyNeg (eB pySumA (aCons (eVar 1) aNil))) aNil)))))
    (sSeq (sFrz 5 (sAsgT [5, 10, 11, 12] (eP (lenIs 4 (m_lowered FU)) (aCons (eVar 5) (aCons (eVar 10) (aCons (eVar 11) (aCons (eVar 3) aNil)))))))
    (sSeq (sIf (eTest (eOp pyLt (eOp pyIx (eVar 11) (eUn pyNeg (eC (.int 1)))) (eC (.int 0)))) (sRet (eTup (aCons (eC (.str "none")) (aCons (eC .none) (aCons (eLst aNil) (aCons (eP (lenIs 1 m_reduced) (aCons (eComp (iRange1 (aCons (eVar 4) aNil)) [6] (bName 6) yes (eOp pySub (eOp pyIx (eVar 11) (eUn pyNeg (eC (.int 2)))) (eOp pyIx (eVar 11) (eOp pyAdd (eVar 3) (eVar 6))))) aNil)) aNil)))))) sNext)
    (sSeq (sFrz 5 (sAsgT [5, 10, 11] (eP (lenIs 4 m_freed) (aCons (eVar 5) (aCons (eVar 10) (aCons (eVar 11) (aCons (eVar 3) aNil)))))))
    (sSeq (sAsg 11 (eOp pyAdd (eOp pyAdd (eB pyListOf (aCons (eVar 2) aNil)) (eOp pyMul (eLst (aCons (eC (.int 0)) aNil)) (eVar 4))) (eLst (aCons (eC (.int 1)) (aCons (eC (.int 0)) aNil)))))
    (sSeq (sFor (iEnumM (aCons (eVar 10) aNil)) (bTup [13, 9]) (sAsg 11 (eP (lenIs 3 m_cleared) (aCons (eVar 11) (aCons (eIxO 5 (eVar 13)) (aCons (eVar 9) aNil))))))
    (sSeq (sFrz 5 (sAsgT [5, 10, 11, 12] (eP (lenIs 4 (m_lowered FU)) (aCons (eVar 5) (aCons (eVar 10) (aCons (eVar 11) (aCons (eVar 3) aNil)))))))
    (sSeq (sAsgO 14 (eOp pyMulL (eLst (aCons (eTup (aCons (eC (.int 0)) (aCons (eC (.int 1)) aNil))) aNil)) (eVar 3)))
    (sSeq (sFor (iEnumM (aCons (eVar 10) aNil)) (bTup [13, 9]) (sIf (eTest (eOp pyLt (eVar 9) (eVar 3))) (sSetO 14 (eVar 9) (eP (lenIs 2 m_lowest) (aCons (eOp pyIx (eIxO 5 (eVar 13)) (eUn pyNeg (eC (.int 1)))) (aCons (eOp pyIx (eIxO 5 (eVar 13)) (eVar 9)) aNil)))) sNext))
    (sSeq (sIf (tNotT (eTest (eVar 12))) (sFrz 14 (sRet (eTup (aCons (eC (.str "open")) (aCons (eC .none) (aCons (eVar 14) (aCons (eLst aNil) aNil))))))) sNext)
    (sSeq (sAsg 15 (eComp (iRange1 (aCons (eVar 4) aNil)) [6] (bName 6) yes (eP (lenIs 2 m_lowest) (aCons (eUn pyNeg (eOp pyIx (eVar 11) (eOp pyAdd (eVar 3) (eVar 6)))) (aCons (eOp pyIx (eVar 11) (eUn pyNeg (eC (.int 2)))) aNil)))))
    (sFrz 14 (sRet (eTup (aCons (eC (.str "least")) (aCons (eP (lenIs 2 m_lowest) (aCons (eUn pyNeg (eOp pyIx (eVar 11) (eUn pyNeg (eC (.int 1))))) (aCons (eOp pyIx (eVar 11) (eUn pyNeg (eC (.int 2)))) aNil))) (aCons (eVar 14) (aCons (eVar 15) aNil))))))))))))))))))))))
def m_least_sum (FU : Nat) : List W → Unit → Rs Unit W := mDef 16 (b_least_sum FU)
abbrev s_all_pairs : Stmt := topS 22
theorem sc_all_pairs : FnScope ["many", "found", "i", "j"] ["many"] (defScope s_all_pairs) := ⟨rfl, rfl, rfl, by decide +kernel, rfl, by decide +kernel, by decide +kernel⟩
def b_all_pairs : List Sl → Unit → Fl Unit := (sSeq (sAsg 1 (eLst aNil))
    (sSeq (sFor (iRange1 (aCons (eVar 0) aNil)) (bName 2) (sAsg 1 (eOp pyAdd (eVar 1) (eComp (iRange2 (aCons (eOp pyAdd (eVar 2) (eC (.int 1))) (aCons (eVar 0) aNil))) [3] (bName 3) yes (eTup (aCons (eVar 2) (aCons (eVar 3) aNil)))))))
    (sRet (eVar 1))))
def m_all_pairs : List W → Unit → Rs Unit W := mDef 4 (b_all_pairs)
abbrev s_marks_of : Stmt := topS 27
theorem sc_marks_of : FnScope ["many", "cut", "i", "j"] ["many", "cut"] (defScope s_marks_of) := ⟨rfl, rfl, rfl, by decide +kernel, rfl, by decide +kernel, by decide +kernel⟩
def b_marks_of : List Sl → Unit → Fl Unit := (sRet (eB pyTupleOf (aCons (eComp (iOf (eP (lenIs 1 m_all_pairs) (aCons (eVar 0) aNil))) [2, 3] (bTup [2, 3]) yes (eIf (eTest (eOp pyNe (eOp pyIn (eVar 2) (eVar 1)) (eOp pyIn (eVar 3) (eVar 1)))) (eC (.int 1)) (eC (.int 0)))) aNil)))
def m_marks_of : List W → Unit → Rs Unit W := mDef 4 (b_marks_of)
abbrev s_parts : Stmt := topS 23
theorem sc_parts : FnScope ["first", "many", "later", "part"] ["first", "many"] (defScope s_parts) := ⟨rfl, rfl, rfl, by decide +kernel, rfl, by decide +kernel, by decide +kernel⟩
def b_parts (me : List W → Unit → Rs Unit W) : List Sl → Unit → Fl Unit := (sSeq (sIf (eTest (eOp pyEq (eVar 0) (eVar 1))) (sRet (eLst (aCons (eTup aNil) aNil))) sNext)
    (sSeq (sAsg 2 (eP (lenIs 2 me) (aCons (eOp pyAdd (eVar 0) (eC (.int 1))) (aCons (eVar 1) aNil))))
    (sRet (eB pySorted (aCons (eOp pyAdd (eVar 2) (eComp (iOf (eVar 2)) [3] (bName 3) yes (eOp pyAdd (eTup (aCons (eVar 0) aNil)) (eVar 3)))) aNil)))))
def m_parts : Nat → List W → Unit → Rs Unit W
  | 0 => fun _ _ => .stuck
  | n + 1 => mDef 4 (b_parts (m_parts n))
abbrev s_all_cuts : Stmt := topS 24
theorem sc_all_cuts : FnScope ["many", "part"] ["many"] (defScope s_all_cuts) := ⟨rfl, rfl, rfl, by decide +kernel, rfl, by decide +kernel, by decide +kernel⟩
def b_all_cuts : List Sl → Unit → Fl Unit := (sRet (eComp (iOf (eP (lenIs 2 (m_parts 8)) (aCons (eC (.int 1)) (aCons (eVar 0) aNil)))) [1] (bName 1) (eTest (eOp pyNe (eVar 1) (eTup aNil))) (eVar 1)))
def m_all_cuts : List W → Unit → Rs Unit W := mDef 2 (b_all_cuts)
abbrev s_as_weights : Stmt := topS 29
theorem sc_as_weights : FnScope ["many", "factors", "found", "place", "cut"] ["many", "factors"] (defScope s_as_weights) := ⟨rfl, rfl, rfl, by decide +kernel, rfl, by decide +kernel, by decide +kernel⟩
def b_as_weights : List Sl → Unit → Fl Unit := (sSeq (sAsg 2 (eP (lenIs 1 m_all_cuts) (aCons (eVar 0) aNil)))
    (sRet (eB pyTupleOf (aCons (eComp (iEnumM (aCons (eVar 2) aNil)) [3, 4] (bTup [3, 4]) (eTest (eOp pyGt (eOp pyIx (eOp pyIx (eVar 1) (eVar 3)) (eC (.int 0))) (eC (.int 0)))) (eTup (aCons (eVar 4) (aCons (eOp pyIx (eVar 1) (eVar 3)) aNil)))) aNil))))
def m_as_weights : List W → Unit → Rs Unit W := mDef 5 (b_as_weights)
abbrev s_solved : Stmt := topS 30
theorem sc_solved : FnScope ["table", "costs", "many", "columns", "cut", "word", "value", "factors", "prices"] ["table", "costs"] (defScope s_solved) := ⟨rfl, rfl, rfl, by decide +kernel, rfl, by decide +kernel, by decide +kernel⟩
def b_solved (FU : Nat) : List Sl → Unit → Fl Unit := (sSeq (sAsg 2 (eOp pyIx (eVar 0) (eC (.int 0))))
    (sSeq (sAsg 3 (eComp (iOf (eP (lenIs 1 m_all_cuts) (aCons (eVar 2) aNil))) [4] (bName 4) yes (eP (lenIs 2 m_marks_of) (aCons (eVar 2) (aCons (eVar 4) aNil)))))
    (sSeq (sAsgT [5, 6, 7, 8] (eP (lenIs 3 (m_least_sum FU)) (aCons (eVar 3) (aCons (eOp pyIx (eVar 0) (eC (.int 1))) (aCons (eVar 1) aNil)))))
    (sRet (eTup (aCons (eVar 5) (aCons (eVar 6) (aCons (eIf (eTest (eOp pyEq (eVar 5) (eC (.str "least")))) (eP (lenIs 2 m_as_weights) (aCons (eVar 2) (aCons (eVar 7) aNil))) (eTup aNil)) (aCons (eVar 8) aNil)))))))))
def m_solved (FU : Nat) : List W → Unit → Rs Unit W := mDef 9 (b_solved FU)
abbrev s_lowest_cost : Stmt := topS 35
theorem sc_lowest_cost : FnScope ["table", "costs", "word", "value", "weights", "prices"] ["table", "costs"] (defScope s_lowest_cost) := ⟨rfl, rfl, rfl, by decide +kernel, rfl, by decide +kernel, by decide +kernel⟩
def b_lowest_cost (FU : Nat) : List Sl → Unit → Fl Unit := (sSeq (sAsgT [2, 3, 4, 5] (eP (lenIs 2 (m_solved FU)) (aCons (eVar 0) (aCons (eVar 1) aNil))))
    (sSeq (sIf (eTest (eOp pyNe (eVar 2) (eC (.str "least")))) (sRaise 8) sNext)
    (sRet (eTup (aCons (eVar 3) (aCons (eVar 4) (aCons (eB pyTupleOf (aCons (eVar 5) aNil)) aNil)))))))
def m_lowest_cost (FU : Nat) : List W → Unit → Rs Unit W := mDef 6 (b_lowest_cost FU)
abbrev s_both_ends : Stmt := topS 37
theorem sc_both_ends : FnScope ["table", "costs", "low", "high", "cost"] ["table", "costs"] (defScope s_both_ends) := ⟨rfl, rfl, rfl, by decide +kernel, rfl, by decide +kernel, by decide +kernel⟩
def b_both_ends (FU : Nat) : List Sl → Unit → Fl Unit := (sSeq (sAsg 2 (eOp pyIx (eP (lenIs 2 (m_lowest_cost FU)) (aCons (eVar 0) (aCons (eVar 1) aNil))) (eC (.int 0))))
    (sSeq (sAsg 3 (eOp pyIx (eP (lenIs 2 (m_lowest_cost FU)) (aCons (eVar 0) (aCons (eComp (iOf (eVar 1)) [4] (bName 4) yes (eUn pyNeg (eVar 4))) aNil))) (eC (.int 0))))
    (sRet (eTup (aCons (eVar 2) (aCons (eTup (aCons (eUn pyNeg (eOp pyIx (eVar 3) (eC (.int 0)))) (aCons (eOp pyIx (eVar 3) (eC (.int 1))) aNil))) aNil))))))
def m_both_ends (FU : Nat) : List W → Unit → Rs Unit W := mDef 5 (b_both_ends FU)
abbrev s_weight_range : Stmt := topS 38
theorem sc_weight_range : FnScope ["table", "cut", "one"] ["table", "cut"] (defScope s_weight_range) := ⟨rfl, rfl, rfl, by decide +kernel, rfl, by decide +kernel, by decide +kernel⟩
def b_weight_range (FU : Nat) : List Sl → Unit → Fl Unit := (sSeq (sDrop (eP (lenIs 1 m_need_table) (aCons (eVar 0) aNil)))
    (sSeq (sDrop (eP (lenIs 2 m_need_cut) (aCons (eOp pyIx (eVar 0) (eC (.int 0))) (aCons (eVar 1) aNil))))
    (sRet (eP (lenIs 2 (m_both_ends FU)) (aCons (eVar 0) (aCons (eComp (iOf (eP (lenIs 1 m_all_cuts) (aCons (eOp pyIx (eVar 0) (eC (.int 0))) aNil))) [2] (bName 2) yes (eIf (eTest (eOp pyEq (eVar 2) (eVar 1))) (eC (.int 1)) (eC (.int 0)))) aNil))))))
def m_weight_range (FU : Nat) : List W → Unit → Rs Unit W := mDef 3 (b_weight_range FU)
abbrev s_need_costs : Stmt := topS 34
theorem sc_need_costs : FnScope ["many", "costs", "cost"] ["many", "costs"] (defScope s_need_costs) := ⟨rfl, rfl, rfl, by decide +kernel, rfl, by decide +kernel, by decide +kernel⟩
def b_need_costs : List Sl → Unit → Fl Unit := (sSeq (sIf (tOrT (tNotT (eTest (eIsi .tuple (eVar 1)))) (eTest (eOp pyNe (eB pyLen (aCons (eVar 1) aNil)) (eB pyLen (aCons (eP (lenIs 1 m_all_cuts) (aCons (eVar 0) aNil)) aNil))))) (sRaise 6) sNext)
    (sIf (tNotT (eTest (eB pyAll (aCons (eComp (iOf (eVar 1)) [2] (bName 2) yes (eP (lenIs 3 m_is_whole) (aCons (eVar 2) (aCons (eUn pyNeg (eC (.int 9))) (aCons (eC (.int 9)) aNil))))) aNil)))) (sRaise 6) sNext))
def m_need_costs : List W → Unit → Rs Unit W := mDef 3 (b_need_costs)
abbrev s_least : Stmt := topS 36
theorem sc_least : FnScope ["table", "costs"] ["table", "costs"] (defScope s_least) := ⟨rfl, rfl, rfl, by decide +kernel, rfl, by decide +kernel, by decide +kernel⟩
def b_least (FU : Nat) : List Sl → Unit → Fl Unit := (sSeq (sDrop (eP (lenIs 1 m_need_table) (aCons (eVar 0) aNil)))
    (sSeq (sDrop (eP (lenIs 2 m_need_costs) (aCons (eOp pyIx (eVar 0) (eC (.int 0))) (aCons (eVar 1) aNil))))
    (sRet (eP (lenIs 2 (m_lowest_cost FU)) (aCons (eVar 0) (aCons (eVar 1) aNil))))))
def m_least (FU : Nat) : List W → Unit → Rs Unit W := mDef 2 (b_least FU)
abbrev s_total_range : Stmt := topS 39
theorem sc_total_range : FnScope ["table", "cut"] ["table"] (defScope s_total_range) := ⟨rfl, rfl, rfl, by decide +kernel, rfl, by decide +kernel, by decide +kernel⟩
def b_total_range (FU : Nat) : List Sl → Unit → Fl Unit := (sSeq (sDrop (eP (lenIs 1 m_need_table) (aCons (eVar 0) aNil)))
    (sRet (eP (lenIs 2 (m_both_ends FU)) (aCons (eVar 0) (aCons (eComp (iOf (eP (lenIs 1 m_all_cuts) (aCons (eOp pyIx (eVar 0) (eC (.int 0))) aNil))) [1] (bName 1) yes (eC (.int 1))) aNil)))))
def m_total_range (FU : Nat) : List W → Unit → Rs Unit W := mDef 2 (b_total_range FU)
abbrev s_law_divisor : Stmt := topS 49
theorem sc_law_divisor : FnScope ["one", "other"] ["one", "other"] (defScope s_law_divisor) := ⟨rfl, rfl, rfl, by decide +kernel, rfl, by decide +kernel, by decide +kernel⟩
def b_law_divisor : List Sl → Unit → Fl Unit := (sSeq (sPar 0 1 (aCons (eB pyAbs (aCons (eVar 0) aNil)) (aCons (eB pyAbs (aCons (eVar 1) aNil)) aNil)))
    (sSeq (sWhile (fun σ _ => fuelAt 1 σ) (eTest (eOp pyNe (eVar 1) (eC (.int 0)))) (sPar 0 1 (aCons (eVar 1) (aCons (eOp pyMod (eVar 0) (eVar 1)) aNil))))
    (sRet (eVar 0))))
def m_law_divisor : List W → Unit → Rs Unit W := mDef 2 (b_law_divisor)
abbrev s_law_lowest : Stmt := topS 50
theorem sc_law_lowest : FnScope ["top", "under", "common"] ["top", "under"] (defScope s_law_lowest) := ⟨rfl, rfl, rfl, by decide +kernel, rfl, by decide +kernel, by decide +kernel⟩
def b_law_lowest : List Sl → Unit → Fl Unit := (sSeq (sAsg 2 (eP (lenIs 2 m_law_divisor) (aCons (eVar 0) (aCons (eVar 1) aNil))))
    (sRet (eTup (aCons (eOp pyFdiv (eVar 0) (eVar 2)) (aCons (eOp pyFdiv (eVar 1) (eVar 2)) aNil)))))
def m_law_lowest : List W → Unit → Rs Unit W := mDef 3 (b_law_lowest)
abbrev s_law_plus : Stmt := topS 51
theorem sc_law_plus : FnScope ["one", "other"] ["one", "other"] (defScope s_law_plus) := ⟨rfl, rfl, rfl, by decide +kernel, rfl, by decide +kernel, by decide +kernel⟩
def b_law_plus : List Sl → Unit → Fl Unit := (sRet (eP (lenIs 2 m_law_lowest) (aCons (eOp pyAdd (eOp pyMul (eOp pyIx (eVar 0) (eC (.int 0))) (eOp pyIx (eVar 1) (eC (.int 1)))) (eOp pyMul (eOp pyIx (eVar 1) (eC (.int 0))) (eOp pyIx (eVar 0) (eC (.int 1))))) (aCons (eOp pyMul (eOp pyIx (eVar 0) (eC (.int 1))) (eOp pyIx (eVar 1) (eC (.int 1)))) aNil))))
def m_law_plus : List W → Unit → Rs Unit W := mDef 2 (b_law_plus)
abbrev s_law_total : Stmt := topS 52
theorem sc_law_total : FnScope ["some", "found", "one"] ["some"] (defScope s_law_total) := ⟨rfl, rfl, rfl, by decide +kernel, rfl, by decide +kernel, by decide +kernel⟩
def b_law_total : List Sl → Unit → Fl Unit := (sSeq (sAsg 1 (eTup (aCons (eC (.int 0)) (aCons (eC (.int 1)) aNil))))
    (sSeq (sFor (iOf (eVar 0)) (bName 2) (sAsg 1 (eP (lenIs 2 m_law_plus) (aCons (eVar 1) (aCons (eVar 2) aNil)))))
    (sRet (eVar 1))))
def m_law_total : List W → Unit → Rs Unit W := mDef 3 (b_law_total)
abbrev s_law_is_more : Stmt := topS 53
theorem sc_law_is_more : FnScope ["one", "other"] ["one", "other"] (defScope s_law_is_more) := ⟨rfl, rfl, rfl, by decide +kernel, rfl, by decide +kernel, by decide +kernel⟩
def b_law_is_more : List Sl → Unit → Fl Unit := (sRet (eOp pyGt (eOp pyMul (eOp pyIx (eVar 0) (eC (.int 0))) (eOp pyIx (eVar 1) (eC (.int 1)))) (eOp pyMul (eOp pyIx (eVar 1) (eC (.int 0))) (eOp pyIx (eVar 0) (eC (.int 1))))))
def m_law_is_more : List W → Unit → Rs Unit W := mDef 2 (b_law_is_more)
abbrev s_law_drawn : Stmt := topS 42
theorem sc_law_drawn : FnScope ["cell", "k", "more"] ["cell", "k"] (defScope s_law_drawn) := ⟨rfl, rfl, rfl, by decide +kernel, rfl, by decide +kernel, by decide +kernel⟩
def b_law_drawn : List Sl → Unit → Fl Unit := (sSeq (sAsg 2 (eOp pyMod (eOp pyAdd (eOp pyMul (eVar 0) (eC (.int 6364136223846793005))) (eOp pyMul (eOp pyAdd (eVar 1) (eC (.int 1))) (eC (.int 1442695040888963407)))) (eC (.int 340282366920938463463374607431768211507))))
    (sSeq (sAsg 2 (eOp pyMod (eOp pyMul (eVar 2) (eVar 2)) (eC (.int 340282366920938463463374607431768211297))))
    (sSeq (sAsg 2 (eOp pyMul (eOp pyMul (eOp pyAdd (eOp pyMod (eVar 2) (eC (.int 18446744073709551557))) (eC (.int 1))) (eOp pyAdd (eOp pyFdiv (eVar 2) (eC (.int 18446744073709551557))) (eC (.int 1)))) (eVar 2)))
    (sRet (eOp pyMod (eVar 2) (eC (.int 340282366920938463463374607431768211507)))))))
def m_law_drawn : List W → Unit → Rs Unit W := mDef 3 (b_law_drawn)
abbrev s_law_roll : Stmt := topS 43
theorem sc_law_roll : FnScope ["dice", "many", "told"] ["dice", "many"] (defScope s_law_roll) := ⟨rfl, rfl, rfl, by decide +kernel, rfl, by decide +kernel, by decide +kernel⟩
def b_law_roll (da : Addr) : List Sl → DiceS → Fl DiceS := (sSeq (sIf (eTest (eOp pyGe (eDie da 0 false) (eOp pyPow (eC (.int 10)) (eC (.int 18))))) (sSeq (sAsg 2 (eOp pyMod (eDie da 0 false) (eVar 1)))
    (sSeq (sDie da 0 false (eOp pyFdiv (eDie da 0 false) (eVar 1)))
    (sRet (eVar 2)))) sNext)
    (sSeq (sDie da 0 true (eOp pyAdd (eDie da 0 true) (eC (.int 1))))
    (sRet (eOp pyMod (eOp pyFdiv (eP (lenIs 2 m_law_drawn) (aCons (eDie da 0 false) (aCons (eDie da 0 true) aNil))) (eC (.int 8))) (eVar 1)))))
def m_law_roll (da : Addr) : List W → DiceS → Rs DiceS W := mDef 3 (b_law_roll da)
abbrev s_free_costs : Stmt := topS 31
theorem sc_free_costs : FnScope ["many"] ["many"] (defScope s_free_costs) := ⟨rfl, rfl, rfl, by decide +kernel, rfl, by decide +kernel, by decide +kernel⟩
def b_free_costs : List Sl → Unit → Fl Unit := (sRet (eOp pyMul (eLst (aCons (eC (.int 0)) aNil)) (eB pyLen (aCons (eP (lenIs 1 m_all_cuts) (aCons (eVar 0) aNil)) aNil))))
def m_free_costs : List W → Unit → Rs Unit W := mDef 1 (b_free_costs)
abbrev s_decomposition : Stmt := topS 32
theorem sc_decomposition : FnScope ["table", "word", "value", "weights", "prices"] ["table"] (defScope s_decomposition) := ⟨rfl, rfl, rfl, by decide +kernel, rfl, by decide +kernel, by decide +kernel⟩
def b_decomposition (FU : Nat) : List Sl → Unit → Fl Unit := (sSeq (sDrop (eP (lenIs 1 m_need_table) (aCons (eVar 0) aNil)))
    (sSeq (sAsgT [1, 2, 3, 4] (eP (lenIs 2 (m_solved FU)) (aCons (eVar 0) (aCons (eP (lenIs 1 m_free_costs) (aCons (eOp pyIx (eVar 0) (eC (.int 0))) aNil)) aNil))))
    (sRet (eIf (eTest (eOp pyEq (eVar 1) (eC (.str "least")))) (eVar 3) (eC .none)))))
def m_decomposition (FU : Nat) : List W → Unit → Rs Unit W := mDef 5 (b_decomposition FU)
abbrev s_law_cuts : Stmt := topS 46
theorem sc_law_cuts : FnScope ["many", "found", "item", "part"] ["many"] (defScope s_law_cuts) := ⟨rfl, rfl, rfl, by decide +kernel, rfl, by decide +kernel, by decide +kernel⟩
def b_law_cuts : List Sl → Unit → Fl Unit := (sSeq (sAsg 1 (eLst (aCons (eTup aNil) aNil)))
    (sSeq (sFor (iRange2 (aCons (eC (.int 1)) (aCons (eVar 0) aNil))) (bName 2) (sAsg 1 (eOp pyAdd (eVar 1) (eComp (iOf (eVar 1)) [3] (bName 3) yes (eOp pyAdd (eVar 3) (eTup (aCons (eVar 2) aNil)))))))
    (sRet (eB pySorted (aCons (eSl (eVar 1) (oPart (eC (.int 1))) oNo) aNil)))))
def m_law_cuts : List W → Unit → Rs Unit W := mDef 4 (b_law_cuts)
abbrev s_law_pairs : Stmt := topS 45
theorem sc_law_pairs : FnScope ["many", "found", "i", "j"] ["many"] (defScope s_law_pairs) := ⟨rfl, rfl, rfl, by decide +kernel, rfl, by decide +kernel, by decide +kernel⟩
def b_law_pairs : List Sl → Unit → Fl Unit := (sSeq (sAsg 1 (eLst aNil))
    (sSeq (sFor (iRange1 (aCons (eVar 0) aNil)) (bName 2) (sAsg 1 (eOp pyAdd (eVar 1) (eComp (iRange2 (aCons (eOp pyAdd (eVar 2) (eC (.int 1))) (aCons (eVar 0) aNil))) [3] (bName 3) yes (eTup (aCons (eVar 2) (aCons (eVar 3) aNil)))))))
    (sRet (eVar 1))))
def m_law_pairs : List W → Unit → Rs Unit W := mDef 4 (b_law_pairs)
abbrev s_law_marks : Stmt := topS 47
theorem sc_law_marks : FnScope ["many", "side", "i", "j"] ["many", "side"] (defScope s_law_marks) := ⟨rfl, rfl, rfl, by decide +kernel, rfl, by decide +kernel, by decide +kernel⟩
def b_law_marks : List Sl → Unit → Fl Unit := (sRet (eComp (iOf (eP (lenIs 1 m_law_pairs) (aCons (eVar 0) aNil))) [2, 3] (bTup [2, 3]) yes (eB pyInt1 (aCons (eOp pyNe (eOp pyIn (eVar 2) (eVar 1)) (eOp pyIn (eVar 3) (eVar 1))) aNil))))
def m_law_marks : List W → Unit → Rs Unit W := mDef 4 (b_law_marks)
abbrev s_law_any_sum : Stmt := topS 48
theorem sc_law_any_sum : FnScope ["dice", "many", "turns", "found", "some", "turn", "marks", "weight", "place", "one"] ["dice", "many", "turns"] (defScope s_law_any_sum) := ⟨rfl, rfl, rfl, by decide +kernel, rfl, by decide +kernel, by decide +kernel⟩
def b_law_any_sum (da : Addr) : List Sl → DiceS → Fl DiceS := (sSeq (sParO 3 4 (eOp pyMulL (eLst (aCons (eC (.int 0)) aNil)) (eB pyLen (aCons (eP (lenIs 1 m_law_pairs) (aCons (eVar 1) aNil)) aNil))) (eP (lenIs 1 m_law_cuts) (aCons (eVar 1) aNil)))
    (sSeq (sFor (iRange1 (aCons (eVar 2) aNil)) (bName 5) (sSeq (sAsgT [6, 7] (eTup (aCons (eP (lenIs 2 m_law_marks) (aCons (eVar 1) (aCons (eOp pyIx (eVar 4) (eF (lenIs 2 (m_law_roll da)) (aCons (eVar 0) (aCons (eB pyLen (aCons (eVar 4) aNil)) aNil)))) aNil))) (aCons (eOp pyAdd (eC (.int 1)) (eF (lenIs 2 (m_law_roll da)) (aCons (eVar 0) (aCons (eC (.int 5)) aNil)))) aNil))))
    (sFrz 3 (sAsgO 3 (eComp (iEnumM (aCons (eVar 3) aNil)) [8, 9] (bTup [8, 9]) yes (eOp pyAdd (eVar 9) (eOp pyMul (eVar 7) (eOp pyIx (eVar 6) (eVar 8)))))))))
    (sRetL 3)))
def m_law_any_sum (da : Addr) : List W → DiceS → Rs DiceS W := mDefL 10 (b_law_any_sum da)
abbrev s_law : Stmt := topS 55
theorem sc_law : FnScope ["script", "dice", "many", "table", "weights", "some", "own", "side", "low", "high", "costs", "one", "best", "cost", "total", "weight"] ["script"] (defScope s_law) := ⟨rfl, rfl, rfl, by decide +kernel, rfl, by decide +kernel, by decide +kernel⟩
def b_law (da : Addr) (FU : Nat) : List Sl → DiceS → Fl DiceS := (sSeq (sAsg 2 (eOp pyAdd (eC (.int 2)) (eF (lenIs 2 (m_law_roll da)) (aCons (eVar 1) (aCons (eC (.int 4)) aNil)))))
    (sSeq (sAsg 3 (eTup (aCons (eVar 2) (aCons (eB pyTupleOf (aCons (eF (lenIs 3 (m_law_any_sum da)) (aCons (eVar 1) (aCons (eVar 2) (aCons (eOp pyAdd (eC (.int 1)) (eF (lenIs 2 (m_law_roll da)) (aCons (eVar 1) (aCons (eC (.int 6)) aNil)))) aNil)))) aNil)) aNil))))
    (sSeq (sPar 4 5 (aCons (eP (lenIs 1 (m_decomposition FU)) (aCons (eVar 3) aNil)) (aCons (eP (lenIs 1 m_law_cuts) (aCons (eVar 2) aNil)) aNil)))
    (sSeq (sIf (eTest (eOp pyIs (eVar 4) (eC .none))) (sRet (eC (.bool false))) sNext)
    (sSeq (sAsg 6 (eP (lenIs 1 m_law_as_dict) (aCons (eVar 4) aNil)))
    (sSeq (sAsg 7 (eOp pyIx (eVar 5) (eF (lenIs 2 (m_law_roll da)) (aCons (eVar 1) (aCons (eB pyLen (aCons (eVar 5) aNil)) aNil)))))
    (sSeq (sAsgT [8, 9] (eP (lenIs 2 (m_weight_range FU)) (aCons (eVar 3) (aCons (eVar 7) aNil))))
    (sSeq (sIf (tOrT (eTest (eP (lenIs 2 m_law_is_more) (aCons (eVar 8) (aCons (eDGet2 (eVar 6) (eVar 7) (eTup (aCons (eC (.int 0)) (aCons (eC (.int 1)) aNil)))) aNil)))) (eTest (eP (lenIs 2 m_law_is_more) (aCons (eDGet2 (eVar 6) (eVar 7) (eTup (aCons (eC (.int 0)) (aCons (eC (.int 1)) aNil)))) (aCons (eVar 9) aNil))))) (sRet (eC (.bool false))) sNext)
    (sSeq (sIf (eTest (eOp pyLt (eOp pyIx (eVar 8) (eC (.int 0))) (eC (.int 0)))) (sRet (eC (.bool false))) sNext)
    (sSeq (sAsg 10 (eB pyTupleOf (aCons (eComp (iOf (eVar 5)) [11] (bName 11) yes (eIf (eTest (eOp pyEq (eVar 11) (eVar 7))) (eC (.int 1)) (eC (.int 0)))) aNil)))
    (sSeq (sIf (eTest (eOp pyNe (eOp pyIx (eP (lenIs 2 (m_least FU)) (aCons (eVar 3) (aCons (eVar 10) aNil))) (eC (.int 0))) (eVar 8))) (sRet (eC (.bool false))) sNext)
    (sSeq (sAsg 12 (eP (lenIs 2 (m_least FU)) (aCons (eVar 3) (aCons (eB pyTupleOf (aCons (eComp (iOf (eVar 10)) [13] (bName 13) yes (eUn pyNeg (eVar 13))) aNil)) aNil))))
    (sSeq (sIf (eTest (eOp pyNe (eOp pyIx (eVar 12) (eC (.int 0))) (eTup (aCons (eUn pyNeg (eOp pyIx (eVar 9) (eC (.int 0)))) (aCons (eOp pyIx (eVar 9) (eC (.int 1))) aNil))))) (sRet (eC (.bool false))) sNext)
    (sSeq (sIf (eTest (eOp pyNe (eDGet2 (eP (lenIs 1 m_law_as_dict) (aCons (eOp pyIx (eVar 12) (eC (.int 1))) aNil)) (eVar 7) (eTup (aCons (eC (.int 0)) (aCons (eC (.int 1)) aNil)))) (eVar 9))) (sRet (eC (.bool false))) sNext)
    (sSeq (sAsgT [8, 9] (eP (lenIs 1 (m_total_range FU)) (aCons (eVar 3) aNil)))
    (sSeq (sAsg 14 (eP (lenIs 1 m_law_total) (aCons (eComp (iOf (eVar 4)) [11, 15] (bTup [11, 15]) yes (eVar 15)) aNil)))
    (sSeq (sIf (tOrT (eTest (eP (lenIs 2 m_law_is_more) (aCons (eVar 8) (aCons (eVar 14) aNil)))) (eTest (eP (lenIs 2 m_law_is_more) (aCons (eVar 14) (aCons (eVar 9) aNil))))) (sRet (eC (.bool false))) sNext)
    (sSeq (sIf (eTest (eOp pyNe (eOp pyIx (eP (lenIs 2 (m_least FU)) (aCons (eVar 3) (aCons (eOp pyMul (eTup (aCons (eC (.int 1)) aNil)) (eB pyLen (aCons (eVar 5) aNil))) aNil))) (eC (.int 0))) (eVar 8))) (sRet (eC (.bool false))) sNext)
    (sSeq (sIf (eTest (eOp pyNe (eOp pyIx (eP (lenIs 2 (m_least FU)) (aCons (eVar 3) (aCons (eOp pyMul (eTup (aCons (eUn pyNeg (eC (.int 1))) aNil)) (eB pyLen (aCons (eVar 5) aNil))) aNil))) (eC (.int 0))) (eTup (aCons (eUn pyNeg (eOp pyIx (eVar 9) (eC (.int 0)))) (aCons (eOp pyIx (eVar 9) (eC (.int 1))) aNil))))) (sRet (eC (.bool false))) sNext)
    (sIf (eTest (eP (lenIs 2 m_law_is_more) (aCons (eTup (aCons (eB pyMax1 (aCons (eOp pyIx (eVar 3) (eC (.int 1))) aNil)) (aCons (eC (.int 1)) aNil))) (aCons (eVar 8) aNil)))) (sRet (eC (.bool false))) sNext))))))))))))))))))))
theorem kl_law (da : Addr) (FU : Nat) : KeepLen (b_law da FU) := by unfold b_law; repeat' (with_reducible first | exact kl_next | exact kl_ret | exact kl_asg | exact kl_asgT | exact kl_par | exact kl_aug | exact kl_drop | exact kl_asgO | exact kl_app | exact kl_setO | exact kl_newD | exact kl_putD | exact kl_parO | exact kl_parO2 | exact kb_name | exact kb_tup | refine kl_frz ?_ | refine kl_seq ?_ ?_ | refine kl_if ?_ ?_ | refine kl_for ?_ ?_)
section
variable {P : Program} {w : World} {K : PySem.W.Frag} {mg : Str → Option Value} {base : Heap} {ad : Nat → Addr} {fd : Nat → FuncData} {cl : Nat → Addr}
theorem ok_law_cell (T : Txt K mg ad fd cl) : FnOk P w K mg base (L2N.CX P w) 2 (ad 30) (fd 30) ["script", "k"] (spCell K) := by
  refine okN T.F_law_cell sc_law_cell (fun vs H Q E h => by obtain ⟨a, ns, k, rfl, _⟩ := h; rfl) (fun cdv A outer s H vs Q E hr h => ?_)
  refine ⟨_, (pss_cons (ps_if (pt_cmpR (op_eqK K rfl hr.units) (pv 0) (pe_lst pa_nil) (nomark _)) (pss_one (ps_ret (pe_op (op_mulK K rfl) (pv 1) pe_int))) pss_nil)
      (pss_one (ps_ret (pe_op (op_addK K rfl) (pe_ix (ix_K K rfl) (pv 0) (pe_op op_mod (pv 1) (pe_callB (call_lenK K rfl) (by rfl) T.z_len (by decide +kernel) (pa_cons (pv 0) pa_nil))) (fun _ _ => rfl)) (pe_op (op_mulK K rfl) (pe_op op_fdivW (pv 1) (pe_callB (call_lenK K rfl) (by rfl) T.z_len (by decide +kernel) (pa_cons (pv 0) pa_nil))) pe_int))))), ?_⟩
  exact cell_reads h
theorem ok_law_rounds (T : Txt K mg ad fd cl) : FnOk P w K mg base (L2N.CX P w) 4 (ad 33) (fd 33) ["script", "most"] (spRounds K) := by
  refine okN T.F_law_rounds sc_law_rounds (fun vs H Q E h => by obtain ⟨a, ns, k, rfl, _⟩ := h; rfl) (fun cdv A outer s H vs Q E hr h => ?_)
  refine ⟨_, (pss_one (ps_ret (pe_lc (own := [("k", 2)]) (g := (gName 2)) rfl sc_law_rounds.nd (pi_range1 (by rfl) T.z_range (pa_cons (pe_callB (call_max2 rfl) (by rfl) T.z_max (by decide +kernel) (pa_cons pe_int (pa_cons (pe_callB (call_min2 rfl) (by rfl) T.z_min (by decide +kernel) (pa_cons (pv 1) (pa_cons (pe_callB (call_lenK K rfl) (by rfl) T.z_len (by decide +kernel) (pa_cons (pv 0) pa_nil)) pa_nil))) pa_nil))) pa_nil)) (blkOk_by (N := ["script", "most", "k"]) (sc := defScope s_law_rounds) (own := [("k", 2)]) (by decide +kernel)) (fun _ _ _ _ _ => (pg_name (i := 2) sc_law_rounds.nd rfl (Or.inl rfl))) (fun _ _ _ _ _ => pts_nil) (fun _ _ _ _ _ => (pe_lst (pa_cons (pe_call (ok_law_cell T) (hr.mono (by decide)) (by rfl) T.g_law_cell T.F_law_cell.kp T.b_law_cell .nil passN (pa_cons (pv 0) (pa_cons (pv 2) pa_nil))) (pa_cons pe_int pa_nil))))))), ?_⟩
  exact rounds_reads h
theorem ok_law_as_dict (T : Txt K mg ad fd cl) : FnOk P w K mg base (L2N.CX P w) 2 (ad 43) (fd 43) ["weights"] (spF (pureG cl) (m_law_as_dict) 1) := by
  refine okN T.F_law_as_dict sc_law_as_dict (fun vs H Q E h => h.1) (fun cdv A outer s H vs Q E hr h => ?_)
  refine ⟨_, (pss_cons (ps_set (i := 1) sc_law_as_dict.nd rfl (Or.inl rfl) pe_dnewT)
      (pss_cons (ps_for (passes_of rfl) rfl (pi_seqK K rfl (pv 0)) (pg_tupK K rfl rfl (pgs_cons (pg_name (i := 2) sc_law_as_dict.nd rfl (Or.inl rfl)) (pgs_cons (pg_name (i := 3) sc_law_as_dict.nd rfl (Or.inl rfl)) pgs_nil))) (pss_one (ps_dput (hu_of hr) (pv 1) (pv 2) (pv 3) rfl)))
      (pss_one (ps_ret (pv 1))))), ?_⟩
  exact def_reads (G := (pureG cl)) (E := E) (N := ["weights", "found", "side", "weight"]) (n := 1) (f := b_law_as_dict) ((ss_seq ss_newD
      (ss_seq (ss_for (is_seq sm_var) (gs_tup [2, 3] rfl) (ss_putD sm_var sm_var))
      (ss_frz 1 (ss_ret sm_var))))) h
theorem ok_is_whole (T : Txt K mg ad fd cl) : FnOk P w K mg base (L2N.CX P w) 2 (ad 9) (fd 9) ["value", "low", "high"] (spF (pureG cl) (m_is_whole) 3) := by
  refine okN T.F_is_whole sc_is_whole (fun vs H Q E h => h.1) (fun cdv A outer s H vs Q E hr h => ?_)
  refine ⟨_, (pss_one (ps_ret (pe_and (pe_callB (call_isK K rfl) (by rfl) T.z_isinstance (by decide +kernel) (pa_cons (pv 0) (pa_cons (pe_bltn (v := .ty "int") (by rfl) T.z_int (by decide +kernel) rfl) pa_nil))) (pe_and (pe_not (pe_callB (call_isK K rfl) (by rfl) T.z_isinstance (by decide +kernel) (pa_cons (pv 0) (pa_cons (pe_bltn (v := .ty "bool") (by rfl) T.z_bool (by decide +kernel) rfl) pa_nil)))) (pe_one (pe_chain (op_leK K rfl hr.units0) (op_leK K rfl hr.units0) (pv 1) (pv 0) (pv 2))))))), ?_⟩
  exact def_reads (G := (pureG cl)) (E := E) (N := ["value", "low", "high"]) (n := 3) (f := b_is_whole) ((ss_ret (sm_andV (sm_isi .int sm_var) (sm_andV (sm_notV (sm_isi .bool sm_var)) (sm_chain rs_le rs_le sm_var sm_var sm_var))))) h
theorem ok_is_shaped (T : Txt K mg ad fd cl) : FnOk P w K mg base (L2N.CX P w) 4 (ad 11) (fd 11) ["value"] (spF (pureG cl) (m_is_shaped) 1) := by
  refine okN T.F_is_shaped sc_is_shaped (fun vs H Q E h => h.1) (fun cdv A outer s H vs Q E hr h => ?_)
  refine ⟨_, (pss_cons (ps_if (PW.pt (pw_or (pt_not (pt_val (pe_callB (call_isK K rfl) (by rfl) T.z_isinstance (by decide +kernel) (pa_cons (pv 0) (pa_cons (pe_bltn (v := .ty "tuple") (by rfl) T.z_tuple (by decide +kernel) rfl) pa_nil))))) (pw_or (pt_cmpR (op_neK K rfl hr.units) (pe_callB (call_lenK K rfl) (by rfl) T.z_len (by decide +kernel) (pa_cons (pv 0) pa_nil)) pe_int (nomark _)) (pw_or1 (pt_not (pt_val (pe_call (ok_is_whole T) (hr.mono (by decide)) (by rfl) T.g_is_whole T.F_is_whole.kp T.b_is_whole .nil (L2N.passes_call (L2N.takes_of rfl rfl rfl rfl) (fun _ _ _ _ h => h)) (pa_cons (pe_ix (ix_K K rfl) (pv 0) pe_int (fun _ _ => rfl)) (pa_cons pe_int (pa_cons pe_int pa_nil)))))))))) (pss_one (ps_ret pe_bl)) pss_nil)
      (pss_one (ps_ret (pe_and (pe_callB (call_isK K rfl) (by rfl) T.z_isinstance (by decide +kernel) (pa_cons (pe_ix (ix_K K rfl) (pv 0) pe_int (fun _ _ => rfl)) (pa_cons (pe_bltn (v := .ty "tuple") (by rfl) T.z_tuple (by decide +kernel) rfl) pa_nil))) (pe_one (pe_cmpR (op_eqK K rfl hr.units) (pe_callB (call_lenK K rfl) (by rfl) T.z_len (by decide +kernel) (pa_cons (pe_ix (ix_K K rfl) (pv 0) pe_int (fun _ _ => rfl)) pa_nil)) (pe_op op_fdivW (pe_op (op_mulK K rfl) (pe_ix (ix_K K rfl) (pv 0) pe_int (fun _ _ => rfl)) (pe_op op_sub (pe_ix (ix_K K rfl) (pv 0) pe_int (fun _ _ => rfl)) pe_int)) pe_int) (nomark _))))))), ?_⟩
  exact def_reads (G := (pureG cl)) (E := E) (N := ["value"]) (n := 1) (f := b_is_shaped) ((ss_seq (ss_if (smt_or (smt_not (smt_B (sm_isi .tuple sm_var))) (smt_or (smt_test (sm_op rs_ne (sm_B cs_len (sma_cons sm_var sma_nil)) sm_int)) (smt_not (smt_B (sm_P (sma_cons (sm_op rs_ix sm_var sm_int) (sma_cons sm_int (sma_cons sm_int sma_nil)))))))) (ss_ret sm_bl) ss_next)
      (ss_ret (sm_andV (sm_isi .tuple (sm_op rs_ix sm_var sm_int)) (sm_op rs_eq (sm_B cs_len (sma_cons (sm_op rs_ix sm_var sm_int) sma_nil)) (sm_op rs_fdiv (sm_op rs_mul (sm_op rs_ix sm_var sm_int) (sm_op rs_sub (sm_op rs_ix sm_var sm_int) sm_int)) sm_int)))))) h
theorem ok_is_distance (T : Txt K mg ad fd cl) : FnOk P w K mg base (L2N.CX P w) 4 (ad 10) (fd 10) ["value"] (spF (pureG cl) (m_is_distance) 1) := by
  refine okN T.F_is_distance sc_is_distance (fun vs H Q E h => h.1) (fun cdv A outer s H vs Q E hr h => ?_)
  refine ⟨_, (pss_one (ps_ret (pe_call (ok_is_whole T) (hr.mono (by decide)) (by rfl) T.g_is_whole T.F_is_whole.kp T.b_is_whole .nil (L2N.passes_call (L2N.takes_of rfl rfl rfl rfl) (fun _ _ _ _ h => h)) (pa_cons (pv 0) (pa_cons pe_int (pa_cons pe_int pa_nil)))))), ?_⟩
  exact def_reads (G := (pureG cl)) (E := E) (N := ["value"]) (n := 1) (f := b_is_distance) ((ss_ret (sm_P (sma_cons sm_var (sma_cons sm_int (sma_cons sm_int sma_nil)))))) h
theorem ok_is_table (T : Txt K mg ad fd cl) : FnOk P w K mg base (L2N.CX P w) 6 (ad 12) (fd 12) ["value"] (spF (pureG cl) (m_is_table) 1) := by
  refine okN T.F_is_table sc_is_table (fun vs H Q E h => h.1) (fun cdv A outer s H vs Q E hr h => ?_)
  refine ⟨_, (pss_one (ps_ret (pe_and (pe_call (ok_is_shaped T) (hr.mono (by decide)) (by rfl) T.g_is_shaped T.F_is_shaped.kp T.b_is_shaped .nil (L2N.passes_call (L2N.takes_of rfl rfl rfl rfl) (fun _ _ _ _ h => h)) (pa_cons (pv 0) pa_nil)) (pe_one (pe_callB (call_allK K rfl rfl) (by rfl) T.z_all (by decide +kernel) (pa_cons (pe_lc (own := [("one", 1)]) (g := (gName 1)) rfl sc_is_table.nd (pi_seqK K rfl (pe_ix (ix_K K rfl) (pv 0) pe_int (fun _ _ => rfl))) (blkOk_by (N := ["value", "one"]) (sc := defScope s_is_table) (own := [("one", 1)]) (by decide +kernel)) (fun _ _ _ _ _ => (pg_name (i := 1) sc_is_table.nd rfl (Or.inl rfl))) (fun _ _ _ _ _ => pts_nil) (fun _ _ _ _ _ => (pe_call (ok_is_distance T) (hr.mono (by decide)) (by rfl) T.g_is_distance T.F_is_distance.kp T.b_is_distance .nil passN (pa_cons (pv 1) pa_nil)))) pa_nil)))))), ?_⟩
  exact def_reads (G := (pureG cl)) (E := E) (N := ["value", "one"]) (n := 1) (f := b_is_table) ((ss_ret (sm_andV (sm_P (sma_cons sm_var sma_nil)) (sm_B cs_all (sma_cons (sm_comp (is_seq (sm_op rs_ix sm_var sm_int)) gs_name (by decide) smt_yes (sm_P (sma_cons sm_var sma_nil))) sma_nil))))) h
theorem ok_need_table (T : Txt K mg ad fd cl) : FnOk P w K mg base (L2N.CX P w) 8 (ad 13) (fd 13) ["table"] (spF (pureG cl) (m_need_table) 1) := by
  refine okN T.F_need_table sc_need_table (fun vs H Q E h => h.1) (fun cdv A outer s H vs Q E hr h => ?_)
  refine ⟨_, (pss_one (ps_if (pt_not (pt_val (pe_call (ok_is_table T) (hr.mono (by decide)) (by rfl) T.g_is_table T.F_is_table.kp T.b_is_table .nil (L2N.passes_call (L2N.takes_of rfl rfl rfl rfl) (fun _ _ _ _ h => h)) (pa_cons (pv 0) pa_nil)))) (pss_one (L2N.ps_raise rfl (L2N.takes_of rfl rfl rfl rfl) (L2N.pmk_own PySem.F.excBase_ValueError T.x_InvalidTable T.g_InvalidTable T.k_InvalidTable (raises_own T.b_InvalidTable T.t_InvalidTable) rfl))) pss_nil)), ?_⟩
  exact def_reads (G := (pureG cl)) (E := E) (N := ["table"]) (n := 1) (f := b_need_table) ((ss_if (smt_not (smt_B (sm_P (sma_cons sm_var sma_nil)))) (ss_raise rfl) ss_next)) h
theorem ok_is_cut (T : Txt K mg ad fd cl) : FnOk P w K mg base (L2N.CX P w) 4 (ad 17) (fd 17) ["many", "value"] (spF (pureG cl) (m_is_cut) 2) := by
  refine okN T.F_is_cut sc_is_cut (fun vs H Q E h => h.1) (fun cdv A outer s H vs Q E hr h => ?_)
  refine ⟨_, (pss_cons (ps_if (PW.pt (pw_or (pt_not (pt_val (pe_callB (call_isK K rfl) (by rfl) T.z_isinstance (by decide +kernel) (pa_cons (pv 1) (pa_cons (pe_bltn (v := .ty "tuple") (by rfl) T.z_tuple (by decide +kernel) rfl) pa_nil))))) (pw_or (pt_cmpR (op_eqK K rfl hr.units) (pv 1) (pe_tup pa_nil) (nomark _)) (pw_or1 (pt_not (pt_val (pe_callB (call_allK K rfl rfl) (by rfl) T.z_all (by decide +kernel) (pa_cons (pe_lc (own := [("item", 2)]) (g := (gName 2)) rfl sc_is_cut.nd (pi_seqK K rfl (pv 1)) (blkOk_by (N := ["many", "value", "item", "place"]) (sc := defScope s_is_cut) (own := [("item", 2)]) (by decide +kernel)) (fun _ _ _ _ _ => (pg_name (i := 2) sc_is_cut.nd rfl (Or.inl rfl))) (fun _ _ _ _ _ => pts_nil) (fun _ _ _ _ _ => (pe_call (ok_is_whole T) (hr.mono (by decide)) (by rfl) T.g_is_whole T.F_is_whole.kp T.b_is_whole .nil passN (pa_cons (pv 2) (pa_cons pe_int (pa_cons (pe_op op_sub (pv 0) pe_int) pa_nil)))))) pa_nil)))))))) (pss_one (ps_ret pe_bl)) pss_nil)
      (pss_one (ps_ret (pe_callB (call_allK K rfl rfl) (by rfl) T.z_all (by decide +kernel) (pa_cons (pe_lc (own := [("place", 3)]) (g := (gName 3)) rfl sc_is_cut.nd (pi_range1 (by rfl) T.z_range (pa_cons (pe_op op_sub (pe_callB (call_lenK K rfl) (by rfl) T.z_len (by decide +kernel) (pa_cons (pv 1) pa_nil)) pe_int) pa_nil)) (blkOk_by (N := ["many", "value", "item", "place"]) (sc := defScope s_is_cut) (own := [("place", 3)]) (by decide +kernel)) (fun _ _ _ _ _ => (pg_name (i := 3) sc_is_cut.nd rfl (Or.inl rfl))) (fun _ _ _ _ _ => pts_nil) (fun _ _ _ _ _ => (pe_cmpR op_lt (pe_ix (ix_K K rfl) (pv 1) (pv 3) (fun _ _ => rfl)) (pe_ix (ix_K K rfl) (pv 1) (pe_op (op_addK K rfl) (pv 3) pe_int) (fun _ _ => rfl)) (nomark _)))) pa_nil))))), ?_⟩
  exact def_reads (G := (pureG cl)) (E := E) (N := ["many", "value", "item", "place"]) (n := 2) (f := b_is_cut) ((ss_seq (ss_if (smt_or (smt_not (smt_B (sm_isi .tuple sm_var))) (smt_or (smt_test (sm_op rs_eq sm_var (sm_tup sma_nil))) (smt_not (smt_B (sm_B cs_all (sma_cons (sm_comp (is_seq sm_var) gs_name (by decide) smt_yes (sm_P (sma_cons sm_var (sma_cons sm_int (sma_cons (sm_op rs_sub sm_var sm_int) sma_nil))))) sma_nil)))))) (ss_ret sm_bl) ss_next)
      (ss_ret (sm_B cs_all (sma_cons (sm_comp (is_range1 (sma_cons (sm_op rs_sub (sm_B cs_len (sma_cons sm_var sma_nil)) sm_int) sma_nil)) gs_name (by decide) smt_yes (sm_op rs_lt (sm_op rs_ix sm_var sm_var) (sm_op rs_ix sm_var (sm_op rs_add sm_var sm_int)))) sma_nil))))) h
theorem ok_need_cut (T : Txt K mg ad fd cl) : FnOk P w K mg base (L2N.CX P w) 6 (ad 18) (fd 18) ["many", "cut"] (spF (pureG cl) (m_need_cut) 2) := by
  refine okN T.F_need_cut sc_need_cut (fun vs H Q E h => h.1) (fun cdv A outer s H vs Q E hr h => ?_)
  refine ⟨_, (pss_one (ps_if (pt_not (pt_val (pe_call (ok_is_cut T) (hr.mono (by decide)) (by rfl) T.g_is_cut T.F_is_cut.kp T.b_is_cut .nil (L2N.passes_call (L2N.takes_of rfl rfl rfl rfl) (fun _ _ _ _ h => h)) (pa_cons (pv 0) (pa_cons (pv 1) pa_nil))))) (pss_one (L2N.ps_raise rfl (L2N.takes_of rfl rfl rfl rfl) (L2N.pmk_own PySem.F.excBase_ValueError T.x_InvalidCut T.g_InvalidCut T.k_InvalidCut (raises_own T.b_InvalidCut T.t_InvalidCut) rfl))) pss_nil)), ?_⟩
  exact def_reads (G := (pureG cl)) (E := E) (N := ["many", "cut"]) (n := 2) (f := b_need_cut) ((ss_if (smt_not (smt_B (sm_P (sma_cons sm_var (sma_cons sm_var sma_nil))))) (ss_raise rfl) ss_next)) h
theorem ok_leaving (T : Txt K mg ad fd cl) : FnOk P w K mg base (L2N.CX P w) 2 (ad 5) (fd 5) ["rows", "basis", "column"] (spF (pureG cl) (m_leaving) 3) := by
  refine okN T.F_leaving sc_leaving (fun vs H Q E h => h.1) (fun cdv A outer s H vs Q E hr h => ?_)
  refine ⟨_, (pss_cons (ps_set (i := 3) sc_leaving.nd rfl (Or.inl rfl) pe_non)
      (pss_cons (ps_for (passes_of rfl) rfl (pi_enumA K rfl (by rfl) T.z_enumerate (pa_cons (pv 0) pa_nil)) (pg_tupK K rfl rfl (pgs_cons (pg_name (i := 4) sc_leaving.nd rfl (Or.inl rfl)) (pgs_cons (pg_name (i := 5) sc_leaving.nd rfl (Or.inl rfl)) pgs_nil))) (pss_one (ps_if (pt_cmpR op_gt (pe_ix (ix_K K rfl) (pv 5) (pv 2) (fun _ _ => rfl)) pe_int (nomark _)) (pss_one (ps_if (pt_cmpR op_isN (pv 3) pe_non (nomark _)) (pss_one (ps_set (i := 3) sc_leaving.nd rfl (Or.inl rfl) (pv 4))) (pss_cons (ps_set (i := 6) sc_leaving.nd rfl (Or.inl rfl) (pe_op op_sub (pe_op (op_mulK K rfl) (pe_ix (ix_K K rfl) (pv 5) (pe_un un_neg pe_int) (fun _ _ => rfl)) (pe_ix (ix_K K rfl) (pe_ix (ix_K K rfl) (pv 0) (pv 3) (fun _ _ => rfl)) (pv 2) (fun _ _ => rfl))) (pe_op (op_mulK K rfl) (pe_ix (ix_K K rfl) (pe_ix (ix_K K rfl) (pv 0) (pv 3) (fun _ _ => rfl)) (pe_un un_neg pe_int) (fun _ _ => rfl)) (pe_ix (ix_K K rfl) (pv 5) (pv 2) (fun _ _ => rfl)))))
      (pss_one (ps_if (PW.pt (pw_or (pt_cmpR op_lt (pv 6) pe_int (nomark _)) (pw_or1 (PW.pt (pw_and (pt_cmpR (op_eqK K rfl hr.units) (pv 6) pe_int (nomark _)) (pw_and1 (pt_cmpR op_lt (pe_ix (ix_K K rfl) (pv 1) (pv 4) (fun _ _ => rfl)) (pe_ix (ix_K K rfl) (pv 1) (pv 3) (fun _ _ => rfl)) (nomark _)))))))) (pss_one (ps_set (i := 3) sc_leaving.nd rfl (Or.inl rfl) (pv 4))) pss_nil))))) pss_nil)))
      (pss_one (ps_ret (pv 3))))), ?_⟩
  exact def_reads (G := (pureG cl)) (E := E) (N := ["rows", "basis", "column", "best", "number", "row", "gap"]) (n := 3) (f := b_leaving) ((ss_seq (ss_asg sm_non)
      (ss_seq (ss_for (is_enumA (sma_cons sm_var sma_nil)) (gs_tup [4, 5] rfl) (ss_if (smt_test (sm_op rs_gt (sm_op rs_ix sm_var sm_var) sm_int)) (ss_if (smt_test (sm_op rs_is sm_var sm_non)) (ss_asg sm_var) (ss_seq (ss_asg (sm_op rs_sub (sm_op rs_mul (sm_op rs_ix sm_var (sm_un rs_neg sm_int)) (sm_op rs_ix (sm_op rs_ix sm_var sm_var) sm_var)) (sm_op rs_mul (sm_op rs_ix (sm_op rs_ix sm_var sm_var) (sm_un rs_neg sm_int)) (sm_op rs_ix sm_var sm_var))))
      (ss_if (smt_or (smt_test (sm_op rs_lt sm_var sm_int)) (smt_and (smt_test (sm_op rs_eq sm_var sm_int)) (smt_test (sm_op rs_lt (sm_op rs_ix sm_var sm_var) (sm_op rs_ix sm_var sm_var))))) (ss_asg sm_var) ss_next))) ss_next))
      (ss_ret sm_var)))) h
theorem ok_divisor (T : Txt K mg ad fd cl) : FnOk P w K mg base (L2N.CX P w) 2 (ad 0) (fd 0) ["one", "other"] (spF (pureG cl) (m_divisor) 2) := by
  refine okN T.F_divisor sc_divisor (fun vs H Q E h => h.1) (fun cdv A outer s H vs Q E hr h => ?_)
  refine ⟨_, (pss_cons (ps_par rfl sc_divisor.nd (i := 0) (j := 1) rfl rfl (by decide) rfl rfl (pa_cons (pe_callB call_abs (by rfl) T.z_abs (by decide +kernel) (pa_cons (pv 0) pa_nil)) (pa_cons (pe_callB call_abs (by rfl) T.z_abs (by decide +kernel) (pa_cons (pv 1) pa_nil)) pa_nil)) (by rfl))
      (pss_cons (ps_while (passes_of rfl) (pt_truthK K rfl (pv 1)) (pss_one (ps_par rfl sc_divisor.nd (i := 0) (j := 1) rfl rfl (by decide) rfl rfl (pa_cons (pv 1) (pa_cons (pe_op op_mod (pv 0) (pv 1)) pa_nil)) (by rfl))))
      (pss_one (ps_ret (pv 0))))), ?_⟩
  exact def_reads (G := (pureG cl)) (E := E) (N := ["one", "other"]) (n := 2) (f := b_divisor) ((ss_seq (ss_par (sma_cons (sm_B cs_abs (sma_cons sm_var sma_nil)) (sma_cons (sm_B cs_abs (sma_cons sm_var sma_nil)) sma_nil)))
      (ss_seq (ss_while (fun σ _ => fuelAt 1 σ) (smt_truth sm_var) (ss_par (sma_cons sm_var (sma_cons (sm_op rs_mod sm_var sm_var) sma_nil))))
      (ss_ret sm_var)))) h
theorem ok_reduced (T : Txt K mg ad fd cl) : FnOk P w K mg base (L2N.CX P w) 4 (ad 2) (fd 2) ["row"] (spF (pureG cl) (m_reduced) 1) := by
  refine okN T.F_reduced sc_reduced (fun vs H Q E h => h.1) (fun cdv A outer s H vs Q E hr h => ?_)
  refine ⟨_, (pss_cons (ps_set (i := 1) sc_reduced.nd rfl (Or.inr rfl) pe_int)
      (pss_cons (ps_for (passes_of rfl) rfl (pi_seqK K rfl (pv 0)) (pg_name (i := 2) sc_reduced.nd rfl (Or.inl rfl)) (pss_one (ps_set (i := 1) sc_reduced.nd rfl (Or.inr rfl) (pe_call (ok_divisor T) (hr.mono (by decide)) (by rfl) T.g_divisor T.F_divisor.kp T.b_divisor .nil (L2N.passes_call (L2N.takes_of rfl rfl rfl rfl) (fun _ _ _ _ h => h)) (pa_cons (pv 2) (pa_cons (pv 1) pa_nil))))))
      (pss_one (ps_ret (pe_ifExp (pt_cmpR op_gt (pv 1) pe_int (nomark _)) (pe_lc (own := [("number", 2)]) (g := (gName 2)) rfl sc_reduced.nd (pi_seqK K rfl (pv 0)) (blkOk_by (N := ["row", "common", "number"]) (sc := defScope s_reduced) (own := [("number", 2)]) (by decide +kernel)) (fun _ _ _ _ _ => (pg_name (i := 2) sc_reduced.nd rfl (Or.inl rfl))) (fun _ _ _ _ _ => pts_nil) (fun _ _ _ _ _ => (pe_op op_fdivW (pv 2) (pv 1)))) (pv 0)))))), ?_⟩
  exact def_reads (G := (pureG cl)) (E := E) (N := ["row", "common", "number"]) (n := 1) (f := b_reduced) ((ss_seq (ss_asg sm_int)
      (ss_seq (ss_for (is_seq sm_var) gs_name (ss_asg (sm_P (sma_cons sm_var (sma_cons sm_var sma_nil)))))
      (ss_ret (sm_if (smt_test (sm_op rs_gt sm_var sm_int)) (sm_comp (is_seq sm_var) gs_name (by decide) smt_yes (sm_op rs_fdiv sm_var sm_var)) sm_var))))) h
theorem ok_cleared (T : Txt K mg ad fd cl) : FnOk P w K mg base (L2N.CX P w) 6 (ad 3) (fd 3) ["row", "pivot", "column"] (spF (pureG cl) (m_cleared) 3) := by
  refine okN T.F_cleared sc_cleared (fun vs H Q E h => h.1) (fun cdv A outer s H vs Q E hr h => ?_)
  refine ⟨_, (pss_cons (ps_if (pt_cmpR (op_eqK K rfl hr.units) (pe_ix (ix_K K rfl) (pv 0) (pv 2) (fun _ _ => rfl)) pe_int (nomark _)) (pss_one (ps_ret (pv 0))) pss_nil)
      (pss_cons (ps_asg (pe_tup (pa_cons (pe_ix (ix_K K rfl) (pv 1) (pv 2) (fun _ _ => rfl)) (pa_cons (pe_ix (ix_K K rfl) (pv 0) (pv 2) (fun _ _ => rfl)) pa_nil))) (pg_tupK K rfl rfl (pgs_cons (pg_name (i := 3) sc_cleared.nd rfl (Or.inr rfl)) (pgs_cons (pg_name (i := 4) sc_cleared.nd rfl (Or.inr rfl)) pgs_nil))))
      (pss_one (ps_ret (pe_call (ok_reduced T) (hr.mono (by decide)) (by rfl) T.g_reduced T.F_reduced.kp T.b_reduced .nil (L2N.passes_call (L2N.takes_of rfl rfl rfl rfl) (fun _ _ _ _ h => h)) (pa_cons (pe_lc (own := [("place", 5), ("number", 6)]) (g := (gTup K 2 (gNames [5, 6]))) rfl sc_cleared.nd (pi_enumA K rfl (by rfl) T.z_enumerate (pa_cons (pv 0) pa_nil)) (blkOk_by (N := ["row", "pivot", "column", "scale", "factor", "place", "number"]) (sc := defScope s_cleared) (own := [("place", 5), ("number", 6)]) (by decide +kernel)) (fun _ _ _ _ _ => (pg_tupK K rfl rfl (pgs_cons (pg_name (i := 5) sc_cleared.nd rfl (Or.inl rfl)) (pgs_cons (pg_name (i := 6) sc_cleared.nd rfl (Or.inl rfl)) pgs_nil)))) (fun _ _ _ _ _ => pts_nil) (fun _ _ _ _ _ => (pe_op op_sub (pe_op (op_mulK K rfl) (pv 6) (pv 3)) (pe_op (op_mulK K rfl) (pe_ix (ix_K K rfl) (pv 1) (pv 5) (fun _ _ => rfl)) (pv 4))))) pa_nil)))))), ?_⟩
  exact def_reads (G := (pureG cl)) (E := E) (N := ["row", "pivot", "column", "scale", "factor", "place", "number"]) (n := 3) (f := b_cleared) ((ss_seq (ss_if (smt_test (sm_op rs_eq (sm_op rs_ix sm_var sm_var) sm_int)) (ss_ret sm_var) ss_next)
      (ss_seq (ss_asgT [3, 4] rfl (sm_tup (sma_cons (sm_op rs_ix sm_var sm_var) (sma_cons (sm_op rs_ix sm_var sm_var) sma_nil))))
      (ss_ret (sm_P (sma_cons (sm_comp (is_enumA (sma_cons sm_var sma_nil)) (gs_tup [5, 6] rfl) (by decide) smt_yes (sm_op rs_sub (sm_op rs_mul sm_var sm_var) (sm_op rs_mul (sm_op rs_ix sm_var sm_var) sm_var))) sma_nil)))))) h
theorem ok_pivoted (T : Txt K mg ad fd cl) : FnOk P w K mg base (L2N.CX P w) 8 (ad 4) (fd 4) ["rows", "basis", "goal", "number", "column"] (spF (pureG cl) (m_pivoted) 5) := by
  refine okN T.F_pivoted sc_pivoted (fun vs H Q E h => h.1) (fun cdv A outer s H vs Q E hr h => ?_)
  refine ⟨_, (pss_cons (ps_set (i := 5) sc_pivoted.nd rfl (Or.inr rfl) (pe_ix (ix_K K rfl) (pv 0) (pv 3) (fun _ _ => rfl)))
      (pss_cons (ps_setLc (i := 6) (own := [("at", 7), ("row", 8)]) (g := (gTup K 2 (gNames [7, 8]))) rfl sc_pivoted.nd rfl rfl (sw_true rfl rfl rfl (by decide +kernel)) (pi_enumA K rfl (by rfl) T.z_enumerate (pa_cons (pv 0) pa_nil)) (blkOk_by (N := ["rows", "basis", "goal", "number", "column", "pivot", "made", "at", "row"]) (sc := defScope s_pivoted) (own := [("at", 7), ("row", 8)]) (by decide +kernel)) (fun _ _ _ _ _ => (pg_tupK K rfl rfl (pgs_cons (pg_name (i := 7) sc_pivoted.nd rfl (Or.inl rfl)) (pgs_cons (pg_name (i := 8) sc_pivoted.nd rfl (Or.inl rfl)) pgs_nil)))) (fun _ _ _ _ _ => pts_nil) (fun _ _ _ _ _ => (pe_ifExp (pt_cmpR (op_eqK K rfl hr.units) (pv 7) (pv 3) (nomark _)) (pv 8) (pe_call (ok_cleared T) (hr.mono (by decide)) (by rfl) T.g_cleared T.F_cleared.kp T.b_cleared .nil passN (pa_cons (pv 8) (pa_cons (pv 5) (pa_cons (pv 4) pa_nil)))))))
      (pss_one (ps_ret (pe_tup (pa_cons (pv 6) (pa_cons (pe_op (op_addK K rfl) (pe_op (op_addK K rfl) (pe_slice (sl_K K rfl) (pv 1) po_none (po_some (pv 3))) (pe_lst (pa_cons (pv 4) pa_nil))) (pe_slice (sl_K K rfl) (pv 1) (po_some (pe_op (op_addK K rfl) (pv 3) pe_int)) po_none)) (pa_cons (pe_call (ok_cleared T) (hr.mono (by decide)) (by rfl) T.g_cleared T.F_cleared.kp T.b_cleared .nil (L2N.passes_call (L2N.takes_of rfl rfl rfl rfl) (fun _ _ _ _ h => h)) (pa_cons (pv 2) (pa_cons (pv 5) (pa_cons (pv 4) pa_nil)))) pa_nil)))))))), ?_⟩
  exact def_reads (G := (pureG cl)) (E := E) (N := ["rows", "basis", "goal", "number", "column", "pivot", "made", "at", "row"]) (n := 5) (f := b_pivoted) ((ss_seq (ss_asg (sm_op rs_ix sm_var sm_var))
      (ss_seq (ss_asg (sm_comp (is_enumA (sma_cons sm_var sma_nil)) (gs_tup [7, 8] rfl) (by decide) smt_yes (sm_if (smt_test (sm_op rs_eq sm_var sm_var)) sm_var (sm_P (sma_cons sm_var (sma_cons sm_var (sma_cons sm_var sma_nil)))))))
      (ss_ret (sm_tup (sma_cons sm_var (sma_cons (sm_op rs_add (sm_op rs_add (sm_sl sm_var smo_no (smo_part sm_var)) (sm_lst (sma_cons sm_var sma_nil))) (sm_sl sm_var (smo_part (sm_op rs_add sm_var sm_int)) smo_no)) (sma_cons (sm_P (sma_cons sm_var (sma_cons sm_var (sma_cons sm_var sma_nil)))) sma_nil)))))))) h
theorem ok_lowered (T : Txt K mg ad fd cl) (FU : Nat) : FnOk P w K mg base (L2N.CX P w) 10 (ad 6) (fd 6) ["rows", "basis", "goal", "many"] (spF (pureG cl) (m_lowered FU) 4) := by
  refine okN T.F_lowered sc_lowered (fun vs H Q E h => h.1) (fun cdv A outer s H vs Q E hr h => ?_)
  refine ⟨_, (pss_one (ps_while (passes_of rfl) (pt_val pe_bl) (pss_cons (ps_setLc (i := 4) (own := [("column", 5)]) (g := (gName 5)) rfl sc_lowered.nd rfl rfl (sw_true rfl rfl rfl (by decide +kernel)) (pi_range1 (by rfl) T.z_range (pa_cons (pv 3) pa_nil)) (blkOk_by (N := ["rows", "basis", "goal", "many", "better", "column", "number"]) (sc := defScope s_lowered) (own := [("column", 5)]) (by decide +kernel)) (fun _ _ _ _ _ => (pg_name (i := 5) sc_lowered.nd rfl (Or.inl rfl))) (fun _ _ _ _ _ => (pts_one (pt_cmpR op_lt (pe_ix (ix_K K rfl) (pv 2) (pv 5) (fun _ _ => rfl)) pe_int (nomark _)))) (fun _ _ _ _ _ => (pv 5)))
      (pss_cons (ps_if (pt_cmpR (op_eqK K rfl hr.units) (pv 4) (pe_lst pa_nil) (nomark _)) (pss_one (ps_ret (pe_tup (pa_cons (pv 0) (pa_cons (pv 1) (pa_cons (pv 2) (pa_cons pe_bl pa_nil))))))) pss_nil)
      (pss_cons (ps_set (i := 6) sc_lowered.nd rfl (Or.inl rfl) (pe_call (ok_leaving T) (hr.mono (by decide)) (by rfl) T.g_leaving T.F_leaving.kp T.b_leaving .nil (L2N.passes_call (L2N.takes_of rfl rfl rfl rfl) (fun _ _ _ _ h => h)) (pa_cons (pv 0) (pa_cons (pv 1) (pa_cons (pe_ix (ix_K K rfl) (pv 4) pe_int (fun _ _ => rfl)) pa_nil)))))
      (pss_cons (ps_if (pt_cmpR op_isN (pv 6) pe_non (nomark _)) (pss_one (ps_ret (pe_tup (pa_cons (pv 0) (pa_cons (pv 1) (pa_cons (pv 2) (pa_cons pe_bl pa_nil))))))) pss_nil)
      (pss_one (ps_asg (pe_call (ok_pivoted T) (hr.mono (by decide)) (by rfl) T.g_pivoted T.F_pivoted.kp T.b_pivoted .nil (L2N.passes_call (L2N.takes_of rfl rfl rfl rfl) (fun _ _ _ _ h => h)) (pa_cons (pv 0) (pa_cons (pv 1) (pa_cons (pv 2) (pa_cons (pv 6) (pa_cons (pe_ix (ix_K K rfl) (pv 4) pe_int (fun _ _ => rfl)) pa_nil)))))) (pg_tupK K rfl rfl (pgs_cons (pg_name (i := 0) sc_lowered.nd rfl (Or.inl rfl)) (pgs_cons (pg_name (i := 1) sc_lowered.nd rfl (Or.inl rfl)) (pgs_cons (pg_name (i := 2) sc_lowered.nd rfl (Or.inr rfl)) pgs_nil)))))))))))), ?_⟩
  exact def_reads (G := (pureG cl)) (E := E) (N := ["rows", "basis", "goal", "many", "better", "column", "number"]) (n := 4) (f := b_lowered FU) ((ss_while (fun _ _ => FU) (smt_B sm_bl) (ss_seq (ss_asg (sm_comp (is_range1 (sma_cons sm_var sma_nil)) gs_name (by decide) (smt_test (sm_op rs_lt (sm_op rs_ix sm_var sm_var) sm_int)) sm_var))
      (ss_seq (ss_if (smt_test (sm_op rs_eq sm_var (sm_lst sma_nil))) (ss_ret (sm_tup (sma_cons sm_var (sma_cons sm_var (sma_cons sm_var (sma_cons sm_bl sma_nil)))))) ss_next)
      (ss_seq (ss_asg (sm_P (sma_cons sm_var (sma_cons sm_var (sma_cons (sm_op rs_ix sm_var sm_int) sma_nil)))))
      (ss_seq (ss_if (smt_test (sm_op rs_is sm_var sm_non)) (ss_ret (sm_tup (sma_cons sm_var (sma_cons sm_var (sma_cons sm_var (sma_cons sm_bl sma_nil)))))) ss_next)
      (ss_asgT [0, 1, 2] rfl (sm_P (sma_cons sm_var (sma_cons sm_var (sma_cons sm_var (sma_cons sm_var (sma_cons (sm_op rs_ix sm_var sm_int) sma_nil))))))))))))) h
theorem ok_freed (T : Txt K mg ad fd cl) : FnOk P w K mg base (L2N.CX P w) 10 (ad 7) (fd 7) ["rows", "basis", "goal", "many"] (spF (pureG cl) (m_freed) 4) := by
  refine okN T.F_freed sc_freed (fun vs H Q E h => h.1) (fun cdv A outer s H vs Q E hr h => ?_)
  refine ⟨_, (pss_cons (ps_for (passes_of rfl) rfl (pi_range1 (by rfl) T.z_range (pa_cons (pe_callB (call_lenK K rfl) (by rfl) T.z_len (by decide +kernel) (pa_cons (pv 0) pa_nil)) pa_nil)) (pg_name (i := 4) sc_freed.nd rfl (Or.inr rfl)) (pss_cons (ps_setLc (i := 5) (own := [("column", 6)]) (g := (gName 6)) rfl sc_freed.nd rfl rfl (sw_true rfl rfl rfl (by decide +kernel)) (pi_range1 (by rfl) T.z_range (pa_cons (pv 3) pa_nil)) (blkOk_by (N := ["rows", "basis", "goal", "many", "number", "columns", "column", "one"]) (sc := defScope s_freed) (own := [("column", 6)]) (by decide +kernel)) (fun _ _ _ _ _ => (pg_name (i := 6) sc_freed.nd rfl (Or.inl rfl))) (fun _ _ _ _ _ => (pts_one (pt_cmpR (op_neK K rfl hr.units) (pe_ix (ix_K K rfl) (pe_ix (ix_K K rfl) (pv 0) (pv 4) (fun _ _ => rfl)) (pv 6) (fun _ _ => rfl)) pe_int (nomark _)))) (fun _ _ _ _ _ => (pv 6)))
      (pss_one (ps_if (PW.pt (pw_and (pt_cmpR op_ge (pe_ix (ix_K K rfl) (pv 1) (pv 4) (fun _ _ => rfl)) (pv 3) (nomark _)) (pw_and1 (pt_cmpR (op_neK K rfl hr.units) (pv 5) (pe_lst pa_nil) (nomark _))))) (pss_cons (ps_if (pt_cmpR op_lt (pe_ix (ix_K K rfl) (pe_ix (ix_K K rfl) (pv 0) (pv 4) (fun _ _ => rfl)) (pe_ix (ix_K K rfl) (pv 5) pe_int (fun _ _ => rfl)) (fun _ _ => rfl)) pe_int (nomark _)) (pss_one (ps_set (i := 0) sc_freed.nd rfl (Or.inr rfl) (pe_op (op_addK K rfl) (pe_op (op_addK K rfl) (pe_slice (sl_K K rfl) (pv 0) po_none (po_some (pv 4))) (pe_lst (pa_cons (pe_lc (own := [("one", 7)]) (g := (gName 7)) rfl sc_freed.nd (pi_seqK K rfl (pe_ix (ix_K K rfl) (pv 0) (pv 4) (fun _ _ => rfl))) (blkOk_by (N := ["rows", "basis", "goal", "many", "number", "columns", "column", "one"]) (sc := defScope s_freed) (own := [("one", 7)]) (by decide +kernel)) (fun _ _ _ _ _ => (pg_name (i := 7) sc_freed.nd rfl (Or.inl rfl))) (fun _ _ _ _ _ => pts_nil) (fun _ _ _ _ _ => (pe_un un_neg (pv 7)))) pa_nil))) (pe_slice (sl_K K rfl) (pv 0) (po_some (pe_op (op_addK K rfl) (pv 4) pe_int)) po_none)))) pss_nil)
      (pss_one (ps_asg (pe_call (ok_pivoted T) (hr.mono (by decide)) (by rfl) T.g_pivoted T.F_pivoted.kp T.b_pivoted .nil (L2N.passes_call (L2N.takes_of rfl rfl rfl rfl) (fun _ _ _ _ h => h)) (pa_cons (pv 0) (pa_cons (pv 1) (pa_cons (pv 2) (pa_cons (pv 4) (pa_cons (pe_ix (ix_K K rfl) (pv 5) pe_int (fun _ _ => rfl)) pa_nil)))))) (pg_tupK K rfl rfl (pgs_cons (pg_name (i := 0) sc_freed.nd rfl (Or.inr rfl)) (pgs_cons (pg_name (i := 1) sc_freed.nd rfl (Or.inl rfl)) (pgs_cons (pg_name (i := 2) sc_freed.nd rfl (Or.inl rfl)) pgs_nil))))))) pss_nil))))
      (pss_one (ps_ret (pe_tup (pa_cons (pv 0) (pa_cons (pv 1) (pa_cons (pv 2) pa_nil))))))), ?_⟩
  exact def_reads (G := (pureG cl)) (E := E) (N := ["rows", "basis", "goal", "many", "number", "columns", "column", "one"]) (n := 4) (f := b_freed) ((ss_seq (ss_for (is_range1 (sma_cons (sm_B cs_len (sma_cons sm_var sma_nil)) sma_nil)) gs_name (ss_seq (ss_asg (sm_comp (is_range1 (sma_cons sm_var sma_nil)) gs_name (by decide) (smt_test (sm_op rs_ne (sm_op rs_ix (sm_op rs_ix sm_var sm_var) sm_var) sm_int)) sm_var))
      (ss_if (smt_and (smt_test (sm_op rs_ge (sm_op rs_ix sm_var sm_var) sm_var)) (smt_test (sm_op rs_ne sm_var (sm_lst sma_nil)))) (ss_seq (ss_if (smt_test (sm_op rs_lt (sm_op rs_ix (sm_op rs_ix sm_var sm_var) (sm_op rs_ix sm_var sm_int)) sm_int)) (ss_asg (sm_op rs_add (sm_op rs_add (sm_sl sm_var smo_no (smo_part sm_var)) (sm_lst (sma_cons (sm_comp (is_seq (sm_op rs_ix sm_var sm_var)) gs_name (by decide) smt_yes (sm_un rs_neg sm_var)) sma_nil))) (sm_sl sm_var (smo_part (sm_op rs_add sm_var sm_int)) smo_no))) ss_next)
      (ss_asgT [0, 1, 2] rfl (sm_P (sma_cons sm_var (sma_cons sm_var (sma_cons sm_var (sma_cons sm_var (sma_cons (sm_op rs_ix sm_var sm_int) sma_nil)))))))) ss_next)))
      (ss_ret (sm_tup (sma_cons sm_var (sma_cons sm_var (sma_cons sm_var sma_nil))))))) h
theorem ok_lowest (T : Txt K mg ad fd cl) : FnOk P w K mg base (L2N.CX P w) 4 (ad 1) (fd 1) ["top", "under"] (spF (pureG cl) (m_lowest) 2) := by
  refine okN T.F_lowest sc_lowest (fun vs H Q E h => h.1) (fun cdv A outer s H vs Q E hr h => ?_)
  refine ⟨_, (pss_cons (ps_set (i := 2) sc_lowest.nd rfl (Or.inl rfl) (pe_call (ok_divisor T) (hr.mono (by decide)) (by rfl) T.g_divisor T.F_divisor.kp T.b_divisor .nil (L2N.passes_call (L2N.takes_of rfl rfl rfl rfl) (fun _ _ _ _ h => h)) (pa_cons (pv 0) (pa_cons (pv 1) pa_nil))))
      (pss_one (ps_ret (pe_tup (pa_cons (pe_op op_fdivW (pv 0) (pv 2)) (pa_cons (pe_op op_fdivW (pv 1) (pv 2)) pa_nil)))))), ?_⟩
  exact def_reads (G := (pureG cl)) (E := E) (N := ["top", "under", "common"]) (n := 2) (f := b_lowest) ((ss_seq (ss_asg (sm_P (sma_cons sm_var (sma_cons sm_var sma_nil))))
      (ss_ret (sm_tup (sma_cons (sm_op rs_fdiv sm_var sm_var) (sma_cons (sm_op rs_fdiv sm_var sm_var) sma_nil)))))) h
theorem ok_least_sum (T : Txt K mg ad fd cl) (FU : Nat) : FnOk P w K mg base (L2N.CX P w) 12 (ad 8) (fd 8) ["columns", "right", "costs"] (spF (pureG cl) (m_least_sum FU) 3) := by
  refine okN T.F_least_sum sc_least_sum (fun vs H Q E h => h.1) (fun cdv A outer s H vs Q E hr h => ?_)
  refine ⟨_, (pss_cons (ps_asg (pe_tup (pa_cons (pe_callB (call_lenK K rfl) (by rfl) T.z_len (by decide +kernel) (pa_cons (pv 0) pa_nil)) (pa_cons (pe_callB (call_lenK K rfl) (by rfl) T.z_len (by decide +kernel) (pa_cons (pv 1) pa_nil)) pa_nil))) (pg_tupK K rfl rfl (pgs_cons (pg_name (i := 3) sc_least_sum.nd rfl (Or.inr rfl)) (pgs_cons (pg_name (i := 4) sc_least_sum.nd rfl (Or.inl rfl)) pgs_nil))))
      (pss_cons (ps_set (i := 5) sc_least_sum.nd rfl (Or.inl rfl) (pe_lst pa_nil))
      (pss_cons (ps_for (passes_of rfl) rfl (pi_range1 (by rfl) T.z_range (pa_cons (pv 4) pa_nil)) (pg_name (i := 6) sc_least_sum.nd rfl (Or.inr rfl)) (pss_cons (ps_setLc (i := 7) (own := [("other", 8)]) (g := (gName 8)) rfl sc_least_sum.nd rfl rfl (sw_true rfl rfl rfl (by decide +kernel)) (pi_range1 (by rfl) T.z_range (pa_cons (pv 4) pa_nil)) (blkOk_by (N := ["columns", "right", "costs", "many", "size", "rows", "place", "put_in", "other", "column", "basis", "goal", "is_bound", "number", "factors", "prices"]) (sc := defScope s_least_sum) (own := [("other", 8)]) (by decide +kernel)) (fun _ _ _ _ _ => (pg_name (i := 8) sc_least_sum.nd rfl (Or.inl rfl))) (fun _ _ _ _ _ => pts_nil) (fun _ _ _ _ _ => (pe_ifExp (pt_cmpR (op_eqK K rfl hr.units) (pv 6) (pv 8) (nomark _)) pe_int pe_int)))
      (pss_one (ps_expr (pe_bm PySem.F.plainAttrs_list PySem.F.slot_list_append PySem.F.type_list_append mt_append (pv 5) (pa_cons (pe_op (op_addK K rfl) (pe_op (op_addK K rfl) (pe_lc (own := [("column", 9)]) (g := (gName 9)) rfl sc_least_sum.nd (pi_seqK K rfl (pv 0)) (blkOk_by (N := ["columns", "right", "costs", "many", "size", "rows", "place", "put_in", "other", "column", "basis", "goal", "is_bound", "number", "factors", "prices"]) (sc := defScope s_least_sum) (own := [("column", 9)]) (by decide +kernel)) (fun _ _ _ _ _ => (pg_name (i := 9) sc_least_sum.nd rfl (Or.inl rfl))) (fun _ _ _ _ _ => pts_nil) (fun _ _ _ _ _ => (pe_ix (ix_K K rfl) (pv 9) (pv 6) (fun _ _ => rfl)))) (pv 7)) (pe_lst (pa_cons pe_int (pa_cons (pe_ix (ix_K K rfl) (pv 1) (pv 6) (fun _ _ => rfl)) pa_nil)))) pa_nil))))))
      (pss_cons (ps_setLc (i := 10) (own := [("place", 6)]) (g := (gName 6)) rfl sc_least_sum.nd rfl rfl (sw_true rfl rfl rfl (by decide +kernel)) (pi_range1 (by rfl) T.z_range (pa_cons (pv 4) pa_nil)) (blkOk_by (N := ["columns", "right", "costs", "many", "size", "rows", "place", "put_in", "other", "column", "basis", "goal", "is_bound", "number", "factors", "prices"]) (sc := defScope s_least_sum) (own := [("place", 6)]) (by decide +kernel)) (fun _ _ _ _ _ => (pg_name (i := 6) sc_least_sum.nd rfl (Or.inl rfl))) (fun _ _ _ _ _ => pts_nil) (fun _ _ _ _ _ => (pe_op (op_addK K rfl) (pv 3) (pv 6))))
      (pss_cons (ps_set (i := 11) sc_least_sum.nd rfl (Or.inr rfl) (pe_op (op_addK K rfl) (pe_op (op_addK K rfl) (pe_lc (own := [("column", 9)]) (g := (gName 9)) rfl sc_least_sum.nd (pi_seqK K rfl (pv 0)) (blkOk_by (N := ["columns", "right", "costs", "many", "size", "rows", "place", "put_in", "other", "column", "basis", "goal", "is_bound", "number", "factors", "prices"]) (sc := defScope s_least_sum) (own := [("column", 9)]) (by decide +kernel)) (fun _ _ _ _ _ => (pg_name (i := 9) sc_least_sum.nd rfl (Or.inl rfl))) (fun _ _ _ _ _ => pts_nil) (fun _ _ _ _ _ => (pe_un un_neg (pe_callB (call_sumA K rfl rfl) (by rfl) T.z_sum (by decide +kernel) (pa_cons (pv 9) pa_nil))))) (pe_op (op_mulK K rfl) (pe_lst (pa_cons pe_int pa_nil)) (pv 4))) (pe_lst (pa_cons pe_int (pa_cons (pe_un un_neg (pe_callB (call_sumA K rfl rfl) (by rfl) T.z_sum (by decide +kernel) (pa_cons (pv 1) pa_nil))) pa_nil)))))
      (pss_cons (ps_asg (pe_call (ok_lowered T FU) (hr.mono (by decide)) (by rfl) T.g_lowered T.F_lowered.kp T.b_lowered .nil (L2N.passes_call (L2N.takes_of rfl rfl rfl rfl) (fun _ _ _ _ h => h)) (pa_cons (pv 5) (pa_cons (pv 10) (pa_cons (pv 11) (pa_cons (pv 3) pa_nil))))) (pg_tupK K rfl rfl (pgs_cons (pg_name (i := 5) sc_least_sum.nd rfl (Or.inl rfl)) (pgs_cons (pg_name (i := 10) sc_least_sum.nd rfl (Or.inl rfl)) (pgs_cons (pg_name (i := 11) sc_least_sum.nd rfl (Or.inr rfl)) (pgs_cons (pg_name (i := 12) sc_least_sum.nd rfl (Or.inl rfl)) pgs_nil))))))
      (pss_cons (ps_if (pt_cmpR op_lt (pe_ix (ix_K K rfl) (pv 11) (pe_un un_neg pe_int) (fun _ _ => rfl)) pe_int (nomark _)) (pss_one (ps_ret (pe_tup (pa_cons pe_str (pa_cons pe_non (pa_cons (pe_lst pa_nil) (pa_cons (pe_call (ok_reduced T) (hr.mono (by decide)) (by rfl) T.g_reduced T.F_reduced.kp T.b_reduced .nil (L2N.passes_call (L2N.takes_of rfl rfl rfl rfl) (fun _ _ _ _ h => h)) (pa_cons (pe_lc (own := [("place", 6)]) (g := (gName 6)) rfl sc_least_sum.nd (pi_range1 (by rfl) T.z_range (pa_cons (pv 4) pa_nil)) (blkOk_by (N := ["columns", "right", "costs", "many", "size", "rows", "place", "put_in", "other", "column", "basis", "goal", "is_bound", "number", "factors", "prices"]) (sc := defScope s_least_sum) (own := [("place", 6)]) (by decide +kernel)) (fun _ _ _ _ _ => (pg_name (i := 6) sc_least_sum.nd rfl (Or.inl rfl))) (fun _ _ _ _ _ => pts_nil) (fun _ _ _ _ _ => (pe_op op_sub (pe_ix (ix_K K rfl) (pv 11) (pe_un un_neg pe_int) (fun _ _ => rfl)) (pe_ix (ix_K K rfl) (pv 11) (pe_op (op_addK K rfl) (pv 3) (pv 6)) (fun _ _ => rfl))))) pa_nil)) pa_nil))))))) pss_nil)
      (pss_cons (ps_asg (pe_call (ok_freed T) (hr.mono (by decide)) (by rfl) T.g_freed T.F_freed.kp T.b_freed .nil (L2N.passes_call (L2N.takes_of rfl rfl rfl rfl) (fun _ _ _ _ h => h)) (pa_cons (pv 5) (pa_cons (pv 10) (pa_cons (pv 11) (pa_cons (pv 3) pa_nil))))) (pg_tupK K rfl rfl (pgs_cons (pg_name (i := 5) sc_least_sum.nd rfl (Or.inl rfl)) (pgs_cons (pg_name (i := 10) sc_least_sum.nd rfl (Or.inl rfl)) (pgs_cons (pg_name (i := 11) sc_least_sum.nd rfl (Or.inr rfl)) pgs_nil)))))
      (pss_cons (ps_set (i := 11) sc_least_sum.nd rfl (Or.inr rfl) (pe_op (op_addK K rfl) (pe_op (op_addK K rfl) (pe_callTy (call_listK K rfl) (by rfl) T.z_list (by decide +kernel) (pa_cons (pv 2) pa_nil)) (pe_op (op_mulK K rfl) (pe_lst (pa_cons pe_int pa_nil)) (pv 4))) (pe_lst (pa_cons pe_int (pa_cons pe_int pa_nil)))))
      (pss_cons (ps_for (passes_of rfl) rfl (pi_enumA K rfl (by rfl) T.z_enumerate (pa_cons (pv 10) pa_nil)) (pg_tupK K rfl rfl (pgs_cons (pg_name (i := 13) sc_least_sum.nd rfl (Or.inl rfl)) (pgs_cons (pg_name (i := 9) sc_least_sum.nd rfl (Or.inl rfl)) pgs_nil))) (pss_one (ps_set (i := 11) sc_least_sum.nd rfl (Or.inr rfl) (pe_call (ok_cleared T) (hr.mono (by decide)) (by rfl) T.g_cleared T.F_cleared.kp T.b_cleared .nil (L2N.passes_call (L2N.takes_of rfl rfl rfl rfl) (fun _ _ _ _ h => h)) (pa_cons (pv 11) (pa_cons (pe_ix (ix_K K rfl) (pv 5) (pv 13) (fun _ _ => rfl)) (pa_cons (pv 9) pa_nil)))))))
      (pss_cons (ps_asg (pe_call (ok_lowered T FU) (hr.mono (by decide)) (by rfl) T.g_lowered T.F_lowered.kp T.b_lowered .nil (L2N.passes_call (L2N.takes_of rfl rfl rfl rfl) (fun _ _ _ _ h => h)) (pa_cons (pv 5) (pa_cons (pv 10) (pa_cons (pv 11) (pa_cons (pv 3) pa_nil))))) (pg_tupK K rfl rfl (pgs_cons (pg_name (i := 5) sc_least_sum.nd rfl (Or.inl rfl)) (pgs_cons (pg_name (i := 10) sc_least_sum.nd rfl (Or.inl rfl)) (pgs_cons (pg_name (i := 11) sc_least_sum.nd rfl (Or.inr rfl)) (pgs_cons (pg_name (i := 12) sc_least_sum.nd rfl (Or.inl rfl)) pgs_nil))))))
      (pss_cons (ps_set (i := 14) sc_least_sum.nd rfl (Or.inl rfl) (pe_op (op_mulK K rfl) (pe_lst (pa_cons (pe_tup (pa_cons pe_int (pa_cons pe_int pa_nil))) pa_nil)) (pv 3)))
      (pss_cons (ps_for (passes_of rfl) rfl (pi_enumA K rfl (by rfl) T.z_enumerate (pa_cons (pv 10) pa_nil)) (pg_tupK K rfl rfl (pgs_cons (pg_name (i := 13) sc_least_sum.nd rfl (Or.inl rfl)) (pgs_cons (pg_name (i := 9) sc_least_sum.nd rfl (Or.inl rfl)) pgs_nil))) (pss_one (ps_if (pt_cmpR op_lt (pv 9) (pv 3) (nomark _)) (pss_one (ps_asg (pe_call (ok_lowest T) (hr.mono (by decide)) (by rfl) T.g_lowest T.F_lowest.kp T.b_lowest .nil (L2N.passes_call (L2N.takes_of rfl rfl rfl rfl) (fun _ _ _ _ h => h)) (pa_cons (pe_ix (ix_K K rfl) (pe_ix (ix_K K rfl) (pv 5) (pv 13) (fun _ _ => rfl)) (pe_un un_neg pe_int) (fun _ _ => rfl)) (pa_cons (pe_ix (ix_K K rfl) (pe_ix (ix_K K rfl) (pv 5) (pv 13) (fun _ _ => rfl)) (pv 9) (fun _ _ => rfl)) pa_nil))) (pg_sub (pv 14) (pv 9) set_list))) pss_nil)))
      (pss_cons (ps_if (pt_not (pt_val (pv 12))) (pss_one (ps_ret (pe_tup (pa_cons pe_str (pa_cons pe_non (pa_cons (pv 14) (pa_cons (pe_lst pa_nil) pa_nil))))))) pss_nil)
      (pss_cons (ps_setLc (i := 15) (own := [("place", 6)]) (g := (gName 6)) rfl sc_least_sum.nd rfl rfl (sw_true rfl rfl rfl (by decide +kernel)) (pi_range1 (by rfl) T.z_range (pa_cons (pv 4) pa_nil)) (blkOk_by (N := ["columns", "right", "costs", "many", "size", "rows", "place", "put_in", "other", "column", "basis", "goal", "is_bound", "number", "factors", "prices"]) (sc := defScope s_least_sum) (own := [("place", 6)]) (by decide +kernel)) (fun _ _ _ _ _ => (pg_name (i := 6) sc_least_sum.nd rfl (Or.inl rfl))) (fun _ _ _ _ _ => pts_nil) (fun _ _ _ _ _ => (pe_call (ok_lowest T) (hr.mono (by decide)) (by rfl) T.g_lowest T.F_lowest.kp T.b_lowest .nil passN (pa_cons (pe_un un_neg (pe_ix (ix_K K rfl) (pv 11) (pe_op (op_addK K rfl) (pv 3) (pv 6)) (fun _ _ => rfl))) (pa_cons (pe_ix (ix_K K rfl) (pv 11) (pe_un un_neg pe_int) (fun _ _ => rfl)) pa_nil)))))
      (pss_one (ps_ret (pe_tup (pa_cons pe_str (pa_cons (pe_call (ok_lowest T) (hr.mono (by decide)) (by rfl) T.g_lowest T.F_lowest.kp T.b_lowest .nil (L2N.passes_call (L2N.takes_of rfl rfl rfl rfl) (fun _ _ _ _ h => h)) (pa_cons (pe_un un_neg (pe_ix (ix_K K rfl) (pv 11) (pe_un un_neg pe_int) (fun _ _ => rfl))) (pa_cons (pe_ix (ix_K K rfl) (pv 11) (pe_un un_neg pe_int) (fun _ _ => rfl)) pa_nil))) (pa_cons (pv 14) (pa_cons (pv 15) pa_nil)))))))))))))))))))))), ?_⟩
  exact def_reads (G := (pureG cl)) (E := E) (N := ["columns", "right", "costs", "many", "size", "rows", "place", "put_in", "other", "column", "basis", "goal", "is_bound", "number", "factors", "prices"]) (n := 3) (f := b_least_sum FU) ((ss_seq (ss_asgT [3, 4] rfl (sm_tup (sma_cons (sm_B cs_len (sma_cons sm_var sma_nil)) (sma_cons (sm_B cs_len (sma_cons sm_var sma_nil)) sma_nil))))
      (ss_seq (ss_asgO (newL_lst sma_nil))
      (ss_seq (ss_for (is_range1 (sma_cons sm_var sma_nil)) gs_name (ss_seq (ss_asg (sm_comp (is_range1 (sma_cons sm_var sma_nil)) gs_name (by decide) smt_yes (sm_if (smt_test (sm_op rs_eq sm_var sm_var)) sm_int sm_int)))
      (ss_app (sm_op rs_add (sm_op rs_add (sm_comp (is_seq sm_var) gs_name (by decide) smt_yes (sm_op rs_ix sm_var sm_var)) sm_var) (sm_lst (sma_cons sm_int (sma_cons (sm_op rs_ix sm_var sm_var) sma_nil)))))))
      (ss_seq (ss_asg (sm_comp (is_range1 (sma_cons sm_var sma_nil)) gs_name (by decide) smt_yes (sm_op rs_add sm_var sm_var)))
      (ss_seq (ss_asg (sm_op rs_add (sm_op rs_add (sm_comp (is_seq sm_var) gs_name (by decide) smt_yes (sm_un rs_neg (sm_B cs_sumA (sma_cons sm_var sma_nil)))) (sm_op rs_mul (sm_lst (sma_cons sm_int sma_nil)) sm_var)) (sm_lst (sma_cons sm_int (sma_cons (sm_un rs_neg (sm_B cs_sumA (sma_cons sm_var sma_nil))) sma_nil)))))
      (ss_seq (ss_frz 5 (ss_asgT [5, 10, 11, 12] rfl (sm_P (sma_cons sm_var (sma_cons sm_var (sma_cons sm_var (sma_cons sm_var sma_nil)))))))
      (ss_seq (ss_if (smt_test (sm_op rs_lt (sm_op rs_ix sm_var (sm_un rs_neg sm_int)) sm_int)) (ss_ret (sm_tup (sma_cons sm_str (sma_cons sm_non (sma_cons (sm_lst sma_nil) (sma_cons (sm_P (sma_cons (sm_comp (is_range1 (sma_cons sm_var sma_nil)) gs_name (by decide) smt_yes (sm_op rs_sub (sm_op rs_ix sm_var (sm_un rs_neg sm_int)) (sm_op rs_ix sm_var (sm_op rs_add sm_var sm_var)))) sma_nil)) sma_nil)))))) ss_next)
      (ss_seq (ss_frz 5 (ss_asgT [5, 10, 11] rfl (sm_P (sma_cons sm_var (sma_cons sm_var (sma_cons sm_var (sma_cons sm_var sma_nil)))))))
      (ss_seq (ss_asg (sm_op rs_add (sm_op rs_add (sm_B cs_list (sma_cons sm_var sma_nil)) (sm_op rs_mul (sm_lst (sma_cons sm_int sma_nil)) sm_var)) (sm_lst (sma_cons sm_int (sma_cons sm_int sma_nil)))))
      (ss_seq (ss_for (is_enumA (sma_cons sm_var sma_nil)) (gs_tup [13, 9] rfl) (ss_asg (sm_P (sma_cons sm_var (sma_cons (sm_ixO sm_var) (sma_cons sm_var sma_nil))))))
      (ss_seq (ss_frz 5 (ss_asgT [5, 10, 11, 12] rfl (sm_P (sma_cons sm_var (sma_cons sm_var (sma_cons sm_var (sma_cons sm_var sma_nil)))))))
      (ss_seq (ss_asgO (smL_mul (sm_lst (sma_cons (sm_tup (sma_cons sm_int (sma_cons sm_int sma_nil))) sma_nil)) sm_var))
      (ss_seq (ss_for (is_enumA (sma_cons sm_var sma_nil)) (gs_tup [13, 9] rfl) (ss_if (smt_test (sm_op rs_lt sm_var sm_var)) (ss_setO (sm_P (sma_cons (sm_op rs_ix (sm_ixO sm_var) (sm_un rs_neg sm_int)) (sma_cons (sm_op rs_ix (sm_ixO sm_var) sm_var) sma_nil))) sm_var) ss_next))
      (ss_seq (ss_if (smt_not (smt_B sm_var)) (ss_frz 14 (ss_ret (sm_tup (sma_cons sm_str (sma_cons sm_non (sma_cons sm_var (sma_cons (sm_lst sma_nil) sma_nil))))))) ss_next)
      (ss_seq (ss_asg (sm_comp (is_range1 (sma_cons sm_var sma_nil)) gs_name (by decide) smt_yes (sm_P (sma_cons (sm_un rs_neg (sm_op rs_ix sm_var (sm_op rs_add sm_var sm_var))) (sma_cons (sm_op rs_ix sm_var (sm_un rs_neg sm_int)) sma_nil)))))
      (ss_frz 14 (ss_ret (sm_tup (sma_cons sm_str (sma_cons (sm_P (sma_cons (sm_un rs_neg (sm_op rs_ix sm_var (sm_un rs_neg sm_int))) (sma_cons (sm_op rs_ix sm_var (sm_un rs_neg sm_int)) sma_nil))) (sma_cons sm_var (sma_cons sm_var sma_nil))))))))))))))))))))))) h
theorem ok_all_pairs (T : Txt K mg ad fd cl) : FnOk P w K mg base (L2N.CX P w) 2 (ad 14) (fd 14) ["many"] (spF (pureG cl) (m_all_pairs) 1) := by
  refine okN T.F_all_pairs sc_all_pairs (fun vs H Q E h => h.1) (fun cdv A outer s H vs Q E hr h => ?_)
  refine ⟨_, (pss_cons (ps_set (i := 1) sc_all_pairs.nd rfl (Or.inl rfl) (pe_lst pa_nil))
      (pss_cons (ps_for (passes_of rfl) rfl (pi_range1 (by rfl) T.z_range (pa_cons (pv 0) pa_nil)) (pg_name (i := 2) sc_all_pairs.nd rfl (Or.inr rfl)) (pss_one (ps_set (i := 1) sc_all_pairs.nd rfl (Or.inl rfl) (pe_op (op_addK K rfl) (pv 1) (pe_lc (own := [("j", 3)]) (g := (gName 3)) rfl sc_all_pairs.nd (pi_range2 (by rfl) T.z_range (pa_cons (pe_op (op_addK K rfl) (pv 2) pe_int) (pa_cons (pv 0) pa_nil))) (blkOk_by (N := ["many", "found", "i", "j"]) (sc := defScope s_all_pairs) (own := [("j", 3)]) (by decide +kernel)) (fun _ _ _ _ _ => (pg_name (i := 3) sc_all_pairs.nd rfl (Or.inl rfl))) (fun _ _ _ _ _ => pts_nil) (fun _ _ _ _ _ => (pe_tup (pa_cons (pv 2) (pa_cons (pv 3) pa_nil)))))))))
      (pss_one (ps_ret (pv 1))))), ?_⟩
  exact def_reads (G := (pureG cl)) (E := E) (N := ["many", "found", "i", "j"]) (n := 1) (f := b_all_pairs) ((ss_seq (ss_asg (sm_lst sma_nil))
      (ss_seq (ss_for (is_range1 (sma_cons sm_var sma_nil)) gs_name (ss_asg (sm_op rs_add sm_var (sm_comp (is_range2 (sma_cons (sm_op rs_add sm_var sm_int) (sma_cons sm_var sma_nil))) gs_name (by decide) smt_yes (sm_tup (sma_cons sm_var (sma_cons sm_var sma_nil)))))))
      (ss_ret sm_var)))) h
theorem ok_marks_of (T : Txt K mg ad fd cl) : FnOk P w K mg base (L2N.CX P w) 4 (ad 19) (fd 19) ["many", "cut"] (spF (pureG cl) (m_marks_of) 2) := by
  refine okN T.F_marks_of sc_marks_of (fun vs H Q E h => h.1) (fun cdv A outer s H vs Q E hr h => ?_)
  refine ⟨_, (pss_one (ps_ret (pe_callTy (call_tupleK K rfl) (by rfl) T.z_tuple (by decide +kernel) (pa_cons (pe_lc (own := [("i", 2), ("j", 3)]) (g := (gTup K 2 (gNames [2, 3]))) rfl sc_marks_of.nd (pi_seqK K rfl (pe_call (ok_all_pairs T) (hr.mono (by decide)) (by rfl) T.g_all_pairs T.F_all_pairs.kp T.b_all_pairs .nil (L2N.passes_call (L2N.takes_of rfl rfl rfl rfl) (fun _ _ _ _ h => h)) (pa_cons (pv 0) pa_nil))) (blkOk_by (N := ["many", "cut", "i", "j"]) (sc := defScope s_marks_of) (own := [("i", 2), ("j", 3)]) (by decide +kernel)) (fun _ _ _ _ _ => (pg_tupK K rfl rfl (pgs_cons (pg_name (i := 2) sc_marks_of.nd rfl (Or.inl rfl)) (pgs_cons (pg_name (i := 3) sc_marks_of.nd rfl (Or.inl rfl)) pgs_nil)))) (fun _ _ _ _ _ => pts_nil) (fun _ _ _ _ _ => (pe_ifExp (pt_cmpR (op_neK K rfl hr.units) (pe_cmpR (op_inK K rfl (room65 hr)) (pv 2) (pv 1) (by rfl)) (pe_cmpR (op_inK K rfl (room65 hr)) (pv 3) (pv 1) (by rfl)) (nomark _)) pe_int pe_int))) pa_nil)))), ?_⟩
  exact def_reads (G := (pureG cl)) (E := E) (N := ["many", "cut", "i", "j"]) (n := 2) (f := b_marks_of) ((ss_ret (sm_B cs_tuple (sma_cons (sm_comp (is_seq (sm_P (sma_cons sm_var sma_nil))) (gs_tup [2, 3] rfl) (by decide) smt_yes (sm_if (smt_test (sm_op rs_ne (sm_op rs_in sm_var sm_var) (sm_op rs_in sm_var sm_var))) sm_int sm_int)) sma_nil)))) h
theorem ok_parts (T : Txt K mg ad fd cl) : ∀ n : Nat, FnOk P w K mg base (L2N.CX P w) (2 + n) (ad 15) (fd 15) ["first", "many"] (spF (pureG cl) (m_parts n) 2)
  | 0 => ok_stuck rfl
  | n + 1 => by
    have ih := ok_parts T n
    refine okN T.F_parts sc_parts (fun vs H Q E h => h.1) (fun cdv A outer s H vs Q E hr h => ?_)
    refine ⟨_, (pss_cons (ps_if (pt_cmpR (op_eqK K rfl hr.units) (pv 0) (pv 1) (nomark _)) (pss_one (ps_ret (pe_lst (pa_cons (pe_tup pa_nil) pa_nil)))) pss_nil)
      (pss_cons (ps_set (i := 2) sc_parts.nd rfl (Or.inl rfl) (pe_call ih hr (by rfl) T.g_parts T.F_parts.kp T.b_parts .nil (L2N.passes_call (L2N.takes_of rfl rfl rfl rfl) (fun _ _ _ _ h => h)) (pa_cons (pe_op (op_addK K rfl) (pv 0) pe_int) (pa_cons (pv 1) pa_nil))))
      (pss_one (ps_ret (pe_callB (cr_sorted K rfl (room65 hr)) (by rfl) T.z_sorted (by decide +kernel) (pa_cons (pe_op (op_addK K rfl) (pv 2) (pe_lc (own := [("part", 3)]) (g := (gName 3)) rfl sc_parts.nd (pi_seqK K rfl (pv 2)) (blkOk_by (N := ["first", "many", "later", "part"]) (sc := defScope s_parts) (own := [("part", 3)]) (by decide +kernel)) (fun _ _ _ _ _ => (pg_name (i := 3) sc_parts.nd rfl (Or.inl rfl))) (fun _ _ _ _ _ => pts_nil) (fun _ _ _ _ _ => (pe_op (op_addK K rfl) (pe_tup (pa_cons (pv 0) pa_nil)) (pv 3))))) pa_nil)))))), ?_⟩
    exact def_reads (G := (pureG cl)) (E := E) (N := ["first", "many", "later", "part"]) (n := 2) (f := b_parts (m_parts n)) ((ss_seq (ss_if (smt_test (sm_op rs_eq sm_var sm_var)) (ss_ret (sm_lst (sma_cons (sm_tup sma_nil) sma_nil))) ss_next)
      (ss_seq (ss_asg (sm_P (sma_cons (sm_op rs_add sm_var sm_int) (sma_cons sm_var sma_nil))))
      (ss_ret (sm_B cs_sorted (sma_cons (sm_op rs_add sm_var (sm_comp (is_seq sm_var) gs_name (by decide) smt_yes (sm_op rs_add (sm_tup (sma_cons sm_var sma_nil)) sm_var))) sma_nil)))))) h
theorem ok_all_cuts (T : Txt K mg ad fd cl) : FnOk P w K mg base (L2N.CX P w) 12 (ad 16) (fd 16) ["many"] (spF (pureG cl) (m_all_cuts) 1) := by
  refine okN T.F_all_cuts sc_all_cuts (fun vs H Q E h => h.1) (fun cdv A outer s H vs Q E hr h => ?_)
  refine ⟨_, (pss_one (ps_ret (pe_lc (own := [("part", 1)]) (g := (gName 1)) rfl sc_all_cuts.nd (pi_seqK K rfl (pe_call (ok_parts T 8) (hr.mono (by decide)) (by rfl) T.g_parts T.F_parts.kp T.b_parts .nil (L2N.passes_call (L2N.takes_of rfl rfl rfl rfl) (fun _ _ _ _ h => h)) (pa_cons pe_int (pa_cons (pv 0) pa_nil)))) (blkOk_by (N := ["many", "part"]) (sc := defScope s_all_cuts) (own := [("part", 1)]) (by decide +kernel)) (fun _ _ _ _ _ => (pg_name (i := 1) sc_all_cuts.nd rfl (Or.inl rfl))) (fun _ _ _ _ _ => (pts_one (pt_cmpR (op_neK K rfl hr.units) (pv 1) (pe_tup pa_nil) (nomark _)))) (fun _ _ _ _ _ => (pv 1))))), ?_⟩
  exact def_reads (G := (pureG cl)) (E := E) (N := ["many", "part"]) (n := 1) (f := b_all_cuts) ((ss_ret (sm_comp (is_seq (sm_P (sma_cons sm_int (sma_cons sm_var sma_nil)))) gs_name (by decide) (smt_test (sm_op rs_ne sm_var (sm_tup sma_nil))) sm_var))) h
theorem ok_as_weights (T : Txt K mg ad fd cl) : FnOk P w K mg base (L2N.CX P w) 14 (ad 20) (fd 20) ["many", "factors"] (spF (pureG cl) (m_as_weights) 2) := by
  refine okN T.F_as_weights sc_as_weights (fun vs H Q E h => h.1) (fun cdv A outer s H vs Q E hr h => ?_)
  refine ⟨_, (pss_cons (ps_set (i := 2) sc_as_weights.nd rfl (Or.inl rfl) (pe_call (ok_all_cuts T) (hr.mono (by decide)) (by rfl) T.g_all_cuts T.F_all_cuts.kp T.b_all_cuts .nil (L2N.passes_call (L2N.takes_of rfl rfl rfl rfl) (fun _ _ _ _ h => h)) (pa_cons (pv 0) pa_nil)))
      (pss_one (ps_ret (pe_callTy (call_tupleK K rfl) (by rfl) T.z_tuple (by decide +kernel) (pa_cons (pe_lc (own := [("place", 3), ("cut", 4)]) (g := (gTup K 2 (gNames [3, 4]))) rfl sc_as_weights.nd (pi_enumA K rfl (by rfl) T.z_enumerate (pa_cons (pv 2) pa_nil)) (blkOk_by (N := ["many", "factors", "found", "place", "cut"]) (sc := defScope s_as_weights) (own := [("place", 3), ("cut", 4)]) (by decide +kernel)) (fun _ _ _ _ _ => (pg_tupK K rfl rfl (pgs_cons (pg_name (i := 3) sc_as_weights.nd rfl (Or.inl rfl)) (pgs_cons (pg_name (i := 4) sc_as_weights.nd rfl (Or.inl rfl)) pgs_nil)))) (fun _ _ _ _ _ => (pts_one (pt_cmpR op_gt (pe_ix (ix_K K rfl) (pe_ix (ix_K K rfl) (pv 1) (pv 3) (fun _ _ => rfl)) pe_int (fun _ _ => rfl)) pe_int (nomark _)))) (fun _ _ _ _ _ => (pe_tup (pa_cons (pv 4) (pa_cons (pe_ix (ix_K K rfl) (pv 1) (pv 3) (fun _ _ => rfl)) pa_nil))))) pa_nil))))), ?_⟩
  exact def_reads (G := (pureG cl)) (E := E) (N := ["many", "factors", "found", "place", "cut"]) (n := 2) (f := b_as_weights) ((ss_seq (ss_asg (sm_P (sma_cons sm_var sma_nil)))
      (ss_ret (sm_B cs_tuple (sma_cons (sm_comp (is_enumA (sma_cons sm_var sma_nil)) (gs_tup [3, 4] rfl) (by decide) (smt_test (sm_op rs_gt (sm_op rs_ix (sm_op rs_ix sm_var sm_var) sm_int) sm_int)) (sm_tup (sma_cons sm_var (sma_cons (sm_op rs_ix sm_var sm_var) sma_nil)))) sma_nil))))) h
theorem ok_solved (T : Txt K mg ad fd cl) (FU : Nat) : FnOk P w K mg base (L2N.CX P w) 16 (ad 21) (fd 21) ["table", "costs"] (spF (pureG cl) (m_solved FU) 2) := by
  refine okN T.F_solved sc_solved (fun vs H Q E h => h.1) (fun cdv A outer s H vs Q E hr h => ?_)
  refine ⟨_, (pss_cons (ps_set (i := 2) sc_solved.nd rfl (Or.inr rfl) (pe_ix (ix_K K rfl) (pv 0) pe_int (fun _ _ => rfl)))
      (pss_cons (ps_setLc (i := 3) (own := [("cut", 4)]) (g := (gName 4)) rfl sc_solved.nd rfl rfl (sw_true rfl rfl rfl (by decide +kernel)) (pi_seqK K rfl (pe_call (ok_all_cuts T) (hr.mono (by decide)) (by rfl) T.g_all_cuts T.F_all_cuts.kp T.b_all_cuts .nil (L2N.passes_call (L2N.takes_of rfl rfl rfl rfl) (fun _ _ _ _ h => h)) (pa_cons (pv 2) pa_nil))) (blkOk_by (N := ["table", "costs", "many", "columns", "cut", "word", "value", "factors", "prices"]) (sc := defScope s_solved) (own := [("cut", 4)]) (by decide +kernel)) (fun _ _ _ _ _ => (pg_name (i := 4) sc_solved.nd rfl (Or.inl rfl))) (fun _ _ _ _ _ => pts_nil) (fun _ _ _ _ _ => (pe_call (ok_marks_of T) (hr.mono (by decide)) (by rfl) T.g_marks_of T.F_marks_of.kp T.b_marks_of .nil passN (pa_cons (pv 2) (pa_cons (pv 4) pa_nil)))))
      (pss_cons (ps_asg (pe_call (ok_least_sum T FU) (hr.mono (by decide)) (by rfl) T.g_least_sum T.F_least_sum.kp T.b_least_sum .nil (L2N.passes_call (L2N.takes_of rfl rfl rfl rfl) (fun _ _ _ _ h => h)) (pa_cons (pv 3) (pa_cons (pe_ix (ix_K K rfl) (pv 0) pe_int (fun _ _ => rfl)) (pa_cons (pv 1) pa_nil)))) (pg_tupK K rfl rfl (pgs_cons (pg_name (i := 5) sc_solved.nd rfl (Or.inl rfl)) (pgs_cons (pg_name (i := 6) sc_solved.nd rfl (Or.inl rfl)) (pgs_cons (pg_name (i := 7) sc_solved.nd rfl (Or.inl rfl)) (pgs_cons (pg_name (i := 8) sc_solved.nd rfl (Or.inl rfl)) pgs_nil))))))
      (pss_one (ps_ret (pe_tup (pa_cons (pv 5) (pa_cons (pv 6) (pa_cons (pe_ifExp (pt_cmpR (op_eqK K rfl hr.units) (pv 5) pe_str (nomark _)) (pe_call (ok_as_weights T) (hr.mono (by decide)) (by rfl) T.g_as_weights T.F_as_weights.kp T.b_as_weights .nil (L2N.passes_call (L2N.takes_of rfl rfl rfl rfl) (fun _ _ _ _ h => h)) (pa_cons (pv 2) (pa_cons (pv 7) pa_nil))) (pe_tup pa_nil)) (pa_cons (pv 8) pa_nil)))))))))), ?_⟩
  exact def_reads (G := (pureG cl)) (E := E) (N := ["table", "costs", "many", "columns", "cut", "word", "value", "factors", "prices"]) (n := 2) (f := b_solved FU) ((ss_seq (ss_asg (sm_op rs_ix sm_var sm_int))
      (ss_seq (ss_asg (sm_comp (is_seq (sm_P (sma_cons sm_var sma_nil))) gs_name (by decide) smt_yes (sm_P (sma_cons sm_var (sma_cons sm_var sma_nil)))))
      (ss_seq (ss_asgT [5, 6, 7, 8] rfl (sm_P (sma_cons sm_var (sma_cons (sm_op rs_ix sm_var sm_int) (sma_cons sm_var sma_nil)))))
      (ss_ret (sm_tup (sma_cons sm_var (sma_cons sm_var (sma_cons (sm_if (smt_test (sm_op rs_eq sm_var sm_str)) (sm_P (sma_cons sm_var (sma_cons sm_var sma_nil))) (sm_tup sma_nil)) (sma_cons sm_var sma_nil)))))))))) h
theorem ok_lowest_cost (T : Txt K mg ad fd cl) (FU : Nat) : FnOk P w K mg base (L2N.CX P w) 18 (ad 25) (fd 25) ["table", "costs"] (spF (pureG cl) (m_lowest_cost FU) 2) := by
  refine okN T.F_lowest_cost sc_lowest_cost (fun vs H Q E h => h.1) (fun cdv A outer s H vs Q E hr h => ?_)
  refine ⟨_, (pss_cons (ps_asg (pe_call (ok_solved T FU) (hr.mono (by decide)) (by rfl) T.g_solved T.F_solved.kp T.b_solved .nil (L2N.passes_call (L2N.takes_of rfl rfl rfl rfl) (fun _ _ _ _ h => h)) (pa_cons (pv 0) (pa_cons (pv 1) pa_nil))) (pg_tupK K rfl rfl (pgs_cons (pg_name (i := 2) sc_lowest_cost.nd rfl (Or.inl rfl)) (pgs_cons (pg_name (i := 3) sc_lowest_cost.nd rfl (Or.inl rfl)) (pgs_cons (pg_name (i := 4) sc_lowest_cost.nd rfl (Or.inl rfl)) (pgs_cons (pg_name (i := 5) sc_lowest_cost.nd rfl (Or.inl rfl)) pgs_nil))))))
      (pss_cons (ps_if (pt_cmpR (op_neK K rfl hr.units) (pv 2) pe_str (nomark _)) (pss_one (L2N.ps_raise rfl (L2N.takes_of rfl rfl rfl rfl) (L2N.pmk_own PySem.F.excBase_ValueError T.x_NotDecomposable T.g_NotDecomposable T.k_NotDecomposable (raises_own T.b_NotDecomposable T.t_NotDecomposable) rfl))) pss_nil)
      (pss_one (ps_ret (pe_tup (pa_cons (pv 3) (pa_cons (pv 4) (pa_cons (pe_callTy (call_tupleK K rfl) (by rfl) T.z_tuple (by decide +kernel) (pa_cons (pv 5) pa_nil)) pa_nil)))))))), ?_⟩
  exact def_reads (G := (pureG cl)) (E := E) (N := ["table", "costs", "word", "value", "weights", "prices"]) (n := 2) (f := b_lowest_cost FU) ((ss_seq (ss_asgT [2, 3, 4, 5] rfl (sm_P (sma_cons sm_var (sma_cons sm_var sma_nil))))
      (ss_seq (ss_if (smt_test (sm_op rs_ne sm_var sm_str)) (ss_raise rfl) ss_next)
      (ss_ret (sm_tup (sma_cons sm_var (sma_cons sm_var (sma_cons (sm_B cs_tuple (sma_cons sm_var sma_nil)) sma_nil)))))))) h
theorem ok_both_ends (T : Txt K mg ad fd cl) (FU : Nat) : FnOk P w K mg base (L2N.CX P w) 20 (ad 27) (fd 27) ["table", "costs"] (spF (pureG cl) (m_both_ends FU) 2) := by
  refine okN T.F_both_ends sc_both_ends (fun vs H Q E h => h.1) (fun cdv A outer s H vs Q E hr h => ?_)
  refine ⟨_, (pss_cons (ps_set (i := 2) sc_both_ends.nd rfl (Or.inl rfl) (pe_ix (ix_K K rfl) (pe_call (ok_lowest_cost T FU) (hr.mono (by decide)) (by rfl) T.g_lowest_cost T.F_lowest_cost.kp T.b_lowest_cost .nil (L2N.passes_call (L2N.takes_of rfl rfl rfl rfl) (fun _ _ _ _ h => h)) (pa_cons (pv 0) (pa_cons (pv 1) pa_nil))) pe_int (fun _ _ => rfl)))
      (pss_cons (ps_set (i := 3) sc_both_ends.nd rfl (Or.inl rfl) (pe_ix (ix_K K rfl) (pe_call (ok_lowest_cost T FU) (hr.mono (by decide)) (by rfl) T.g_lowest_cost T.F_lowest_cost.kp T.b_lowest_cost .nil (L2N.passes_call (L2N.takes_of rfl rfl rfl rfl) (fun _ _ _ _ h => h)) (pa_cons (pv 0) (pa_cons (pe_lc (own := [("cost", 4)]) (g := (gName 4)) rfl sc_both_ends.nd (pi_seqK K rfl (pv 1)) (blkOk_by (N := ["table", "costs", "low", "high", "cost"]) (sc := defScope s_both_ends) (own := [("cost", 4)]) (by decide +kernel)) (fun _ _ _ _ _ => (pg_name (i := 4) sc_both_ends.nd rfl (Or.inl rfl))) (fun _ _ _ _ _ => pts_nil) (fun _ _ _ _ _ => (pe_un un_neg (pv 4)))) pa_nil))) pe_int (fun _ _ => rfl)))
      (pss_one (ps_ret (pe_tup (pa_cons (pv 2) (pa_cons (pe_tup (pa_cons (pe_un un_neg (pe_ix (ix_K K rfl) (pv 3) pe_int (fun _ _ => rfl))) (pa_cons (pe_ix (ix_K K rfl) (pv 3) pe_int (fun _ _ => rfl)) pa_nil))) pa_nil))))))), ?_⟩
  exact def_reads (G := (pureG cl)) (E := E) (N := ["table", "costs", "low", "high", "cost"]) (n := 2) (f := b_both_ends FU) ((ss_seq (ss_asg (sm_op rs_ix (sm_P (sma_cons sm_var (sma_cons sm_var sma_nil))) sm_int))
      (ss_seq (ss_asg (sm_op rs_ix (sm_P (sma_cons sm_var (sma_cons (sm_comp (is_seq sm_var) gs_name (by decide) smt_yes (sm_un rs_neg sm_var)) sma_nil))) sm_int))
      (ss_ret (sm_tup (sma_cons sm_var (sma_cons (sm_tup (sma_cons (sm_un rs_neg (sm_op rs_ix sm_var sm_int)) (sma_cons (sm_op rs_ix sm_var sm_int) sma_nil))) sma_nil))))))) h
theorem ok_weight_range (T : Txt K mg ad fd cl) (FU : Nat) : FnOk P w K mg base (L2N.CX P w) 22 (ad 28) (fd 28) ["table", "cut"] (spF (pureG cl) (m_weight_range FU) 2) := by
  refine okN T.F_weight_range sc_weight_range (fun vs H Q E h => h.1) (fun cdv A outer s H vs Q E hr h => ?_)
  refine ⟨_, (pss_cons (ps_expr (pe_call (ok_need_table T) (hr.mono (by decide)) (by rfl) T.g_need_table T.F_need_table.kp T.b_need_table .nil (L2N.passes_call (L2N.takes_of rfl rfl rfl rfl) (fun _ _ _ _ h => h)) (pa_cons (pv 0) pa_nil)))
      (pss_cons (ps_expr (pe_call (ok_need_cut T) (hr.mono (by decide)) (by rfl) T.g_need_cut T.F_need_cut.kp T.b_need_cut .nil (L2N.passes_call (L2N.takes_of rfl rfl rfl rfl) (fun _ _ _ _ h => h)) (pa_cons (pe_ix (ix_K K rfl) (pv 0) pe_int (fun _ _ => rfl)) (pa_cons (pv 1) pa_nil))))
      (pss_one (ps_ret (pe_call (ok_both_ends T FU) (hr.mono (by decide)) (by rfl) T.g_both_ends T.F_both_ends.kp T.b_both_ends .nil (L2N.passes_call (L2N.takes_of rfl rfl rfl rfl) (fun _ _ _ _ h => h)) (pa_cons (pv 0) (pa_cons (pe_lc (own := [("one", 2)]) (g := (gName 2)) rfl sc_weight_range.nd (pi_seqK K rfl (pe_call (ok_all_cuts T) (hr.mono (by decide)) (by rfl) T.g_all_cuts T.F_all_cuts.kp T.b_all_cuts .nil (L2N.passes_call (L2N.takes_of rfl rfl rfl rfl) (fun _ _ _ _ h => h)) (pa_cons (pe_ix (ix_K K rfl) (pv 0) pe_int (fun _ _ => rfl)) pa_nil))) (blkOk_by (N := ["table", "cut", "one"]) (sc := defScope s_weight_range) (own := [("one", 2)]) (by decide +kernel)) (fun _ _ _ _ _ => (pg_name (i := 2) sc_weight_range.nd rfl (Or.inl rfl))) (fun _ _ _ _ _ => pts_nil) (fun _ _ _ _ _ => (pe_ifExp (pt_cmpR (op_eqK K rfl hr.units) (pv 2) (pv 1) (nomark _)) pe_int pe_int))) pa_nil))))))), ?_⟩
  exact def_reads (G := (pureG cl)) (E := E) (N := ["table", "cut", "one"]) (n := 2) (f := b_weight_range FU) ((ss_seq (ss_drop (sm_P (sma_cons sm_var sma_nil)))
      (ss_seq (ss_drop (sm_P (sma_cons (sm_op rs_ix sm_var sm_int) (sma_cons sm_var sma_nil))))
      (ss_ret (sm_P (sma_cons sm_var (sma_cons (sm_comp (is_seq (sm_P (sma_cons (sm_op rs_ix sm_var sm_int) sma_nil))) gs_name (by decide) smt_yes (sm_if (smt_test (sm_op rs_eq sm_var sm_var)) sm_int sm_int)) sma_nil))))))) h
theorem ok_need_costs (T : Txt K mg ad fd cl) : FnOk P w K mg base (L2N.CX P w) 14 (ad 24) (fd 24) ["many", "costs"] (spF (pureG cl) (m_need_costs) 2) := by
  refine okN T.F_need_costs sc_need_costs (fun vs H Q E h => h.1) (fun cdv A outer s H vs Q E hr h => ?_)
  refine ⟨_, (pss_cons (ps_if (PW.pt (pw_or (pt_not (pt_val (pe_callB (call_isK K rfl) (by rfl) T.z_isinstance (by decide +kernel) (pa_cons (pv 1) (pa_cons (pe_bltn (v := .ty "tuple") (by rfl) T.z_tuple (by decide +kernel) rfl) pa_nil))))) (pw_or1 (pt_cmpR (op_neK K rfl hr.units) (pe_callB (call_lenK K rfl) (by rfl) T.z_len (by decide +kernel) (pa_cons (pv 1) pa_nil)) (pe_callB (call_lenK K rfl) (by rfl) T.z_len (by decide +kernel) (pa_cons (pe_call (ok_all_cuts T) (hr.mono (by decide)) (by rfl) T.g_all_cuts T.F_all_cuts.kp T.b_all_cuts .nil (L2N.passes_call (L2N.takes_of rfl rfl rfl rfl) (fun _ _ _ _ h => h)) (pa_cons (pv 0) pa_nil)) pa_nil)) (nomark _))))) (pss_one (L2N.ps_raise rfl (L2N.takes_of rfl rfl rfl rfl) (L2N.pmk_own PySem.F.excBase_ValueError T.x_InvalidCosts T.g_InvalidCosts T.k_InvalidCosts (raises_own T.b_InvalidCosts T.t_InvalidCosts) rfl))) pss_nil)
      (pss_one (ps_if (pt_not (pt_val (pe_callB (call_allK K rfl rfl) (by rfl) T.z_all (by decide +kernel) (pa_cons (pe_lc (own := [("cost", 2)]) (g := (gName 2)) rfl sc_need_costs.nd (pi_seqK K rfl (pv 1)) (blkOk_by (N := ["many", "costs", "cost"]) (sc := defScope s_need_costs) (own := [("cost", 2)]) (by decide +kernel)) (fun _ _ _ _ _ => (pg_name (i := 2) sc_need_costs.nd rfl (Or.inl rfl))) (fun _ _ _ _ _ => pts_nil) (fun _ _ _ _ _ => (pe_call (ok_is_whole T) (hr.mono (by decide)) (by rfl) T.g_is_whole T.F_is_whole.kp T.b_is_whole .nil passN (pa_cons (pv 2) (pa_cons (pe_un un_neg pe_int) (pa_cons pe_int pa_nil)))))) pa_nil)))) (pss_one (L2N.ps_raise rfl (L2N.takes_of rfl rfl rfl rfl) (L2N.pmk_own PySem.F.excBase_ValueError T.x_InvalidCosts T.g_InvalidCosts T.k_InvalidCosts (raises_own T.b_InvalidCosts T.t_InvalidCosts) rfl))) pss_nil))), ?_⟩
  exact def_reads (G := (pureG cl)) (E := E) (N := ["many", "costs", "cost"]) (n := 2) (f := b_need_costs) ((ss_seq (ss_if (smt_or (smt_not (smt_B (sm_isi .tuple sm_var))) (smt_test (sm_op rs_ne (sm_B cs_len (sma_cons sm_var sma_nil)) (sm_B cs_len (sma_cons (sm_P (sma_cons sm_var sma_nil)) sma_nil))))) (ss_raise rfl) ss_next)
      (ss_if (smt_not (smt_B (sm_B cs_all (sma_cons (sm_comp (is_seq sm_var) gs_name (by decide) smt_yes (sm_P (sma_cons sm_var (sma_cons (sm_un rs_neg sm_int) (sma_cons sm_int sma_nil))))) sma_nil)))) (ss_raise rfl) ss_next))) h
theorem ok_least (T : Txt K mg ad fd cl) (FU : Nat) : FnOk P w K mg base (L2N.CX P w) 20 (ad 26) (fd 26) ["table", "costs"] (spF (pureG cl) (m_least FU) 2) := by
  refine okN T.F_least sc_least (fun vs H Q E h => h.1) (fun cdv A outer s H vs Q E hr h => ?_)
  refine ⟨_, (pss_cons (ps_expr (pe_call (ok_need_table T) (hr.mono (by decide)) (by rfl) T.g_need_table T.F_need_table.kp T.b_need_table .nil (L2N.passes_call (L2N.takes_of rfl rfl rfl rfl) (fun _ _ _ _ h => h)) (pa_cons (pv 0) pa_nil)))
      (pss_cons (ps_expr (pe_call (ok_need_costs T) (hr.mono (by decide)) (by rfl) T.g_need_costs T.F_need_costs.kp T.b_need_costs .nil (L2N.passes_call (L2N.takes_of rfl rfl rfl rfl) (fun _ _ _ _ h => h)) (pa_cons (pe_ix (ix_K K rfl) (pv 0) pe_int (fun _ _ => rfl)) (pa_cons (pv 1) pa_nil))))
      (pss_one (ps_ret (pe_call (ok_lowest_cost T FU) (hr.mono (by decide)) (by rfl) T.g_lowest_cost T.F_lowest_cost.kp T.b_lowest_cost .nil (L2N.passes_call (L2N.takes_of rfl rfl rfl rfl) (fun _ _ _ _ h => h)) (pa_cons (pv 0) (pa_cons (pv 1) pa_nil))))))), ?_⟩
  exact def_reads (G := (pureG cl)) (E := E) (N := ["table", "costs"]) (n := 2) (f := b_least FU) ((ss_seq (ss_drop (sm_P (sma_cons sm_var sma_nil)))
      (ss_seq (ss_drop (sm_P (sma_cons (sm_op rs_ix sm_var sm_int) (sma_cons sm_var sma_nil))))
      (ss_ret (sm_P (sma_cons sm_var (sma_cons sm_var sma_nil))))))) h
theorem ok_total_range (T : Txt K mg ad fd cl) (FU : Nat) : FnOk P w K mg base (L2N.CX P w) 22 (ad 29) (fd 29) ["table"] (spF (pureG cl) (m_total_range FU) 1) := by
  refine okN T.F_total_range sc_total_range (fun vs H Q E h => h.1) (fun cdv A outer s H vs Q E hr h => ?_)
  refine ⟨_, (pss_cons (ps_expr (pe_call (ok_need_table T) (hr.mono (by decide)) (by rfl) T.g_need_table T.F_need_table.kp T.b_need_table .nil (L2N.passes_call (L2N.takes_of rfl rfl rfl rfl) (fun _ _ _ _ h => h)) (pa_cons (pv 0) pa_nil)))
      (pss_one (ps_ret (pe_call (ok_both_ends T FU) (hr.mono (by decide)) (by rfl) T.g_both_ends T.F_both_ends.kp T.b_both_ends .nil (L2N.passes_call (L2N.takes_of rfl rfl rfl rfl) (fun _ _ _ _ h => h)) (pa_cons (pv 0) (pa_cons (pe_lc (own := [("cut", 1)]) (g := (gName 1)) rfl sc_total_range.nd (pi_seqK K rfl (pe_call (ok_all_cuts T) (hr.mono (by decide)) (by rfl) T.g_all_cuts T.F_all_cuts.kp T.b_all_cuts .nil (L2N.passes_call (L2N.takes_of rfl rfl rfl rfl) (fun _ _ _ _ h => h)) (pa_cons (pe_ix (ix_K K rfl) (pv 0) pe_int (fun _ _ => rfl)) pa_nil))) (blkOk_by (N := ["table", "cut"]) (sc := defScope s_total_range) (own := [("cut", 1)]) (by decide +kernel)) (fun _ _ _ _ _ => (pg_name (i := 1) sc_total_range.nd rfl (Or.inl rfl))) (fun _ _ _ _ _ => pts_nil) (fun _ _ _ _ _ => pe_int)) pa_nil)))))), ?_⟩
  exact def_reads (G := (pureG cl)) (E := E) (N := ["table", "cut"]) (n := 1) (f := b_total_range FU) ((ss_seq (ss_drop (sm_P (sma_cons sm_var sma_nil)))
      (ss_ret (sm_P (sma_cons sm_var (sma_cons (sm_comp (is_seq (sm_P (sma_cons (sm_op rs_ix sm_var sm_int) sma_nil))) gs_name (by decide) smt_yes sm_int) sma_nil)))))) h
theorem ok_law_divisor (T : Txt K mg ad fd cl) : FnOk P w K mg base (L2N.CX P w) 2 (ad 38) (fd 38) ["one", "other"] (spF (pureG cl) (m_law_divisor) 2) := by
  refine okN T.F_law_divisor sc_law_divisor (fun vs H Q E h => h.1) (fun cdv A outer s H vs Q E hr h => ?_)
  refine ⟨_, (pss_cons (ps_par rfl sc_law_divisor.nd (i := 0) (j := 1) rfl rfl (by decide) rfl rfl (pa_cons (pe_callB call_abs (by rfl) T.z_abs (by decide +kernel) (pa_cons (pv 0) pa_nil)) (pa_cons (pe_callB call_abs (by rfl) T.z_abs (by decide +kernel) (pa_cons (pv 1) pa_nil)) pa_nil)) (by rfl))
      (pss_cons (ps_while (passes_of rfl) (pt_cmpR (op_neK K rfl hr.units) (pv 1) pe_int (nomark _)) (pss_one (ps_par rfl sc_law_divisor.nd (i := 0) (j := 1) rfl rfl (by decide) rfl rfl (pa_cons (pv 1) (pa_cons (pe_op op_mod (pv 0) (pv 1)) pa_nil)) (by rfl))))
      (pss_one (ps_ret (pv 0))))), ?_⟩
  exact def_reads (G := (pureG cl)) (E := E) (N := ["one", "other"]) (n := 2) (f := b_law_divisor) ((ss_seq (ss_par (sma_cons (sm_B cs_abs (sma_cons sm_var sma_nil)) (sma_cons (sm_B cs_abs (sma_cons sm_var sma_nil)) sma_nil)))
      (ss_seq (ss_while (fun σ _ => fuelAt 1 σ) (smt_test (sm_op rs_ne sm_var sm_int)) (ss_par (sma_cons sm_var (sma_cons (sm_op rs_mod sm_var sm_var) sma_nil))))
      (ss_ret sm_var)))) h
theorem ok_law_lowest (T : Txt K mg ad fd cl) : FnOk P w K mg base (L2N.CX P w) 4 (ad 39) (fd 39) ["top", "under"] (spF (pureG cl) (m_law_lowest) 2) := by
  refine okN T.F_law_lowest sc_law_lowest (fun vs H Q E h => h.1) (fun cdv A outer s H vs Q E hr h => ?_)
  refine ⟨_, (pss_cons (ps_set (i := 2) sc_law_lowest.nd rfl (Or.inl rfl) (pe_call (ok_law_divisor T) (hr.mono (by decide)) (by rfl) T.g_law_divisor T.F_law_divisor.kp T.b_law_divisor .nil (L2N.passes_call (L2N.takes_of rfl rfl rfl rfl) (fun _ _ _ _ h => h)) (pa_cons (pv 0) (pa_cons (pv 1) pa_nil))))
      (pss_one (ps_ret (pe_tup (pa_cons (pe_op op_fdivW (pv 0) (pv 2)) (pa_cons (pe_op op_fdivW (pv 1) (pv 2)) pa_nil)))))), ?_⟩
  exact def_reads (G := (pureG cl)) (E := E) (N := ["top", "under", "common"]) (n := 2) (f := b_law_lowest) ((ss_seq (ss_asg (sm_P (sma_cons sm_var (sma_cons sm_var sma_nil))))
      (ss_ret (sm_tup (sma_cons (sm_op rs_fdiv sm_var sm_var) (sma_cons (sm_op rs_fdiv sm_var sm_var) sma_nil)))))) h
theorem ok_law_plus (T : Txt K mg ad fd cl) : FnOk P w K mg base (L2N.CX P w) 6 (ad 40) (fd 40) ["one", "other"] (spF (pureG cl) (m_law_plus) 2) := by
  refine okN T.F_law_plus sc_law_plus (fun vs H Q E h => h.1) (fun cdv A outer s H vs Q E hr h => ?_)
  refine ⟨_, (pss_one (ps_ret (pe_call (ok_law_lowest T) (hr.mono (by decide)) (by rfl) T.g_law_lowest T.F_law_lowest.kp T.b_law_lowest .nil (L2N.passes_call (L2N.takes_of rfl rfl rfl rfl) (fun _ _ _ _ h => h)) (pa_cons (pe_op (op_addK K rfl) (pe_op (op_mulK K rfl) (pe_ix (ix_K K rfl) (pv 0) pe_int (fun _ _ => rfl)) (pe_ix (ix_K K rfl) (pv 1) pe_int (fun _ _ => rfl))) (pe_op (op_mulK K rfl) (pe_ix (ix_K K rfl) (pv 1) pe_int (fun _ _ => rfl)) (pe_ix (ix_K K rfl) (pv 0) pe_int (fun _ _ => rfl)))) (pa_cons (pe_op (op_mulK K rfl) (pe_ix (ix_K K rfl) (pv 0) pe_int (fun _ _ => rfl)) (pe_ix (ix_K K rfl) (pv 1) pe_int (fun _ _ => rfl))) pa_nil))))), ?_⟩
  exact def_reads (G := (pureG cl)) (E := E) (N := ["one", "other"]) (n := 2) (f := b_law_plus) ((ss_ret (sm_P (sma_cons (sm_op rs_add (sm_op rs_mul (sm_op rs_ix sm_var sm_int) (sm_op rs_ix sm_var sm_int)) (sm_op rs_mul (sm_op rs_ix sm_var sm_int) (sm_op rs_ix sm_var sm_int))) (sma_cons (sm_op rs_mul (sm_op rs_ix sm_var sm_int) (sm_op rs_ix sm_var sm_int)) sma_nil))))) h
theorem ok_law_total (T : Txt K mg ad fd cl) : FnOk P w K mg base (L2N.CX P w) 8 (ad 41) (fd 41) ["some"] (spF (pureG cl) (m_law_total) 1) := by
  refine okN T.F_law_total sc_law_total (fun vs H Q E h => h.1) (fun cdv A outer s H vs Q E hr h => ?_)
  refine ⟨_, (pss_cons (ps_set (i := 1) sc_law_total.nd rfl (Or.inl rfl) (pe_tup (pa_cons pe_int (pa_cons pe_int pa_nil))))
      (pss_cons (ps_for (passes_of rfl) rfl (pi_seqK K rfl (pv 0)) (pg_name (i := 2) sc_law_total.nd rfl (Or.inl rfl)) (pss_one (ps_set (i := 1) sc_law_total.nd rfl (Or.inl rfl) (pe_call (ok_law_plus T) (hr.mono (by decide)) (by rfl) T.g_law_plus T.F_law_plus.kp T.b_law_plus .nil (L2N.passes_call (L2N.takes_of rfl rfl rfl rfl) (fun _ _ _ _ h => h)) (pa_cons (pv 1) (pa_cons (pv 2) pa_nil))))))
      (pss_one (ps_ret (pv 1))))), ?_⟩
  exact def_reads (G := (pureG cl)) (E := E) (N := ["some", "found", "one"]) (n := 1) (f := b_law_total) ((ss_seq (ss_asg (sm_tup (sma_cons sm_int (sma_cons sm_int sma_nil))))
      (ss_seq (ss_for (is_seq sm_var) gs_name (ss_asg (sm_P (sma_cons sm_var (sma_cons sm_var sma_nil)))))
      (ss_ret sm_var)))) h
theorem ok_law_is_more (T : Txt K mg ad fd cl) : FnOk P w K mg base (L2N.CX P w) 2 (ad 42) (fd 42) ["one", "other"] (spF (pureG cl) (m_law_is_more) 2) := by
  refine okN T.F_law_is_more sc_law_is_more (fun vs H Q E h => h.1) (fun cdv A outer s H vs Q E hr h => ?_)
  refine ⟨_, (pss_one (ps_ret (pe_cmpR op_gt (pe_op (op_mulK K rfl) (pe_ix (ix_K K rfl) (pv 0) pe_int (fun _ _ => rfl)) (pe_ix (ix_K K rfl) (pv 1) pe_int (fun _ _ => rfl))) (pe_op (op_mulK K rfl) (pe_ix (ix_K K rfl) (pv 1) pe_int (fun _ _ => rfl)) (pe_ix (ix_K K rfl) (pv 0) pe_int (fun _ _ => rfl))) (nomark _)))), ?_⟩
  exact def_reads (G := (pureG cl)) (E := E) (N := ["one", "other"]) (n := 2) (f := b_law_is_more) ((ss_ret (sm_op rs_gt (sm_op rs_mul (sm_op rs_ix sm_var sm_int) (sm_op rs_ix sm_var sm_int)) (sm_op rs_mul (sm_op rs_ix sm_var sm_int) (sm_op rs_ix sm_var sm_int))))) h
theorem ok_law_drawn (T : Txt K mg ad fd cl) : FnOk P w K mg base (L2N.CX P w) 2 (ad 31) (fd 31) ["cell", "k"] (spF (pureG cl) (m_law_drawn) 2) := by
  refine okN T.F_law_drawn sc_law_drawn (fun vs H Q E h => h.1) (fun cdv A outer s H vs Q E hr h => ?_)
  refine ⟨_, (pss_cons (ps_set (i := 2) sc_law_drawn.nd rfl (Or.inl rfl) (pe_op op_mod (pe_op (op_addK K rfl) (pe_op (op_mulK K rfl) (pv 0) pe_int) (pe_op (op_mulK K rfl) (pe_op (op_addK K rfl) (pv 1) pe_int) pe_int)) pe_int))
      (pss_cons (ps_set (i := 2) sc_law_drawn.nd rfl (Or.inl rfl) (pe_op op_mod (pe_op (op_mulK K rfl) (pv 2) (pv 2)) pe_int))
      (pss_cons (ps_set (i := 2) sc_law_drawn.nd rfl (Or.inl rfl) (pe_op (op_mulK K rfl) (pe_op (op_mulK K rfl) (pe_op (op_addK K rfl) (pe_op op_mod (pv 2) pe_int) pe_int) (pe_op (op_addK K rfl) (pe_op op_fdivW (pv 2) pe_int) pe_int)) (pv 2)))
      (pss_one (ps_ret (pe_op op_mod (pv 2) pe_int)))))), ?_⟩
  exact def_reads (G := (pureG cl)) (E := E) (N := ["cell", "k", "more"]) (n := 2) (f := b_law_drawn) ((ss_seq (ss_asg (sm_op rs_mod (sm_op rs_add (sm_op rs_mul sm_var sm_int) (sm_op rs_mul (sm_op rs_add sm_var sm_int) sm_int)) sm_int))
      (ss_seq (ss_asg (sm_op rs_mod (sm_op rs_mul sm_var sm_var) sm_int))
      (ss_seq (ss_asg (sm_op rs_mul (sm_op rs_mul (sm_op rs_add (sm_op rs_mod sm_var sm_int) sm_int) (sm_op rs_add (sm_op rs_fdiv sm_var sm_int) sm_int)) sm_var))
      (ss_ret (sm_op rs_mod sm_var sm_int)))))) h
theorem ok_law_roll (T : Txt K mg ad fd cl) (da : Addr) (dt : List (Addr × Str)) : FnOk P w K mg base (L2N.CX P w) 4 (ad 32) (fd 32) ["dice", "many"] (spF (diceG cl da dt) (m_law_roll da) 2) := by
  refine okN T.F_law_roll sc_law_roll (fun vs H Q E h => h.1) (fun cdv A outer s H vs Q E hr h => ?_)
  refine ⟨_, (pss_cons (ps_if (pt_cmpR op_ge (pe_ix (ix_K K rfl) (pv 0) pe_int (fun _ _ => rfl)) (pe_op op_pow pe_int pe_int) (nomark _)) (pss_cons (ps_set (i := 2) sc_law_roll.nd rfl (Or.inl rfl) (pe_op op_mod (pe_ix (ix_K K rfl) (pv 0) pe_int (fun _ _ => rfl)) (pv 1)))
      (pss_cons (ps_asg (pe_op op_fdivW (pe_ix (ix_K K rfl) (pv 0) pe_int (fun _ _ => rfl)) (pv 1)) (pg_sub (pv 0) pe_int set_list))
      (pss_one (ps_ret (pv 2))))) pss_nil)
      (pss_cons (ps_asg (pe_op (op_addK K rfl) (pe_ix (ix_K K rfl) (pv 0) pe_int (fun _ _ => rfl)) pe_int) (pg_sub (pv 0) pe_int set_list))
      (pss_one (ps_ret (pe_op op_mod (pe_op op_fdivW (pe_call (ok_law_drawn T) (hr.mono (by decide)) (by rfl) T.g_law_drawn T.F_law_drawn.kp T.b_law_drawn .nil (L2N.passes_call (L2N.takes_of rfl rfl rfl rfl) (fun _ _ _ _ h => h)) (pa_cons (pe_ix (ix_K K rfl) (pv 0) pe_int (fun _ _ => rfl)) (pa_cons (pe_ix (ix_K K rfl) (pv 0) pe_int (fun _ _ => rfl)) pa_nil))) pe_int) (pv 1)))))), ?_⟩
  exact def_reads (G := (diceG cl da dt)) (E := E) (N := ["dice", "many", "told"]) (n := 2) (f := b_law_roll da) ((ss_seq (ss_if (smt_test (sm_op rs_ge (sm_die (k := false)) (sm_op rs_pow sm_int sm_int))) (ss_seq (ss_asg (sm_op rs_mod (sm_die (k := false)) sm_var))
      (ss_seq (ss_die (k := false) (sm_op rs_fdiv (sm_die (k := false)) sm_var))
      (ss_ret sm_var))) ss_next)
      (ss_seq (ss_die (k := true) (sm_op rs_add (sm_die (k := true)) sm_int))
      (ss_ret (sm_op rs_mod (sm_op rs_fdiv (sm_P (sma_cons (sm_die (k := false)) (sma_cons (sm_die (k := true)) sma_nil))) sm_int) sm_var))))) h
theorem ex_law_roll (T : Txt K mg ad fd cl) (dt : List (Addr × Str)) : FnOk P w K mg base (L2N.CX P w) 4 (ad 32) (fd 32) ["dice", "many"] (spX cl dt (fun da => m_law_roll da) 2) := fnok_ex fun da => ok_law_roll T da dt
theorem ok_free_costs (T : Txt K mg ad fd cl) : FnOk P w K mg base (L2N.CX P w) 14 (ad 22) (fd 22) ["many"] (spF (pureG cl) (m_free_costs) 1) := by
  refine okN T.F_free_costs sc_free_costs (fun vs H Q E h => h.1) (fun cdv A outer s H vs Q E hr h => ?_)
  refine ⟨_, (pss_one (ps_ret (pe_op (op_mulK K rfl) (pe_lst (pa_cons pe_int pa_nil)) (pe_callB (call_lenK K rfl) (by rfl) T.z_len (by decide +kernel) (pa_cons (pe_call (ok_all_cuts T) (hr.mono (by decide)) (by rfl) T.g_all_cuts T.F_all_cuts.kp T.b_all_cuts .nil (L2N.passes_call (L2N.takes_of rfl rfl rfl rfl) (fun _ _ _ _ h => h)) (pa_cons (pv 0) pa_nil)) pa_nil))))), ?_⟩
  exact def_reads (G := (pureG cl)) (E := E) (N := ["many"]) (n := 1) (f := b_free_costs) ((ss_ret (sm_op rs_mul (sm_lst (sma_cons sm_int sma_nil)) (sm_B cs_len (sma_cons (sm_P (sma_cons sm_var sma_nil)) sma_nil))))) h
theorem ok_decomposition (T : Txt K mg ad fd cl) (FU : Nat) : FnOk P w K mg base (L2N.CX P w) 18 (ad 23) (fd 23) ["table"] (spF (pureG cl) (m_decomposition FU) 1) := by
  refine okN T.F_decomposition sc_decomposition (fun vs H Q E h => h.1) (fun cdv A outer s H vs Q E hr h => ?_)
  refine ⟨_, (pss_cons (ps_expr (pe_call (ok_need_table T) (hr.mono (by decide)) (by rfl) T.g_need_table T.F_need_table.kp T.b_need_table .nil (L2N.passes_call (L2N.takes_of rfl rfl rfl rfl) (fun _ _ _ _ h => h)) (pa_cons (pv 0) pa_nil)))
      (pss_cons (ps_asg (pe_call (ok_solved T FU) (hr.mono (by decide)) (by rfl) T.g_solved T.F_solved.kp T.b_solved .nil (L2N.passes_call (L2N.takes_of rfl rfl rfl rfl) (fun _ _ _ _ h => h)) (pa_cons (pv 0) (pa_cons (pe_call (ok_free_costs T) (hr.mono (by decide)) (by rfl) T.g_free_costs T.F_free_costs.kp T.b_free_costs .nil (L2N.passes_call (L2N.takes_of rfl rfl rfl rfl) (fun _ _ _ _ h => h)) (pa_cons (pe_ix (ix_K K rfl) (pv 0) pe_int (fun _ _ => rfl)) pa_nil)) pa_nil))) (pg_tupK K rfl rfl (pgs_cons (pg_name (i := 1) sc_decomposition.nd rfl (Or.inl rfl)) (pgs_cons (pg_name (i := 2) sc_decomposition.nd rfl (Or.inl rfl)) (pgs_cons (pg_name (i := 3) sc_decomposition.nd rfl (Or.inl rfl)) (pgs_cons (pg_name (i := 4) sc_decomposition.nd rfl (Or.inl rfl)) pgs_nil))))))
      (pss_one (ps_ret (pe_ifExp (pt_cmpR (op_eqK K rfl hr.units) (pv 1) pe_str (nomark _)) (pv 3) pe_non))))), ?_⟩
  exact def_reads (G := (pureG cl)) (E := E) (N := ["table", "word", "value", "weights", "prices"]) (n := 1) (f := b_decomposition FU) ((ss_seq (ss_drop (sm_P (sma_cons sm_var sma_nil)))
      (ss_seq (ss_asgT [1, 2, 3, 4] rfl (sm_P (sma_cons sm_var (sma_cons (sm_P (sma_cons (sm_op rs_ix sm_var sm_int) sma_nil)) sma_nil))))
      (ss_ret (sm_if (smt_test (sm_op rs_eq sm_var sm_str)) sm_var sm_non))))) h
theorem ok_law_cuts (T : Txt K mg ad fd cl) : FnOk P w K mg base (L2N.CX P w) 2 (ad 35) (fd 35) ["many"] (spF (pureG cl) (m_law_cuts) 1) := by
  refine okN T.F_law_cuts sc_law_cuts (fun vs H Q E h => h.1) (fun cdv A outer s H vs Q E hr h => ?_)
  refine ⟨_, (pss_cons (ps_set (i := 1) sc_law_cuts.nd rfl (Or.inl rfl) (pe_lst (pa_cons (pe_tup pa_nil) pa_nil)))
      (pss_cons (ps_for (passes_of rfl) rfl (pi_range2 (by rfl) T.z_range (pa_cons pe_int (pa_cons (pv 0) pa_nil))) (pg_name (i := 2) sc_law_cuts.nd rfl (Or.inr rfl)) (pss_one (ps_set (i := 1) sc_law_cuts.nd rfl (Or.inl rfl) (pe_op (op_addK K rfl) (pv 1) (pe_lc (own := [("part", 3)]) (g := (gName 3)) rfl sc_law_cuts.nd (pi_seqK K rfl (pv 1)) (blkOk_by (N := ["many", "found", "item", "part"]) (sc := defScope s_law_cuts) (own := [("part", 3)]) (by decide +kernel)) (fun _ _ _ _ _ => (pg_name (i := 3) sc_law_cuts.nd rfl (Or.inl rfl))) (fun _ _ _ _ _ => pts_nil) (fun _ _ _ _ _ => (pe_op (op_addK K rfl) (pv 3) (pe_tup (pa_cons (pv 2) pa_nil)))))))))
      (pss_one (ps_ret (pe_callB (cr_sorted K rfl (room65 hr)) (by rfl) T.z_sorted (by decide +kernel) (pa_cons (pe_slice (sl_K K rfl) (pv 1) (po_some pe_int) po_none) pa_nil)))))), ?_⟩
  exact def_reads (G := (pureG cl)) (E := E) (N := ["many", "found", "item", "part"]) (n := 1) (f := b_law_cuts) ((ss_seq (ss_asg (sm_lst (sma_cons (sm_tup sma_nil) sma_nil)))
      (ss_seq (ss_for (is_range2 (sma_cons sm_int (sma_cons sm_var sma_nil))) gs_name (ss_asg (sm_op rs_add sm_var (sm_comp (is_seq sm_var) gs_name (by decide) smt_yes (sm_op rs_add sm_var (sm_tup (sma_cons sm_var sma_nil)))))))
      (ss_ret (sm_B cs_sorted (sma_cons (sm_sl sm_var (smo_part sm_int) smo_no) sma_nil)))))) h
theorem ok_law_pairs (T : Txt K mg ad fd cl) : FnOk P w K mg base (L2N.CX P w) 2 (ad 34) (fd 34) ["many"] (spF (pureG cl) (m_law_pairs) 1) := by
  refine okN T.F_law_pairs sc_law_pairs (fun vs H Q E h => h.1) (fun cdv A outer s H vs Q E hr h => ?_)
  refine ⟨_, (pss_cons (ps_set (i := 1) sc_law_pairs.nd rfl (Or.inl rfl) (pe_lst pa_nil))
      (pss_cons (ps_for (passes_of rfl) rfl (pi_range1 (by rfl) T.z_range (pa_cons (pv 0) pa_nil)) (pg_name (i := 2) sc_law_pairs.nd rfl (Or.inr rfl)) (pss_one (ps_set (i := 1) sc_law_pairs.nd rfl (Or.inl rfl) (pe_op (op_addK K rfl) (pv 1) (pe_lc (own := [("j", 3)]) (g := (gName 3)) rfl sc_law_pairs.nd (pi_range2 (by rfl) T.z_range (pa_cons (pe_op (op_addK K rfl) (pv 2) pe_int) (pa_cons (pv 0) pa_nil))) (blkOk_by (N := ["many", "found", "i", "j"]) (sc := defScope s_law_pairs) (own := [("j", 3)]) (by decide +kernel)) (fun _ _ _ _ _ => (pg_name (i := 3) sc_law_pairs.nd rfl (Or.inl rfl))) (fun _ _ _ _ _ => pts_nil) (fun _ _ _ _ _ => (pe_tup (pa_cons (pv 2) (pa_cons (pv 3) pa_nil)))))))))
      (pss_one (ps_ret (pv 1))))), ?_⟩
  exact def_reads (G := (pureG cl)) (E := E) (N := ["many", "found", "i", "j"]) (n := 1) (f := b_law_pairs) ((ss_seq (ss_asg (sm_lst sma_nil))
      (ss_seq (ss_for (is_range1 (sma_cons sm_var sma_nil)) gs_name (ss_asg (sm_op rs_add sm_var (sm_comp (is_range2 (sma_cons (sm_op rs_add sm_var sm_int) (sma_cons sm_var sma_nil))) gs_name (by decide) smt_yes (sm_tup (sma_cons sm_var (sma_cons sm_var sma_nil)))))))
      (ss_ret sm_var)))) h
theorem ok_law_marks (T : Txt K mg ad fd cl) : FnOk P w K mg base (L2N.CX P w) 4 (ad 36) (fd 36) ["many", "side"] (spF (pureG cl) (m_law_marks) 2) := by
  refine okN T.F_law_marks sc_law_marks (fun vs H Q E h => h.1) (fun cdv A outer s H vs Q E hr h => ?_)
  refine ⟨_, (pss_one (ps_ret (pe_lc (own := [("i", 2), ("j", 3)]) (g := (gTup K 2 (gNames [2, 3]))) rfl sc_law_marks.nd (pi_seqK K rfl (pe_call (ok_law_pairs T) (hr.mono (by decide)) (by rfl) T.g_law_pairs T.F_law_pairs.kp T.b_law_pairs .nil (L2N.passes_call (L2N.takes_of rfl rfl rfl rfl) (fun _ _ _ _ h => h)) (pa_cons (pv 0) pa_nil))) (blkOk_by (N := ["many", "side", "i", "j"]) (sc := defScope s_law_marks) (own := [("i", 2), ("j", 3)]) (by decide +kernel)) (fun _ _ _ _ _ => (pg_tupK K rfl rfl (pgs_cons (pg_name (i := 2) sc_law_marks.nd rfl (Or.inl rfl)) (pgs_cons (pg_name (i := 3) sc_law_marks.nd rfl (Or.inl rfl)) pgs_nil)))) (fun _ _ _ _ _ => pts_nil) (fun _ _ _ _ _ => (pe_callTy call_int1 (by rfl) T.z_int (by decide +kernel) (pa_cons (pe_cmpR (op_neK K rfl hr.units) (pe_cmpR (op_inK K rfl (room65 hr)) (pv 2) (pv 1) (by rfl)) (pe_cmpR (op_inK K rfl (room65 hr)) (pv 3) (pv 1) (by rfl)) (nomark _)) pa_nil)))))), ?_⟩
  exact def_reads (G := (pureG cl)) (E := E) (N := ["many", "side", "i", "j"]) (n := 2) (f := b_law_marks) ((ss_ret (sm_comp (is_seq (sm_P (sma_cons sm_var sma_nil))) (gs_tup [2, 3] rfl) (by decide) smt_yes (sm_B cs_int1 (sma_cons (sm_op rs_ne (sm_op rs_in sm_var sm_var) (sm_op rs_in sm_var sm_var)) sma_nil))))) h
theorem ok_law_any_sum (T : Txt K mg ad fd cl) (da : Addr) (dt : List (Addr × Str)) : FnOk P w K mg base (L2N.CX P w) 6 (ad 37) (fd 37) ["dice", "many", "turns"] (spL (diceG cl da dt) (m_law_any_sum da) 3) := by
  refine okN T.F_law_any_sum sc_law_any_sum (fun vs H Q E h => h.1) (fun cdv A outer s H vs Q E hr h => ?_)
  refine ⟨_, (pss_cons (ps_par rfl sc_law_any_sum.nd (i := 3) (j := 4) rfl rfl (by decide) rfl rfl (pa_cons (pe_op (op_mulK K rfl) (pe_lst (pa_cons pe_int pa_nil)) (pe_callB (call_lenK K rfl) (by rfl) T.z_len (by decide +kernel) (pa_cons (pe_call (ok_law_pairs T) (hr.mono (by decide)) (by rfl) T.g_law_pairs T.F_law_pairs.kp T.b_law_pairs .nil (L2N.passes_call (L2N.takes_of rfl rfl rfl rfl) (fun _ _ _ _ h => h)) (pa_cons (pv 1) pa_nil)) pa_nil))) (pa_cons (pe_call (ok_law_cuts T) (hr.mono (by decide)) (by rfl) T.g_law_cuts T.F_law_cuts.kp T.b_law_cuts .nil (L2N.passes_call (L2N.takes_of rfl rfl rfl rfl) (fun _ _ _ _ h => h)) (pa_cons (pv 1) pa_nil)) pa_nil)) (by rfl))
      (pss_cons (ps_for (passes_of rfl) rfl (pi_range1 (by rfl) T.z_range (pa_cons (pv 2) pa_nil)) (pg_name (i := 5) sc_law_any_sum.nd rfl (Or.inl rfl)) (pss_cons (ps_asg (pe_tup (pa_cons (pe_call (ok_law_marks T) (hr.mono (by decide)) (by rfl) T.g_law_marks T.F_law_marks.kp T.b_law_marks .nil (L2N.passes_call (L2N.takes_of rfl rfl rfl rfl) (fun _ _ _ _ h => h)) (pa_cons (pv 1) (pa_cons (pe_ix (ix_K K rfl) (pv 4) (pe_call (ex_law_roll T dt) (hr.mono (by decide)) (by rfl) T.g_law_roll T.F_law_roll.kp T.b_law_roll .nil (L2N.passes_call (L2N.takes_of rfl rfl rfl rfl) (fun _ _ _ _ h => h)) (pa_cons (pv 0) (pa_cons (pe_callB (call_lenK K rfl) (by rfl) T.z_len (by decide +kernel) (pa_cons (pv 4) pa_nil)) pa_nil))) (fun _ _ => rfl)) pa_nil))) (pa_cons (pe_op (op_addK K rfl) pe_int (pe_call (ex_law_roll T dt) (hr.mono (by decide)) (by rfl) T.g_law_roll T.F_law_roll.kp T.b_law_roll .nil (L2N.passes_call (L2N.takes_of rfl rfl rfl rfl) (fun _ _ _ _ h => h)) (pa_cons (pv 0) (pa_cons pe_int pa_nil)))) pa_nil))) (pg_tupK K rfl rfl (pgs_cons (pg_name (i := 6) sc_law_any_sum.nd rfl (Or.inr rfl)) (pgs_cons (pg_name (i := 7) sc_law_any_sum.nd rfl (Or.inr rfl)) pgs_nil))))
      (pss_one (ps_setLc (i := 3) (own := [("place", 8), ("one", 9)]) (g := (gTup K 2 (gNames [8, 9]))) rfl sc_law_any_sum.nd rfl rfl (sw_true rfl rfl rfl (by decide +kernel)) (pi_enumA K rfl (by rfl) T.z_enumerate (pa_cons (pv 3) pa_nil)) (blkOk_by (N := ["dice", "many", "turns", "found", "some", "turn", "marks", "weight", "place", "one"]) (sc := defScope s_law_any_sum) (own := [("place", 8), ("one", 9)]) (by decide +kernel)) (fun _ _ _ _ _ => (pg_tupK K rfl rfl (pgs_cons (pg_name (i := 8) sc_law_any_sum.nd rfl (Or.inl rfl)) (pgs_cons (pg_name (i := 9) sc_law_any_sum.nd rfl (Or.inl rfl)) pgs_nil)))) (fun _ _ _ _ _ => pts_nil) (fun _ _ _ _ _ => (pe_op (op_addK K rfl) (pv 9) (pe_op (op_mulK K rfl) (pv 7) (pe_ix (ix_K K rfl) (pv 6) (pv 8) (fun _ _ => rfl)))))))))
      (pss_one (ps_ret (pv 3))))), ?_⟩
  exact def_readsL (G := (diceG cl da dt)) (E := E) (N := ["dice", "many", "turns", "found", "some", "turn", "marks", "weight", "place", "one"]) (n := 3) (f := b_law_any_sum da) ((ss_seq (ss_parO (by decide) (smL_mul (sm_lst (sma_cons sm_int sma_nil)) (sm_B cs_len (sma_cons (sm_P (sma_cons sm_var sma_nil)) sma_nil))) (sm_P (sma_cons sm_var sma_nil)))
      (ss_seq (ss_for (is_range1 (sma_cons sm_var sma_nil)) gs_name (ss_seq (ss_asgT [6, 7] rfl (sm_tup (sma_cons (sm_P (sma_cons sm_var (sma_cons (sm_op rs_ix sm_var (sm_FX (sma_cons sm_var (sma_cons (sm_B cs_len (sma_cons sm_var sma_nil)) sma_nil)))) sma_nil))) (sma_cons (sm_op rs_add sm_int (sm_FX (sma_cons sm_var (sma_cons sm_int sma_nil)))) sma_nil))))
      (ss_frz 3 (ss_asgO (smL_comp (is_enumA (sma_cons sm_var sma_nil)) (gs_tup [8, 9] rfl) (by decide) smt_yes (sm_op rs_add sm_var (sm_op rs_mul sm_var (sm_op rs_ix sm_var sm_var))))))))
      ss_retL))) h
theorem ex_law_any_sum (T : Txt K mg ad fd cl) (dt : List (Addr × Str)) : FnOk P w K mg base (L2N.CX P w) 6 (ad 37) (fd 37) ["dice", "many", "turns"] (spXL cl dt (fun da => m_law_any_sum da) 3) := fnok_exL fun da => ok_law_any_sum T da dt
theorem ok_law (T : Txt K mg ad fd cl) (FU : Nat) {cc Pt : Addr} {oc kV doc pm ct : Value} {od an : Option Addr} {osl : Array (Option Value)} {dt : List (Addr × Str)} (lk : K.lookup (ad 44) = some ⟨oc, od, .func (PySem.W.fnOf "law" "law" (defArgs s_law) (defBody s_law) (defScope s_law) .none kV doc pm an (.ref cc) ct), osl⟩) (hcd : PySem.W.codeIn K (.ref cc) "law" = true)
    (hf : ∀ (da : Addr) (c : Int), ∃ σ' s', b_law da FU (slots0 16 da) (c, 0) = .nx σ' s') : FnOk P w K mg base (L2N.CX P w) 24 (ad 44) (PySem.W.fnOf "law" "law" (defArgs s_law) (defBody s_law) (defScope s_law) .none kV doc pm an (.ref cc) ct) ["script"] (spLaw K dt) := by
  refine fn_of lk hcd sc_law (fun vs H Q E h => by obtain ⟨a, ns, rfl, _⟩ := h; rfl) fun A outer s H vs Q E hr hsp => ?_
  refine ⟨_, pss_cons (ps_for (passes_of rfl) rfl (pi_seqK K rfl (pe_call (ok_law_rounds T) (hr.mono (by decide)) (by rfl) T.g_law_rounds T.F_law_rounds.kp T.b_law_rounds .nil (L2N.passes_call (L2N.takes_of rfl rfl rfl rfl) (fun _ _ _ _ h => h)) (pa_cons (pv 0) (pa_cons pe_int pa_nil)))) (pg_name (i := 1) sc_law.nd rfl (Or.inl rfl)) (pss_cons (ps_set (i := 2) sc_law.nd rfl (Or.inl rfl) (pe_op (op_addK K rfl) pe_int (pe_call (ex_law_roll T dt) (hr.mono (by decide)) (by rfl) T.g_law_roll T.F_law_roll.kp T.b_law_roll .nil (L2N.passes_call (L2N.takes_of rfl rfl rfl rfl) (fun _ _ _ _ h => h)) (pa_cons (pv 1) (pa_cons pe_int pa_nil)))))
      (pss_cons (ps_set (i := 3) sc_law.nd rfl (Or.inl rfl) (pe_tup (pa_cons (pv 2) (pa_cons (pe_callTy (call_tupleK K rfl) (by rfl) T.z_tuple (by decide +kernel) (pa_cons (pe_call (ex_law_any_sum T dt) (hr.mono (by decide)) (by rfl) T.g_law_any_sum T.F_law_any_sum.kp T.b_law_any_sum .nil (L2N.passes_call (L2N.takes_of rfl rfl rfl rfl) (fun _ _ _ _ h => h)) (pa_cons (pv 1) (pa_cons (pv 2) (pa_cons (pe_op (op_addK K rfl) pe_int (pe_call (ex_law_roll T dt) (hr.mono (by decide)) (by rfl) T.g_law_roll T.F_law_roll.kp T.b_law_roll .nil (L2N.passes_call (L2N.takes_of rfl rfl rfl rfl) (fun _ _ _ _ h => h)) (pa_cons (pv 1) (pa_cons pe_int pa_nil)))) pa_nil)))) pa_nil)) pa_nil))))
      (pss_cons (ps_par rfl sc_law.nd (i := 4) (j := 5) rfl rfl (by decide) rfl rfl (pa_cons (pe_call (ok_decomposition T FU) (hr.mono (by decide)) (by rfl) T.g_decomposition T.F_decomposition.kp T.b_decomposition .nil (L2N.passes_call (L2N.takes_of rfl rfl rfl rfl) (fun _ _ _ _ h => h)) (pa_cons (pv 3) pa_nil)) (pa_cons (pe_call (ok_law_cuts T) (hr.mono (by decide)) (by rfl) T.g_law_cuts T.F_law_cuts.kp T.b_law_cuts .nil (L2N.passes_call (L2N.takes_of rfl rfl rfl rfl) (fun _ _ _ _ h => h)) (pa_cons (pv 2) pa_nil)) pa_nil)) (by rfl))
      (pss_cons (ps_if (pt_cmpR op_isN (pv 4) pe_non (nomark _)) (pss_one (ps_ret pe_bl)) pss_nil)
      (pss_cons (ps_set (i := 6) sc_law.nd rfl (Or.inl rfl) (pe_call (ok_law_as_dict T) (hr.mono (by decide)) (by rfl) T.g_law_as_dict T.F_law_as_dict.kp T.b_law_as_dict .nil (L2N.passes_call (L2N.takes_of rfl rfl rfl rfl) (fun _ _ _ _ h => h)) (pa_cons (pv 4) pa_nil)))
      (pss_cons (ps_set (i := 7) sc_law.nd rfl (Or.inr rfl) (pe_ix (ix_K K rfl) (pv 5) (pe_call (ex_law_roll T dt) (hr.mono (by decide)) (by rfl) T.g_law_roll T.F_law_roll.kp T.b_law_roll .nil (L2N.passes_call (L2N.takes_of rfl rfl rfl rfl) (fun _ _ _ _ h => h)) (pa_cons (pv 1) (pa_cons (pe_callB (call_lenK K rfl) (by rfl) T.z_len (by decide +kernel) (pa_cons (pv 5) pa_nil)) pa_nil))) (fun _ _ => rfl)))
      (pss_cons (ps_asg (pe_call (ok_weight_range T FU) (hr.mono (by decide)) (by rfl) T.g_weight_range T.F_weight_range.kp T.b_weight_range .nil (L2N.passes_call (L2N.takes_of rfl rfl rfl rfl) (fun _ _ _ _ h => h)) (pa_cons (pv 3) (pa_cons (pv 7) pa_nil))) (pg_tupK K rfl rfl (pgs_cons (pg_name (i := 8) sc_law.nd rfl (Or.inl rfl)) (pgs_cons (pg_name (i := 9) sc_law.nd rfl (Or.inl rfl)) pgs_nil))))
      (pss_cons (ps_if (PW.pt (pw_or (pt_val (pe_call (ok_law_is_more T) (hr.mono (by decide)) (by rfl) T.g_law_is_more T.F_law_is_more.kp T.b_law_is_more .nil (L2N.passes_call (L2N.takes_of rfl rfl rfl rfl) (fun _ _ _ _ h => h)) (pa_cons (pv 8) (pa_cons (pe_dget2 (hu_of hr) (pv 6) (pv 7) (pe_tup (pa_cons pe_int (pa_cons pe_int pa_nil))) ⟨rfl, rfl, rfl, rfl⟩) pa_nil)))) (pw_or1 (pt_val (pe_call (ok_law_is_more T) (hr.mono (by decide)) (by rfl) T.g_law_is_more T.F_law_is_more.kp T.b_law_is_more .nil (L2N.passes_call (L2N.takes_of rfl rfl rfl rfl) (fun _ _ _ _ h => h)) (pa_cons (pe_dget2 (hu_of hr) (pv 6) (pv 7) (pe_tup (pa_cons pe_int (pa_cons pe_int pa_nil))) ⟨rfl, rfl, rfl, rfl⟩) (pa_cons (pv 9) pa_nil))))))) (pss_one (ps_ret pe_bl)) pss_nil)
      (pss_cons (ps_if (pt_cmpR op_lt (pe_ix (ix_K K rfl) (pv 8) pe_int (fun _ _ => rfl)) pe_int (nomark _)) (pss_one (ps_ret pe_bl)) pss_nil)
      (pss_cons (ps_set (i := 10) sc_law.nd rfl (Or.inl rfl) (pe_callTy (call_tupleK K rfl) (by rfl) T.z_tuple (by decide +kernel) (pa_cons (pe_lc (own := [("one", 11)]) (g := (gName 11)) rfl sc_law.nd (pi_seqK K rfl (pv 5)) (blkOk_by (N := ["script", "dice", "many", "table", "weights", "some", "own", "side", "low", "high", "costs", "one", "best", "cost", "total", "weight"]) (sc := defScope s_law) (own := [("one", 11)]) (by decide +kernel)) (fun _ _ _ _ _ => (pg_name (i := 11) sc_law.nd rfl (Or.inl rfl))) (fun _ _ _ _ _ => pts_nil) (fun _ _ _ _ _ => (pe_ifExp (pt_cmpR (op_eqK K rfl hr.units) (pv 11) (pv 7) (nomark _)) pe_int pe_int))) pa_nil)))
      (pss_cons (ps_if (pt_cmpR (op_neK K rfl hr.units) (pe_ix (ix_K K rfl) (pe_call (ok_least T FU) (hr.mono (by decide)) (by rfl) T.g_least T.F_least.kp T.b_least .nil (L2N.passes_call (L2N.takes_of rfl rfl rfl rfl) (fun _ _ _ _ h => h)) (pa_cons (pv 3) (pa_cons (pv 10) pa_nil))) pe_int (fun _ _ => rfl)) (pv 8) (nomark _)) (pss_one (ps_ret pe_bl)) pss_nil)
      (pss_cons (ps_set (i := 12) sc_law.nd rfl (Or.inl rfl) (pe_call (ok_least T FU) (hr.mono (by decide)) (by rfl) T.g_least T.F_least.kp T.b_least .nil (L2N.passes_call (L2N.takes_of rfl rfl rfl rfl) (fun _ _ _ _ h => h)) (pa_cons (pv 3) (pa_cons (pe_callTy (call_tupleK K rfl) (by rfl) T.z_tuple (by decide +kernel) (pa_cons (pe_lc (own := [("cost", 13)]) (g := (gName 13)) rfl sc_law.nd (pi_seqK K rfl (pv 10)) (blkOk_by (N := ["script", "dice", "many", "table", "weights", "some", "own", "side", "low", "high", "costs", "one", "best", "cost", "total", "weight"]) (sc := defScope s_law) (own := [("cost", 13)]) (by decide +kernel)) (fun _ _ _ _ _ => (pg_name (i := 13) sc_law.nd rfl (Or.inl rfl))) (fun _ _ _ _ _ => pts_nil) (fun _ _ _ _ _ => (pe_un un_neg (pv 13)))) pa_nil)) pa_nil))))
      (pss_cons (ps_if (pt_cmpR (op_neK K rfl hr.units) (pe_ix (ix_K K rfl) (pv 12) pe_int (fun _ _ => rfl)) (pe_tup (pa_cons (pe_un un_neg (pe_ix (ix_K K rfl) (pv 9) pe_int (fun _ _ => rfl))) (pa_cons (pe_ix (ix_K K rfl) (pv 9) pe_int (fun _ _ => rfl)) pa_nil))) (nomark _)) (pss_one (ps_ret pe_bl)) pss_nil)
      (pss_cons (ps_if (pt_cmpR (op_neK K rfl hr.units) (pe_dget2 (hu_of hr) (pe_call (ok_law_as_dict T) (hr.mono (by decide)) (by rfl) T.g_law_as_dict T.F_law_as_dict.kp T.b_law_as_dict .nil (L2N.passes_call (L2N.takes_of rfl rfl rfl rfl) (fun _ _ _ _ h => h)) (pa_cons (pe_ix (ix_K K rfl) (pv 12) pe_int (fun _ _ => rfl)) pa_nil)) (pv 7) (pe_tup (pa_cons pe_int (pa_cons pe_int pa_nil))) ⟨rfl, rfl, rfl, rfl⟩) (pv 9) (nomark _)) (pss_one (ps_ret pe_bl)) pss_nil)
      (pss_cons (ps_asg (pe_call (ok_total_range T FU) (hr.mono (by decide)) (by rfl) T.g_total_range T.F_total_range.kp T.b_total_range .nil (L2N.passes_call (L2N.takes_of rfl rfl rfl rfl) (fun _ _ _ _ h => h)) (pa_cons (pv 3) pa_nil)) (pg_tupK K rfl rfl (pgs_cons (pg_name (i := 8) sc_law.nd rfl (Or.inl rfl)) (pgs_cons (pg_name (i := 9) sc_law.nd rfl (Or.inl rfl)) pgs_nil))))
      (pss_cons (ps_set (i := 14) sc_law.nd rfl (Or.inl rfl) (pe_call (ok_law_total T) (hr.mono (by decide)) (by rfl) T.g_law_total T.F_law_total.kp T.b_law_total .nil (L2N.passes_call (L2N.takes_of rfl rfl rfl rfl) (fun _ _ _ _ h => h)) (pa_cons (pe_lc (own := [("one", 11), ("weight", 15)]) (g := (gTup K 2 (gNames [11, 15]))) rfl sc_law.nd (pi_seqK K rfl (pv 4)) (blkOk_by (N := ["script", "dice", "many", "table", "weights", "some", "own", "side", "low", "high", "costs", "one", "best", "cost", "total", "weight"]) (sc := defScope s_law) (own := [("one", 11), ("weight", 15)]) (by decide +kernel)) (fun _ _ _ _ _ => (pg_tupK K rfl rfl (pgs_cons (pg_name (i := 11) sc_law.nd rfl (Or.inl rfl)) (pgs_cons (pg_name (i := 15) sc_law.nd rfl (Or.inl rfl)) pgs_nil)))) (fun _ _ _ _ _ => pts_nil) (fun _ _ _ _ _ => (pv 15))) pa_nil)))
      (pss_cons (ps_if (PW.pt (pw_or (pt_val (pe_call (ok_law_is_more T) (hr.mono (by decide)) (by rfl) T.g_law_is_more T.F_law_is_more.kp T.b_law_is_more .nil (L2N.passes_call (L2N.takes_of rfl rfl rfl rfl) (fun _ _ _ _ h => h)) (pa_cons (pv 8) (pa_cons (pv 14) pa_nil)))) (pw_or1 (pt_val (pe_call (ok_law_is_more T) (hr.mono (by decide)) (by rfl) T.g_law_is_more T.F_law_is_more.kp T.b_law_is_more .nil (L2N.passes_call (L2N.takes_of rfl rfl rfl rfl) (fun _ _ _ _ h => h)) (pa_cons (pv 14) (pa_cons (pv 9) pa_nil))))))) (pss_one (ps_ret pe_bl)) pss_nil)
      (pss_cons (ps_if (pt_cmpR (op_neK K rfl hr.units) (pe_ix (ix_K K rfl) (pe_call (ok_least T FU) (hr.mono (by decide)) (by rfl) T.g_least T.F_least.kp T.b_least .nil (L2N.passes_call (L2N.takes_of rfl rfl rfl rfl) (fun _ _ _ _ h => h)) (pa_cons (pv 3) (pa_cons (pe_op (op_mulK K rfl) (pe_tup (pa_cons pe_int pa_nil)) (pe_callB (call_lenK K rfl) (by rfl) T.z_len (by decide +kernel) (pa_cons (pv 5) pa_nil))) pa_nil))) pe_int (fun _ _ => rfl)) (pv 8) (nomark _)) (pss_one (ps_ret pe_bl)) pss_nil)
      (pss_cons (ps_if (pt_cmpR (op_neK K rfl hr.units) (pe_ix (ix_K K rfl) (pe_call (ok_least T FU) (hr.mono (by decide)) (by rfl) T.g_least T.F_least.kp T.b_least .nil (L2N.passes_call (L2N.takes_of rfl rfl rfl rfl) (fun _ _ _ _ h => h)) (pa_cons (pv 3) (pa_cons (pe_op (op_mulK K rfl) (pe_tup (pa_cons (pe_un un_neg pe_int) pa_nil)) (pe_callB (call_lenK K rfl) (by rfl) T.z_len (by decide +kernel) (pa_cons (pv 5) pa_nil))) pa_nil))) pe_int (fun _ _ => rfl)) (pe_tup (pa_cons (pe_un un_neg (pe_ix (ix_K K rfl) (pv 9) pe_int (fun _ _ => rfl))) (pa_cons (pe_ix (ix_K K rfl) (pv 9) pe_int (fun _ _ => rfl)) pa_nil))) (nomark _)) (pss_one (ps_ret pe_bl)) pss_nil)
      (pss_one (ps_if (pt_val (pe_call (ok_law_is_more T) (hr.mono (by decide)) (by rfl) T.g_law_is_more T.F_law_is_more.kp T.b_law_is_more .nil (L2N.passes_call (L2N.takes_of rfl rfl rfl rfl) (fun _ _ _ _ h => h)) (pa_cons (pe_tup (pa_cons (pe_callB (call_max1 K rfl rfl) (by rfl) T.z_max (by decide +kernel) (pa_cons (pe_ix (ix_K K rfl) (pv 3) pe_int (fun _ _ => rfl)) pa_nil)) (pa_cons pe_int pa_nil))) (pa_cons (pv 8) pa_nil)))) (pss_one (ps_ret pe_bl)) pss_nil)))))))))))))))))))))) (pss_one (ps_ret pe_bl)), ?_⟩
  exact law_reads (cl := cl) (dt := dt) (E := E) (m := 3) (N := ["script", "dice", "many", "table", "weights", "some", "own", "side", "low", "high", "costs", "one", "best", "cost", "total", "weight"]) (f := fun da => b_law da FU) (by decide) (by decide) (fun da => (ss_seq (ss_asg (sm_op rs_add sm_int (sm_FX (sma_cons sm_var (sma_cons sm_int sma_nil)))))
      (ss_seq (ss_asg (sm_tup (sma_cons sm_var (sma_cons (sm_B cs_tuple (sma_cons ((smL_FX (sma_cons sm_var (sma_cons sm_var (sma_cons (sm_op rs_add sm_int (sm_FX (sma_cons sm_var (sma_cons sm_int sma_nil)))) sma_nil)))).sm newL_F) sma_nil)) sma_nil))))
      (ss_seq (ss_par (sma_cons (sm_P (sma_cons sm_var sma_nil)) (sma_cons (sm_P (sma_cons sm_var sma_nil)) sma_nil)))
      (ss_seq (ss_if (smt_test (sm_op rs_is sm_var sm_non)) (ss_ret sm_bl) ss_next)
      (ss_seq (ss_asg (sm_P (sma_cons sm_var sma_nil)))
      (ss_seq (ss_asg (sm_op rs_ix sm_var (sm_FX (sma_cons sm_var (sma_cons (sm_B cs_len (sma_cons sm_var sma_nil)) sma_nil)))))
      (ss_seq (ss_asgT [8, 9] rfl (sm_P (sma_cons sm_var (sma_cons sm_var sma_nil))))
      (ss_seq (ss_if (smt_or (smt_B (sm_P (sma_cons sm_var (sma_cons (sm_dget2 sm_var sm_var (sm_tup (sma_cons sm_int (sma_cons sm_int sma_nil)))) sma_nil)))) (smt_B (sm_P (sma_cons (sm_dget2 sm_var sm_var (sm_tup (sma_cons sm_int (sma_cons sm_int sma_nil)))) (sma_cons sm_var sma_nil))))) (ss_ret sm_bl) ss_next)
      (ss_seq (ss_if (smt_test (sm_op rs_lt (sm_op rs_ix sm_var sm_int) sm_int)) (ss_ret sm_bl) ss_next)
      (ss_seq (ss_asg (sm_B cs_tuple (sma_cons (sm_comp (is_seq sm_var) gs_name (by decide) smt_yes (sm_if (smt_test (sm_op rs_eq sm_var sm_var)) sm_int sm_int)) sma_nil)))
      (ss_seq (ss_if (smt_test (sm_op rs_ne (sm_op rs_ix (sm_P (sma_cons sm_var (sma_cons sm_var sma_nil))) sm_int) sm_var)) (ss_ret sm_bl) ss_next)
      (ss_seq (ss_asg (sm_P (sma_cons sm_var (sma_cons (sm_B cs_tuple (sma_cons (sm_comp (is_seq sm_var) gs_name (by decide) smt_yes (sm_un rs_neg sm_var)) sma_nil)) sma_nil))))
      (ss_seq (ss_if (smt_test (sm_op rs_ne (sm_op rs_ix sm_var sm_int) (sm_tup (sma_cons (sm_un rs_neg (sm_op rs_ix sm_var sm_int)) (sma_cons (sm_op rs_ix sm_var sm_int) sma_nil))))) (ss_ret sm_bl) ss_next)
      (ss_seq (ss_if (smt_test (sm_op rs_ne (sm_dget2 (sm_P (sma_cons (sm_op rs_ix sm_var sm_int) sma_nil)) sm_var (sm_tup (sma_cons sm_int (sma_cons sm_int sma_nil)))) sm_var)) (ss_ret sm_bl) ss_next)
      (ss_seq (ss_asgT [8, 9] rfl (sm_P (sma_cons sm_var sma_nil)))
      (ss_seq (ss_asg (sm_P (sma_cons (sm_comp (is_seq sm_var) (gs_tup [11, 15] rfl) (by decide) smt_yes sm_var) sma_nil)))
      (ss_seq (ss_if (smt_or (smt_B (sm_P (sma_cons sm_var (sma_cons sm_var sma_nil)))) (smt_B (sm_P (sma_cons sm_var (sma_cons sm_var sma_nil))))) (ss_ret sm_bl) ss_next)
      (ss_seq (ss_if (smt_test (sm_op rs_ne (sm_op rs_ix (sm_P (sma_cons sm_var (sma_cons (sm_op rs_mul (sm_tup (sma_cons sm_int sma_nil)) (sm_B cs_len (sma_cons sm_var sma_nil))) sma_nil))) sm_int) sm_var)) (ss_ret sm_bl) ss_next)
      (ss_seq (ss_if (smt_test (sm_op rs_ne (sm_op rs_ix (sm_P (sma_cons sm_var (sma_cons (sm_op rs_mul (sm_tup (sma_cons (sm_un rs_neg sm_int) sma_nil)) (sm_B cs_len (sma_cons sm_var sma_nil))) sma_nil))) sm_int) (sm_tup (sma_cons (sm_un rs_neg (sm_op rs_ix sm_var sm_int)) (sma_cons (sm_op rs_ix sm_var sm_int) sma_nil))))) (ss_ret sm_bl) ss_next)
      (ss_if (smt_B (sm_P (sma_cons (sm_tup (sma_cons (sm_B cs_max1 (sma_cons (sm_op rs_ix sm_var sm_int) sma_nil)) (sma_cons sm_int sma_nil))) (sma_cons sm_var sma_nil)))) (ss_ret sm_bl) ss_next))))))))))))))))))))) (fun da => kl_law da FU) hf hsp
end
def b_law_any_table (da : Addr) : List Sl → DiceS → Fl DiceS := (sSeq (sPar 2 3 (aCons (eOp pyAdd (eC (.int 2)) (eF (lenIs 2 (m_law_roll da)) (aCons (eVar 0) (aCons (eOp pySub (eVar 1) (eC (.int 1))) aNil)))) (aCons (eF (lenIs 2 (m_law_roll da)) (aCons (eVar 0) (aCons (eC (.int 5)) aNil))) aNil)))
    (sSeq (sAsgO 4 (eF (lenIs 3 (m_law_any_sum da)) (aCons (eVar 0) (aCons (eVar 2) (aCons (eF (lenIs 2 (m_law_roll da)) (aCons (eVar 0) (aCons (eC (.int 8)) aNil))) aNil)))))
    (sSeq (sIf (eTest (eOp pyEq (eVar 3) (eC (.int 0)))) (sFrz 4 (sAsgO 4 (eComp (iOf (eVar 4)) [5] (bName 5) yes (eOp pyAdd (eC (.int 5)) (eF (lenIs 2 (m_law_roll da)) (aCons (eVar 0) (aCons (eC (.int 5)) aNil))))))) sNext)
    (sSeq (sIf (eTest (eOp pyEq (eVar 3) (eC (.int 1)))) (sSeq (sAsg 6 (eF (lenIs 2 (m_law_roll da)) (aCons (eVar 0) (aCons (eLenO 4) aNil))))
    (sSetO 4 (eVar 6) (eB pyMax2 (aCons (eC (.int 0)) (aCons (eOp pySub (eOp pyAdd (eIxO 4 (eVar 6)) (eF (lenIs 2 (m_law_roll da)) (aCons (eVar 0) (aCons (eC (.int 5)) aNil)))) (eC (.int 2))) aNil))))) sNext)
    (sSeq (sIf (eTest (eOp pyEq (eVar 3) (eC (.int 2)))) (sFrz 4 (sAsgO 4 (eComp (iOf (eVar 4)) [5] (bName 5) yes (eOp pyFdiv (eOp pyAdd (eVar 5) (eC (.int 1))) (eC (.int 2)))))) sNext)
    (sFrz 4 (sRet (eTup (aCons (eVar 2) (aCons (eB pyTupleOf (aCons (eComp (iOf (eVar 4)) [5] (bName 5) yes (eB pyMin2 (aCons (eC (.int 99)) (aCons (eVar 5) aNil)))) aNil)) aNil))))))))))
def m_law_any_table (da : Addr) : List W → DiceS → Rs DiceS W := mDef 7 (b_law_any_table da)
def b_need_many : List Sl → Unit → Fl Unit := (sIf (tNotT (eTest (eP (lenIs 3 m_is_whole) (aCons (eVar 0) (aCons (eC (.int 2)) (aCons (eC (.int 6)) aNil)))))) (sRaise 1) sNext)
def m_need_many : List W → Unit → Rs Unit W := mDef 1 (b_need_many)
def b_law_sum : List Sl → Unit → Fl Unit := (sSeq (sPar 2 3 (aCons (eOp pyMul (eLst (aCons (eTup (aCons (eC (.int 0)) (aCons (eC (.int 1)) aNil))) aNil)) (eB pyLen (aCons (eP (lenIs 1 m_law_pairs) (aCons (eVar 0) aNil)) aNil))) (aCons (eTup aNil) aNil)))
    (sSeq (sFor (iOf (eVar 1)) (bTup [4, 5]) (sSeq (sIf (tOrT (eTest (eOp pyLe (eVar 4) (eVar 3))) (tOrT (eTest (eOp pyNotIn (eVar 4) (eP (lenIs 1 m_law_cuts) (aCons (eVar 0) aNil)))) (tOrT (eTest (eOp pyLe (eOp pyIx (eVar 5) (eC (.int 0))) (eC (.int 0)))) (eTest (eOp pyNe (eP (lenIs 2 m_law_lowest) (aCons (eOp pyIx (eVar 5) (eC (.int 0))) (aCons (eOp pyIx (eVar 5) (eC (.int 1))) aNil))) (eVar 5)))))) (sRet (eC .none)) sNext)
    (sSeq (sAsgT [3, 6] (eTup (aCons (eVar 4) (aCons (eP (lenIs 2 m_law_marks) (aCons (eVar 0) (aCons (eVar 4) aNil))) aNil))))
    (sAsg 2 (eComp (iEnumM (aCons (eVar 2) aNil)) [7, 8] (bTup [7, 8]) yes (eIf (eTest (eOp pyEq (eOp pyIx (eVar 6) (eVar 7)) (eC (.int 1)))) (eP (lenIs 2 m_law_plus) (aCons (eVar 8) (aCons (eVar 5) aNil))) (eVar 8)))))))
    (sRet (eVar 2))))
def m_law_sum : List W → Unit → Rs Unit W := mDef 9 (b_law_sum)
def b_is_number : List Sl → Unit → Fl Unit := (sRet (eAndV (eIsi .int (eVar 0)) (eUn bNot (eIsi .bool (eVar 0)))))
def m_is_number : List W → Unit → Rs Unit W := mDef 1 (b_is_number)
def b_is_fraction : List Sl → Unit → Fl Unit := (sSeq (sIf (tOrT (tNotT (eTest (eIsi .tuple (eVar 0)))) (tOrT (eTest (eOp pyNe (eB pyLen (aCons (eVar 0) aNil)) (eC (.int 2)))) (tNotT (eTest (eB pyAll (aCons (eComp (iOf (eVar 0)) [1] (bName 1) yes (eP (lenIs 1 m_is_number) (aCons (eVar 1) aNil))) aNil)))))) (sRet (eC (.bool false))) sNext)
    (sRet (eAndV (eOp pyGt (eOp pyIx (eVar 0) (eC (.int 1))) (eC (.int 0))) (eOp pyEq (eP (lenIs 2 m_divisor) (aCons (eOp pyIx (eVar 0) (eC (.int 0))) (aCons (eOp pyIx (eVar 0) (eC (.int 1))) aNil))) (eC (.int 1))))))
def m_is_fraction : List W → Unit → Rs Unit W := mDef 2 (b_is_fraction)
def b_are_weights : List Sl → Unit → Fl Unit := (sSeq (sIf (tNotT (eTest (eIsi .tuple (eVar 1)))) (sRet (eC (.bool false))) sNext)
    (sSeq (sAsg 2 (eTup aNil))
    (sSeq (sFor (iOf (eVar 1)) (bName 3) (sSeq (sIf (tOrT (tNotT (eTest (eIsi .tuple (eVar 3)))) (tOrT (eTest (eOp pyNe (eB pyLen (aCons (eVar 3) aNil)) (eC (.int 2)))) (tNotT (eTest (eP (lenIs 2 m_is_cut) (aCons (eVar 0) (aCons (eOp pyIx (eVar 3) (eC (.int 0))) aNil))))))) (sRet (eC (.bool false))) sNext)
    (sSeq (sIf (tOrT (tNotT (eTest (eP (lenIs 1 m_is_fraction) (aCons (eOp pyIx (eVar 3) (eC (.int 1))) aNil)))) (eTest (eOp pyLe (eOp pyIx (eVar 3) (eC (.int 0))) (eVar 2)))) (sRet (eC (.bool false))) sNext)
    (sSeq (sIf (tOrT (tNotT (eTest (eChain pyLt pyLt (eC (.int 0)) (eOp pyIx (eOp pyIx (eVar 3) (eC (.int 1))) (eC (.int 0))) (eOp pyPow (eC (.int 10)) (eC (.int 50)))))) (eTest (eOp pyGe (eOp pyIx (eOp pyIx (eVar 3) (eC (.int 1))) (eC (.int 1))) (eOp pyPow (eC (.int 10)) (eC (.int 50)))))) (sRet (eC (.bool false))) sNext)
    (sAsg 2 (eOp pyIx (eVar 3) (eC (.int 0))))))))
    (sRet (eC (.bool true))))))
def m_are_weights : List W → Unit → Rs Unit W := mDef 4 (b_are_weights)
def b_need_weights : List Sl → Unit → Fl Unit := (sIf (tNotT (eTest (eP (lenIs 2 m_are_weights) (aCons (eVar 0) (aCons (eVar 1) aNil))))) (sRaise 4) sNext)
def m_need_weights : List W → Unit → Rs Unit W := mDef 2 (b_need_weights)
def b_plus_fraction : List Sl → Unit → Fl Unit := (sRet (eP (lenIs 2 m_lowest) (aCons (eOp pyAdd (eOp pyMul (eOp pyIx (eVar 0) (eC (.int 0))) (eOp pyIx (eVar 1) (eC (.int 1)))) (eOp pyMul (eOp pyIx (eVar 1) (eC (.int 0))) (eOp pyIx (eVar 0) (eC (.int 1))))) (aCons (eOp pyMul (eOp pyIx (eVar 0) (eC (.int 1))) (eOp pyIx (eVar 1) (eC (.int 1)))) aNil))))
def m_plus_fraction : List W → Unit → Rs Unit W := mDef 2 (b_plus_fraction)
def b_added : List Sl → Unit → Fl Unit := (sSeq (sAsg 2 (eOp pyMul (eLst (aCons (eTup (aCons (eC (.int 0)) (aCons (eC (.int 1)) aNil))) aNil)) (eOp pyFdiv (eOp pyMul (eVar 0) (eOp pySub (eVar 0) (eC (.int 1)))) (eC (.int 2)))))
    (sSeq (sFor (iOf (eVar 1)) (bTup [3, 4]) (sSeq (sAsg 5 (eP (lenIs 2 m_marks_of) (aCons (eVar 0) (aCons (eVar 3) aNil))))
    (sAsg 2 (eComp (iEnumM (aCons (eVar 2) aNil)) [6, 7] (bTup [6, 7]) yes (eIf (eTest (eOp pyEq (eOp pyIx (eVar 5) (eVar 6)) (eC (.int 1)))) (eP (lenIs 2 m_plus_fraction) (aCons (eVar 7) (aCons (eVar 4) aNil))) (eVar 7))))))
    (sRet (eB pyTupleOf (aCons (eVar 2) aNil)))))
def m_added : List W → Unit → Rs Unit W := mDef 8 (b_added)
def b_sum_of : List Sl → Unit → Fl Unit := (sSeq (sDrop (eP (lenIs 1 m_need_many) (aCons (eVar 0) aNil)))
    (sSeq (sDrop (eP (lenIs 2 m_need_weights) (aCons (eVar 0) (aCons (eVar 1) aNil))))
    (sRet (eP (lenIs 2 m_added) (aCons (eVar 0) (aCons (eVar 1) aNil))))))
def m_sum_of : List W → Unit → Rs Unit W := mDef 2 (b_sum_of)
def b_decomposes : List Sl → Unit → Fl Unit := (sRet (eAndV (eP (lenIs 2 m_are_weights) (aCons (eOp pyIx (eVar 0) (eC (.int 0))) (aCons (eVar 1) aNil))) (eOp pyEq (eP (lenIs 2 m_added) (aCons (eOp pyIx (eVar 0) (eC (.int 0))) (aCons (eVar 1) aNil))) (eB pyTupleOf (aCons (eComp (iOf (eOp pyIx (eVar 0) (eC (.int 1)))) [2] (bName 2) yes (eTup (aCons (eVar 2) (aCons (eC (.int 1)) aNil)))) aNil)))))
def m_decomposes : List W → Unit → Rs Unit W := mDef 3 (b_decomposes)
def b_is_decomposition : List Sl → Unit → Fl Unit := (sSeq (sDrop (eP (lenIs 1 m_need_table) (aCons (eVar 0) aNil)))
    (sRet (eP (lenIs 2 m_decomposes) (aCons (eVar 0) (aCons (eVar 1) aNil)))))
def m_is_decomposition : List W → Unit → Rs Unit W := mDef 2 (b_is_decomposition)
def b_law_is_sum : List Sl → Unit → Fl Unit := (sRet (eOp pyEq (eP (lenIs 2 m_law_sum) (aCons (eOp pyIx (eVar 0) (eC (.int 0))) (aCons (eVar 1) aNil))) (eComp (iOf (eOp pyIx (eVar 0) (eC (.int 1)))) [2] (bName 2) yes (eTup (aCons (eVar 2) (aCons (eC (.int 1)) aNil))))))
def m_law_is_sum : List W → Unit → Rs Unit W := mDef 3 (b_law_is_sum)
def b_excluding (FU : Nat) : List Sl → Unit → Fl Unit := (sSeq (sDrop (eP (lenIs 1 m_need_table) (aCons (eVar 0) aNil)))
    (sSeq (sAsgT [1, 2, 3, 4] (eP (lenIs 2 (m_solved FU)) (aCons (eVar 0) (aCons (eP (lenIs 1 m_free_costs) (aCons (eOp pyIx (eVar 0) (eC (.int 0))) aNil)) aNil))))
    (sRet (eIf (eTest (eOp pyEq (eVar 1) (eC (.str "none")))) (eB pyTupleOf (aCons (eVar 4) aNil)) (eC .none)))))
def m_excluding (FU : Nat) : List W → Unit → Rs Unit W := mDef 5 (b_excluding FU)
local macro_rules | `(tactic| walk_at "bl") => `(tactic| first | with_reducible assumption | with_reducible exact not_t | with_reducible exact not_f | exact bl_t (by omega) | exact bl_f (by omega) | exact be_t (by omega) | exact be_f (by omega) | exact nb_t (by omega) | exact nb_f (by omega) | exact rfl)
local macro_rules | `(tactic| walk_at "sz") => `(tactic| first | assumption | exact le_ble rfl | exact lt_ble rfl | omega | (simp only [List.length_append, List.length_map, List.length_cons, List.length_nil]; omega))
local macro_rules | `(tactic| walk_at "call") => `(tactic| with_reducible assumption)
local macro_rules | `(tactic| walk_at "op") => `(tactic| first | with_reducible assumption | with_reducible exact o_add | with_reducible exact o_sub | with_reducible exact o_neg | with_reducible exact o_lt | with_reducible exact o_le | with_reducible exact o_gt | with_reducible exact o_ge | with_reducible exact o_is | with_reducible exact o_isN | with_reducible exact o_eqi | with_reducible exact o_nei | with_reducible exact o_max | with_reducible exact o_min | with_reducible exact o_lenL | with_reducible exact o_lenT | with_reducible exact o_tupL | with_reducible exact o_tupT | with_reducible exact o_lstL | with_reducible exact o_lstT | with_reducible exact o_abs | with_reducible exact o_int | with_reducible exact o_intB | ((with_reducible apply o_addL); walk_at "sz") | ((with_reducible apply o_addT); walk_at "sz") | ((with_reducible apply o_mul); omega) | ((with_reducible apply o_div) <;> omega) | ((with_reducible apply mod_some); omega) | ((with_reducible apply o_ixL); first | with_reducible assumption | exact rfl) | ((with_reducible apply o_ixT); first | with_reducible assumption | exact rfl) | ((with_reducible show pySl _ _ _ = some _); exact rfl))
local macro_rules | `(tactic| walk_at "e1") => `(tactic| first | with_reducible exact j_c | with_reducible exact j_nil | with_reducible exact j_oNo | with_reducible exact j_next | with_reducible exact j_raise | with_reducible exact t_raise | with_reducible exact j_newD | with_reducible exact j_k | with_reducible exact defK_rt | with_reducible exact defK_nx | with_reducible exact defK_exc | with_reducible exact nxK_exc | with_reducible exact toldK_ok | ((with_reducible apply toldK_exc); decide +kernel) | ((with_reducible apply j_var); exact rfl) | with_reducible apply j_cons | with_reducible apply j_op | with_reducible apply j_notV | with_reducible apply j_un | with_reducible apply j_b | with_reducible apply j_pu | with_reducible apply j_p | with_reducible apply j_f | with_reducible apply j_tup | with_reducible apply j_lst | with_reducible apply j_isi | with_reducible apply j_test | with_reducible apply j_and | with_reducible apply j_or | with_reducible apply j_not | with_reducible apply andK_t | with_reducible exact andK_f | with_reducible exact orK_t | with_reducible apply orK_f | with_reducible apply andV_t | with_reducible exact andV_f | with_reducible exact orV_t | with_reducible apply orV_f | with_reducible apply j_andV | with_reducible apply j_orV | with_reducible apply ifK_t | with_reducible apply ifK_f | with_reducible apply j_if | with_reducible apply j_chain | with_reducible apply j_sl | with_reducible apply j_oPart | with_reducible apply j_comp | with_reducible apply j_iof | (with_reducible apply j_range1) | with_reducible apply j_range2 | with_reducible apply j_enum | with_reducible apply j_listRg | with_reducible apply j_dget | (with_reducible apply j_ixO) | (with_reducible apply j_lenO) | with_reducible apply t_told | with_reducible apply t_drop | with_reducible apply t_asg | with_reducible apply t_seqret | with_reducible apply t_next | with_reducible apply t_seq | with_reducible apply t_if | with_reducible apply t_frz | with_reducible apply t_ret | with_reducible apply t_dropE | with_reducible apply t_asgE | with_reducible apply nxK_ok | with_reducible apply j_sif | with_reducible apply j_frz | with_reducible apply t_any | with_reducible apply j_asgT | with_reducible apply j_par | with_reducible apply j_asgO | with_reducible apply j_app | with_reducible apply j_putD | with_reducible apply j_aug | with_reducible apply t_def | walk_at "op" | walk_at "call" | ((with_reducible show wDs _ = some _); exact rfl) | ((with_reducible show List.length _ = _); exact rfl) | ((with_reducible apply isi_t); exact rfl) | ((with_reducible apply isi_f); exact rfl) | ((with_reducible show isiB _ _ = _); with_reducible assumption) | ((with_reducible show seqOf _ = some _); exact rfl) | ((with_reducible show bTup _ _ _ = some _); exact rfl) | ((with_reducible show keyD _ = some _); exact rfl) | ((with_reducible show (_ : List Sl)[_]? = some _); exact rfl) | ((with_reducible show (_ : Bool) = _); walk_at "bl") | ((with_reducible show (_ : Nat) ≤ _); walk_at "sz") | ((with_reducible show (_ : Nat) < _); walk_at "sz") | ((with_reducible show (_ : Int) ≤ _ ∧ _); omega) | with_reducible exact e_rt | with_reducible exact e_ok | with_reducible exact e_nx | with_reducible exact e_exc | with_reducible exact e_rx | ((with_reducible apply e_rtc); exact rfl) | ((with_reducible apply e_okc); exact rfl) | ((with_reducible apply e_nxc); exact rfl) | with_reducible apply andK_any | with_reducible apply orK_any | with_reducible apply andV_any | with_reducible apply orV_any)
local macro_rules | `(tactic| walk_at "ev") => `(tactic| repeat' walk_at "e1")
local macro_rules | `(tactic| simp! [$xs,*]) => `(tactic| simp (disch := first | assumption | omega | (simp only [List.length_cons, List.length_nil, List.length_map, List.length_append, List.length_replicate] <;> omega) | decide) only [r_bind_ok, r_bind_exc, r_optR_some, r_lift2_d, r_lift1_d, r_mapD_some, r_wDs_nil, r_wDs_cons, r_omap_some, r_obind_some, r_ev_var, r_varK_some, r_get0, r_getS, r_set0, r_setS, r_ev_c, r_ev_op, r_opK1, r_opK2, r_ev_un, r_unK, r_ev_nil, r_ev_cons, r_consK1, r_consK2, r_ev_b, r_bK, r_pK_ok, r_pK_exc, r_pK_unit, r_ev_p, r_pK1, r_ev_f, r_len0, r_len1, r_len2, r_len3, r_len4, r_len5, r_ev_tup, r_tupK, r_lstK, r_ev_lst, r_mkT0, r_mkT1, r_mkT2, r_mkT3, r_mkT4, r_mkL0, r_mkL1, r_mkL2, r_mkL3, r_mkL_4, r_mkT_5, r_ev_isi, r_isiK_d, r_isi_int_int, r_isi_int_bool, r_isi_bool_bool, r_isi_bool_int, r_isi_int_none, r_isi_int_str, r_isi_int_list, r_isi_int_tuple, r_isi_int_dict, r_isi_tuple_none, r_isi_tuple_str, r_isi_tuple_list, r_isi_tuple_tuple, r_isi_tuple_int, r_isi_tuple_bool, r_isi_tuple_dict, r_isi_str_str, r_isi_str_none, r_isi_str_int, r_isi_str_list, r_isi_str_tuple, r_ev_test, r_testK, r_wB_b, r_ev_truth, r_truK_i, r_ev_and, r_ev_or, r_andT_t, r_andT_f, r_orT_t, r_orT_f, r_ev_not, r_notK, r_ev_andV, r_ev_orV, r_andW_t, r_andW_f, r_orW_t, r_orW_f, r_bNot_b, r_ev_if, r_ifW_t, r_ifW_f, r_ev_chain, r_chK1, r_chK2, r_chK_t, r_chK_f, r_ev_sl, r_slK1, r_slK2, r_slK_d, r_ev_oNo, r_ev_oPart, r_oPartK, r_wI_i, r_pySl_l, r_pySl_t, r_cut_1, r_ev_iof, r_iSeq_l, r_iSeq_t, r_ev_rg1, r_ev_rg2, r_rg1_ok, r_rg2_ok, r_ev_enumM, r_enA_l, r_enA_t, r_ev_comp, r_compK_ok, r_lstR_ok, r_wipe_nil, r_wipe_cons, r_ev_index, r_indK1, r_indK2, r_ev_listRg, r_lrgK_ok, r_ev_dget, r_dgK1, r_dgK_ok, r_keyD_nil, r_keyD_int, r_ev_ixo, r_ixoK_w, r_ixoK_ok, r_ixoI_ok, r_ev_leno, r_lenoK_ok, r_ev_seq, r_seqK_nx, r_seqK_rt, r_seqK_rl, r_seqK_exc, r_ev_next, r_eK_ok, r_eK_exc, r_ev_asg, r_asgK, r_ev_asgT, r_asgTK_2, r_asgTK_3, r_asgTK_4, r_ev_par, r_parK_ok, r_ev_drop, r_ev_ret, r_dropK, r_retK, r_ev_sif, r_sifK_t, r_sifK_f, r_ev_raise, r_ev_aug, r_augK_ok, r_ev_for, r_forK_ok, r_ev_frz, r_frz0, r_frzN, r_frzS_own, r_frzS_odc, r_frzS_w, r_frzS_non, r_ev_asgO, r_asgOK_ok, r_mulL_ok, r_ev_retL, r_retLK_ok, r_ev_app, r_appK_ok, r_ev_newD, r_ev_putD, r_putK_ok, r_putK2_ok, r_ev_setO, r_setOK_ok, r_setOK2_ok, r_ev_parO, r_parOK, r_parOK2, r_ev_parO2, r_parO2K, r_ev_def, r_defK_1, r_defK_2, r_defK_3, r_defK_4, r_ev_defL, r_defLK_1, r_slots_nil, r_nons0, r_nonsS, r_slots_cons, r_ev_told, r_toldK_1, r_w_add, r_w_addL, r_w_addT, r_w_sub, r_w_neg, r_w_lt, r_w_le, r_w_gt, r_w_ge, r_w_is, r_w_isN, r_isNon_n, r_isNon_i, r_isNon_t, r_isNon_l, r_w_eq, r_w_ne, r_w_max, r_w_min, r_w_lenL, r_w_lenT, r_w_tupL, r_w_tupT, r_w_lstL, r_w_lstT, r_w_abs, r_w_int, r_w_intB, r_w_ixT0, r_w_ixT1, r_w_ixT2, r_w_mul, r_w_div, r_w_mod, r_turn_name, r_turn_t2, r_turn_t3, r_ev_dget2, r_dg2K1, r_dg2K2, r_dg2K, r_w_max1, r_w_max1t, r_w_min1, r_w_min1t, r_ev_zip, r_iZD_tt, r_iZD_tl, r_iZD_lt, r_iZD_ll, r_ev_compD, r_compDK, r_ev_dg2O, r_dg2OK, Bool.not_true, Bool.not_false, Bool.and_true, Bool.true_and, Bool.and_false, Bool.false_and, decide_true, decide_false, if_true, if_false, Bool.false_eq_true, List.nil_append, List.cons_append, List.length_cons, List.length_nil, Int.reduceLE, Int.reduceLT, Int.reduceBEq, Int.reduceEq, Int.reduceAdd, Int.reduceSub, Int.reduceMul, Int.reduceNeg, Int.reduceDiv, Int.reduceMod, Int.reduceToNat, Nat.reduceAdd, Nat.reduceSub, Nat.reduceMul, Nat.reduceLT, Nat.reduceLeDiff, Int.cast_ofNat_Int, BEq.rfl, $xs,*])
-- needs:
/-! ### the dice -/
theorem drawn_ok (c k : Int) : ∃ r : Int, m_law_drawn [.d (.int c), .d (.int k)] () = .ok (.d (.int r)) () := by
  have h1 : ∀ x : Int, pyMul (.int x) (.int 6364136223846793005) = some (.int (x * 6364136223846793005)) := fun x => mul_some (.inr (.inr (by decide)))
  have h2 : ∀ x : Int, pyMul (.int x) (.int 1442695040888963407) = some (.int (x * 1442695040888963407)) := fun x => mul_some (.inr (.inr (by decide)))
  have m1 : ∀ x : Int, pyMod (.int x) (.int 340282366920938463463374607431768211507) = some (.int (x % 340282366920938463463374607431768211507)) := fun x => mod_some (by decide)
  have m2 : ∀ x : Int, pyMod (.int x) (.int 340282366920938463463374607431768211297) = some (.int (x % 340282366920938463463374607431768211297)) := fun x => mod_some (by decide)
  have m3 : ∀ x : Int, pyMod (.int x) (.int 18446744073709551557) = some (.int (x % 18446744073709551557)) := fun x => mod_some (by decide)
  have d1 : ∀ x : Int, pyFdiv (.int x) (.int 18446744073709551557) = some (.int (x / 18446744073709551557)) := fun x => fdiv_some (by decide) (by decide)
  have a1 : ∀ x y : Int, pyAdd (.int x) (.int y) = some (.int (x + y)) := fun _ _ => rfl
  simp only [m_law_drawn, mDef, b_law_drawn, slots, List.map_cons, List.map_nil, List.length_cons, List.length_nil, Nat.reduceAdd, Nat.reduceSub, List.replicate, List.cons_append, List.nil_append, sSeq, sAsg, sE, eOp, eVar, eC, Rs.bind, lift2, optR, List.getElem?_cons_zero, List.getElem?_cons_succ, h1, h2, m1, m2, m3, d1, a1, Option.map_some, List.set_cons_succ, List.set_cons_zero, sRet]
  obtain ⟨r1, e1, l1, u1⟩ : ∃ r : Int, (c * 6364136223846793005 + (k + 1) * 1442695040888963407) % 340282366920938463463374607431768211507 = r ∧ 0 ≤ r ∧ r < 2 ^ 130 := ⟨_, rfl, Int.emod_nonneg _ (by decide), Int.lt_trans (Int.emod_lt_of_pos _ (by decide)) (by decide)⟩
  rw [e1]
  have q1 : pyMul (.int r1) (.int r1) = some (.int (r1 * r1)) := mul_some (.inl (by have := log2_lt (i := r1) (n := 130) (by omega) u1 (by decide); omega))
  simp only [q1, Option.map_some, m2, Rs.bind, optR, List.getElem?_cons_zero, List.getElem?_cons_succ, m3, d1, a1, lift2]
  obtain ⟨r2, e2, l2, u2⟩ : ∃ r : Int, (r1 * r1) % 340282366920938463463374607431768211297 = r ∧ 0 ≤ r ∧ r < 2 ^ 130 := ⟨_, rfl, Int.emod_nonneg _ (by decide), Int.lt_trans (Int.emod_lt_of_pos _ (by decide)) (by decide)⟩
  rw [e2]
  obtain ⟨r3, e3, l3, u3⟩ : ∃ r : Int, r2 % 18446744073709551557 = r ∧ 0 ≤ r ∧ r < 2 ^ 130 := ⟨_, rfl, Int.emod_nonneg _ (by decide), Int.lt_trans (Int.emod_lt_of_pos _ (by decide)) (by decide)⟩
  obtain ⟨r4, e4, l4, u4⟩ : ∃ r : Int, r2 / 18446744073709551557 = r ∧ 0 ≤ r ∧ r < 2 ^ 130 := ⟨_, rfl, Int.ediv_nonneg l2 (by decide), Int.lt_of_le_of_lt (Int.ediv_le_self _ l2) u2⟩
  rw [e3, e4]
  have q2 : pyMul (.int (r3 + 1)) (.int (r4 + 1)) = some (.int ((r3 + 1) * (r4 + 1))) := mul_some (.inl (by
    have h3 := log2_lt (i := r3 + 1) (n := 131) (by omega) (by omega) (by decide)
    have h4 := log2_lt (i := r4 + 1) (n := 131) (by omega) (by omega) (by decide)
    omega))
  have hp : 0 ≤ (r3 + 1) * (r4 + 1) := Int.mul_nonneg (by omega) (by omega)
  have hq : (r3 + 1) * (r4 + 1) < 2 ^ 263 := by
    have : (r3 + 1) * (r4 + 1) ≤ 2 ^ 131 * 2 ^ 131 := Int.mul_le_mul (by omega) (by omega) (by omega) (by decide)
    have e : (2 : Int) ^ 131 * 2 ^ 131 = 2 ^ 262 := by decide
    omega
  have q3 : pyMul (.int ((r3 + 1) * (r4 + 1))) (.int r2) = some (.int ((r3 + 1) * (r4 + 1) * r2)) := mul_some (.inl (by
    have h3 := log2_lt (i := (r3 + 1) * (r4 + 1)) (n := 263) (by omega) hq (by decide)
    have h4 := log2_lt (i := r2) (n := 130) (by omega) u2 (by decide)
    omega))
  simp only [q2, q3, Option.map_some, m1, Rs.bind, optR, List.getElem?_cons_zero, List.getElem?_cons_succ, lift2]
  exact ⟨_, rfl⟩
theorem roll_ok (da : Addr) (m : Int) (s : DiceS) (h0 : 0 < m) (h1 : m < 2 ^ 64) : ∃ (k : Int) (s' : DiceS), m_law_roll da [.ref da, .d (.int m)] s = .ok (.d (.int k)) s' ∧ 0 ≤ k ∧ k < m := by
  have m1 : ∀ x : Int, pyMod (.int x) (.int m) = some (.int (x % m)) := fun x => mod_some h0
  have d1 : ∀ x : Int, pyFdiv (.int x) (.int m) = some (.int (x / m)) := fun x => fdiv_some h0 h1
  have d8 : ∀ x : Int, pyFdiv (.int x) (.int 8) = some (.int (x / 8)) := fun x => fdiv_some (by decide) (by decide)
  have pw : pyPow (.int 10) (.int 18) = some (.int (10 ^ 18)) := by rfl
  have ge : ∀ x y : Int, pyGe (.int x) (.int y) = some (.bool (decide (x ≥ y))) := fun _ _ => rfl
  have ad : ∀ x y : Int, pyAdd (.int x) (.int y) = some (.int (x + y)) := fun _ _ => rfl
  obtain ⟨r, hr⟩ := drawn_ok s.1 (s.2 + 1)
  by_cases h : (1000000000000000000 : Int) ≤ s.1
  · refine ⟨s.1 % m, (s.1 / m, s.2), ?_, Int.emod_nonneg _ (by omega), Int.emod_lt_of_pos _ h0⟩
    simp [m_law_roll, mDef, b_law_roll, slots, sSeq, sIf, sT, eTest, eOp, eDie, eC, eVar, Rs.bind, lift2, optR, wB, pw, ge, h, sAsg, sE, sDie, dieAt, dieSet, m1, d1, sRet]
  · refine ⟨r / 8 % m, (s.1, s.2 + 1), ?_, Int.emod_nonneg _ (by omega), Int.emod_lt_of_pos _ h0⟩
    simp [m_law_roll, mDef, b_law_roll, slots, sSeq, sIf, sT, eTest, eOp, eDie, eC, eVar, Rs.bind, lift2, optR, wB, pw, ge, h, sAsg, sE, sDie, dieAt, dieSet, m1, d1, d8, ad, sRet, sNext, eP, lenIs, aCons, aNil, hr]
/-! ### what hangs on the number of items alone -/
def rsL (r : Rs Unit W) : List PyData := match r with
  | .ok (.d (.list ds)) _ => ds
  | _ => []
def okL (r : Rs Unit W) : Bool := match r with
  | .ok (.d (.list _)) _ => true
  | _ => false
theorem okL_eq {r : Rs Unit W} (h : okL r = true) : r = .ok (.d (.list (rsL r))) () := by
  unfold okL at h
  split at h
  · rfl
  · cases h
def pairsD (n : Int) : List PyData := rsL (m_law_pairs [.d (.int n)] ())
def cutsD (n : Int) : List PyData := rsL (m_law_cuts [.d (.int n)] ())
def marksD (n : Int) (c : PyData) : List PyData := rsL (m_law_marks [.d (.int n), .d c] ())
def isBit : PyData → Bool
  | .int i => i == 0 || i == 1
  | _ => false
theorem small {p : Int → Prop} (h2 : p 2) (h3 : p 3) (h4 : p 4) (h5 : p 5) (h6 : p 6) (n : Int) (a : 2 ≤ n) (b : n ≤ 6) : p n := by
  have : n = 2 ∨ n = 3 ∨ n = 4 ∨ n = 5 ∨ n = 6 := by omega
  rcases this with rfl | rfl | rfl | rfl | rfl
  · exact h2
  · exact h3
  · exact h4
  · exact h5
  · exact h6
theorem pairs_ev (n : Int) (a : 2 ≤ n) (b : n ≤ 6) : m_law_pairs [.d (.int n)] () = .ok (.d (.list (pairsD n))) () :=
  okL_eq (small (p := fun n => okL (m_law_pairs [.d (.int n)] ()) = true) (by decide +kernel) (by decide +kernel) (by decide +kernel) (by decide +kernel) (by decide +kernel) n a b)
theorem cuts_ev (n : Int) (a : 2 ≤ n) (b : n ≤ 6) : m_law_cuts [.d (.int n)] () = .ok (.d (.list (cutsD n))) () :=
  okL_eq (small (p := fun n => okL (m_law_cuts [.d (.int n)] ()) = true) (by decide +kernel) (by decide +kernel) (by decide +kernel) (by decide +kernel) (by decide +kernel) n a b)
theorem pairs_len (n : Int) (a : 2 ≤ n) (b : n ≤ 6) : ((pairsD n).length : Int) = n * (n - 1) / 2 :=
  small (p := fun n => ((pairsD n).length : Int) = n * (n - 1) / 2) (by decide +kernel) (by decide +kernel) (by decide +kernel) (by decide +kernel) (by decide +kernel) n a b
theorem marks_ok (n : Int) (a : 2 ≤ n) (b : n ≤ 6) : (cutsD n).all (fun c => okL (m_law_marks [.d (.int n), .d c] ()) && ((marksD n c).length == (pairsD n).length && (marksD n c).all isBit)) = true :=
  small (p := fun n => (cutsD n).all (fun c => okL (m_law_marks [.d (.int n), .d c] ()) && ((marksD n c).length == (pairsD n).length && (marksD n c).all isBit)) = true) (by decide +kernel) (by decide +kernel) (by decide +kernel) (by decide +kernel) (by decide +kernel) n a b
theorem cuts_len (n : Int) (a : 2 ≤ n) (b : n ≤ 6) : 0 < (cutsD n).length ∧ (cutsD n).length ≤ 31 :=
  small (p := fun n => 0 < (cutsD n).length ∧ (cutsD n).length ≤ 31) (by decide +kernel) (by decide +kernel) (by decide +kernel) (by decide +kernel) (by decide +kernel) n a b
/-! ### any_sum -/
theorem bits_ints : ∀ {ds : List PyData}, ds.all isBit = true → ∃ ms : List Int, ds = ms.map PyData.int ∧ ∀ m ∈ ms, 0 ≤ m ∧ m ≤ 1
  | [], _ => ⟨[], rfl, fun _ h => nomatch h⟩
  | d :: r, h => by
    rw [List.all_cons, Bool.and_eq_true] at h
    obtain ⟨ms, rfl, hm⟩ := bits_ints h.2
    cases d with
    | int i =>
      refine ⟨i :: ms, rfl, fun m hmm => ?_⟩
      rcases List.mem_cons.mp hmm with z | z
      · have h1 := h.1
        simp [isBit] at h1
        omega
      · exact hm m z
    | _ => cases h.1
theorem marks_ev (n : Int) (a : 2 ≤ n) (b : n ≤ 6) {c : PyData} (hc : c ∈ cutsD n) : ∃ ms : List Int, m_law_marks [.d (.int n), .d c] () = .ok (.d (.list (ms.map .int))) () ∧ ms.length = (pairsD n).length ∧ ∀ m ∈ ms, 0 ≤ m ∧ m ≤ 1 := by
  have h := List.all_eq_true.mp (marks_ok n a b) c hc
  rw [Bool.and_eq_true, Bool.and_eq_true] at h
  obtain ⟨ms, e, hm⟩ := bits_ints h.2.2
  refine ⟨ms, ?_, ?_, hm⟩
  · rw [okL_eq h.1]
    show Rs.ok (W.d (.list (marksD n c))) () = _
    rw [e]
  · have := beq_iff_eq.mp h.2.1
    rw [e, List.length_map] at this
    exact this
theorem add_ii (x y : Int) : pyAdd (.int x) (.int y) = some (.int (x + y)) := rfl
theorem mul_bit {w m : Int} (h0 : 0 ≤ m) (h1 : m ≤ 1) : pyMul (.int w) (.int m) = some (.int (w * m)) := mul_some (.inr (.inr ⟨by omega, by omega⟩))
theorem ix_int {ms : List Int} {i : Nat} {m : Int} (h : ms[i]? = some m) : pyIx (.list (ms.map .int)) (.int ((i : Nat) : Int)) = some (.int m) := by
  have hi := (List.getElem?_eq_some_iff.mp h).1
  obtain ⟨c, e1, _, e3⟩ := ix_some (ds := ms.map PyData.int) (k := ((i : Nat) : Int)) (by omega) (by rw [List.length_map]; omega)
  rw [e1]
  rw [Int.toNat_natCast, List.getElem?_map, h] at e3
  exact e3.symm ▸ rfl
theorem any_sum_turn (da : Addr) (n t k : Int) (s : DiceS) (a : 2 ≤ n) (b : n ≤ 6) (xs : List Int) (hx : xs.length = (pairsD n).length) (d5 : PyData) (v6 v7 v8 v9 : Sl) (hb : ∀ x ∈ xs, 0 ≤ x ∧ x ≤ 5 * k) {P : Fl DiceS → Prop}
    (hP : ∀ (ys : List Int) (u6 u7 : Sl) (s' : DiceS), ys.length = (pairsD n).length → (∀ x ∈ ys, 0 ≤ x ∧ x ≤ 5 * (k + 1)) → P (.nx [.w (.ref da), .w (.d (.int n)), .w (.d (.int t)), .own (ys.map .int), .w (.d (.list (cutsD n))), .w (.d d5), u6, u7, v8, v9] s')) :
    P ((sSeq (sAsgT [6, 7] (eTup (aCons (eP (lenIs 2 m_law_marks) (aCons (eVar 1) (aCons (eOp pyIx (eVar 4) (eF (lenIs 2 (m_law_roll da)) (aCons (eVar 0) (aCons (eB pyLen (aCons (eVar 4) aNil)) aNil)))) aNil))) (aCons (eOp pyAdd (eC (.int 1)) (eF (lenIs 2 (m_law_roll da)) (aCons (eVar 0) (aCons (eC (.int 5)) aNil)))) aNil))))
      (sFrz 3 (sAsgO 3 (eComp (iEnumM (aCons (eVar 3) aNil)) [8, 9] (bTup [8, 9]) yes (eOp pyAdd (eVar 9) (eOp pyMul (eVar 7) (eOp pyIx (eVar 6) (eVar 8))))))))
      [.w (.ref da), .w (.d (.int n)), .w (.d (.int t)), .own (xs.map .int), .w (.d (.list (cutsD n))), .w (.d d5), v6, v7, v8, v9] s) := by
  have hl := cuts_len n a b
  obtain ⟨k1, s1, r1, r1a, r1b⟩ := roll_ok da ((cutsD n).length : Int) s (by omega) (by omega)
  obtain ⟨c, hc1, hc2, _⟩ := ix_some r1a r1b
  obtain ⟨ms, hm1, hm2, hm3⟩ := marks_ev n a b hc2
  obtain ⟨k2, s2, r2, r2a, r2b⟩ := roll_ok da 5 s1 (by decide) (by decide)
  refine nx_seq (σ' := [.w (.ref da), .w (.d (.int n)), .w (.d (.int t)), .own (xs.map .int), .w (.d (.list (cutsD n))), .w (.d d5), .w (.d (.list (ms.map .int))), .w (.d (.int (1 + k2))), v8, v9]) (s' := s2) ?_ (frz_nx ?_)
  · simp [sAsgT, sE, eTup, aCons, aNil, eP, eF, lenIs, eOp, eVar, eB, wDs, pyLen, lenD, Rs.bind, optR, lift2, r1, hc1, hm1, eC, r2, add_ii, mkT, bTup, bNames]
  · have hen : cGo (S := DiceS) (bTup [8, 9]) yes (eOp pyAdd (eVar 9) (eOp pyMul (eVar 7) (eOp pyIx (eVar 6) (eVar 8)))) [.w (.ref da), .w (.d (.int n)), .w (.d (.int t)), .w (.d (.list (xs.map .int))), .w (.d (.list (cutsD n))), .w (.d d5), .w (.d (.list (ms.map .int))), .w (.d (.int (1 + k2))), .non, .non] (enD 0 (xs.map .int)) s2 = .ok ((List.zipWith (fun x m => x + (1 + k2) * m) xs ms).map .int) s2 := by
      refine cGo_enum (by rw [List.length_map, List.length_map, List.length_zipWith]; omega) fun i x y hx' hy => ?_
      rw [List.getElem?_map] at hx' hy
      cases ex : xs[i]? with
      | none => rw [ex] at hx'; cases hx'
      | some xi =>
        rw [ex] at hx'
        cases hx'
        rw [List.getElem?_zipWith, ex] at hy
        cases em : ms[i]? with
        | none => rw [em] at hy; cases hy
        | some mi =>
          rw [em] at hy
          cases hy
          have hmi := hm3 mi (List.mem_of_getElem? em)
          refine ⟨_, rfl, fun s => rfl, fun s => ?_⟩
          have e1 := ix_int em
          have e2 := mul_bit (w := 1 + k2) hmi.1 hmi.2
          simp [eOp, eVar, Rs.bind, lift2, optR, e1, e2, add_ii]
    have hlen : (xs.map PyData.int).length < 1000000 := by
      have : (pairsD n).length ≤ 15 := small (p := fun n => (pairsD n).length ≤ 15) (by decide +kernel) (by decide +kernel) (by decide +kernel) (by decide +kernel) (by decide +kernel) n a b
      rw [List.length_map]
      omega
    have hend : (enD 0 (xs.map PyData.int)).length < 1000000 := by rw [enD_len]; exact hlen
    simp only [sAsgO, frz, List.getElem?_cons_succ, List.getElem?_cons_zero, frzS, List.set_cons_succ, List.set_cons_zero, eComp, iEnumM, aCons, aNil, eVar, Rs.bind, iEnAD, if_pos hend, wipeD]
    rw [hen]
    refine hP _ _ _ _ (by rw [List.length_zipWith]; omega) fun y hy => ?_
    obtain ⟨i, hi⟩ := List.mem_iff_getElem?.mp hy
    rw [List.getElem?_zipWith] at hi
    cases ex : xs[i]? with
    | none => rw [ex] at hi; cases hi
    | some xi =>
      rw [ex] at hi
      cases em : ms[i]? with
      | none => rw [em] at hi; cases hi
      | some mi =>
        rw [em] at hi
        have hmi := hm3 mi (List.mem_of_getElem? em)
        have hxi := hb xi (List.mem_of_getElem? ex)
        have e : xi + (1 + k2) * mi = y := Option.some.inj hi
        have : mi = 0 ∨ mi = 1 := by omega
        rcases this with z | z
        · rw [z, Int.mul_zero] at e; omega
        · rw [z, Int.mul_one] at e; omega
theorem pairs_few (n : Int) (a : 2 ≤ n) (b : n ≤ 6) : 1 ≤ (pairsD n).length ∧ (pairsD n).length ≤ 15 := small (p := fun n => 1 ≤ (pairsD n).length ∧ (pairsD n).length ≤ 15) (by decide +kernel) (by decide +kernel) (by decide +kernel) (by decide +kernel) (by decide +kernel) n a b
theorem flat_zero : ∀ k : Nat, (List.replicate k [PyData.int 0]).flatten = (List.replicate k (0 : Int)).map PyData.int
  | 0 => rfl
  | k + 1 => by rw [List.replicate_succ, List.flatten_cons, flat_zero k]; rfl
theorem any_sum_ok (da : Addr) (n t : Int) (s : DiceS) (a : 2 ≤ n) (b : n ≤ 6) (t0 : 0 ≤ t) (t1 : t ≤ 1000) :
    ∃ (xs : List Int) (s' : DiceS), m_law_any_sum da [.ref da, .d (.int n), .d (.int t)] s = .ok (.d (.list (xs.map .int))) s' ∧ xs.length = (pairsD n).length ∧ ∀ x ∈ xs, 0 ≤ x ∧ x ≤ 5 * t := by
  have hp := pairs_ev n a b
  have hc := cuts_ev n a b
  have hf := pairs_few n a b
  have key : ∀ Q : Fl DiceS → Prop, (∀ (xs : List Int) (s' : DiceS), xs.length = (pairsD n).length → (∀ x ∈ xs, 0 ≤ x ∧ x ≤ 5 * t) → Q (.rl (xs.map .int) s')) → Q (b_law_any_sum da [.w (.ref da), .w (.d (.int n)), .w (.d (.int t)), .non, .non, .non, .non, .non, .non, .non] s) := by
    intro Q hQ
    unfold b_law_any_sum
    refine nx_seq (σ' := [.w (.ref da), .w (.d (.int n)), .w (.d (.int t)), .own ((List.replicate (pairsD n).length (0 : Int)).map .int), .w (.d (.list (cutsD n))), .non, .non, .non, .non, .non]) (s' := s) ?_ ?_
    · have hz : (0 : Int) ≤ ((pairsD n).length : Int) ∧ ((pairsD n).length : Int) ≤ 1000 ∧ ([PyData.int 0] : List PyData).length ≤ 1000 := ⟨by omega, by omega, by decide⟩
      have hm : pyMulL (.list [.int 0]) (.int ((pairsD n).length : Int)) = some (.list ((List.replicate (pairsD n).length (0 : Int)).map .int)) := by
        show (if _ then _ else _) = _
        rw [if_pos hz, Int.toNat_natCast, flat_zero]
      simp [sParO, eOp, eLst, aCons, aNil, eC, Rs.bind, wDs, mkL, optR, eB, eP, lenIs, eVar, hp, hc, pyLen, lenD, lift2, hm]
    · have hit : (iRange1 (S := DiceS) (aCons (eVar 2) aNil)) [.w (.ref da), .w (.d (.int n)), .w (.d (.int t)), .own ((List.replicate (pairsD n).length (0 : Int)).map .int), .w (.d (.list (cutsD n))), .non, .non, .non, .non, .non] s = .ok (rgD 0 t.toNat) s := by
        have ht : -1000000 ≤ t ∧ t ≤ 1000000 := ⟨by omega, by omega⟩
        simp [iRange1, aCons, aNil, eVar, Rs.bind, iRg1D, ht]
      refine ex_seq (I := fun σ' _ => ∃ (xs : List Int) (v5 v6 v7 v8 v9 : Sl), σ' = [.w (.ref da), .w (.d (.int n)), .w (.d (.int t)), .own (xs.map .int), .w (.d (.list (cutsD n))), v5, v6, v7, v8, v9] ∧ xs.length = (pairsD n).length ∧ ∀ x ∈ xs, 0 ≤ x ∧ x ≤ 5 * t) (ex_for hit ?_) ?_
      · have h0 := fGo_at (S := DiceS) (fun k σ' _ => ∃ (xs : List Int) (v5 v6 v7 v8 v9 : Sl), σ' = [.w (.ref da), .w (.d (.int n)), .w (.d (.int t)), .own (xs.map .int), .w (.d (.list (cutsD n))), v5, v6, v7, v8, v9] ∧ xs.length = (pairsD n).length ∧ ∀ x ∈ xs, 0 ≤ x ∧ x ≤ 5 * (k : Int)) (b := bName 5)
          (f := (sSeq (sAsgT [6, 7] (eTup (aCons (eP (lenIs 2 m_law_marks) (aCons (eVar 1) (aCons (eOp pyIx (eVar 4) (eF (lenIs 2 (m_law_roll da)) (aCons (eVar 0) (aCons (eB pyLen (aCons (eVar 4) aNil)) aNil)))) aNil))) (aCons (eOp pyAdd (eC (.int 1)) (eF (lenIs 2 (m_law_roll da)) (aCons (eVar 0) (aCons (eC (.int 5)) aNil)))) aNil))))
            (sFrz 3 (sAsgO 3 (eComp (iEnumM (aCons (eVar 3) aNil)) [8, 9] (bTup [8, 9]) yes (eOp pyAdd (eVar 9) (eOp pyMul (eVar 7) (eOp pyIx (eVar 6) (eVar 8)))))))))
          (items := rgD 0 t.toNat) (k := 0) (σ := [.w (.ref da), .w (.d (.int n)), .w (.d (.int t)), .own ((List.replicate (pairsD n).length (0 : Int)).map .int), .w (.d (.list (cutsD n))), .non, .non, .non, .non, .non]) (s := s)
          (fun i d hd σ1 s1 ⟨xs, v5, v6, v7, v8, v9, e, hl, hb⟩ => by
            subst e
            exact ⟨_, rfl, ex_nx fun Q hQ => any_sum_turn da n t ((0 + i : Nat) : Int) s1 a b xs hl d v6 v7 v8 v9 hb (P := Q) fun ys u6 u7 s' h1 h2 => hQ _ _ ⟨ys, _, u6, u7, v8, v9, rfl, h1, h2⟩⟩)
          ⟨List.replicate (pairsD n).length 0, .non, .non, .non, .non, .non, rfl, List.length_replicate, fun x hx => by rw [List.eq_of_mem_replicate hx]; omega⟩
        rw [rgD_len] at h0
        obtain ⟨σ', s', e, xs, v5, v6, v7, v8, v9, e2, hl, hb⟩ := h0
        exact ⟨σ', s', e, xs, v5, v6, v7, v8, v9, e2, hl, fun x hx => by have := hb x hx; omega⟩
      · rintro σ' s' ⟨xs, v5, v6, v7, v8, v9, rfl, hl, hb⟩
        exact hQ xs s' hl hb
  obtain ⟨xs, s', e, hl, hb⟩ := key (fun r => ∃ (xs : List Int) (s' : DiceS), r = .rl (xs.map .int) s' ∧ xs.length = (pairsD n).length ∧ ∀ x ∈ xs, 0 ≤ x ∧ x ≤ 5 * t) fun xs s' hl hb => ⟨xs, s', rfl, hl, hb⟩
  refine ⟨xs, s', ?_, hl, hb⟩
  unfold m_law_any_sum mDefL
  rw [show slots 10 [W.ref da, .d (.int n), .d (.int t)] = [.w (.ref da), .w (.d (.int n)), .w (.d (.int t)), .non, .non, .non, .non, .non, .non, .non] from rfl, e]
/-! ### any_table -/
theorem eq_ii (x y : Int) : pyEq (.int x) (.int y) = some (.bool (x == y)) := by
  have h1 : SeqAt.shaped (.int x) = true := by unfold SeqAt.shaped; simp only [PyData.canLay0, PyData.depth]; rfl
  have h2 : SeqAt.shaped (.int y) = true := by unfold SeqAt.shaped; simp only [PyData.canLay0, PyData.depth]; rfl
  unfold pyEq
  rw [h1, h2, Bool.and_self, if_pos rfl]
  simp only [PyData.eqv]
theorem comp_ints {S : Type} {e : List Sl → S → Rs S W} {σ0 : List Sl} {i : Nat} {xs : List Int} {s : S} {lo hi : Int} (h : ∀ x ∈ xs, ∀ s, ∃ y s', e (σ0.set i (.w (.d (.int x)))) s = .ok (.d (.int y)) s' ∧ lo ≤ y ∧ y ≤ hi) :
    ∃ (ys : List Int) (s' : S), cGo (bName i) yes e σ0 (xs.map .int) s = .ok (ys.map .int) s' ∧ ys.length = xs.length ∧ ∀ y ∈ ys, lo ≤ y ∧ y ≤ hi := by
  induction xs generalizing s with
  | nil => exact ⟨[], s, rfl, rfl, fun _ h => nomatch h⟩
  | cons x r ih =>
    obtain ⟨y, s1, e1, e2, e3⟩ := h x List.mem_cons_self s
    obtain ⟨ys, s2, f1, f2, f3⟩ := ih (s := s1) fun x hx => h x (List.mem_cons_of_mem _ hx)
    refine ⟨y :: ys, s2, ?_, by rw [List.length_cons, List.length_cons, f2], fun z hz => ?_⟩
    · rw [List.map_cons, cGo]
      show (match (some (σ0.set i (.w (.d (.int x)))) : Option (List Sl)) with
        | none => Rs.stuck
        | some σ1 => match yes σ1 s with
          | .ok true s1 => match e σ1 s1 with
            | .ok (.d x) s2 => match cGo (bName i) yes e σ0 (r.map .int) s2 with
              | .ok xs s3 => .ok (x :: xs) s3
              | .exc _ _ => .stuck
              | .stuck => .stuck
            | _ => .stuck
          | .ok false s1 => cGo (bName i) yes e σ0 (r.map .int) s1
          | _ => .stuck) = _
      dsimp only [yes]
      rw [e1]
      dsimp only
      rw [f1]
      rfl
    · rcases List.mem_cons.mp hz with z' | z'
      · rw [z']; exact ⟨e2, e3⟩
      · exact f3 z z'
theorem at_comp {c0 c1 c2 c3 v5 v6 : Sl} {ys : List Int} {e : List Sl → DiceS → Rs DiceS W} {s : DiceS} {lo hi : Int} (hl : ys.length ≤ 15) (h : ∀ x ∈ ys, ∀ s, ∃ y s', e [c0, c1, c2, c3, .w (.d (.list (ys.map .int))), .w (.d (.int x)), v6] s = .ok (.d (.int y)) s' ∧ lo ≤ y ∧ y ≤ hi) {Q : Fl DiceS → Prop}
    (hQ : ∀ (zs : List Int) (s' : DiceS), zs.length = ys.length → (∀ z ∈ zs, lo ≤ z ∧ z ≤ hi) → Q (.nx [c0, c1, c2, c3, .own (zs.map .int), v5, v6] s')) :
    Q (sFrz 4 (sAsgO 4 (eComp (iOf (eVar 4)) [5] (bName 5) yes e)) [c0, c1, c2, c3, .own (ys.map .int), v5, v6] s) := by
  obtain ⟨zs, s', e1, e2, e3⟩ := comp_ints (e := e) (σ0 := [c0, c1, c2, c3, .w (.d (.list (ys.map .int))), .non, v6]) (i := 5) (xs := ys) (s := s) h
  have hlen : (ys.map PyData.int).length < 1000000 := by rw [List.length_map]; omega
  refine frz_nx ?_
  simp only [sAsgO, frz, List.getElem?_cons_succ, List.getElem?_cons_zero, frzS, List.set_cons_succ, List.set_cons_zero, eComp, iOf, iSeqD, eVar, Rs.bind, if_pos hlen, wipeD]
  rw [e1]
  exact hQ zs s' e2 e3
theorem any_table_ok (da : Addr) (most : Int) (s : DiceS) (a : 2 ≤ most) (b : most ≤ 6) :
    ∃ (n : Int) (xs : List Int) (s' : DiceS), m_law_any_table da [.ref da, .d (.int most)] s = .ok (.d (.tuple [.int n, .tuple (xs.map .int)])) s' ∧ 2 ≤ n ∧ n ≤ most ∧ xs.length = (pairsD n).length ∧ ∀ x ∈ xs, 0 ≤ x ∧ x ≤ 99 := by
  have key : ∀ Q : Fl DiceS → Prop, (∀ (n : Int) (xs : List Int) (s' : DiceS), 2 ≤ n → n ≤ most → xs.length = (pairsD n).length → (∀ x ∈ xs, 0 ≤ x ∧ x ≤ 99) → Q (.rt (.d (.tuple [.int n, .tuple (xs.map .int)])) s')) → Q (b_law_any_table da [.w (.ref da), .w (.d (.int most)), .non, .non, .non, .non, .non] s) := by
    intro Q hQ
    unfold b_law_any_table
    obtain ⟨k1, s1, r1, r1a, r1b⟩ := roll_ok da (most - 1) s (by omega) (by omega)
    obtain ⟨act, s2, r2, r2a, r2b⟩ := roll_ok da 5 s1 (by decide) (by decide)
    refine nx_seq (σ' := [.w (.ref da), .w (.d (.int most)), .w (.d (.int (2 + k1))), .w (.d (.int act)), .non, .non, .non]) (s' := s2) ?_ ?_
    · simp [sPar, aCons, aNil, eOp, eC, eF, lenIs, eVar, Rs.bind, pySub, pyI0, lift2, optR, r1, r2, add_ii]
    have hn1 : 2 ≤ 2 + k1 := by omega
    have hn2 : 2 + k1 ≤ 6 := by omega
    have hn3 : 2 + k1 ≤ most := by omega
    generalize 2 + k1 = n at hn1 hn2 hn3
    have hfew := pairs_few n hn1 hn2
    obtain ⟨t, s3, r3, r3a, r3b⟩ := roll_ok da 8 s2 (by decide) (by decide)
    obtain ⟨xs, s4, r4, hl, hx⟩ := any_sum_ok da n t s3 hn1 hn2 r3a (by omega)
    refine nx_seq (σ' := [.w (.ref da), .w (.d (.int most)), .w (.d (.int n)), .w (.d (.int act)), .own (xs.map .int), .non, .non]) (s' := s4) ?_ ?_
    · simp [sAsgO, eF, lenIs, aCons, aNil, eVar, eC, Rs.bind, r3, r4]
    have hx : ∀ x ∈ xs, 0 ≤ x ∧ x ≤ 40 := fun x h => by have := hx x h; omega
    -- the steps that change the list
    have fin : ∀ (ys : List Int) (v5 v6 : Sl) (s : DiceS), ys.length = (pairsD n).length → (∀ x ∈ ys, 0 ≤ x ∧ x ≤ 60) → Q (sFrz 4 (sRet (eTup (aCons (eVar 2) (aCons (eB pyTupleOf (aCons (eComp (iOf (eVar 4)) [5] (bName 5) yes (eB pyMin2 (aCons (eC (.int 99)) (aCons (eVar 5) aNil)))) aNil)) aNil)))) [.w (.ref da), .w (.d (.int most)), .w (.d (.int n)), .w (.d (.int act)), .own (ys.map .int), v5, v6] s) := by
      intro ys v5 v6 s hl hb
      obtain ⟨zs, s', e1, e2, e3⟩ := comp_ints (e := eB (S := DiceS) pyMin2 (aCons (eC (.int 99)) (aCons (eVar 5) aNil))) (σ0 := [.w (.ref da), .w (.d (.int most)), .w (.d (.int n)), .w (.d (.int act)), .w (.d (.list (ys.map .int))), .non, v6]) (i := 5) (xs := ys) (s := s) (lo := 0) (hi := 99) fun x hx s => by
        refine ⟨if x < 99 then x else 99, s, ?_, ?_⟩
        · simp [eB, aCons, aNil, eC, eVar, Rs.bind, wDs, pyMin2, optR]
        · have := hb x hx
          split <;> omega
      have hlen : (ys.map PyData.int).length < 1000000 := by rw [List.length_map]; omega
      refine frz_nx ?_
      have hq := hQ n zs s' hn1 hn3 (by rw [e2]; exact hl) e3
      simp only [sRet, sE, eTup, aCons, aNil, eB, frz, List.getElem?_cons_succ, List.getElem?_cons_zero, frzS, List.set_cons_succ, List.set_cons_zero, eComp, iOf, iSeqD, eVar, Rs.bind, if_pos hlen, wipeD]
      rw [e1]
      simp [lstR, wDs, pyTupleOf, optR, mkT]
      exact hq
    refine ex_seq (I := fun σ _ => ∃ (ys : List Int) (v5 v6 : Sl), σ = [.w (.ref da), .w (.d (.int most)), .w (.d (.int n)), .w (.d (.int act)), .own (ys.map .int), v5, v6] ∧ ys.length = (pairsD n).length ∧ ∀ x ∈ ys, 0 ≤ x ∧ x ≤ 40) (ex_nx fun R hR => if_nx (b := act == 0) (s1 := s4) (by simp [eTest, eOp, eVar, eC, Rs.bind, lift2, optR, eq_ii, wB]) ?_) ?_
    · cases act == 0 with
      | false => exact hR _ _ ⟨xs, _, _, rfl, hl, hx⟩
      | true =>
        refine at_comp (lo := 5) (hi := 9) (by omega) (fun x hx' s => ?_) fun zs s' z1 z2 => hR _ _ ⟨zs, _, _, rfl, by rw [z1]; exact hl, fun x h => by have := z2 x h; omega⟩
        obtain ⟨k, s5, r5, r5a, r5b⟩ := roll_ok da 5 s (by decide) (by decide)
        refine ⟨5 + k, s5, ?_, by omega, by omega⟩
        simp [eOp, eC, eF, lenIs, aCons, aNil, eVar, Rs.bind, lift2, optR, r5, add_ii]
    rintro σ5 s5 ⟨ys, v5, v6, rfl, hl5, hb5⟩
    refine ex_seq (I := fun σ _ => ∃ (ys : List Int) (v5 v6 : Sl), σ = [.w (.ref da), .w (.d (.int most)), .w (.d (.int n)), .w (.d (.int act)), .own (ys.map .int), v5, v6] ∧ ys.length = (pairsD n).length ∧ ∀ x ∈ ys, 0 ≤ x ∧ x ≤ 50) (ex_nx fun R hR => if_nx (b := act == 1) (s1 := s5) (by simp [eTest, eOp, eVar, eC, Rs.bind, lift2, optR, eq_ii, wB]) ?_) ?_
    · cases act == 1 with
      | false => exact hR _ _ ⟨ys, _, _, rfl, hl5, fun x h => by have := hb5 x h; omega⟩
      | true =>
        show R (sSeq _ _ _ _)
        obtain ⟨k, s6, r6, r6a, r6b⟩ := roll_ok da (ys.length : Int) s5 (by omega) (by omega)
        refine nx_seq (σ' := [.w (.ref da), .w (.d (.int most)), .w (.d (.int n)), .w (.d (.int act)), .own (ys.map .int), v5, .w (.d (.int k))]) (s' := s6) ?_ ?_
        · simp [sAsg, sE, eF, lenIs, aCons, aNil, eVar, eLenO, Rs.bind, r6]
        · obtain ⟨q, s7, r7, r7a, r7b⟩ := roll_ok da 5 s6 (by decide) (by decide)
          have hk : k.toNat < ys.length := by omega
          have hyk := hb5 _ (List.getElem_mem hk)
          have hix : atI (ys.map PyData.int) k = some (.int ys[k.toNat]) := by
            obtain ⟨c, e1, _, e3⟩ := ix_some (ds := ys.map PyData.int) (k := k) r6a (by rw [List.length_map]; exact r6b)
            rw [List.getElem?_map, List.getElem?_eq_getElem hk] at e3
            have e1' : atI (ys.map PyData.int) k = some c := e1
            rw [e1', ← e3]
            rfl
          have hin : ixN (ys.map PyData.int).length k = some k.toNat := by
            unfold ixN
            rw [if_pos r6a, if_pos (by rw [List.length_map]; omega)]
          have he : (sSetO 4 (eVar 6) (eB pyMax2 (aCons (eC (.int 0)) (aCons (eOp pySub (eOp pyAdd (eIxO 4 (eVar 6)) (eF (lenIs 2 (m_law_roll da)) (aCons (eVar 0) (aCons (eC (.int 5)) aNil)))) (eC (.int 2))) aNil)))) [.w (.ref da), .w (.d (.int most)), .w (.d (.int n)), .w (.d (.int act)), .own (ys.map .int), v5, .w (.d (.int k))] s6 = .nx [.w (.ref da), .w (.d (.int most)), .w (.d (.int n)), .w (.d (.int act)), .own ((ys.set k.toNat (if ys[k.toNat] + q - 2 > 0 then ys[k.toNat] + q - 2 else 0)).map .int), v5, .w (.d (.int k))] s7 := by
            rw [List.map_set]
            simp [sSetO, eB, aCons, aNil, eC, eOp, eIxO, eVar, Rs.bind, hix, eF, lenIs, r7, add_ii, pySub, pyI0, lift2, optR, wDs, pyMax2]
            rw [List.length_map] at hin
            rw [hin]
          rw [he]
          refine hR _ _ ⟨_, _, _, rfl, by rw [List.length_set]; exact hl5, fun x h => ?_⟩
          rcases List.mem_or_eq_of_mem_set h with h | h
          · have := hb5 x h; omega
          · rw [h]
            split <;> omega
    rintro σ6 s6 ⟨ys6, w5, w6, rfl, hl6, hb6⟩
    refine ex_seq (I := fun σ _ => ∃ (ys : List Int) (v5 v6 : Sl), σ = [.w (.ref da), .w (.d (.int most)), .w (.d (.int n)), .w (.d (.int act)), .own (ys.map .int), v5, v6] ∧ ys.length = (pairsD n).length ∧ ∀ x ∈ ys, 0 ≤ x ∧ x ≤ 60) (ex_nx fun R hR => if_nx (b := act == 2) (s1 := s6) (by simp [eTest, eOp, eVar, eC, Rs.bind, lift2, optR, eq_ii, wB]) ?_) ?_
    · cases act == 2 with
      | false => exact hR _ _ ⟨ys6, _, _, rfl, hl6, fun x h => by have := hb6 x h; omega⟩
      | true =>
        refine at_comp (lo := 0) (hi := 60) (by omega) (fun x hx' s => ?_) fun zs s' z1 z2 => hR _ _ ⟨zs, _, _, rfl, by rw [z1]; exact hl6, z2⟩
        have := hb6 x hx'
        refine ⟨(x + 1) / 2, s, ?_, by omega, by omega⟩
        have hd : pyFdiv (.int (x + 1)) (.int 2) = some (.int ((x + 1) / 2)) := fdiv_some (by decide) (by decide)
        simp [eOp, eC, eVar, Rs.bind, lift2, optR, add_ii, hd]
    rintro σ7 s7 ⟨ys7, x5, x6, rfl, hl7, hb7⟩
    exact fin ys7 x5 x6 s7 hl7 hb7
  obtain ⟨n, xs, s', e, h1, h2, hl, hb⟩ := key (fun r => ∃ (n : Int) (xs : List Int) (s' : DiceS), r = .rt (.d (.tuple [.int n, .tuple (xs.map .int)])) s' ∧ 2 ≤ n ∧ n ≤ most ∧ xs.length = (pairsD n).length ∧ ∀ x ∈ xs, 0 ≤ x ∧ x ≤ 99) fun n xs s' h1 h2 hl hb => ⟨n, xs, s', rfl, h1, h2, hl, hb⟩
  refine ⟨n, xs, s', ?_, h1, h2, hl, hb⟩
  unfold m_law_any_table mDef
  rw [show slots 7 [W.ref da, .d (.int most)] = [.w (.ref da), .w (.d (.int most)), .non, .non, .non, .non, .non] from rfl, e]

-- needs: P_Dice
/-! ### is_whole, is_shaped, is_table .. at any data -/
def wholeB (lo hi : Int) : PyData → Bool
  | .int x => decide (lo ≤ x) && decide (x ≤ hi)
  | _ => false
theorem whole_ok (d : PyData) (lo hi : Int) : m_is_whole [.d d, .d (.int lo), .d (.int hi)] () = .ok (.d (.bool (wholeB lo hi d))) () := by
  cases d with
  | int x =>
    by_cases h : lo ≤ x
    · simp! [m_is_whole, b_is_whole, wholeB, h]
    · simp! [m_is_whole, b_is_whole, wholeB, h]
  | _ => simp! [m_is_whole, b_is_whole, wholeB]
def distB : PyData → Bool := wholeB 0 99
theorem dist_ok (d : PyData) : m_is_distance [.d d] () = .ok (.d (.bool (distB d))) () := by
  simp! [m_is_distance, b_is_distance, whole_ok, distB]
/-- a pair of a number of items and a tuple that is long enough -/
def shapedB : PyData → Bool
  | .tuple [n, .tuple ds] => match n with
    | .int n => decide (2 ≤ n) && decide (n ≤ 6) && ((ds.length : Int) == n * (n - 1) / 2)
    | _ => false
  | _ => false
theorem shaped_ok (d : PyData) : m_is_shaped [.d d] () = .ok (.d (.bool (shapedB d))) () := by
  cases d with
  | tuple ds =>
    by_cases h2 : (ds.length : Int) = 2
    · match ds, h2 with
      | [a, b], _ =>
        cases a with
        | int n =>
          cases hw : wholeB 2 6 (.int n) with
          | false =>
            have e : shapedB (.tuple [.int n, b]) = false := by
              unfold shapedB
              split
              · rename_i h
                cases h
                have : (decide (2 ≤ n) && decide (n ≤ 6)) = false := hw
                simp only [this, Bool.false_and]
              · rfl
            simp! [m_is_shaped, b_is_shaped, whole_ok, hw, e]
          | true =>
            have hn : 2 ≤ n ∧ n ≤ 6 := by simpa [wholeB] using hw
            cases b with
            | tuple bs => simp! [m_is_shaped, b_is_shaped, whole_ok, hw, shapedB, hn.1, hn.2]
            | _ => simp! [m_is_shaped, b_is_shaped, whole_ok, hw, shapedB]
        | _ =>
          cases b with
          | _ => simp! [m_is_shaped, b_is_shaped, whole_ok, wholeB, shapedB]
    · have e : shapedB (.tuple ds) = false := by
        unfold shapedB
        split
        · rename_i h; cases h; exact absurd rfl h2
        · rfl
      simp! [m_is_shaped, b_is_shaped, e, be_f h2]
  | _ => simp! [m_is_shaped, b_is_shaped, shapedB]
def secondD : PyData → List PyData
  | .tuple [_, .tuple ds] => ds
  | _ => []
def tableB (d : PyData) : Bool := shapedB d && (secondD d).all distB
theorem shaped_inv {d : PyData} (h : shapedB d = true) : ∃ (n : Int) (ds : List PyData), d = .tuple [.int n, .tuple ds] ∧ 2 ≤ n ∧ n ≤ 6 ∧ (ds.length : Int) = n * (n - 1) / 2 := by
  unfold shapedB at h
  split at h
  · rename_i n ds
    split at h
    · rename_i n
      simp only [Bool.and_eq_true, decide_eq_true_eq, beq_iff_eq] at h
      exact ⟨n, ds, rfl, h.1.1, h.1.2, h.2⟩
    · cases h
  · cases h
theorem pairs_few' {n : Int} (a : 2 ≤ n) (b : n ≤ 6) : 0 ≤ n * (n - 1) / 2 ∧ n * (n - 1) / 2 ≤ 15 :=
  small (p := fun n => 0 ≤ n * (n - 1) / 2 ∧ n * (n - 1) / 2 ≤ 15) (by decide) (by decide) (by decide) (by decide) (by decide) n a b
theorem table_ok (d : PyData) : m_is_table [.d d] () = .ok (.d (.bool (tableB d))) () := by
  cases h : shapedB d with
  | false => simp! [m_is_table, b_is_table, shaped_ok, h, tableB]
  | true =>
    obtain ⟨n, ds, rfl, h1, h2, h3⟩ := shaped_inv h
    have hf := pairs_few' h1 h2
    have hc : cGo (S := Unit) (bName 1) yes (eP (lenIs 1 m_is_distance) (aCons (eVar 1) aNil)) [.w (.d (.tuple [.int n, .tuple ds])), .non] ds () = .ok (ds.map fun d => .bool (distB d)) () :=
      cGo_map fun d hd => ⟨_, rfl, fun _ => rfl, fun s => by simp! [dist_ok]⟩
    have hl : ds.length < 1000000 := by omega
    have e : pyAll [.list (ds.map fun d => .bool (distB d))] = some (.bool (ds.all distB)) := by
      rw [o_all dBools_map, List.all_map]
      rfl
    simp! [m_is_table, b_is_table, shaped_ok, h, tableB, secondD, hc, e]
theorem need_table_ok {d : PyData} (h : tableB d = true) : m_need_table [.d d] () = .ok (.d .none) () := by
  simp! [m_need_table, b_need_table, table_ok, h]
theorem need_table_bad {d : PyData} (h : tableB d = false) : m_need_table [.d d] () = .exc 0 () := by
  simp! [m_need_table, b_need_table, table_ok, h]
theorem need_many_ok {n : Int} (h1 : 2 ≤ n) (h2 : n ≤ 6) : m_need_many [.d (.int n)] () = .ok (.d .none) () := by
  simp! [m_need_many, b_need_many, whole_ok, wholeB, h1, h2]
theorem need_many_bad {d : PyData} (h : wholeB 2 6 d = false) : m_need_many [.d d] () = .exc 1 () := by
  simp! [m_need_many, b_need_many, whole_ok, h]
/-- tables as they are drawn -/
theorem table_of {n : Int} {xs : List Int} (h1 : 2 ≤ n) (h2 : n ≤ 6) (hl : (xs.length : Int) = n * (n - 1) / 2) (hx : ∀ x ∈ xs, 0 ≤ x ∧ x ≤ 99) : tableB (.tuple [.int n, .tuple (xs.map .int)]) = true := by
  unfold tableB shapedB secondD
  simp only [List.length_map, hl, beq_self_eq_true, decide_eq_true h1, decide_eq_true h2, Bool.and_true, Bool.true_and]
  rw [List.all_map, List.all_eq_true]
  intro x hx'
  simp only [Function.comp, distB, wholeB, Bool.and_eq_true, decide_eq_true_eq]
  exact hx x hx'

-- needs: P_Tab
/-! ### fractions -/
/-- a fraction as data -/
def dR (q : Rat) : PyData := .tuple [.int q.num, .int (q.den : Int)]
theorem gcd_step (a b : Nat) : Nat.gcd b (a % b) = Nat.gcd a b := by
  rw [Nat.gcd_comm b, ← Nat.gcd_rec, Nat.gcd_comm]
theorem emod_nat (a b : Nat) : ((a : Nat) : Int) % (b : Int) = ((a % b : Nat) : Int) := by omega
theorem abs_nat (a : Int) : (if a < 0 then -a else a) = (a.natAbs : Int) := by split <;> omega
theorem div_go : ∀ (n a b : Nat), b < n → wGo (S := Unit) (eTruth (eVar 1)) (sPar 0 1 (aCons (eVar 1) (aCons (eOp pyMod (eVar 0) (eVar 1)) aNil))) n [.w (.d (.int a)), .w (.d (.int b))] () = .nx [.w (.d (.int (Nat.gcd a b))), .w (.d (.int 0))] ()
  | 0, a, b, h => absurd h (Nat.not_lt_zero _)
  | n + 1, a, b, h => by
    rw [wGo, sT_eK]
    cases b with
    | zero =>
      simp! [Nat.gcd_zero_right, Int.cast_ofNat_Int]
      rfl
    | succ b =>
      have h1 : (((b + 1 : Nat) : Int) != 0) = true := by simp; omega
      have h2 : (0 : Int) < ((b + 1 : Nat) : Int) := by omega
      simp! [h1, emod_nat]
      rw [div_go n (b + 1) (a % (b + 1)) (by have := Nat.mod_lt a (show b + 1 > 0 by omega); omega), gcd_step]
theorem divisor_ok (a b : Int) : m_divisor [.d (.int a), .d (.int b)] () = .ok (.d (.int (Nat.gcd a.natAbs b.natAbs))) () := by
  simp! [m_divisor, b_divisor, abs_nat]
  rw [sWhile]
  simp only [fuelAt, List.getElem?_cons_succ, List.getElem?_cons_zero, Int.natAbs_natCast]
  rw [div_go _ _ _ (Nat.lt_succ_self _)]
  simp! [abs_nat]
theorem ldiv_go : ∀ (n a b : Nat), b < n → wGo (S := Unit) (eTest (eOp pyNe (eVar 1) (eC (.int 0)))) (sPar 0 1 (aCons (eVar 1) (aCons (eOp pyMod (eVar 0) (eVar 1)) aNil))) n [.w (.d (.int a)), .w (.d (.int b))] () = .nx [.w (.d (.int (Nat.gcd a b))), .w (.d (.int 0))] ()
  | 0, a, b, h => absurd h (Nat.not_lt_zero _)
  | n + 1, a, b, h => by
    rw [wGo, sT_eK]
    cases b with
    | zero =>
      simp! [Nat.gcd_zero_right, Int.cast_ofNat_Int]
    | succ b =>
      have h1 : (((b + 1 : Nat) : Int) == 0) = false := be_f (by omega)
      have h2 : (0 : Int) < ((b + 1 : Nat) : Int) := by omega
      simp! [h1, emod_nat]
      rw [ldiv_go n (b + 1) (a % (b + 1)) (by have := Nat.mod_lt a (show b + 1 > 0 by omega); omega), gcd_step]
theorem ldivisor_ok (a b : Int) : m_law_divisor [.d (.int a), .d (.int b)] () = .ok (.d (.int (Nat.gcd a.natAbs b.natAbs))) () := by
  simp! [m_law_divisor, b_law_divisor, abs_nat]
  rw [sWhile]
  simp only [fuelAt, List.getElem?_cons_succ, List.getElem?_cons_zero, Int.natAbs_natCast]
  rw [ldiv_go _ _ _ (Nat.lt_succ_self _)]
  simp! [abs_nat]
theorem fdiv_big {i j : Int} (h1 : 0 < j) (h2 : j.natAbs.log2 < 9000) : pyFdiv (.int i) (.int j) = some (.int (i / j)) := by
  simp only [pyFdiv, pyI]
  rw [if_pos]
  rw [Bool.and_eq_true]
  exact ⟨decide_eq_true h1, decide_eq_true h2⟩
theorem log_lt {a k : Nat} (h : a < 2 ^ k) (hk : 0 < k) : a.log2 < k := by
  by_cases h0 : a = 0
  · subst h0; simpa using hk
  · exact (Nat.log2_lt h0).mpr h
theorem divInt_data (t u : Int) (hu : 0 < u) : dR (Rat.divInt t u) = .tuple [.int (t / (Nat.gcd t.natAbs u.natAbs : Nat)), .int (u / (Nat.gcd t.natAbs u.natAbs : Nat))] := by
  unfold dR
  rw [Rat.num_divInt, Rat.den_divInt, if_neg (by omega), Int.sign_eq_one_of_pos hu, Int.one_mul]
  have e : u.gcd t = Nat.gcd t.natAbs u.natAbs := by unfold Int.gcd; rw [Nat.gcd_comm]
  rw [e]
  have e2 : ((u.natAbs / Nat.gcd t.natAbs u.natAbs : Nat) : Int) = u / ((Nat.gcd t.natAbs u.natAbs : Nat) : Int) := by
    rw [Int.natCast_ediv, Int.natAbs_of_nonneg (by omega)]
  rw [e2]
theorem gcd_small {t u : Int} {k : Nat} (hu : 0 < u) (hs : u.natAbs < 2 ^ k) : 0 < ((Nat.gcd t.natAbs u.natAbs : Nat) : Int) ∧ ((Nat.gcd t.natAbs u.natAbs : Nat) : Int).natAbs < 2 ^ k := by
  have h1 : 0 < Nat.gcd t.natAbs u.natAbs := Nat.gcd_pos_of_pos_right _ (by omega)
  have h2 : Nat.gcd t.natAbs u.natAbs ≤ u.natAbs := Nat.gcd_le_right _ (by omega)
  rw [Int.natAbs_natCast]
  exact ⟨by omega, Nat.lt_of_le_of_lt h2 hs⟩
theorem lowest_ok {t u : Int} {k : Nat} (hu : 0 < u) (hs : u.natAbs < 2 ^ k) (hk : k ≤ 9000) : m_lowest [.d (.int t), .d (.int u)] () = .ok (.d (dR (Rat.divInt t u))) () := by
  obtain ⟨g1, g2⟩ := gcd_small (t := t) hu hs
  have hk0 : 0 < k := by
    cases k with
    | zero => simp at g2; omega
    | succ k => omega
  have g3 := Nat.lt_of_lt_of_le (log_lt g2 hk0) hk
  rw [divInt_data t u hu]
  simp! [m_lowest, b_lowest, divisor_ok, fdiv_big g1 g3]
theorem llowest_ok {t u : Int} {k : Nat} (hu : 0 < u) (hs : u.natAbs < 2 ^ k) (hk : k ≤ 9000) : m_law_lowest [.d (.int t), .d (.int u)] () = .ok (.d (dR (Rat.divInt t u))) () := by
  obtain ⟨g1, g2⟩ := gcd_small (t := t) hu hs
  have hk0 : 0 < k := by
    cases k with
    | zero => simp at g2; omega
    | succ k => omega
  have g3 := Nat.lt_of_lt_of_le (log_lt g2 hk0) hk
  rw [divInt_data t u hu]
  simp! [m_law_lowest, b_law_lowest, ldivisor_ok, fdiv_big g1 g3]
/-- both numbers of a fraction have at most so many bits -/
def Sz (k : Nat) (q : Rat) : Prop := q.num.natAbs < 2 ^ k ∧ q.den < 2 ^ k
theorem pow_mono {a b : Nat} (h : a ≤ b) : 2 ^ a ≤ 2 ^ b := Nat.pow_le_pow_right (by decide) h
theorem Sz.mono {a b : Nat} {q : Rat} (h : Sz a q) (hab : a ≤ b) : Sz b q := ⟨Nat.lt_of_lt_of_le h.1 (pow_mono hab), Nat.lt_of_lt_of_le h.2 (pow_mono hab)⟩
theorem mul_lt_pow {x y a b : Nat} (hx : x < 2 ^ a) (hy : y < 2 ^ b) : x * y < 2 ^ (a + b) := by
  rw [Nat.pow_add]
  exact Nat.mul_lt_mul'' hx hy
theorem natAbs_add_lt {x y : Int} {k : Nat} (hx : x.natAbs < 2 ^ k) (hy : y.natAbs < 2 ^ k) : (x + y).natAbs < 2 ^ (k + 1) := by
  rw [Nat.pow_succ]
  omega
/-- the quotient of two ints is at most as large as they are -/
theorem Sz.divInt {t u : Int} {k : Nat} (hu : 0 < u) (ht : t.natAbs < 2 ^ k) (hs : u.natAbs < 2 ^ k) : Sz k (Rat.divInt t u) := by
  have hd := divInt_data t u hu
  unfold dR at hd
  injection hd with hd
  injection hd with h1 h2
  injection h1 with h1
  injection h2 with h2
  injection h2 with h2
  have g1 : 0 < Nat.gcd t.natAbs u.natAbs := Nat.gcd_pos_of_pos_right _ (by omega)
  refine ⟨?_, ?_⟩
  · rw [h1]
    refine Nat.lt_of_le_of_lt ?_ ht
    exact Int.natAbs_ediv_le_natAbs _ _
  · have : (Rat.divInt t u).den = (u / ((Nat.gcd t.natAbs u.natAbs : Nat) : Int)).natAbs := by omega
    rw [this]
    exact Nat.lt_of_le_of_lt (Int.natAbs_ediv_le_natAbs _ _) hs
theorem add_divInt (p q : Rat) : p + q = Rat.divInt (p.num * q.den + q.num * p.den) ((p.den : Int) * q.den) := by
  rw [Rat.add_def', show ((p.den : Int) * q.den) = ((p.den * q.den : Nat) : Int) by rw [Int.natCast_mul], Rat.divInt_ofNat]
theorem den_pos (q : Rat) : (0 : Int) < q.den := by have := q.den_nz; omega
theorem mul_bits {i j : Int} {a b : Nat} (hi : i.natAbs < 2 ^ a) (hj : j.natAbs < 2 ^ b) (ha : 0 < a) (hb : 0 < b) (h : a + b ≤ 1000000) : pyMul (.int i) (.int j) = some (.int (i * j)) := by
  refine mul_some (.inl ?_)
  have h1 := log_lt hi ha
  have h2 := log_lt hj hb
  omega
theorem Sz.pos {a : Nat} {q : Rat} (h : Sz a q) : 0 < a := by
  have := h.2
  have := q.den_nz
  cases a with
  | zero => simp at *; omega
  | succ a => omega
theorem add_bits {p q : Rat} {a b : Nat} (hp : Sz a p) (hq : Sz b q) : (p.num * q.den + q.num * p.den).natAbs < 2 ^ (a + b + 1) ∧ ((p.den : Int) * q.den).natAbs < 2 ^ (a + b) := by
  refine ⟨natAbs_add_lt ?_ ?_, ?_⟩
  · rw [Int.natAbs_mul, Int.natAbs_natCast]; exact mul_lt_pow hp.1 hq.2
  · rw [Int.natAbs_mul, Int.natAbs_natCast, Nat.add_comm a b]; exact mul_lt_pow hq.1 hp.2
  · rw [Int.natAbs_mul, Int.natAbs_natCast, Int.natAbs_natCast]; exact mul_lt_pow hp.2 hq.2
theorem Sz.add {p q : Rat} {a b : Nat} (hp : Sz a p) (hq : Sz b q) : Sz (a + b + 1) (p + q) := by
  rw [add_divInt]
  obtain ⟨h1, h2⟩ := add_bits hp hq
  exact Sz.divInt (Int.mul_pos (den_pos p) (den_pos q)) h1 (Nat.lt_of_lt_of_le h2 (pow_mono (by omega)))
theorem plus_ok {p q : Rat} {a b : Nat} (hp : Sz a p) (hq : Sz b q) (h : a + b ≤ 9000) : m_plus_fraction [.d (dR p), .d (dR q)] () = .ok (.d (dR (p + q))) () := by
  obtain ⟨h1, h2⟩ := add_bits hp hq
  have e1 : pyMul (.int p.num) (.int q.den) = some (.int (p.num * q.den)) := mul_bits hp.1 (by rw [Int.natAbs_natCast]; exact hq.2) hp.pos hq.pos (by omega)
  have e2 : pyMul (.int q.num) (.int p.den) = some (.int (q.num * p.den)) := mul_bits hq.1 (by rw [Int.natAbs_natCast]; exact hp.2) hq.pos hp.pos (by omega)
  have e3 : pyMul (.int p.den) (.int q.den) = some (.int (p.den * q.den)) := mul_bits (by rw [Int.natAbs_natCast]; exact hp.2) (by rw [Int.natAbs_natCast]; exact hq.2) hp.pos hq.pos (by omega)
  have e4 := lowest_ok (t := p.num * q.den + q.num * p.den) (Int.mul_pos (den_pos p) (den_pos q)) h2 h
  rw [add_divInt]
  unfold dR at e4 ⊢
  simp! [m_plus_fraction, b_plus_fraction, e1, e2, e3, e4]
theorem lplus_ok {p q : Rat} {a b : Nat} (hp : Sz a p) (hq : Sz b q) (h : a + b ≤ 9000) : m_law_plus [.d (dR p), .d (dR q)] () = .ok (.d (dR (p + q))) () := by
  obtain ⟨h1, h2⟩ := add_bits hp hq
  have e1 : pyMul (.int p.num) (.int q.den) = some (.int (p.num * q.den)) := mul_bits hp.1 (by rw [Int.natAbs_natCast]; exact hq.2) hp.pos hq.pos (by omega)
  have e2 : pyMul (.int q.num) (.int p.den) = some (.int (q.num * p.den)) := mul_bits hq.1 (by rw [Int.natAbs_natCast]; exact hp.2) hq.pos hp.pos (by omega)
  have e3 : pyMul (.int p.den) (.int q.den) = some (.int (p.den * q.den)) := mul_bits (by rw [Int.natAbs_natCast]; exact hp.2) (by rw [Int.natAbs_natCast]; exact hq.2) hp.pos hq.pos (by omega)
  have e4 := llowest_ok (t := p.num * q.den + q.num * p.den) (Int.mul_pos (den_pos p) (den_pos q)) h2 h
  rw [add_divInt]
  unfold dR at e4 ⊢
  simp! [m_law_plus, b_law_plus, e1, e2, e3, e4]

-- needs: P_Frac
/-! ### cuts and weights -/
def dC (c : List Int) : PyData := .tuple (c.map .int)
def tupI : PyData → List Int
  | .tuple ds => ds.filterMap fun d => match d with
    | .int i => some i
    | _ => none
  | _ => []
def cutsI (n : Int) : List (List Int) := (cutsD n).map tupI
def marksI (n : Int) (c : List Int) : List Int := match m_marks_of [.d (.int n), .d (dC c)] () with
  | .ok (.d x) _ => tupI x
  | _ => []
theorem cutsD_I (n : Int) (a : 2 ≤ n) (b : n ≤ 6) : cutsD n = (cutsI n).map dC :=
  small (p := fun n => cutsD n = (cutsI n).map dC) (by kernel_rfl) (by kernel_rfl) (by kernel_rfl) (by kernel_rfl) (by kernel_rfl) n a b
theorem marks_I (n : Int) (a : 2 ≤ n) (b : n ≤ 6) : ∀ c ∈ cutsI n, m_marks_of [.d (.int n), .d (dC c)] () = .ok (.d (.tuple ((marksI n c).map .int))) () ∧ m_law_marks [.d (.int n), .d (dC c)] () = .ok (.d (.list ((marksI n c).map .int))) () ∧ (marksI n c).length = (pairsD n).length ∧ (∀ x ∈ marksI n c, x = 0 ∨ x = 1) := by
  have h : ((cutsI n).map fun c => m_marks_of [.d (.int n), .d (dC c)] ()) = ((cutsI n).map fun c => .ok (.d (.tuple ((marksI n c).map .int))) ()) :=
    small (p := fun n => ((cutsI n).map fun c => m_marks_of [.d (.int n), .d (dC c)] ()) = ((cutsI n).map fun c => .ok (.d (.tuple ((marksI n c).map .int))) ())) (by kernel_rfl) (by kernel_rfl) (by kernel_rfl) (by kernel_rfl) (by kernel_rfl) n a b
  have h2 : ((cutsI n).map fun c => m_law_marks [.d (.int n), .d (dC c)] ()) = ((cutsI n).map fun c => .ok (.d (.list ((marksI n c).map .int))) ()) :=
    small (p := fun n => ((cutsI n).map fun c => m_law_marks [.d (.int n), .d (dC c)] ()) = ((cutsI n).map fun c => .ok (.d (.list ((marksI n c).map .int))) ())) (by kernel_rfl) (by kernel_rfl) (by kernel_rfl) (by kernel_rfl) (by kernel_rfl) n a b
  have h3 : (cutsI n).all (fun c => (marksI n c).length == (pairsD n).length && (marksI n c).all fun x => x == 0 || x == 1) = true :=
    small (p := fun n => (cutsI n).all (fun c => (marksI n c).length == (pairsD n).length && (marksI n c).all fun x => x == 0 || x == 1) = true) (by decide +kernel) (by decide +kernel) (by decide +kernel) (by decide +kernel) (by decide +kernel) n a b
  intro c hc
  have h4 := List.all_eq_true.mp h3 c hc
  rw [Bool.and_eq_true] at h4
  refine ⟨List.map_inj_left.mp h c hc, List.map_inj_left.mp h2 c hc, beq_iff_eq.mp h4.1, fun x hx => ?_⟩
  have := List.all_eq_true.mp h4.2 x hx
  simpa using this
/-! is_cut -/
def ascB (c : List Int) : Bool := (List.range (c.length - 1)).all fun i => decide (c.getD i 0 < c.getD (i + 1) 0)
def isCutB (n : Int) (c : List Int) : Bool := !c.isEmpty && (c.all (fun x => wholeB 1 (n - 1) (.int x)) && ascB c)
theorem fo_ints (c : List Int) (k : Nat) : ∀ d ∈ c.map PyData.int, flatOk k d := fo_map fun x _ => fo_int x
theorem fo_dC (c : List Int) : flatOk 1 (dC c) := fo_tuple (k := 0) (fo_ints c 0)
theorem sh_dC (c : List Int) : SeqAt.shaped (dC c) = true := fo_sh (fo_dC c) (by decide)
theorem sh_nil : SeqAt.shaped (.tuple []) = true := by decide +kernel
theorem rg_map (n : Nat) : rgD 0 n = (List.range n).map fun i => .int (i : Nat) := by
  unfold rgD
  refine List.map_congr_left fun i _ => ?_
  rw [Int.zero_add]
theorem at_ints {xs : List Int} {k : Int} (h0 : 0 ≤ k) (h1 : k < xs.length) : atI (xs.map PyData.int) k = some (.int (xs.getD k.toNat 0)) := by
  refine at_nat h0 ?_
  have hk : k.toNat < xs.length := by omega
  rw [List.getElem?_map, List.getElem?_eq_getElem hk, List.getD_eq_getElem?_getD, List.getElem?_eq_getElem hk]
  rfl
theorem ix_ints {xs : List Int} {k : Int} (h0 : 0 ≤ k) (h1 : k < xs.length) : pyIx (.tuple (xs.map PyData.int)) (.int k) = some (.int (xs.getD k.toNat 0)) := at_ints h0 h1
theorem ix_intsL {xs : List Int} {k : Int} (h0 : 0 ≤ k) (h1 : k < xs.length) : pyIx (.list (xs.map PyData.int)) (.int k) = some (.int (xs.getD k.toNat 0)) := at_ints h0 h1
theorem cGo_mapF {S : Type} {α : Type} {b : PyData → List Sl → Option (List Sl)} {e : List Sl → S → Rs S W} {σ0 : List Sl} {p : α → PyData} {g : α → PyData} : ∀ {xs : List α} {s : S}, (∀ x ∈ xs, ∃ σ1, b (p x) σ0 = some σ1 ∧ ∀ s, e σ1 s = .ok (.d (g x)) s) → cGo b yes e σ0 (xs.map p) s = .ok (xs.map g) s
  | [], s, _ => rfl
  | d :: r, s, h => by
    obtain ⟨σ1, h1, h3⟩ := h d List.mem_cons_self
    rw [List.map_cons, cGo, h1]
    dsimp only [yes]
    rw [h3]
    dsimp only
    rw [cGo_mapF fun x hx => h x (List.mem_cons_of_mem _ hx)]
    rfl
theorem is_cut_ok (n : Int) (c : List Int) (hl : c.length ≤ 1000) : m_is_cut [.d (.int n), .d (dC c)] () = .ok (.d (.bool (isCutB n c))) () := by
  cases c with
  | nil => 
    have e : pyEq (dC []) (.tuple []) = some (.bool true) := o_eqr rfl (fo_dC []) (by decide)
    simp only [dC, List.map_nil] at e ⊢
    simp! [m_is_cut, b_is_cut, e]
    rfl
  | cons x r =>
    have e : pyEq (dC (x :: r)) (.tuple []) = some (.bool false) := o_eq (sh_dC _) sh_nil rfl
    have hc : cGo (S := Unit) (bName 2) yes (eP (lenIs 3 m_is_whole) (aCons (eVar 2) (aCons (eC (.int 1)) (aCons (eOp pySub (eVar 0) (eC (.int 1))) aNil)))) [.w (.d (.int n)), .w (.d (dC (x :: r))), .non, .non] ((x :: r).map .int) () = .ok ((x :: r).map fun x => .bool (wholeB 1 (n - 1) (.int x))) () :=
      cGo_mapF fun x hx => ⟨_, rfl, fun s => by simp! [whole_ok]⟩
    have e2 : pyAll [.list ((x :: r).map fun x => .bool (wholeB 1 (n - 1) (.int x)))] = some (.bool ((x :: r).all fun x => wholeB 1 (n - 1) (.int x))) := by
      rw [o_all dBools_map, List.all_map]; rfl
    have hlen : ((x :: r).map PyData.int).length < 1000000 := by rw [List.length_map]; omega
    cases hw : (x :: r).all (fun x => wholeB 1 (n - 1) (.int x)) with
    | false =>
      rw [hw] at e2
      have e3 : isCutB n (x :: r) = false := by unfold isCutB; rw [hw, Bool.false_and, Bool.and_false]
      rw [e3]
      unfold dC at e hc ⊢
      simp! [m_is_cut, b_is_cut, e, hc, e2]
    | true =>
      rw [hw] at e2
      have e3 : isCutB n (x :: r) = ascB (x :: r) := by unfold isCutB; rw [hw]; rfl
      rw [e3]
      have hd : cGo (S := Unit) (bName 3) yes (eOp pyLt (eOp pyIx (eVar 1) (eVar 3)) (eOp pyIx (eVar 1) (eOp pyAdd (eVar 3) (eC (.int 1))))) [.w (.d (.int n)), .w (.d (dC (x :: r))), .non, .non] (rgD 0 r.length) () = .ok ((List.range r.length).map fun i => .bool (decide ((x :: r).getD i 0 < (x :: r).getD (i + 1) 0))) () := by
        rw [rg_map]
        refine cGo_mapF fun i hi => ⟨_, rfl, fun s => ?_⟩
        have hi' := List.mem_range.mp hi
        have a1 := ix_ints (xs := x :: r) (k := (i : Nat)) (by omega) (by simp; omega)
        have a2 := ix_ints (xs := x :: r) (k := (i : Nat) + 1) (by omega) (by simp; omega)
        rw [show (((i : Nat) : Int) + 1).toNat = i + 1 by omega] at a2
        rw [Int.toNat_natCast] at a1
        unfold dC
        simp! [a1, a2]
      have e4 : pyAll [.list ((List.range r.length).map fun i => .bool (decide ((x :: r).getD i 0 < (x :: r).getD (i + 1) 0)))] = some (.bool (ascB (x :: r))) := by
        rw [o_all dBools_map, List.all_map]; rfl
      have hr : (((x :: r).map PyData.int).length : Int) - 1 = (r.length : Int) := by rw [List.length_map, List.length_cons]; omega
      have hr2 : -1000000 ≤ (r.length : Int) ∧ (r.length : Int) ≤ 1000000 := by simp at hl; omega
      have hr3 : (rgD 0 r.length).length < 1000000 := by rw [rg_map]; simp; simp at hl; omega
      unfold dC at e hc hd ⊢
      simp! [m_is_cut, b_is_cut, e, hc, e2, hr, hd, e4, Int.toNat_natCast]
/-! weights -/
def wtD (w : List Int × Int × Int) : PyData := .tuple [dC w.1, .tuple [.int w.2.1, .int w.2.2]]
def fracB (a b : Int) : Bool := decide (0 < b) && (((Nat.gcd a.natAbs b.natAbs : Nat) : Int) == 1)
theorem number_ok (i : Int) : m_is_number [.d (.int i)] () = .ok (.d (.bool true)) () := by simp! [m_is_number, b_is_number]
theorem fraction_ok (a b : Int) : m_is_fraction [.d (.tuple [.int a, .int b])] () = .ok (.d (.bool (fracB a b))) () := by
  have hc : cGo (S := Unit) (bName 1) yes (eP (lenIs 1 m_is_number) (aCons (eVar 1) aNil)) [.w (.d (.tuple [.int a, .int b])), .non] [.int a, .int b] () = .ok [.bool true, .bool true] () :=
    cGo_mapF (xs := [a, b]) (p := PyData.int) (g := fun _ => .bool true) fun x hx => ⟨_, rfl, fun s => by simp! [number_ok]⟩
  have e : pyAll [.list [.bool true, .bool true]] = some (.bool true) := rfl
  by_cases h : 0 < b
  · simp! [m_is_fraction, b_is_fraction, hc, e, divisor_ok, fracB, h]
  · simp! [m_is_fraction, b_is_fraction, hc, e, divisor_ok, fracB, h]
def big : Int := 10 ^ 50
def wtB (n : Int) (last : List Int) (w : List Int × Int × Int) : Bool := isCutB n w.1 && (fracB w.2.1 w.2.2 && (!lexLe w.1 last && (decide (0 < w.2.1) && (decide (w.2.1 < big) && !decide (big ≤ w.2.2)))))
def areW (n : Int) : List Int → List (List Int × Int × Int) → Bool
  | _, [] => true
  | last, w :: r => wtB n last w && areW n w.1 r
theorem le_dC (a b : List Int) : pyLe (dC a) (dC b) = some (.bool (lexLe a b)) := by
  show ((dInts (a.map .int)).bind fun ns => (dInts (b.map .int)).map fun ms => PyData.bool (lexLe ns ms)) = _
  rw [dInts_ints, dInts_ints]
  rfl
theorem pow_big : pyPow (.int 10) (.int 50) = some (.int big) := by rfl
theorem wts_go (n : Int) : ∀ (ws : List (List Int × Int × Int)) (all : PyData) (last : List Int) (v3 : Sl), (∀ w ∈ ws, w.1.length ≤ 1000) →
    seqK (fGo (S := Unit) (bName 3) (sSeq (sIf (tOrT (tNotT (eTest (eIsi .tuple (eVar 3)))) (tOrT (eTest (eOp pyNe (eB pyLen (aCons (eVar 3) aNil)) (eC (.int 2)))) (tNotT (eTest (eP (lenIs 2 m_is_cut) (aCons (eVar 0) (aCons (eOp pyIx (eVar 3) (eC (.int 0))) aNil))))))) (sRet (eC (.bool false))) sNext)
    (sSeq (sIf (tOrT (tNotT (eTest (eP (lenIs 1 m_is_fraction) (aCons (eOp pyIx (eVar 3) (eC (.int 1))) aNil)))) (eTest (eOp pyLe (eOp pyIx (eVar 3) (eC (.int 0))) (eVar 2)))) (sRet (eC (.bool false))) sNext)
    (sSeq (sIf (tOrT (tNotT (eTest (eChain pyLt pyLt (eC (.int 0)) (eOp pyIx (eOp pyIx (eVar 3) (eC (.int 1))) (eC (.int 0))) (eOp pyPow (eC (.int 10)) (eC (.int 50)))))) (eTest (eOp pyGe (eOp pyIx (eOp pyIx (eVar 3) (eC (.int 1))) (eC (.int 1))) (eOp pyPow (eC (.int 10)) (eC (.int 50)))))) (sRet (eC (.bool false))) sNext)
    (sAsg 2 (eOp pyIx (eVar 3) (eC (.int 0))))))) (ws.map wtD) [.w (.d (.int n)), .w (.d all), .w (.d (dC last)), v3] ()) (sRet (eC (.bool true))) = .rt (.d (.bool (areW n last ws))) ()
  | [], all, last, v3, _ => by simp! [List.map_nil, fGo_nil, areW]
  | w :: r, all, last, v3, h => by
    obtain ⟨c, a, b⟩ := w
    have hc := is_cut_ok n c (h _ List.mem_cons_self)
    have hf := fraction_ok a b
    have hl := le_dC c last
    have ih := fun v3 => wts_go n r all c v3 fun w hw => h w (List.mem_cons_of_mem _ hw)
    rw [List.map_cons, fGo_cons]
    unfold areW wtB
    cases h1 : isCutB n c with
    | false => rw [h1] at hc; simp! [wtD, hc]
    | true =>
      cases h2 : fracB a b with
      | false => rw [h1] at hc; rw [h2] at hf; simp! [wtD, hc, hf]
      | true =>
        cases h3 : lexLe c last with
        | true => rw [h1] at hc; rw [h2] at hf; rw [h3] at hl; simp! [wtD, hc, hf, hl]
        | false =>
          rw [h1] at hc; rw [h2] at hf; rw [h3] at hl
          by_cases h4 : 0 < a
          · by_cases h5 : a < big
            · by_cases h6 : big ≤ b
              · simp! [wtD, hc, hf, hl, h4, h5, h6, pow_big]
              · simp! [wtD, hc, hf, hl, h4, h5, h6, pow_big, ih]
            · simp! [wtD, hc, hf, hl, h4, h5, pow_big]
          · simp! [wtD, hc, hf, hl, h4]
theorem are_weights_ok (n : Int) (ws : List (List Int × Int × Int)) (h : ∀ w ∈ ws, w.1.length ≤ 1000) : m_are_weights [.d (.int n), .d (.tuple (ws.map wtD))] () = .ok (.d (.bool (areW n [] ws))) () := by
  have e := wts_go n ws (.tuple (ws.map wtD)) [] .non h
  rw [show dC [] = .tuple [] from rfl] at e
  simp! [m_are_weights, b_are_weights, e]
/-! sums of weights -/
def wR (p : List Int × Rat) : List Int × Int × Int := (p.1, p.2.num, p.2.den)
def dWs (ws : List (List Int × Rat)) : PyData := .tuple (ws.map fun p => .tuple [dC p.1, dR p.2])
theorem dWs_raw (ws : List (List Int × Rat)) : dWs ws = .tuple ((ws.map wR).map wtD) := by
  unfold dWs
  rw [List.map_map]
  rfl
def addMark (ms : List Int) (q : Rat) (xs : List Rat) : List Rat := List.zipWith (fun m x => if m = 1 then x + q else x) ms xs
def sumsR (n : Int) (ws : List (List Int × Rat)) (xs : List Rat) : List Rat := ws.foldl (fun xs p => addMark (marksI n p.1) p.2 xs) xs
theorem addMark_len {ms : List Int} {q : Rat} {xs : List Rat} (h : ms.length = xs.length) : (addMark ms q xs).length = xs.length := by
  unfold addMark
  rw [List.length_zipWith, h, Nat.min_self]
theorem addMark_get {ms : List Int} {q : Rat} {xs : List Rat} {i : Nat} {y : Rat} (h : (addMark ms q xs)[i]? = some y) : ∃ m x, ms[i]? = some m ∧ xs[i]? = some x ∧ y = if m = 1 then x + q else x := by
  unfold addMark at h
  rw [List.getElem?_zipWith] at h
  cases e1 : ms[i]? with
  | none => rw [e1] at h; cases h
  | some m =>
    cases e2 : xs[i]? with
    | none => rw [e1, e2] at h; cases h
    | some x => rw [e1, e2] at h; cases h; exact ⟨m, x, rfl, rfl, rfl⟩
theorem addMark_sz {ms : List Int} {q : Rat} {xs : List Rat} {k : Nat} (hq : Sz 167 q) (hx : ∀ x ∈ xs, Sz k x) : ∀ y ∈ addMark ms q xs, Sz (k + 168) y := by
  intro y hy
  obtain ⟨i, hi⟩ := List.mem_iff_getElem?.mp hy
  obtain ⟨m, x, _, e, rfl⟩ := addMark_get hi
  have hx' := hx x (List.mem_iff_getElem?.mpr ⟨i, e⟩)
  split
  · exact hx'.add hq
  · exact hx'.mono (by omega)
theorem getI {xs : List Int} {i : Nat} {m : Int} (h : xs[i]? = some m) : pyIx (.tuple (xs.map PyData.int)) (.int (i : Nat)) = some (.int m) ∧ pyIx (.list (xs.map PyData.int)) (.int (i : Nat)) = some (.int m) := by
  have e : atI (xs.map PyData.int) (i : Nat) = some (.int m) := at_nat (by omega) (by rw [Int.toNat_natCast, List.getElem?_map, h]; rfl)
  exact ⟨e, e⟩
theorem add_comp {n : Int} {all w : PyData} {c5 : List Int} {q : Rat} {xs : List Rat} {k : Nat} (hl : c5.length = xs.length) (hq : Sz 167 q) (hx : ∀ x ∈ xs, Sz k x) (hk : k + 167 ≤ 9000) :
    cGo (S := Unit) (bTup [6, 7]) yes (eIf (eTest (eOp pyEq (eOp pyIx (eVar 5) (eVar 6)) (eC (.int 1)))) (eP (lenIs 2 m_plus_fraction) (aCons (eVar 7) (aCons (eVar 4) aNil))) (eVar 7))
      [.w (.d (.int n)), .w (.d all), .w (.d (.list (xs.map dR))), .w (.d w), .w (.d (dR q)), .w (.d (.tuple (c5.map .int))), .non, .non] (enD 0 (xs.map dR)) () = .ok ((addMark c5 q xs).map dR) () := by
  refine cGo_enum (by rw [List.length_map, List.length_map, addMark_len hl]) fun i x y hx' hy => ?_
  rw [List.getElem?_map] at hx' hy
  cases e : (addMark c5 q xs)[i]? with
  | none => rw [e] at hy; cases hy
  | some v =>
    rw [e] at hy
    cases hy
    obtain ⟨m, z, e1, e2, rfl⟩ := addMark_get e
    rw [e2] at hx'
    cases hx'
    refine ⟨_, rfl, fun _ => rfl, fun s => ?_⟩
    have g := (getI e1).1
    rw [Nat.zero_add]
    by_cases hm : m = 1
    · have hp := plus_ok (hx z (List.mem_iff_getElem?.mpr ⟨i, e2⟩)) hq hk
      simp! [g, be_t hm, hp, hm]
    · simp! [g, be_f hm, hm]
theorem lsum_comp {n : Int} {all w v3 : PyData} {c5 : List Int} {q : Rat} {xs : List Rat} {k : Nat} (hl : c5.length = xs.length) (hq : Sz 167 q) (hx : ∀ x ∈ xs, Sz k x) (hk : k + 167 ≤ 9000) :
    cGo (S := Unit) (bTup [7, 8]) yes (eIf (eTest (eOp pyEq (eOp pyIx (eVar 6) (eVar 7)) (eC (.int 1)))) (eP (lenIs 2 m_law_plus) (aCons (eVar 8) (aCons (eVar 5) aNil))) (eVar 8))
      [.w (.d (.int n)), .w (.d all), .w (.d (.list (xs.map dR))), .w (.d v3), .w (.d w), .w (.d (dR q)), .w (.d (.list (c5.map .int))), .non, .non] (enD 0 (xs.map dR)) () = .ok ((addMark c5 q xs).map dR) () := by
  refine cGo_enum (by rw [List.length_map, List.length_map, addMark_len hl]) fun i x y hx' hy => ?_
  rw [List.getElem?_map] at hx' hy
  cases e : (addMark c5 q xs)[i]? with
  | none => rw [e] at hy; cases hy
  | some v =>
    rw [e] at hy
    cases hy
    obtain ⟨m, z, e1, e2, rfl⟩ := addMark_get e
    rw [e2] at hx'
    cases hx'
    refine ⟨_, rfl, fun _ => rfl, fun s => ?_⟩
    have g := (getI e1).2
    rw [Nat.zero_add]
    by_cases hm : m = 1
    · have hp := lplus_ok (hx z (List.mem_iff_getElem?.mpr ⟨i, e2⟩)) hq hk
      simp! [g, be_t hm, hp, hm]
    · simp! [g, be_f hm, hm]
theorem added_go (n : Int) (a : 2 ≤ n) (b : n ≤ 6) : ∀ (ws : List (List Int × Rat)) (all : PyData) (xs : List Rat) (k : Nat) (v3 v4 v5 v6 v7 : Sl), (∀ p ∈ ws, p.1 ∈ cutsI n ∧ Sz 167 p.2) → xs.length = (pairsD n).length → (∀ x ∈ xs, Sz k x) → k + 168 * ws.length ≤ 9000 →
    seqK (fGo (S := Unit) (bTup [3, 4]) (sSeq (sAsg 5 (eP (lenIs 2 m_marks_of) (aCons (eVar 0) (aCons (eVar 3) aNil))))
    (sAsg 2 (eComp (iEnumM (aCons (eVar 2) aNil)) [6, 7] (bTup [6, 7]) yes (eIf (eTest (eOp pyEq (eOp pyIx (eVar 5) (eVar 6)) (eC (.int 1)))) (eP (lenIs 2 m_plus_fraction) (aCons (eVar 7) (aCons (eVar 4) aNil))) (eVar 7))))) (ws.map fun p => .tuple [dC p.1, dR p.2]) [.w (.d (.int n)), .w (.d all), .w (.d (.list (xs.map dR))), v3, v4, v5, v6, v7] ())
    (sRet (eB pyTupleOf (aCons (eVar 2) aNil))) = .rt (.d (.tuple ((sumsR n ws xs).map dR))) ()
  | [], all, xs, k, v3, v4, v5, v6, v7, _, _, _, _ => by simp! [List.map_nil, fGo_nil, sumsR, List.foldl_nil]
  | (c, q) :: r, all, xs, k, v3, v4, v5, v6, v7, h, hl, hx, hk => by
    obtain ⟨hc, hq⟩ := h (c, q) List.mem_cons_self
    obtain ⟨m1, m2, m3, m4⟩ := marks_I n a b c hc
    have hlen : (marksI n c).length = xs.length := by rw [m3, hl]
    rw [List.length_cons] at hk
    have e := add_comp (n := n) (all := all) (w := dC c) hlen hq hx (by omega)
    have hp := pairs_few n a b
    have hl2 : (enD 0 (xs.map dR)).length < 1000000 := by rw [enD_len, List.length_map, hl]; omega
    have ih := fun v3 v4 v5 v6 v7 => added_go n a b r all (addMark (marksI n c) q xs) (k + 168) v3 v4 v5 v6 v7 (fun p hp => h p (List.mem_cons_of_mem _ hp)) (by rw [addMark_len hlen, hl]) (addMark_sz hq hx) (by omega)
    rw [List.map_cons, fGo_cons]
    simp! [m1, e, ih]
    rfl
theorem added_ok {n : Int} (a : 2 ≤ n) (b : n ≤ 6) {ws : List (List Int × Rat)} (h : ∀ p ∈ ws, p.1 ∈ cutsI n ∧ Sz 167 p.2) (hk : ws.length ≤ 40) : m_added [.d (.int n), .d (dWs ws)] () = .ok (.d (.tuple ((sumsR n ws (List.replicate (pairsD n).length 0)).map dR))) () := by
  have e := added_go n a b ws (dWs ws) (List.replicate (pairsD n).length 0) 1 .non .non .non .non .non h (by rw [List.length_replicate]) (fun x hx => by rw [List.eq_of_mem_replicate hx]; exact ⟨by decide, by decide⟩) (by omega)
  have hp := pairs_few' a b
  have hm : pyMul (.int n) (.int (n - 1)) = some (.int (n * (n - 1))) := o_mul (by omega)
  have hm2 : pyMul (.list [.tuple [.int 0, .int 1]]) (.int (n * (n - 1) / 2)) = some (.list ((List.replicate (pairsD n).length (0 : Rat)).map dR)) := by
    show (if _ then _ else _) = _
    rw [if_pos ⟨hp.1, by omega, by decide⟩, ← pairs_len n a b, Int.toNat_natCast, List.map_replicate]
    congr 2
    induction (pairsD n).length with
    | zero => rfl
    | succ k ih => rw [List.replicate_succ, List.replicate_succ, List.flatten_cons, ih]; rfl
  unfold dWs at e ⊢
  simp! [m_added, b_added, hm, hm2, e]

-- needs: P_Wts
/-! ### data without truth values: equal just if alike -/
mutual
def pureD : PyData → Bool
  | .none => true
  | .int _ => true
  | .str _ => true
  | .list xs => pureAll xs
  | .tuple xs => pureAll xs
  | .bool _ => false
  | .dict _ => false
def pureAll : List PyData → Bool
  | [] => true
  | d :: r => pureD d && pureAll r
end
mutual
theorem eqv_eq : ∀ d e : PyData, pureD d = true → pureD e = true → PyData.eqv d e = true → d = e
  | .none, e, _, h2, h => by cases e <;> simp_all [PyData.eqv, pureD]
  | .int i, e, _, h2, h => by cases e <;> simp_all [PyData.eqv, pureD]
  | .str i, e, _, h2, h => by cases e <;> simp_all [PyData.eqv, pureD]
  | .list xs, e, h1, h2, h => by
    cases e with
    | list ys =>
      simp only [PyData.eqv, pureD] at h h1 h2
      rw [eqvAll_eq xs ys h1 h2 h]
    | _ => simp_all [PyData.eqv, pureD]
  | .tuple xs, e, h1, h2, h => by
    cases e with
    | tuple ys =>
      simp only [PyData.eqv, pureD] at h h1 h2
      rw [eqvAll_eq xs ys h1 h2 h]
    | _ => simp_all [PyData.eqv, pureD]
  | .bool _, _, h1, _, _ => by simp [pureD] at h1
  | .dict _, _, h1, _, _ => by simp [pureD] at h1
theorem eqvAll_eq : ∀ xs ys : List PyData, pureAll xs = true → pureAll ys = true → PyData.eqvAll xs ys = true → xs = ys
  | [], ys, _, _, h => by cases ys <;> simp_all [PyData.eqvAll]
  | x :: xs, ys, h1, h2, h => by
    cases ys with
    | nil => simp [PyData.eqvAll] at h
    | cons y ys =>
      simp only [PyData.eqvAll, pureAll, Bool.and_eq_true] at h h1 h2
      rw [eqv_eq x y h1.1 h2.1 h.1, eqvAll_eq xs ys h1.2 h2.2 h.2]
end
theorem eqv_ne {d e : PyData} (h1 : pureD d = true) (h2 : pureD e = true) (h : d ≠ e) : PyData.eqv d e = false := by
  cases q : PyData.eqv d e with
  | false => rfl
  | true => exact absurd (eqv_eq d e h1 h2 q) h
theorem pureAll_of {ds : List PyData} (h : ∀ d ∈ ds, pureD d = true) : pureAll ds = true := by
  induction ds with
  | nil => simp only [pureAll]
  | cons d r ih => simp only [pureAll, Bool.and_eq_true]; exact ⟨h d List.mem_cons_self, ih fun x hx => h x (List.mem_cons_of_mem _ hx)⟩
theorem pure_dR (q : Rat) : pureD (dR q) = true := by simp only [dR, pureD, pureAll, Bool.and_true]
theorem pure_dC (c : List Int) : pureD (dC c) = true := by
  simp only [dC, pureD]
  exact pureAll_of fun d hd => by obtain ⟨x, _, rfl⟩ := List.mem_map.mp hd; simp only [pureD]
theorem pure_map {α : Type} {xs : List α} {p : α → PyData} (h : ∀ x ∈ xs, pureD (p x) = true) : pureAll (xs.map p) = true := pureAll_of fun d hd => by obtain ⟨x, hx, rfl⟩ := List.mem_map.mp hd; exact h x hx
theorem pure_dWs (ws : List (List Int × Rat)) : pureD (dWs ws) = true := by
  simp only [dWs, pureD]
  exact pure_map fun x _ => by simp only [pureD, pureAll, pure_dC, pure_dR, Bool.and_true]
theorem fo_dR (q : Rat) : flatOk 1 (dR q) := fo_tuple (k := 0) (fo_cons (fo_int _) (fo_cons (fo_int _) fo_nil))
theorem flatOk.mono {k l : Nat} {d : PyData} (h : flatOk k d) (hl : k ≤ l) : flatOk l d := ⟨h.1, Nat.le_trans h.2 hl⟩
theorem fo_dWs (ws : List (List Int × Rat)) : flatOk 3 (dWs ws) := fo_tuple (k := 2) (fo_map fun x _ => fo_tuple (k := 1) (fo_cons (fo_dC _) (fo_cons (fo_dR _) fo_nil)))
theorem fo_rs (xs : List Rat) : flatOk 2 (.tuple (xs.map dR)) := fo_tuple (k := 1) (fo_map fun x _ => fo_dR x)
theorem fo_rsL (xs : List Rat) : flatOk 2 (.list (xs.map dR)) := fo_list (k := 1) (fo_map fun x _ => fo_dR x)
theorem dR_inj {p q : Rat} (h : dR p = dR q) : p = q := by
  unfold dR at h
  injection h with h
  injection h with h1 h2
  injection h1 with h1
  injection h2 with h2
  injection h2 with h2
  exact Rat.ext h1 (by omega)
theorem map_inj {α β : Type} {f : α → β} (hf : ∀ a b, f a = f b → a = b) : ∀ {xs ys : List α}, xs.map f = ys.map f → xs = ys
  | [], [], _ => rfl
  | [], _ :: _, h => by cases h
  | _ :: _, [], h => by cases h
  | x :: xs, y :: ys, h => by
    rw [List.map_cons, List.map_cons] at h
    injection h with h1 h2
    rw [hf x y h1, map_inj hf h2]
theorem eq_rs {xs ys : List Rat} [Decidable (xs = ys)] : pyEq (.tuple (xs.map dR)) (.tuple (ys.map dR)) = some (.bool (decide (xs = ys))) := by
  by_cases h : xs = ys
  · rw [decide_eq_true h]
    exact o_eqr (by rw [h]) (fo_rs xs) (by decide)
  · rw [decide_eq_false h]
    refine o_eq (fo_sh (fo_rs xs) (by decide)) (fo_sh (fo_rs ys) (by decide)) (eqv_ne ?_ ?_ fun e => h ?_)
    · simp only [pureD]; exact pure_map fun x _ => pure_dR x
    · simp only [pureD]; exact pure_map fun x _ => pure_dR x
    · injection e with e; exact map_inj (fun a b => dR_inj) e
theorem eq_rsL {xs ys : List Rat} [Decidable (xs = ys)] : pyEq (.list (xs.map dR)) (.list (ys.map dR)) = some (.bool (decide (xs = ys))) := by
  by_cases h : xs = ys
  · rw [decide_eq_true h]
    exact o_eqr (by rw [h]) (fo_rsL xs) (by decide)
  · rw [decide_eq_false h]
    refine o_eq (fo_sh (fo_rsL xs) (by decide)) (fo_sh (fo_rsL ys) (by decide)) (eqv_ne ?_ ?_ fun e => h ?_)
    · simp only [pureD]; exact pure_map fun x _ => pure_dR x
    · simp only [pureD]; exact pure_map fun x _ => pure_dR x
    · injection e with e; exact map_inj (fun a b => dR_inj) e
theorem dR_int (x : Int) : dR (x : Rat) = .tuple [.int x, .int 1] := by
  unfold dR
  rw [Rat.num_intCast, Rat.den_intCast]
  rfl
/-! ### weights that are weights -/
structure WOk (n : Int) (ws : List (List Int × Rat)) : Prop where
  sub : (ws.map (·.1)).Sublist (cutsI n)
  pos : ∀ p ∈ ws, 0 < p.2.num ∧ p.2.num < big ∧ (p.2.den : Int) < big
theorem cuts_sorted (n : Int) (a : 2 ≤ n) (b : n ≤ 6) : (cutsI n).Pairwise (fun x y => lexLe y x = false) ∧ (∀ c ∈ cutsI n, lexLe c [] = false ∧ isCutB n c = true ∧ c.length ≤ 5) ∧ (cutsI n).length ≤ 31 := by
  refine ⟨?_, ?_, ?_⟩
  · exact small (p := fun n => (cutsI n).Pairwise (fun x y => lexLe y x = false)) (by decide +kernel) (by decide +kernel) (by decide +kernel) (by decide +kernel) (by decide +kernel) n a b
  · exact small (p := fun n => ∀ c ∈ cutsI n, lexLe c [] = false ∧ isCutB n c = true ∧ c.length ≤ 5) (by decide +kernel) (by decide +kernel) (by decide +kernel) (by decide +kernel) (by decide +kernel) n a b
  · exact small (p := fun n => (cutsI n).length ≤ 31) (by decide +kernel) (by decide +kernel) (by decide +kernel) (by decide +kernel) (by decide +kernel) n a b
theorem WOk.cut {n : Int} {ws : List (List Int × Rat)} (h : WOk n ws) {p : List Int × Rat} (hp : p ∈ ws) : p.1 ∈ cutsI n := h.sub.subset (List.mem_map.mpr ⟨p, hp, rfl⟩)
theorem WOk.len {n : Int} (a : 2 ≤ n) (b : n ≤ 6) {ws : List (List Int × Rat)} (h : WOk n ws) : ws.length ≤ 31 := by
  have := h.sub.length_le
  rw [List.length_map] at this
  exact Nat.le_trans this (cuts_sorted n a b).2.2
theorem WOk.sz {n : Int} {ws : List (List Int × Rat)} (h : WOk n ws) {p : List Int × Rat} (hp : p ∈ ws) : Sz 167 p.2 := by
  obtain ⟨h1, h2, h3⟩ := h.pos p hp
  have e : big < 2 ^ 167 := by decide +kernel
  have e2 : (2 : Int) ^ 167 = ((2 ^ 167 : Nat) : Int) := by decide +kernel
  constructor <;> omega
theorem frac_ok (q : Rat) : fracB q.num q.den = true := by
  unfold fracB
  rw [decide_eq_true (den_pos q), Int.natAbs_natCast, show Nat.gcd q.num.natAbs q.den = 1 from q.reduced]
  rfl
theorem areW_of {n : Int} (a : 2 ≤ n) (b : n ≤ 6) : ∀ {ws : List (List Int × Rat)} {last : List Int}, (ws.map (·.1)).Pairwise (fun x y => lexLe y x = false) → (∀ p ∈ ws, p.1 ∈ cutsI n) → (∀ p ∈ ws, 0 < p.2.num ∧ p.2.num < big ∧ (p.2.den : Int) < big) → (∀ p ∈ ws, lexLe p.1 last = false) → areW n last (ws.map wR) = true
  | [], last, _, _, _, _ => rfl
  | (c, q) :: r, last, h1, h2, h3, h4 => by
    obtain ⟨p1, p2, p3⟩ := h3 _ List.mem_cons_self
    dsimp only at p1 p2 p3
    rw [List.map_cons, List.pairwise_cons] at h1
    rw [List.map_cons]
    unfold areW wtB wR
    dsimp only
    rw [((cuts_sorted n a b).2.1 c (h2 _ List.mem_cons_self)).2.1, frac_ok, h4 _ List.mem_cons_self, decide_eq_true p1, decide_eq_true p2, decide_eq_false (show ¬ big ≤ (q.den : Int) by omega)]
    exact areW_of a b h1.2 (fun p hp => h2 p (List.mem_cons_of_mem _ hp)) (fun p hp => h3 p (List.mem_cons_of_mem _ hp)) (fun p hp => h1.1 _ (List.mem_map.mpr ⟨p, hp, rfl⟩))
theorem WOk.are {n : Int} (a : 2 ≤ n) (b : n ≤ 6) {ws : List (List Int × Rat)} (h : WOk n ws) : m_are_weights [.d (.int n), .d (dWs ws)] () = .ok (.d (.bool true)) () := by
  rw [dWs_raw, are_weights_ok, areW_of a b ((cuts_sorted n a b).1.sublist h.sub) (fun p hp => h.cut hp) h.pos (fun p hp => ((cuts_sorted n a b).2.1 _ (h.cut hp)).1)]
  intro w hw
  obtain ⟨p, hp, rfl⟩ := List.mem_map.mp hw
  have := ((cuts_sorted n a b).2.1 _ (h.cut hp)).2.2
  show p.1.length ≤ 1000
  omega
/-- what weights sum up to -/
def sumW (n : Int) (ws : List (List Int × Rat)) : List Rat := sumsR n ws (List.replicate (pairsD n).length 0)
theorem WOk.added {n : Int} (a : 2 ≤ n) (b : n ≤ 6) {ws : List (List Int × Rat)} (h : WOk n ws) : m_added [.d (.int n), .d (dWs ws)] () = .ok (.d (.tuple ((sumW n ws).map dR))) () :=
  added_ok a b (fun p hp => ⟨h.cut hp, h.sz hp⟩) (by have := h.len a b; omega)
theorem WOk.sum_of {n : Int} (a : 2 ≤ n) (b : n ≤ 6) {ws : List (List Int × Rat)} (h : WOk n ws) : m_sum_of [.d (.int n), .d (dWs ws)] () = .ok (.d (.tuple ((sumW n ws).map dR))) () := by
  have e : m_need_weights [.d (.int n), .d (dWs ws)] () = .ok (.d .none) () := by simp! [m_need_weights, b_need_weights, h.are a b]
  simp! [m_sum_of, b_sum_of, need_many_ok a b, e, h.added a b]
def asR (xs : List Int) : List Rat := xs.map fun (x : Int) => (x : Rat)
theorem ints_comp {xs : List Int} {t v1 : Sl} : cGo (S := Unit) (bName 2) yes (eTup (aCons (eVar 2) (aCons (eC (.int 1)) aNil))) [t, v1, .non] (xs.map .int) () = .ok ((asR xs).map dR) () := by
  unfold asR
  rw [List.map_map]
  refine cGo_mapF fun x _ => ⟨_, rfl, fun s => ?_⟩
  simp! [Function.comp, dR_int]
theorem WOk.decomposes {n : Int} (a : 2 ≤ n) (b : n ≤ 6) {ws : List (List Int × Rat)} (h : WOk n ws) {xs : List Int} (hl : xs.length ≤ 100) [Decidable (sumW n ws = asR xs)] :
    m_decomposes [.d (.tuple [.int n, .tuple (xs.map .int)]), .d (dWs ws)] () = .ok (.d (.bool (decide (sumW n ws = asR xs)))) () := by
  have e := ints_comp (xs := xs) (t := .w (.d (.tuple [.int n, .tuple (xs.map .int)]))) (v1 := .w (.d (dWs ws)))
  have hl' : (xs.map PyData.int).length < 1000000 := by rw [List.length_map]; omega
  simp! [m_decomposes, b_decomposes, h.are a b, h.added a b, e, eq_rs]
theorem WOk.is_dec {n : Int} (a : 2 ≤ n) (b : n ≤ 6) {ws : List (List Int × Rat)} (h : WOk n ws) {xs : List Int} (hT : tableB (.tuple [.int n, .tuple (xs.map .int)]) = true) (hl : xs.length ≤ 100) [Decidable (sumW n ws = asR xs)] :
    m_is_decomposition [.d (.tuple [.int n, .tuple (xs.map .int)]), .d (dWs ws)] () = .ok (.d (.bool (decide (sumW n ws = asR xs)))) () := by
  simp! [m_is_decomposition, b_is_decomposition, need_table_ok hT, h.decomposes a b hl]

-- needs:
namespace SX
/-- the sum of f 0 .. f (n-1) -/
def sm : Nat → (Nat → Rat) → Rat
  | 0, _ => 0
  | n + 1, f => sm n f + f n
theorem sm_congr {f g : Nat → Rat} : ∀ {n : Nat}, (∀ j, j < n → f j = g j) → sm n f = sm n g
  | 0, _ => rfl
  | n + 1, h => by rw [sm, sm, sm_congr (n := n) fun j hj => h j (by omega), h n (by omega)]
theorem sm_zero {f : Nat → Rat} : ∀ {n : Nat}, (∀ j, j < n → f j = 0) → sm n f = 0
  | 0, _ => rfl
  | n + 1, h => by rw [sm, sm_zero (n := n) fun j hj => h j (by omega), h n (by omega)]; grind
theorem sm_add {f g : Nat → Rat} : ∀ {n : Nat}, sm n (fun j => f j + g j) = sm n f + sm n g
  | 0 => by simp only [sm]; grind
  | n + 1 => by simp only [sm]; rw [sm_add]; grind
theorem sm_mul {c : Rat} {f : Nat → Rat} : ∀ {n : Nat}, sm n (fun j => c * f j) = c * sm n f
  | 0 => by simp [sm]
  | n + 1 => by simp only [sm]; rw [sm_mul]; grind
theorem sm_nonneg {f : Nat → Rat} : ∀ {n : Nat}, (∀ j, j < n → 0 ≤ f j) → 0 ≤ sm n f
  | 0, _ => by simp [sm]
  | n + 1, h => by
    have h1 := sm_nonneg (n := n) fun j hj => h j (by omega)
    have h2 := h n (by omega)
    simp only [sm]; grind
theorem sm_one {f : Nat → Rat} {a : Nat} : ∀ {n : Nat}, a < n → (∀ j, j < n → j ≠ a → f j = 0) → sm n f = f a
  | 0, h, _ => by omega
  | n + 1, h, h0 => by
    simp only [sm]
    by_cases e : a = n
    · subst e
      rw [sm_zero fun j hj => h0 j (by omega) (by omega)]; grind
    · rw [sm_one (n := n) (by omega) fun j hj hn => h0 j (by omega) hn, h0 n (by omega) (by omega)]; grind
theorem sm_two {f : Nat → Rat} {a b : Nat} : ∀ {n : Nat}, a < n → b < n → a ≠ b → (∀ j, j < n → j ≠ a → j ≠ b → f j = 0) → sm n f = f a + f b
  | 0, h, _, _, _ => by omega
  | n + 1, ha, hb, hab, h0 => by
    simp only [sm]
    by_cases e : a = n
    · subst e
      rw [sm_one (n := a) (a := b) (by omega) fun j hj hn => h0 j (by omega) (by omega) hn]; grind
    · by_cases e2 : b = n
      · subst e2
        rw [sm_one (n := b) (a := a) (by omega) fun j hj hn => h0 j (by omega) hn (by omega)]
      · rw [sm_two (n := n) (by omega) (by omega) hab fun j hj h1 h2 => h0 j (by omega) h1 h2, h0 n (by omega) (by omega) (by omega)]; grind
def dot (n : Nat) (r : Nat → Int) (X : Nat → Rat) : Rat := sm n fun j => (r j : Rat) * X j
theorem dot_lin {n : Nat} {r p q : Nat → Int} {X : Nat → Rat} {c s f : Int} (h : ∀ j, j < n → c * q j = r j * s - p j * f) : (c : Rat) * dot n q X = (s : Rat) * dot n r X - (f : Rat) * dot n p X := by
  unfold dot
  rw [← sm_mul, ← sm_mul, ← sm_mul]
  have h2 : sm n (fun j => (s : Rat) * ((r j : Rat) * X j)) = sm n (fun j => (c : Rat) * ((q j : Rat) * X j) + (f : Rat) * ((p j : Rat) * X j)) := by
    refine sm_congr fun j hj => ?_
    have h1 := h j hj
    have h3 : ((c * q j : Int) : Rat) = ((r j * s - p j * f : Int) : Rat) := by rw [h1]
    rw [Rat.intCast_mul, Rat.intCast_sub, Rat.intCast_mul, Rat.intCast_mul] at h3
    grind
  rw [h2, sm_add]
  grind
/-- a tableau: rows, basis, goal -/
structure T where
  R : Nat → Nat → Int
  B : Nat → Nat
  g : Nat → Int
/-- a pivot at row l, column s -/
structure Piv (m n : Nat) (t t' : T) (l s : Nat) : Prop where
  lm : l < m
  pos : 0 < t.R l s
  row : ∀ j, j < n → t'.R l j = t.R l j
  oth : ∀ k, k < m → k ≠ l → ∃ c : Int, 0 < c ∧ ∀ j, j < n → c * t'.R k j = t.R k j * t.R l s - t.R l j * t.R k s
  goal : ∃ c : Int, 0 < c ∧ ∀ j, j < n → c * t'.g j = t.g j * t.R l s - t.R l j * t.g s
  bas : t'.B l = s ∧ ∀ k, k ≠ l → t'.B k = t.B k
/-- m rows, N columns, then the goal's own, then the right side -/
structure Wf (m N : Nat) (t : T) : Prop where
  bl : ∀ k, k < m → t.B k < N
  bp : ∀ k, k < m → 0 < t.R k (t.B k)
  bz : ∀ k l, k < m → l < m → k ≠ l → t.R l (t.B k) = 0
  gz : ∀ k, k < m → t.g (t.B k) = 0
  rz : ∀ k, k < m → t.R k N = 0
  gp : 0 < t.g N
  rp : ∀ k, k < m → 0 ≤ t.R k (N + 1)
def Ker (m n : Nat) (t : T) (X : Nat → Rat) : Prop := (∀ k, k < m → dot n (t.R k) X = 0) ∧ dot n t.g X = 0
theorem ratmul0 {a b : Rat} (h : a * b = 0) (ha : a ≠ 0) : b = 0 := by
  rcases Rat.mul_eq_zero.mp h with h | h
  · exact absurd h ha
  · exact h
theorem castne {c : Int} (h : 0 < c) : (c : Rat) ≠ 0 := by
  intro e
  have : (c : Rat) = ((0 : Int) : Rat) := e
  have := Rat.intCast_inj.mp this
  omega
theorem ker_piv {m n : Nat} {t t' : T} {l s : Nat} (p : Piv m n t t' l s) {X : Nat → Rat} : Ker m n t X ↔ Ker m n t' X := by
  have el : dot n (t'.R l) X = dot n (t.R l) X := by
    unfold dot
    refine sm_congr fun j hj => ?_
    rw [p.row j hj]
  constructor
  · rintro ⟨h1, h2⟩
    refine ⟨fun k hk => ?_, ?_⟩
    · by_cases e : k = l
      · rw [e, el]; exact h1 l p.lm
      · obtain ⟨c, hc, h⟩ := p.oth k hk e
        have := dot_lin (X := X) h
        rw [h1 k hk, h1 l p.lm] at this
        exact ratmul0 (by grind) (castne hc)
    · obtain ⟨c, hc, h⟩ := p.goal
      have := dot_lin (X := X) h
      rw [h2, h1 l p.lm] at this
      exact ratmul0 (by grind) (castne hc)
  · rintro ⟨h1, h2⟩
    have h0 : dot n (t.R l) X = 0 := by rw [← el]; exact h1 l p.lm
    refine ⟨fun k hk => ?_, ?_⟩
    · by_cases e : k = l
      · rw [e]; exact h0
      · obtain ⟨c, hc, h⟩ := p.oth k hk e
        have := dot_lin (X := X) h
        rw [h1 k hk, h0] at this
        exact ratmul0 (a := (t.R l s : Rat)) (by grind) (castne p.pos)
    · obtain ⟨c, hc, h⟩ := p.goal
      have := dot_lin (X := X) h
      rw [h2, h0] at this
      exact ratmul0 (a := (t.R l s : Rat)) (by grind) (castne p.pos)

theorem ltle (a b : Rat) : a < b ∨ b ≤ a := by
  by_cases h : a < b
  · exact .inl h
  · exact .inr (Rat.not_lt.mp h)
theorem pos_right {a b : Int} (h : 0 < a * b) (ha : 0 < a) : 0 < b := by
  rcases Int.lt_or_le 0 b with z | z
  · exact z
  · have := Int.mul_nonpos_of_nonneg_of_nonpos (Int.le_of_lt ha) z
    omega
/-- a pivot keeps the form -/
theorem wf_piv {m N : Nat} {t t' : T} {l s : Nat} (w : Wf m N t) (p : Piv m (N + 2) t t' l s) (hs : s < N) (hn : ∀ k, k < m → t.B k ≠ s)
    (hr : ∀ k, k < m → 0 < t.R k s → t.R l (N + 1) * t.R k s ≤ t.R k (N + 1) * t.R l s) : Wf m N t' := by
  have pp := p.pos
  refine ⟨fun k hk => ?_, fun k hk => ?_, fun k i hk hi hki => ?_, fun k hk => ?_, fun k hk => ?_, ?_, fun k hk => ?_⟩
  · by_cases e : k = l
    · rw [e, p.bas.1]; exact hs
    · rw [p.bas.2 k e]; exact w.bl k hk
  · by_cases e : k = l
    · rw [e, p.bas.1, p.row s (by omega)]; exact pp
    · rw [p.bas.2 k e]
      obtain ⟨c, hc, h⟩ := p.oth k hk e
      have h1 := h (t.B k) (by have := w.bl k hk; omega)
      rw [w.bz k l hk p.lm e] at h1
      have h2 : 0 < c * t'.R k (t.B k) := by
        rw [h1]
        have := Int.mul_pos (w.bp k hk) pp
        omega
      exact pos_right h2 hc
  · by_cases e : k = l
    · subst e
      rw [p.bas.1]
      obtain ⟨c, hc, h⟩ := p.oth i hi (fun z => hki z.symm)
      have h1 := h s (by omega)
      have h2 : c * t'.R i s = 0 := by rw [h1, Int.mul_comm]; omega
      rcases Int.mul_eq_zero.mp h2 with z | z
      · omega
      · exact z
    · rw [p.bas.2 k e]
      by_cases e2 : i = l
      · subst e2
        rw [p.row _ (by have := w.bl k hk; omega)]
        exact w.bz k i hk hi hki
      · obtain ⟨c, hc, h⟩ := p.oth i hi e2
        have h1 := h (t.B k) (by have := w.bl k hk; omega)
        rw [w.bz k i hk hi hki, w.bz k l hk p.lm e] at h1
        have h2 : c * t'.R i (t.B k) = 0 := by rw [h1]; omega
        rcases Int.mul_eq_zero.mp h2 with z | z
        · omega
        · exact z
  · obtain ⟨c, hc, h⟩ := p.goal
    by_cases e : k = l
    · subst e
      rw [p.bas.1]
      have h1 := h s (by omega)
      have h2 : c * t'.g s = 0 := by rw [h1, Int.mul_comm]; omega
      rcases Int.mul_eq_zero.mp h2 with z | z
      · omega
      · exact z
    · rw [p.bas.2 k e]
      have h1 := h (t.B k) (by have := w.bl k hk; omega)
      rw [w.gz k hk, w.bz k l hk p.lm e] at h1
      have h2 : c * t'.g (t.B k) = 0 := by rw [h1]; omega
      rcases Int.mul_eq_zero.mp h2 with z | z
      · omega
      · exact z
  · by_cases e : k = l
    · rw [e, p.row N (by omega)]; exact w.rz l p.lm
    · obtain ⟨c, hc, h⟩ := p.oth k hk e
      have h1 := h N (by omega)
      rw [w.rz k hk, w.rz l p.lm] at h1
      have h2 : c * t'.R k N = 0 := by rw [h1]; omega
      rcases Int.mul_eq_zero.mp h2 with z | z
      · omega
      · exact z
  · obtain ⟨c, hc, h⟩ := p.goal
    have h1 := h N (by omega)
    rw [w.rz l p.lm] at h1
    have h2 : 0 < c * t'.g N := by
      rw [h1]
      have := Int.mul_pos w.gp pp
      omega
    exact pos_right h2 hc
  · by_cases e : k = l
    · rw [e, p.row _ (by omega)]; exact w.rp l p.lm
    · obtain ⟨c, hc, h⟩ := p.oth k hk e
      have h1 := h (N + 1) (by omega)
      have h2 : 0 ≤ c * t'.R k (N + 1) := by
        rw [h1]
        by_cases hk0 : 0 < t.R k s
        · have := hr k hk hk0
          omega
        · have a1 : 0 ≤ t.R k (N + 1) * t.R l s := Int.mul_nonneg (w.rp k hk) (by omega)
          have a2 : t.R l (N + 1) * t.R k s ≤ 0 := Int.mul_nonpos_of_nonneg_of_nonpos (w.rp l p.lm) (by omega)
          omega
      rcases Int.lt_or_le (t'.R k (N + 1)) 0 with z | z
      · have := Int.mul_neg_of_pos_of_neg hc z
        omega
      · exact z
theorem basis_inj {m N : Nat} {t : T} (w : Wf m N t) {k l : Nat} (hk : k < m) (hl : l < m) (h : t.B k = t.B l) : k = l := by
  by_cases e : k = l
  · exact e
  · have h1 := w.bz k l hk hl e
    have h2 := w.bp l hl
    rw [h] at h1
    omega
open Classical in
/-- the vector of the kernel with 1 at s and 0 at all other columns out of the basis -/
noncomputable def kv (m N : Nat) (t : T) (s : Nat) : Nat → Rat := fun j => if j = s then 1 else if j = N then -((t.g s : Rat) / (t.g N : Rat)) else if h : ∃ k, k < m ∧ t.B k = j then -((t.R h.choose s : Rat) / (t.R h.choose j : Rat)) else 0
section
variable {m N : Nat} {t : T} {s : Nat}
theorem kv_s : kv m N t s s = 1 := by unfold kv; rw [if_pos rfl]
theorem kv_N (h : s ≠ N) : kv m N t s N = -((t.g s : Rat) / (t.g N : Rat)) := by unfold kv; rw [if_neg (fun z => h z.symm), if_pos rfl]
theorem kv_B (w : Wf m N t) {k : Nat} (hk : k < m) (hs : t.B k ≠ s) : kv m N t s (t.B k) = -((t.R k s : Rat) / (t.R k (t.B k) : Rat)) := by
  unfold kv
  have h : ∃ i, i < m ∧ t.B i = t.B k := ⟨k, hk, rfl⟩
  rw [if_neg hs, if_neg (by have := w.bl k hk; omega), dif_pos h]
  have e : h.choose = k := basis_inj w h.choose_spec.1 hk h.choose_spec.2
  rw [e]
theorem kv_0 {j : Nat} (h1 : j ≠ s) (h2 : j ≠ N) (h3 : ∀ k, k < m → t.B k ≠ j) : kv m N t s j = 0 := by
  unfold kv
  rw [if_neg h1, if_neg h2, dif_neg]
  rintro ⟨k, hk, e⟩
  exact h3 k hk e
theorem kv_ker (w : Wf m N t) (hs : s ≠ N) (hs2 : s < N + 2) (hb : ∀ k, k < m → t.B k ≠ s) : Ker m (N + 2) t (kv m N t s) := by
  refine ⟨fun k hk => ?_, ?_⟩
  · unfold dot
    rw [sm_two (a := s) (b := t.B k) hs2 (by have := w.bl k hk; omega) (fun z => hb k hk z.symm), kv_s, kv_B w hk (hb k hk)]
    · have h1 := castne (w.bp k hk)
      have h2 : (t.R k s : Rat) / (t.R k (t.B k) : Rat) * (t.R k (t.B k) : Rat) = (t.R k s : Rat) := Rat.div_mul_cancel h1
      grind
    · intro j hj j1 j2
      by_cases e : j = N
      · subst e
        rw [w.rz k hk]
        show (0 : Rat) * _ = 0
        grind
      · by_cases e2 : ∃ i, i < m ∧ t.B i = j
        · obtain ⟨i, hi, rfl⟩ := e2
          rw [w.bz i k hi hk (fun z => j2 (by rw [z]))]
          show (0 : Rat) * _ = 0
          grind
        · rw [kv_0 j1 e fun k hk z => e2 ⟨k, hk, z⟩]
          grind
  · unfold dot
    rw [sm_two (a := s) (b := N) hs2 (by omega) hs, kv_s, kv_N hs]
    · have h1 := castne w.gp
      have h2 : (t.g s : Rat) / (t.g N : Rat) * (t.g N : Rat) = (t.g s : Rat) := Rat.div_mul_cancel h1
      grind
    · intro j hj j1 j2
      by_cases e2 : ∃ i, i < m ∧ t.B i = j
      · obtain ⟨i, hi, rfl⟩ := e2
        rw [w.gz i hi]
        show (0 : Rat) * _ = 0
        grind
      · rw [kv_0 j1 j2 fun k hk z => e2 ⟨k, hk, z⟩]
        grind
end
/-- the goal's value -/
def val (N : Nat) (t : T) : Rat := (t.g (N + 1) : Rat) / (t.g N : Rat)
/-- a pivot by Bland's rule -/
structure Bl (m N many : Nat) (t t' : T) (l s : Nat) : Prop where
  piv : Piv m (N + 2) t t' l s
  sm : s < many
  neg : t.g s < 0
  fst : ∀ j, j < s → 0 ≤ t.g j
  rat : ∀ k, k < m → 0 < t.R k s → t.R l (N + 1) * t.R k s ≤ t.R k (N + 1) * t.R l s ∧ (t.R l (N + 1) * t.R k s = t.R k (N + 1) * t.R l s → t.B l ≤ t.B k)
theorem Bl.nb {m N many : Nat} {t t' : T} {l s : Nat} (b : Bl m N many t t' l s) (w : Wf m N t) : ∀ k, k < m → t.B k ≠ s := fun k hk e => by
  have h1 := w.gz k hk
  have h2 := b.neg
  rw [e] at h1
  omega
theorem Bl.wf {m N many : Nat} {t t' : T} {l s : Nat} (b : Bl m N many t t' l s) (w : Wf m N t) (hm : many ≤ N) : Wf m N t' :=
  wf_piv w b.piv (Nat.lt_of_lt_of_le b.sm hm) (b.nb w) fun k hk h => (b.rat k hk h).1
theorem val_step {m N many : Nat} {t t' : T} {l s : Nat} (b : Bl m N many t t' l s) (w : Wf m N t) (w' : Wf m N t') : val N t ≤ val N t' ∧ (val N t = val N t' → t.R l (N + 1) = 0) := by
  obtain ⟨c, hc, h⟩ := b.piv.goal
  have h1 := h N (by omega)
  have h2 := h (N + 1) (by omega)
  rw [w.rz l b.piv.lm] at h1
  have e1 : val N t * (t.g N : Rat) = (t.g (N + 1) : Rat) := Rat.div_mul_cancel (castne w.gp)
  have e2 : val N t' * (t'.g N : Rat) = (t'.g (N + 1) : Rat) := Rat.div_mul_cancel (castne w'.gp)
  have h1' : (c : Rat) * (t'.g N : Rat) = (t.g N : Rat) * (t.R l s : Rat) := by
    have : ((c * t'.g N : Int) : Rat) = ((t.g N * t.R l s : Int) : Rat) := by rw [h1]; congr 1; omega
    rwa [Rat.intCast_mul, Rat.intCast_mul] at this
  have h2' : (c : Rat) * (t'.g (N + 1) : Rat) = (t.g (N + 1) : Rat) * (t.R l s : Rat) - (t.R l (N + 1) : Rat) * (t.g s : Rat) := by
    have : ((c * t'.g (N + 1) : Int) : Rat) = ((t.g (N + 1) * t.R l s - t.R l (N + 1) * t.g s : Int) : Rat) := by rw [h2]
    rwa [Rat.intCast_mul, Rat.intCast_sub, Rat.intCast_mul, Rat.intCast_mul] at this
  have key : (val N t' - val N t) * ((t.g N : Rat) * (t.R l s : Rat)) = -((t.R l (N + 1) : Rat) * (t.g s : Rat)) := by grind
  have hp : (0 : Rat) < (t.g N : Rat) * (t.R l s : Rat) := Rat.mul_pos (Rat.intCast_pos.mpr w.gp) (Rat.intCast_pos.mpr b.piv.pos)
  have hq : (0 : Rat) ≤ (t.R l (N + 1) : Rat) := by
    have := w.rp l b.piv.lm
    exact Rat.intCast_nonneg.mpr this
  have hg : (t.g s : Rat) < 0 := Rat.intCast_neg_iff.mpr b.neg
  refine ⟨?_, fun e => ?_⟩
  · have : 0 ≤ -((t.R l (N + 1) : Rat) * (t.g s : Rat)) := by
      have := Rat.mul_nonneg hq (show (0 : Rat) ≤ -(t.g s : Rat) by grind)
      grind
    rw [← key] at this
    have h3 : (0 : Rat) ≤ val N t' - val N t := Rat.le_of_mul_le_mul_right (c := (t.g N : Rat) * (t.R l s : Rat)) (by rw [Rat.zero_mul]; exact this) hp
    grind
  · rw [e] at key
    have h4 : (t.R l (N + 1) : Rat) * (t.g s : Rat) = 0 := by grind
    rcases Rat.mul_eq_zero.mp h4 with z | z
    · exact Rat.intCast_inj.mp z
    · grind
/-! ### Bland's rule never comes back to a basis -/
section
variable {m N many : Nat} {t : Nat → T} {l s : Nat → Nat} {p q : Nat}
theorem all_wf (hm : many ≤ N) (w : Wf m N (t p)) (hb : ∀ i, p ≤ i → i < q → Bl m N many (t i) (t (i + 1)) (l i) (s i)) : ∀ d, p + d ≤ q → Wf m N (t (p + d))
  | 0, _ => w
  | d + 1, h => (hb (p + d) (by omega) (by omega)).wf (all_wf hm w hb d (by omega)) hm
theorem all_ker {X : Nat → Rat} (hb : ∀ i, p ≤ i → i < q → Bl m N many (t i) (t (i + 1)) (l i) (s i)) : ∀ d, p + d ≤ q → (Ker m (N + 2) (t p) X ↔ Ker m (N + 2) (t (p + d)) X)
  | 0, _ => Iff.rfl
  | d + 1, h => (all_ker hb d (by omega)).trans (ker_piv (hb (p + d) (by omega) (by omega)).piv)
theorem all_val (hm : many ≤ N) (w : Wf m N (t p)) (hb : ∀ i, p ≤ i → i < q → Bl m N many (t i) (t (i + 1)) (l i) (s i)) {a : Nat} (ha : p ≤ a) : ∀ d, a + d ≤ q → val N (t a) ≤ val N (t (a + d))
  | 0, _ => Rat.le_refl
  | d + 1, h => by
    have w1 := all_wf hm w hb (a + d - p) (by omega)
    have w2 := all_wf hm w hb (a + d + 1 - p) (by omega)
    rw [show p + (a + d - p) = a + d by omega] at w1
    rw [show p + (a + d + 1 - p) = a + d + 1 by omega] at w2
    exact Rat.le_trans (all_val hm w hb ha d (by omega)) (val_step (hb (a + d) (by omega) (by omega)) w1 w2).1
/-- a row that is never pivoted keeps its column -/
theorem stay (hb : ∀ i, p ≤ i → i < q → Bl m N many (t i) (t (i + 1)) (l i) (s i)) {k a : Nat} (ha : p ≤ a) : ∀ d, a + d ≤ q → (∀ i, a ≤ i → i < a + d → l i ≠ k) → (t (a + d)).B k = (t a).B k
  | 0, _, _ => rfl
  | d + 1, h, hl => by
    rw [← stay hb ha d (by omega) fun i h1 h2 => hl i h1 (by omega)]
    exact (hb (a + d) (by omega) (by omega)).piv.bas.2 k fun z => hl (a + d) (by omega) (by omega) z.symm
/-- a column that never comes in was there before -/
theorem was (hb : ∀ i, p ≤ i → i < q → Bl m N many (t i) (t (i + 1)) (l i) (s i)) {k v a : Nat} (ha : p ≤ a) (hv : ∀ i, p ≤ i → i < q → s i ≠ v) : ∀ d, a + d ≤ q → (t (a + d)).B k = v → (t a).B k = v
  | 0, _, e => e
  | d + 1, h, e => by
    have b := hb (a + d) (by omega) (by omega)
    refine was hb ha hv d (by omega) ?_
    by_cases z : k = l (a + d)
    · have e' : (t (a + d + 1)).B k = v := e
      rw [z, b.piv.bas.1] at e'
      exact absurd e' (hv _ (by omega) (by omega))
    · rw [← b.piv.bas.2 k z]; exact e
theorem max_at (f : Nat → Nat) (p : Nat) : ∀ d, ∃ a, p ≤ a ∧ a ≤ p + d ∧ ∀ i, p ≤ i → i ≤ p + d → f i ≤ f a
  | 0 => ⟨p, Nat.le_refl _, Nat.le_refl _, fun i h1 h2 => by rw [show i = p by omega]; exact Nat.le_refl _⟩
  | d + 1 => by
    obtain ⟨a, h1, h2, h3⟩ := max_at f p d
    by_cases z : f a ≤ f (p + d + 1)
    · refine ⟨p + d + 1, by omega, by omega, fun i i1 i2 => ?_⟩
      by_cases e : i = p + d + 1
      · rw [e]; exact Nat.le_refl _
      · exact Nat.le_trans (h3 i i1 (by omega)) z
    · refine ⟨a, h1, by omega, fun i i1 i2 => ?_⟩
      by_cases e : i = p + d + 1
      · rw [e]; omega
      · exact h3 i i1 (by omega)
theorem bland (hm : many ≤ N) (w : Wf m N (t p)) (hb : ∀ i, p ≤ i → i < q → Bl m N many (t i) (t (i + 1)) (l i) (s i)) (hpq : p < q) (hB : ∀ k, k < m → (t p).B k = (t q).B k) : False := by
  have W : ∀ i, p ≤ i → i ≤ q → Wf m N (t i) := fun i h1 h2 => by
    have := all_wf hm w hb (i - p) (by omega)
    rwa [show p + (i - p) = i by omega] at this
  have KR : ∀ i j X, p ≤ i → i ≤ q → p ≤ j → j ≤ q → (Ker m (N + 2) (t i) X ↔ Ker m (N + 2) (t j) X) := fun i j X h1 h2 h3 h4 => by
    have a1 := all_ker (X := X) hb (i - p) (by omega)
    have a2 := all_ker (X := X) hb (j - p) (by omega)
    rw [show p + (i - p) = i by omega] at a1
    rw [show p + (j - p) = j by omega] at a2
    exact a1.symm.trans a2
  -- the value is the same all the while
  have vq : val N (t q) = val N (t p) := by
    have wp := W p (Nat.le_refl _) (by omega)
    have wq := W q (by omega) (Nat.le_refl _)
    have k1 := kv_ker (s := N + 1) wp (by omega) (by omega) (fun k hk z => by have := wp.bl k hk; omega)
    have k2 := ((KR p q _ (Nat.le_refl _) (by omega) (by omega) (Nat.le_refl _)).mp k1).2
    unfold dot at k2
    rw [sm_two (a := N + 1) (b := N) (by omega) (by omega) (by omega), kv_s, kv_N (by omega)] at k2
    · have e1 : val N (t q) * ((t q).g N : Rat) = ((t q).g (N + 1) : Rat) := Rat.div_mul_cancel (castne wq.gp)
      have e3 : (val N (t q) - val N (t p)) * ((t q).g N : Rat) = 0 := by
        unfold val at *
        grind
      rcases Rat.mul_eq_zero.mp e3 with z | z
      · grind
      · exact absurd z (castne wq.gp)
    · intro j hj j1 j2
      by_cases e2 : ∃ i, i < m ∧ (t p).B i = j
      · obtain ⟨i, hi, rfl⟩ := e2
        rw [hB i hi, wq.gz i hi]
        show (0 : Rat) * _ = 0
        grind
      · rw [kv_0 j1 j2 fun k hk z => e2 ⟨k, hk, z⟩]
        grind
  have vi : ∀ i, p ≤ i → i ≤ q → val N (t i) = val N (t p) := fun i h1 h2 => by
    have a1 := all_val hm w hb (Nat.le_refl p) (i - p) (by omega)
    have a2 := all_val hm w hb h1 (q - i) (by omega)
    rw [show p + (i - p) = i by omega] at a1
    rw [show i + (q - i) = q by omega, vq] at a2
    exact Rat.le_antisymm a2 a1
  have deg : ∀ i, p ≤ i → i < q → (t i).R (l i) (N + 1) = 0 := fun i h1 h2 =>
    (val_step (hb i h1 h2) (W i h1 (by omega)) (W (i + 1) (by omega) (by omega))).2 ((vi i h1 (by omega)).trans (vi (i + 1) (by omega) (by omega)).symm)
  -- rows whose right side is 0 keep that
  have zstep : ∀ i k, p ≤ i → i < q → k < m → ((t i).R k (N + 1) = 0 ↔ (t (i + 1)).R k (N + 1) = 0) := fun i k h1 h2 hk => by
    have b := (hb i h1 h2).piv
    by_cases e : k = l i
    · rw [e, b.row _ (by omega)]
    · obtain ⟨c, hc, h⟩ := b.oth k hk e
      have h3 := h (N + 1) (by omega)
      rw [deg i h1 h2] at h3
      have bp := b.pos
      constructor
      · intro z
        rw [z] at h3
        have h4 : c * (t (i + 1)).R k (N + 1) = 0 := by omega
        rcases Int.mul_eq_zero.mp h4 with y | y
        · omega
        · exact y
      · intro z
        rw [z] at h3
        have h4 : (t i).R k (N + 1) * (t i).R (l i) (s i) = 0 := by omega
        rcases Int.mul_eq_zero.mp h4 with y | y
        · exact y
        · omega
  have zp : ∀ d k, p + d ≤ q → k < m → ((t p).R k (N + 1) = 0 ↔ (t (p + d)).R k (N + 1) = 0) := by
    intro d
    induction d with
    | zero => exact fun k _ _ => Iff.rfl
    | succ d ih => exact fun k h hk => (ih k (by omega) hk).trans (zstep (p + d) k (by omega) (by omega) hk)
  have zall : ∀ i j k, p ≤ i → i ≤ q → p ≤ j → j ≤ q → k < m → (t i).R k (N + 1) = 0 → (t j).R k (N + 1) = 0 := fun i j k h1 h2 h3 h4 hk z => by
    have a1 := zp (i - p) k (by omega) hk
    have a2 := zp (j - p) k (by omega) hk
    rw [show p + (i - p) = i by omega] at a1
    rw [show p + (j - p) = j by omega] at a2
    exact a2.mp (a1.mpr z)
  -- the greatest column that comes in
  obtain ⟨a, a1, a2, amax⟩ := max_at s p (q - p - 1)
  have ba := hb a a1 (by omega)
  have wa := W a a1 (by omega)
  -- where it leaves
  have hbx : ∃ b, p ≤ b ∧ b < q ∧ (t b).B (l b) = s a := by
    apply Classical.byContradiction
    intro hno
    have hno' : ∀ i, p ≤ i → i < q → (t i).B (l i) ≠ s a := fun i h1 h2 z => hno ⟨i, h1, h2, z⟩
    have keep : ∀ d, a + 1 + d ≤ q → (t (a + 1 + d)).B (l a) = s a := by
      intro d
      induction d with
      | zero => exact fun _ => ba.piv.bas.1
      | succ d ih =>
        intro h
        have e := ih (by omega)
        by_cases z : l a = l (a + 1 + d)
        · rw [z] at e
          exact absurd e (hno' _ (by omega) (by omega))
        · rw [← e]
          exact (hb (a + 1 + d) (by omega) (by omega)).piv.bas.2 _ z
    have eq := keep (q - (a + 1)) (by omega)
    rw [show a + 1 + (q - (a + 1)) = q by omega, ← hB _ ba.piv.lm] at eq
    have keep2 : ∀ d, p + d ≤ a → (t (p + d)).B (l a) = s a := by
      intro d
      induction d with
      | zero => exact fun _ => eq
      | succ d ih =>
        intro h
        have e := ih (by omega)
        by_cases z : l a = l (p + d)
        · rw [z] at e
          exact absurd e (hno' _ (by omega) (by omega))
        · rw [← e]
          exact (hb (p + d) (by omega) (by omega)).piv.bas.2 _ z
    have e2 := keep2 (a - p) (by omega)
    rw [show p + (a - p) = a by omega] at e2
    exact ba.nb wa _ ba.piv.lm e2
  obtain ⟨b, b1, b2, hbl⟩ := hbx
  have bb := hb b b1 b2
  have wb := W b b1 (by omega)
  have hsb : s b < s a := by
    have h1 := amax b b1 (by omega)
    have h2 := bb.nb wb (l b) bb.piv.lm
    rw [hbl] at h2
    omega
  have hN : s b ≠ N := by have := bb.sm; omega
  have kb := kv_ker wb hN (by have := bb.sm; omega) (bb.nb wb)
  have ka := ((KR b a _ b1 (by omega) a1 (by omega)).mp kb).2
  -- each summand is not negative, one is above 0
  have hXN : 0 < (((t a).g N : Int) : Rat) * kv m N (t b) (s b) N := by
    rw [kv_N hN]
    refine Rat.mul_pos (Rat.intCast_pos.mpr wa.gp) ?_
    have h1 : ((t b).g (s b) : Rat) / ((t b).g N : Rat) * ((t b).g N : Rat) = ((t b).g (s b) : Rat) := Rat.div_mul_cancel (castne wb.gp)
    have h2 : (((t b).g (s b) : Int) : Rat) < 0 := Rat.intCast_neg_iff.mpr bb.neg
    have h3 : (0 : Rat) < ((t b).g N : Rat) := Rat.intCast_pos.mpr wb.gp
    rcases ltle 0 (-(((t b).g (s b) : Rat) / ((t b).g N : Rat))) with z | z
    · exact z
    · have : 0 ≤ (((t b).g (s b) : Rat) / ((t b).g N : Rat)) * ((t b).g N : Rat) := Rat.mul_nonneg (by grind) (by grind)
      grind
  have term : ∀ j, j < N + 2 → j ≠ N → 0 ≤ (((t a).g j : Int) : Rat) * kv m N (t b) (s b) j := by
    intro j hj jN
    by_cases js : j = s b
    · rw [js, kv_s, Rat.mul_one]
      exact Rat.intCast_nonneg.mpr (ba.fst _ hsb)
    · by_cases jb : ∃ k, k < m ∧ (t b).B k = j
      · obtain ⟨k, hk, rfl⟩ := jb
        rw [kv_B wb hk (bb.nb wb k hk)]
        by_cases gz : (t a).g ((t b).B k) = 0
        · rw [gz]
          show 0 ≤ (0 : Rat) * _
          grind
        · -- row k is pivoted, its right side is 0, its column comes in
          have nba : ∀ i, i < m → (t a).B i ≠ (t b).B k := fun i hi z => gz (by rw [← z]; exact wa.gz i hi)
          have hin : ∃ i, p ≤ i ∧ i < q ∧ s i = (t b).B k := by
            apply Classical.byContradiction
            intro hno
            have hno' : ∀ i, p ≤ i → i < q → s i ≠ (t b).B k := fun i h1 h2 z => hno ⟨i, h1, h2, z⟩
            have e1 := was hb (Nat.le_refl p) hno' (k := k) (b - p) (by omega) (by rw [show p + (b - p) = b by omega])
            rw [hB k hk] at e1
            have e2 := was hb a1 hno' (k := k) (q - a) (by omega) (by rw [show a + (q - a) = q by omega]; exact e1)
            exact nba k hk e2
          have hpv : ∃ i, p ≤ i ∧ i < q ∧ l i = k := by
            apply Classical.byContradiction
            intro hno
            have hno' : ∀ i, p ≤ i → i < q → l i ≠ k := fun i h1 h2 z => hno ⟨i, h1, h2, z⟩
            have e1 := stay hb (Nat.le_refl p) (k := k) (a - p) (by omega) fun i h1 h2 => hno' i h1 (by omega)
            have e2 := stay hb (Nat.le_refl p) (k := k) (b - p) (by omega) fun i h1 h2 => hno' i h1 (by omega)
            rw [show p + (a - p) = a by omega] at e1
            rw [show p + (b - p) = b by omega] at e2
            exact nba k hk (e1.trans e2.symm)
          obtain ⟨i, i1, i2, ei⟩ := hin
          obtain ⟨i', i1', i2', ei'⟩ := hpv
          have rz : (t b).R k (N + 1) = 0 := zall i' b k i1' (by omega) b1 (by omega) hk (by rw [← ei']; exact deg i' i1' i2')
          have hle := amax i i1 (by omega)
          rw [ei] at hle
          have hden : (0 : Rat) < ((t b).R k ((t b).B k) : Rat) := Rat.intCast_pos.mpr (wb.bp k hk)
          have hq : ((t b).R k (s b) : Rat) / ((t b).R k ((t b).B k) : Rat) * ((t b).R k ((t b).B k) : Rat) = ((t b).R k (s b) : Rat) := Rat.div_mul_cancel (castne (wb.bp k hk))
          by_cases ev : (t b).B k = s a
          · have ek : k = l b := basis_inj wb hk bb.piv.lm (by rw [ev, hbl])
            have hneg : (((t a).g ((t b).B k) : Int) : Rat) < 0 := by rw [ev]; exact Rat.intCast_neg_iff.mpr ba.neg
            have hpos : (0 : Rat) < ((t b).R k (s b) : Rat) := by rw [ek]; exact Rat.intCast_pos.mpr bb.piv.pos
            have hx : 0 ≤ ((t b).R k (s b) : Rat) / ((t b).R k ((t b).B k) : Rat) := by
              rcases ltle (((t b).R k (s b) : Rat) / ((t b).R k ((t b).B k) : Rat)) 0 with z | z
              · have := Rat.mul_pos (show 0 < -(((t b).R k (s b) : Rat) / ((t b).R k ((t b).B k) : Rat)) by grind) hden
                grind
              · exact z
            have := Rat.mul_nonneg (show 0 ≤ -(((t a).g ((t b).B k) : Int) : Rat) by grind) hx
            grind
          · have hlt : (t b).B k < s a := by omega
            have hge := Rat.intCast_nonneg.mpr (ba.fst _ hlt)
            have hnp : (t b).R k (s b) ≤ 0 := by
              rcases Int.lt_or_le 0 ((t b).R k (s b)) with z | z
              · obtain ⟨r1, r2⟩ := bb.rat k hk z
                rw [deg b b1 b2, rz, Int.zero_mul, Int.zero_mul] at r2
                have := r2 rfl
                rw [hbl] at this
                omega
              · exact z
            have hx : 0 ≤ -(((t b).R k (s b) : Rat) / ((t b).R k ((t b).B k) : Rat)) := by
              rcases ltle 0 (((t b).R k (s b) : Rat) / ((t b).R k ((t b).B k) : Rat)) with z | z
              · have h1 := Rat.mul_pos z hden
                rw [hq] at h1
                have := Rat.intCast_pos.mp h1
                omega
              · grind
            exact Rat.mul_nonneg hge hx
      · rw [kv_0 js jN fun k hk z => jb ⟨k, hk, z⟩]
        grind
  -- so their sum is above 0
  have hsum : 0 < dot (N + 2) (t a).g (kv m N (t b) (s b)) := by
    unfold dot
    have e : sm (N + 2) (fun j => (((t a).g j : Int) : Rat) * kv m N (t b) (s b) j) = sm N (fun j => (((t a).g j : Int) : Rat) * kv m N (t b) (s b) j) + (((t a).g N : Int) : Rat) * kv m N (t b) (s b) N + (((t a).g (N + 1) : Int) : Rat) * kv m N (t b) (s b) (N + 1) := rfl
    rw [e]
    have h1 : 0 ≤ sm N (fun j => (((t a).g j : Int) : Rat) * kv m N (t b) (s b) j) := sm_nonneg fun j hj => term j (by omega) (by omega)
    have h2 := term (N + 1) (by omega) (by omega)
    grind
  rw [ka] at hsum
  exact absurd hsum Rat.lt_irrefl
end

end SX

-- needs:
namespace SX
theorem pigeon : ∀ (C n : Nat) (f : Nat → Nat), C < n → (∀ i, i < n → f i < C) → ∃ i j, i < j ∧ j < n ∧ f i = f j
  | 0, n, f, h, hf => absurd (hf 0 h) (Nat.not_lt_zero _)
  | C + 1, n, f, h, hf => by
    -- the last value: is it met again?
    by_cases hm : ∃ i, i < n - 1 ∧ f i = f (n - 1)
    · obtain ⟨i, hi, e⟩ := hm
      exact ⟨i, n - 1, hi, by omega, e⟩
    · have hne : ∀ i, i < n - 1 → f i ≠ f (n - 1) := fun i hi e => hm ⟨i, hi, e⟩
      -- leave that value out
      obtain ⟨i, j, h1, h2, h3⟩ := pigeon C (n - 1) (fun i => if f i < f (n - 1) then f i else f i - 1) (by omega) (fun i hi => by
        have a1 := hf i (by omega)
        have a2 := hf (n - 1) (by omega)
        have a3 := hne i hi
        split <;> omega)
      refine ⟨i, j, h1, by omega, ?_⟩
      have b1 := hne i (by omega)
      have b2 := hne j (by omega)
      split at h3 <;> split at h3 <;> omega
def enc (M : Nat) : Nat → (Nat → Nat) → Nat
  | 0, _ => 0
  | r + 1, a => a 0 + M * enc M r fun e => a (e + 1)
theorem enc_lt {M : Nat} : ∀ {r : Nat} {a : Nat → Nat}, (∀ e, e < r → a e < M) → enc M r a < M ^ r
  | 0, _, _ => by simp [enc]
  | r + 1, a, h => by
    have h1 := h 0 (by omega)
    have h2 := enc_lt (M := M) (r := r) (a := fun e => a (e + 1)) fun e he => h (e + 1) (by omega)
    rw [enc, Nat.pow_succ, Nat.mul_comm (M ^ r)]
    have h3 : M * (enc M r fun e => a (e + 1)) + M ≤ M * M ^ r := by
      rw [← Nat.mul_succ]
      exact Nat.mul_le_mul_left M h2
    omega
theorem enc_inj {M : Nat} : ∀ {r : Nat} {a b : Nat → Nat}, (∀ e, e < r → a e < M) → (∀ e, e < r → b e < M) → enc M r a = enc M r b → ∀ e, e < r → a e = b e
  | 0, _, _, _, _, _, e, he => absurd he (Nat.not_lt_zero _)
  | r + 1, a, b, ha, hb, h, e, he => by
    have a0 := ha 0 (by omega)
    have b0 := hb 0 (by omega)
    rw [enc, enc] at h
    have h0 : a 0 = b 0 := by
      have := congrArg (· % M) h
      simp only [Nat.add_mul_mod_self_left, Nat.mod_eq_of_lt a0, Nat.mod_eq_of_lt b0] at this
      exact this
    have h1 : enc M r (fun e => a (e + 1)) = enc M r fun e => b (e + 1) := by
      rw [h0] at h
      have : M * enc M r (fun e => a (e + 1)) = M * enc M r fun e => b (e + 1) := by omega
      exact Nat.eq_of_mul_eq_mul_left (by omega) this
    cases e with
    | zero => exact h0
    | succ e => exact enc_inj (fun e he => ha (e + 1) (by omega)) (fun e he => hb (e + 1) (by omega)) h1 e (by omega)
def dig (M : Nat) : Nat → Nat → Nat
  | x, 0 => x % M
  | x, i + 1 => dig M (x / M) i
theorem dig_lt {M : Nat} (hM : 0 < M) : ∀ {i x : Nat}, dig M x i < M
  | 0, x => Nat.mod_lt _ hM
  | i + 1, x => dig_lt hM (i := i)
theorem dig_inj {M : Nat} (hM : 0 < M) : ∀ {r x y : Nat}, x < M ^ r → y < M ^ r → (∀ i, i < r → dig M x i = dig M y i) → x = y
  | 0, x, y, hx, hy, _ => by simp at hx hy; omega
  | r + 1, x, y, hx, hy, h => by
    have h0 : x % M = y % M := h 0 (by omega)
    have hq : x / M = y / M := dig_inj hM (r := r) (Nat.div_lt_of_lt_mul (by rw [Nat.pow_succ, Nat.mul_comm] at hx; exact hx)) (Nat.div_lt_of_lt_mul (by rw [Nat.pow_succ, Nat.mul_comm] at hy; exact hy)) fun i hi => h (i + 1) (by omega)
    rw [← Nat.div_add_mod x M, ← Nat.div_add_mod y M, h0, hq]
/-- sums of ints -/
def si : Nat → (Nat → Int) → Int
  | 0, _ => 0
  | n + 1, f => si n f + f n
theorem si_congr {f g : Nat → Int} : ∀ {n : Nat}, (∀ j, j < n → f j = g j) → si n f = si n g
  | 0, _ => rfl
  | n + 1, h => by rw [si, si, si_congr (n := n) fun j hj => h j (by omega), h n (by omega)]
theorem si_sub {f g : Nat → Int} : ∀ {n : Nat}, si n (fun j => f j - g j) = si n f - si n g
  | 0 => by simp [si]
  | n + 1 => by simp only [si]; rw [si_sub]; omega
theorem si_abs {f : Nat → Int} {C : Int} : ∀ {n : Nat}, (∀ j, j < n → -C ≤ f j ∧ f j ≤ C) → -(n * C) ≤ si n f ∧ si n f ≤ n * C
  | 0, _ => by simp [si]
  | n + 1, h => by
    have h1 := si_abs (n := n) fun j hj => h j (by omega)
    have h2 := h n (by omega)
    simp only [si]
    have e : ((n + 1 : Nat) : Int) * C = n * C + C := by rw [Int.natCast_add, Int.add_mul]; simp
    omega
/-- Siegel's lemma: fewer equations than unknowns have a small solution -/
theorem siegel (r C : Nat) (E : Nat → Nat → Int) (hE : ∀ e, e < r → ∀ i, i < r + 1 → -(C : Int) ≤ E e i ∧ E e i ≤ C) :
    ∃ y : Nat → Int, (∃ i, i < r + 1 ∧ y i ≠ 0) ∧ (∀ i, i < r + 1 → -(((2 * (r + 1) * C + 1) ^ r : Nat) : Int) ≤ y i ∧ y i ≤ (((2 * (r + 1) * C + 1) ^ r : Nat) : Int)) ∧ ∀ e, e < r → si (r + 1) (fun i => E e i * y i) = 0 := by
  generalize hT : (2 * (r + 1) * C + 1) ^ r = T
  have hM : 0 < T + 1 := by omega
  -- the values of the equations, put together
  have bnd : ∀ x e, e < r → -(((r + 1) * C * T : Nat) : Int) ≤ si (r + 1) (fun i => E e i * (dig (T + 1) x i : Int)) ∧ si (r + 1) (fun i => E e i * (dig (T + 1) x i : Int)) ≤ (((r + 1) * C * T : Nat) : Int) := by
    intro x e he
    have h := si_abs (n := r + 1) (f := fun i => E e i * (dig (T + 1) x i : Int)) (C := ((C * T : Nat) : Int)) fun i hi => by
      have h1 := hE e he i hi
      have h2 : (dig (T + 1) x i : Int) ≤ T := by have := dig_lt hM (i := i) (x := x); omega
      have h3 : (0 : Int) ≤ (dig (T + 1) x i : Int) := by omega
      rw [Int.natCast_mul]
      constructor
      · have a1 : -(C : Int) * (dig (T + 1) x i : Int) ≤ E e i * (dig (T + 1) x i : Int) := Int.mul_le_mul_of_nonneg_right h1.1 h3
        have a2 : (C : Int) * (dig (T + 1) x i : Int) ≤ C * T := Int.mul_le_mul_of_nonneg_left h2 (by omega)
        rw [Int.neg_mul] at a1
        omega
      · have a1 : E e i * (dig (T + 1) x i : Int) ≤ (C : Int) * (dig (T + 1) x i : Int) := Int.mul_le_mul_of_nonneg_right h1.2 h3
        have a2 : (C : Int) * (dig (T + 1) x i : Int) ≤ C * T := Int.mul_le_mul_of_nonneg_left h2 (by omega)
        omega
    rw [← Int.natCast_mul, ← Nat.mul_assoc] at h
    exact h
  obtain ⟨x, y, hxy, hy, hf⟩ := pigeon ((2 * ((r + 1) * C * T) + 1) ^ r) ((T + 1) ^ (r + 1)) (fun x => enc (2 * ((r + 1) * C * T) + 1) r fun e => (si (r + 1) (fun i => E e i * (dig (T + 1) x i : Int)) + (((r + 1) * C * T : Nat) : Int)).toNat)
    (by
      have h1 : 2 * ((r + 1) * C * T) + 1 ≤ (2 * (r + 1) * C + 1) * (T + 1) := by
        have : (2 * (r + 1) * C + 1) * (T + 1) = 2 * (r + 1) * C * T + 2 * (r + 1) * C + (T + 1) := by rw [Nat.add_mul, Nat.mul_add, Nat.mul_one, Nat.one_mul]
        have e : 2 * ((r + 1) * C * T) = 2 * (r + 1) * C * T := by rw [← Nat.mul_assoc, ← Nat.mul_assoc]
        omega
      have h2 := Nat.pow_le_pow_left h1 r
      rw [Nat.mul_pow, hT] at h2
      have h3 : T * (T + 1) ^ r < (T + 1) ^ (r + 1) := by
        rw [Nat.pow_succ, Nat.mul_comm ((T + 1) ^ r)]
        exact Nat.mul_lt_mul_of_pos_right (by omega) (Nat.pow_pos hM)
      omega)
    (fun x hx => enc_lt fun e he => by have := bnd x e he; omega)
  have heq := enc_inj (fun e he => by have := bnd x e he; omega) (fun e he => by have := bnd y e he; omega) hf
  refine ⟨fun i => (dig (T + 1) x i : Int) - dig (T + 1) y i, ?_, fun i hi => ?_, fun e he => ?_⟩
  · apply Classical.byContradiction
    intro hno
    have : ∀ i, i < r + 1 → dig (T + 1) x i = dig (T + 1) y i := fun i hi => by
      apply Classical.byContradiction
      intro h
      exact hno ⟨i, hi, by show (dig (T + 1) x i : Int) - (dig (T + 1) y i : Int) ≠ 0; omega⟩
    have := dig_inj hM (by omega) hy this
    omega
  · have h1 := dig_lt hM (i := i) (x := x)
    have h2 := dig_lt hM (i := i) (x := y)
    dsimp only
    omega
  · have h1 := heq e he
    have h2 := bnd x e he
    have h3 := bnd y e he
    have h4 : si (r + 1) (fun i => E e i * (dig (T + 1) x i : Int)) = si (r + 1) (fun i => E e i * (dig (T + 1) y i : Int)) := by omega
    have h5 : si (r + 1) (fun i => E e i * ((dig (T + 1) x i : Int) - dig (T + 1) y i)) = si (r + 1) (fun i => E e i * (dig (T + 1) x i : Int) - E e i * (dig (T + 1) y i : Int)) := si_congr fun i _ => Int.mul_sub ..
    rw [h5, si_sub, h4]
    omega
end SX

-- needs: P_Sx1 P_Sx2

namespace SX
/-- the rows and the goal that it began with: N = many + m columns, the last m of them the unit's -/
structure Org (m many : Nat) (A : Nat → Nat → Int) (G : Nat → Int) : Prop where
  one : ∀ i, i < m → A i (many + i) = 1
  zer : ∀ i k, i < m → k < m → i ≠ k → A i (many + k) = 0
  an : ∀ i, i < m → A i (many + m) = 0
  gn : G (many + m) = 1
  gz : ∀ i, i < m → G (many + i) = 0
/-- a combination of the rows A and of the goal G, told by its own entries -/
def Comb (m many : Nat) (A : Nat → Nat → Int) (G : Nat → Int) (v : Nat → Int) : Prop := ∀ j, j < many + m + 2 → v j = v (many + m) * G j + si m (fun i => v (many + i) * A i j)
def Prim (n : Nat) (v : Nat → Int) : Prop := ∀ d : Nat, (∀ j, j < n → (d : Int) ∣ v j) → d = 1
theorem si_cast {f : Nat → Int} : ∀ {n : Nat}, ((si n f : Int) : Rat) = sm n (fun j => (f j : Rat))
  | 0 => rfl
  | n + 1 => by simp only [si, sm]; rw [Rat.intCast_add, si_cast]
theorem si_zero {f : Nat → Int} : ∀ {n : Nat}, (∀ j, j < n → f j = 0) → si n f = 0
  | 0, _ => rfl
  | n + 1, h => by rw [si, si_zero (n := n) fun j hj => h j (by omega), h n (by omega)]; rfl
theorem si_one {f : Nat → Int} {a : Nat} : ∀ {n : Nat}, a < n → (∀ j, j < n → j ≠ a → f j = 0) → si n f = f a
  | 0, h, _ => by omega
  | n + 1, h, h0 => by
    simp only [si]
    by_cases e : a = n
    · subst e
      rw [si_zero fun j hj => h0 j (by omega) (by omega)]; omega
    · rw [si_one (n := n) (by omega) fun j hj hn => h0 j (by omega) hn, h0 n (by omega) (by omega)]; omega
theorem si_dvd {f : Nat → Int} {d : Int} : ∀ {n : Nat}, (∀ j, j < n → d ∣ f j) → d ∣ si n f
  | 0, _ => Int.dvd_zero d
  | n + 1, h => by
    rw [si]
    exact Int.dvd_add (si_dvd fun j hj => h j (by omega)) (h n (by omega))
theorem sm_swap {f : Nat → Nat → Rat} {n : Nat} : ∀ {m : Nat}, sm n (fun j => sm m (fun i => f i j)) = sm m (fun i => sm n (fun j => f i j))
  | 0 => by simp only [sm]; exact sm_zero fun _ _ => rfl
  | m + 1 => by
    simp only [sm]
    rw [sm_add, sm_swap]
/-- a combination vanishes where the rows and the goal do -/
theorem dot_comb {m n : Nat} {A : Nat → Nat → Int} {G y : Nat → Int} {y0 : Int} {v : Nat → Int} {X : Nat → Rat} (hv : ∀ j, j < n → v j = y0 * G j + si m (fun i => y i * A i j)) (hA : ∀ i, i < m → dot n (A i) X = 0) : dot n v X = (y0 : Rat) * dot n G X := by
  have h1 : dot n v X = sm n (fun j => (y0 : Rat) * ((G j : Rat) * X j) + sm m (fun i => (y i : Rat) * ((A i j : Rat) * X j))) := by
    unfold dot
    refine sm_congr fun j hj => ?_
    rw [hv j hj, Rat.intCast_add, Rat.intCast_mul, si_cast, Rat.add_mul, Rat.mul_assoc]
    congr 1
    rw [Rat.mul_comm, ← sm_mul]
    refine sm_congr fun i _ => ?_
    rw [Rat.intCast_mul]
    grind
  rw [h1, sm_add, sm_mul, sm_swap]
  have h2 : sm m (fun i => sm n (fun j => (y i : Rat) * ((A i j : Rat) * X j))) = 0 := by
    refine sm_zero fun i hi => ?_
    rw [sm_mul]
    have := hA i hi
    unfold dot at this
    rw [this]
    grind
  rw [h2]
  unfold dot
  grind
/-- what a run of pivots keeps -/
structure Inv (m many : Nat) (A : Nat → Nat → Int) (G : Nat → Int) (t : T) : Prop where
  wf : Wf m (many + m) t
  rk : ∀ X, (∀ k, k < m → dot (many + m + 2) (t.R k) X = 0) → ∀ i, i < m → dot (many + m + 2) (A i) X = 0
  rc : ∀ k, k < m → Comb m many A G (t.R k)
  gc : Comb m many A G t.g
  rprim : ∀ k, k < m → Prim (many + m + 2) (t.R k)
  gprim : Prim (many + m + 2) t.g
theorem coprime_of {a b : Int} (ha : 0 < a) : ∃ (h a' b' : Int), 0 < h ∧ 0 < a' ∧ a = h * a' ∧ b = h * b' ∧ ∀ y : Int, a' ∣ b' * y → a' ∣ y := by
  have hg : 0 < Int.gcd a b := Int.gcd_pos_of_ne_zero_left b (by omega)
  obtain ⟨a', ea⟩ := Int.gcd_dvd_left a b
  obtain ⟨b', eb⟩ := Int.gcd_dvd_right a b
  refine ⟨(Int.gcd a b : Int), a', b', by omega, ?_, ea, eb, fun y hy => ?_⟩
  · exact pos_right (a := (Int.gcd a b : Int)) (by omega) (by omega)
  · have h1 : Int.gcd a' b' = 1 := by
      have h2 : Int.gcd ((Int.gcd a b : Int) * a') ((Int.gcd a b : Int) * b') = Int.gcd a b * Int.gcd a' b' := by
        rw [Int.gcd_mul_left]; simp
      rw [← ea, ← eb] at h2
      have h3 : Int.gcd a b * Int.gcd a' b' = Int.gcd a b * 1 := by omega
      exact Nat.eq_of_mul_eq_mul_left hg h3
    have h4 : a'.natAbs ∣ b'.natAbs * y.natAbs := by rw [← Int.natAbs_mul]; exact Int.natAbs_dvd_natAbs.mpr hy
    exact Int.natAbs_dvd_natAbs.mp (Nat.Coprime.dvd_of_dvd_mul_left h1 h4)
/-- the small solution is a multiple of the primitive one -/
theorem small_of {u : Nat} {y y' : Nat → Int} {a b T : Int} (ha : 0 < a) (h : ∀ i, i < u → a * y' i = b * y i) (hn : ∃ i, i < u ∧ y' i ≠ 0) (hp : ∀ d : Nat, (∀ i, i < u → (d : Int) ∣ y i) → d = 1) (hT : ∀ i, i < u → -T ≤ y' i ∧ y' i ≤ T) : ∀ i, i < u → -T ≤ y i ∧ y i ≤ T := by
  obtain ⟨g, a', b', hg, ha', ea, eb, hc⟩ := coprime_of (b := b) ha
  have h' : ∀ i, i < u → a' * y' i = b' * y i := fun i hi => by
    have := h i hi
    rw [ea, eb, Int.mul_assoc, Int.mul_assoc] at this
    exact Int.eq_of_mul_eq_mul_left (by omega) this
  have ha1 : a' = 1 := by
    have := hp a'.natAbs fun i hi => by
      have h1 : a' ∣ y i := hc _ ⟨y' i, (h' i hi).symm⟩
      rw [Int.natAbs_of_nonneg (by omega)]
      exact h1
    omega
  have hb0 : b' ≠ 0 := by
    rintro rfl
    obtain ⟨i, hi, hy⟩ := hn
    have := h' i hi
    rw [ha1] at this
    omega
  intro i hi
  have h1 := h' i hi
  rw [ha1, Int.one_mul] at h1
  have h2 := hT i hi
  rw [h1] at h2
  have h3 : (y i).natAbs ≤ (b' * y i).natAbs := by
    rw [Int.natAbs_mul]
    exact Nat.le_mul_of_pos_left _ (by omega)
  omega
theorem comb_entry {m many : Nat} {A : Nat → Nat → Int} {G : Nat → Int} {v : Nat → Int} {T D Y : Int} {j : Nat} (h : v j = Y * G j + si m (fun i => v (many + i) * A i j)) (hT : ∀ i, i < m → -T ≤ v (many + i) ∧ v (many + i) ≤ T) (hY : -T ≤ Y ∧ Y ≤ T) (hD : ∀ i, i < m → -D ≤ A i j ∧ A i j ≤ D) (hG : -D ≤ G j ∧ G j ≤ D) (hT0 : 0 ≤ T) (hD0 : 0 ≤ D) :
    -((m + 1) * (T * D)) ≤ v j ∧ v j ≤ (m + 1) * (T * D) := by
  have pr : ∀ x y : Int, -T ≤ x ∧ x ≤ T → -D ≤ y ∧ y ≤ D → -(T * D) ≤ x * y ∧ x * y ≤ T * D := by
    intro x y hx hy
    have h1 : (x * y).natAbs ≤ (T * D).natAbs := by
      rw [Int.natAbs_mul, Int.natAbs_mul]
      exact Nat.mul_le_mul (by omega) (by omega)
    have h2 : 0 ≤ T * D := Int.mul_nonneg hT0 hD0
    omega
  have h1 := si_abs (n := m) (f := fun i => v (many + i) * A i j) (C := T * D) fun i hi => pr _ _ (hT i hi) (hD i hi)
  have h2 := pr _ _ hY hG
  have e : ((m : Int) + 1) * (T * D) = m * (T * D) + T * D := by rw [Int.add_mul, Int.one_mul]
  rw [h]
  omega
section
variable {m many : Nat} {A : Nat → Nat → Int} {G : Nat → Int} {t : T}
/-- the unit's entries of a row are small -/
theorem row_small (o : Org m many A G) (I : Inv m many A G t) {k : Nat} (hk : k < m) {C : Nat} (hC : ∀ i j, i < m → j < many + m → -(C : Int) ≤ A i j ∧ A i j ≤ C) :
    ∀ i, i < m → -(((2 * m * C + 1) ^ (m - 1) : Nat) : Int) ≤ t.R k (many + i) ∧ t.R k (many + i) ≤ (((2 * m * C + 1) ^ (m - 1) : Nat) : Int) := by
  obtain ⟨r, rfl⟩ : ∃ r, m = r + 1 := ⟨m - 1, by omega⟩
  rw [Nat.add_sub_cancel]
  have w := I.wf
  -- the other columns of the basis
  let cl : Nat → Nat := fun e => t.B (if e < k then e else e + 1)
  have hcl : ∀ e, e < r → (if e < k then e else e + 1) < r + 1 ∧ (if e < k then e else e + 1) ≠ k := fun e he => by split <;> omega
  obtain ⟨y', hn, hT, hz⟩ := siegel r C (fun e i => A i (cl e)) (fun e he i hi => hC i _ hi (w.bl _ (hcl e he).1))
  let v : Nat → Int := fun j => si (r + 1) (fun i => y' i * A i j)
  have hv : ∀ j, j < many + (r + 1) + 2 → v j = 0 * G j + si (r + 1) (fun i => y' i * A i j) := fun j _ => by show v j = _; rw [Int.zero_mul, Int.zero_add]
  have vz : ∀ l, l < r + 1 → l ≠ k → v (t.B l) = 0 := fun l hl hlk => by
    have e : ∃ e, e < r ∧ (if e < k then e else e + 1) = l := by
      by_cases q : l < k
      · exact ⟨l, by omega, by rw [if_pos q]⟩
      · exact ⟨l - 1, by omega, by rw [if_neg (by omega)]; omega⟩
    obtain ⟨e, he, el⟩ := e
    have := hz e he
    show si (r + 1) (fun i => y' i * A i (t.B l)) = 0
    rw [← this]
    refine si_congr fun i _ => ?_
    show y' i * A i (t.B l) = A i (t.B (if e < k then e else e + 1)) * y' i
    rw [el, Int.mul_comm]
  have vn : v (many + (r + 1)) = 0 := si_zero fun i hi => by rw [o.an i hi, Int.mul_zero]
  have vy : ∀ i, i < r + 1 → v (many + i) = y' i := fun i hi => by
    show si (r + 1) (fun i' => y' i' * A i' (many + i)) = y' i
    rw [si_one hi fun i' hi' hne => by rw [o.zer i' i hi' hi hne, Int.mul_zero], o.one i hi, Int.mul_one]
  -- proportional
  have prop : ∀ j, j < many + (r + 1) + 2 → t.R k (t.B k) * v j = v (t.B k) * t.R k j := by
    intro j hj
    by_cases hjN : j = many + (r + 1)
    · rw [hjN, vn, w.rz k hk]; omega
    · by_cases hjb : ∃ l, l < r + 1 ∧ t.B l = j
      · obtain ⟨l, hl, rfl⟩ := hjb
        by_cases e : l = k
        · rw [e, Int.mul_comm]
        · rw [vz l hl e, w.bz l k hl hk e]; omega
      · have hnb : ∀ l, l < r + 1 → t.B l ≠ j := fun l hl z => hjb ⟨l, hl, z⟩
        have kk := kv_ker (s := j) w hjN hj hnb
        have hA := I.rk _ kk.1
        have h0 := dot_comb hv hA
        rw [show ((0 : Int) : Rat) = 0 from rfl, Rat.zero_mul] at h0
        unfold dot at h0
        rw [sm_two (a := j) (b := t.B k) hj (by have := w.bl k hk; omega) (fun z => hnb k hk z.symm), kv_s, kv_B w hk (hnb k hk)] at h0
        · have h1 : (t.R k j : Rat) / (t.R k (t.B k) : Rat) * (t.R k (t.B k) : Rat) = (t.R k j : Rat) := Rat.div_mul_cancel (castne (w.bp k hk))
          have h2 : ((t.R k (t.B k) * v j : Int) : Rat) = ((v (t.B k) * t.R k j : Int) : Rat) := by
            rw [Rat.intCast_mul, Rat.intCast_mul]
            grind
          exact Rat.intCast_inj.mp h2
        · intro i hi i1 i2
          by_cases e : i = many + (r + 1)
          · rw [e, vn]
            show (0 : Rat) * _ = 0
            grind
          · by_cases e2 : ∃ l, l < r + 1 ∧ t.B l = i
            · obtain ⟨l, hl, rfl⟩ := e2
              rw [vz l hl (fun z => i2 (by rw [z]))]
              show (0 : Rat) * _ = 0
              grind
            · rw [kv_0 i1 e fun l hl z => e2 ⟨l, hl, z⟩]
              grind
  refine small_of (a := t.R k (t.B k)) (b := v (t.B k)) (w.bp k hk) (fun i hi => ?_) hn (fun d hd => ?_) hT
  · rw [← vy i hi]
    exact prop _ (by omega)
  · refine I.rprim k hk d fun j hj => ?_
    rw [I.rc k hk j hj, w.rz k hk, Int.zero_mul, Int.zero_add]
    refine si_dvd fun i hi => ?_
    exact Int.dvd_trans (hd i hi) (Int.dvd_mul_right _ _)
/-- so are the goal's -/
theorem goal_small (o : Org m many A G) (I : Inv m many A G t) {C : Nat} (hC : ∀ i j, i < m → j < many + m → -(C : Int) ≤ A i j ∧ A i j ≤ C) (hG : ∀ j, j < many + m → -(C : Int) ≤ G j ∧ G j ≤ C) :
    (t.g (many + m) ≤ (((2 * (m + 1) * C + 1) ^ m : Nat) : Int)) ∧ ∀ i, i < m → -(((2 * (m + 1) * C + 1) ^ m : Nat) : Int) ≤ t.g (many + i) ∧ t.g (many + i) ≤ (((2 * (m + 1) * C + 1) ^ m : Nat) : Int) := by
  have w := I.wf
  -- unknowns: m of the rows, the last of the goal
  obtain ⟨y', hn, hT, hz⟩ := siegel m C (fun e i => if i < m then A i (t.B e) else G (t.B e)) (fun e he i hi => by
    have hb := w.bl e he
    split
    · exact hC i _ (by assumption) hb
    · exact hG _ hb)
  let v : Nat → Int := fun j => y' m * G j + si m (fun i => y' i * A i j)
  have vz : ∀ l, l < m → v (t.B l) = 0 := fun l hl => by
    have := hz l hl
    rw [si] at this
    show y' m * G (t.B l) + si m (fun i => y' i * A i (t.B l)) = 0
    rw [if_neg (Nat.lt_irrefl m)] at this
    rw [← this, Int.add_comm, Int.mul_comm]
    congr 1
    refine si_congr fun i hi => ?_
    rw [if_pos hi, Int.mul_comm]
  have vn : v (many + m) = y' m := by
    show y' m * G (many + m) + si m (fun i => y' i * A i (many + m)) = y' m
    rw [o.gn, si_zero fun i hi => by rw [o.an i hi, Int.mul_zero]]; omega
  have vy : ∀ i, i < m → v (many + i) = y' i := fun i hi => by
    show y' m * G (many + i) + si m (fun i' => y' i' * A i' (many + i)) = y' i
    rw [o.gz i hi, si_one hi fun i' hi' hne => by rw [o.zer i' i hi' hi hne, Int.mul_zero], o.one i hi]; omega
  have prop : ∀ j, j < many + m + 2 → t.g (many + m) * v j = v (many + m) * t.g j := by
    intro j hj
    by_cases hjN : j = many + m
    · rw [hjN, Int.mul_comm]
    · by_cases hjb : ∃ l, l < m ∧ t.B l = j
      · obtain ⟨l, hl, rfl⟩ := hjb
        rw [vz l hl, w.gz l hl]; omega
      · have hnb : ∀ l, l < m → t.B l ≠ j := fun l hl z => hjb ⟨l, hl, z⟩
        have kk := kv_ker (s := j) w hjN hj hnb
        have hA := I.rk _ kk.1
        have hG0 : dot (many + m + 2) G (kv m (many + m) t j) = 0 := by
          have h1 := dot_comb (v := t.g) I.gc hA
          rw [kk.2] at h1
          exact ratmul0 h1.symm (castne w.gp)
        have h0 := dot_comb (v := v) (y0 := y' m) (y := y') (fun j _ => rfl) hA
        rw [hG0, Rat.mul_zero] at h0
        unfold dot at h0
        rw [sm_two (a := j) (b := many + m) hj (by omega) hjN, kv_s, kv_N hjN] at h0
        · have h1 : (t.g j : Rat) / (t.g (many + m) : Rat) * (t.g (many + m) : Rat) = (t.g j : Rat) := Rat.div_mul_cancel (castne w.gp)
          have h2 : ((t.g (many + m) * v j : Int) : Rat) = ((v (many + m) * t.g j : Int) : Rat) := by
            rw [Rat.intCast_mul, Rat.intCast_mul]
            grind
          exact Rat.intCast_inj.mp h2
        · intro i hi i1 i2
          by_cases e2 : ∃ l, l < m ∧ t.B l = i
          · obtain ⟨l, hl, rfl⟩ := e2
            rw [vz l hl]
            show (0 : Rat) * _ = 0
            grind
          · rw [kv_0 i1 i2 fun l hl z => e2 ⟨l, hl, z⟩]
            grind
  let y : Nat → Int := fun i => if i < m then t.g (many + i) else t.g (many + m)
  have key := small_of (u := m + 1) (y := y) (y' := y') (a := t.g (many + m)) (b := v (many + m)) (T := (((2 * (m + 1) * C + 1) ^ m : Nat) : Int)) w.gp (fun i hi => by
      show t.g (many + m) * y' i = v (many + m) * (if i < m then t.g (many + i) else t.g (many + m))
      split
      · rename_i hi'
        rw [← vy i hi']
        exact prop _ (by omega)
      · rw [show i = m by omega, ← vn, Int.mul_comm]) hn (fun d hd => I.gprim d fun j hj => by
      rw [I.gc j hj]
      refine Int.dvd_add ?_ (si_dvd fun i hi => ?_)
      · have h1 : (d : Int) ∣ (if m < m then t.g (many + m) else t.g (many + m)) := hd m (by omega)
        rw [if_neg (Nat.lt_irrefl m)] at h1
        exact Int.dvd_trans h1 (Int.dvd_mul_right _ _)
      · have h1 : (d : Int) ∣ (if i < m then t.g (many + i) else t.g (many + m)) := hd i (by omega)
        rw [if_pos hi] at h1
        exact Int.dvd_trans h1 (Int.dvd_mul_right _ _)) hT
  refine ⟨?_, fun i hi => ?_⟩
  · have h1 := key m (by omega)
    have h2 : y m = t.g (many + m) := if_neg (Nat.lt_irrefl m)
    rw [h2] at h1
    exact h1.2
  · have h1 := key i (by omega)
    have h2 : y i = t.g (many + i) := if_pos hi
    rw [h2] at h1
    exact h1
end
end SX

-- needs: P_Sx3
namespace SX
/-! ### rows as lists -/
def gi (r : List Int) (j : Nat) : Int := r.getD j 0
theorem gi_lt {r : List Int} {j : Nat} (h : j < r.length) : r[j]? = some (gi r j) := by
  unfold gi
  rw [List.getD_eq_getElem?_getD, List.getElem?_eq_getElem h]
  rfl
theorem gi_ge {r : List Int} {j : Nat} (h : r.length ≤ j) : gi r j = 0 := by
  unfold gi
  rw [List.getD_eq_getElem?_getD, List.getElem?_eq_none h]
  rfl
theorem gi_mem {r : List Int} {j : Nat} (h : j < r.length) : gi r j ∈ r := by
  have := gi_lt h
  exact List.mem_iff_getElem?.mpr ⟨j, this⟩
theorem mem_gi {r : List Int} {x : Int} (h : x ∈ r) : ∃ j, j < r.length ∧ x = gi r j := by
  obtain ⟨j, hj⟩ := List.mem_iff_getElem?.mp h
  have hl := (List.getElem?_eq_some_iff.mp hj).1
  refine ⟨j, hl, ?_⟩
  have := gi_lt hl
  rw [hj] at this
  exact Option.some.inj this
theorem gi_map {r : List Int} {f : Int → Int} {j : Nat} (h : j < r.length) : gi (r.map f) j = f (gi r j) := by
  have h1 := gi_lt (r := r.map f) (j := j) (by rw [List.length_map]; exact h)
  rw [List.getElem?_map, gi_lt h] at h1
  exact (Option.some.inj h1).symm
/-- what divides them all -/
def gcdL (r : List Int) : Nat := r.foldl (fun a x => Nat.gcd x.natAbs a) 0
theorem gcdF_dvd : ∀ (r : List Int) (a : Nat), r.foldl (fun a x => Nat.gcd x.natAbs a) a ∣ a ∧ ∀ x ∈ r, r.foldl (fun a x => Nat.gcd x.natAbs a) a ∣ x.natAbs
  | [], a => ⟨Nat.dvd_refl a, fun _ h => nomatch h⟩
  | x :: r, a => by
    obtain ⟨h1, h2⟩ := gcdF_dvd r (Nat.gcd x.natAbs a)
    rw [List.foldl_cons]
    refine ⟨Nat.dvd_trans h1 (Nat.gcd_dvd_right ..), fun y hy => ?_⟩
    rcases List.mem_cons.mp hy with e | e
    · rw [e]; exact Nat.dvd_trans h1 (Nat.gcd_dvd_left ..)
    · exact h2 y e
theorem gcdF_great : ∀ (r : List Int) (a d : Nat), d ∣ a → (∀ x ∈ r, d ∣ x.natAbs) → d ∣ r.foldl (fun a x => Nat.gcd x.natAbs a) a
  | [], a, d, h, _ => h
  | x :: r, a, d, h, hx => by
    rw [List.foldl_cons]
    exact gcdF_great r _ d (Nat.dvd_gcd (hx x List.mem_cons_self) h) fun y hy => hx y (List.mem_cons_of_mem _ hy)
def redL (r : List Int) : List Int := if 1 < gcdL r then r.map (fun x => x / (gcdL r : Int)) else r
theorem redL_len {r : List Int} : (redL r).length = r.length := by
  unfold redL
  split
  · rw [List.length_map]
  · rfl
/-- a row is a multiple of what it is reduced to, which is primitive -/
theorem redL_spec (r : List Int) : ∃ c : Int, 0 < c ∧ (∀ j, j < r.length → c * gi (redL r) j = gi r j) ∧ ((∃ j, j < r.length ∧ gi r j ≠ 0) → Prim r.length (gi (redL r))) := by
  obtain ⟨_, h2⟩ := gcdF_dvd r 0
  unfold redL
  by_cases h : 1 < gcdL r
  · rw [if_pos h]
    have hd : ∀ j, j < r.length → (gcdL r : Int) ∣ gi r j := fun j hj => by
      have := h2 (gi r j) (gi_mem hj)
      exact Int.natAbs_dvd_natAbs.mp (by rw [Int.natAbs_natCast]; exact this)
    have he : ∀ j, j < r.length → (gcdL r : Int) * gi (r.map fun x => x / (gcdL r : Int)) j = gi r j := fun j hj => by
      rw [gi_map hj]
      exact Int.mul_ediv_cancel' (hd j hj)
    refine ⟨gcdL r, by omega, he, fun _ d hdv => ?_⟩
    have h3 : d * gcdL r ∣ gcdL r := by
      refine gcdF_great r 0 _ (Nat.dvd_zero _) fun x hx => ?_
      obtain ⟨j, hj, rfl⟩ := mem_gi hx
      rw [← he j hj, Int.natAbs_mul, Int.natAbs_natCast, Nat.mul_comm]
      refine Nat.mul_dvd_mul_left _ ?_
      have := hdv j hj
      have := Int.natAbs_dvd_natAbs.mpr this
      rwa [Int.natAbs_natCast] at this
    have h4 := Nat.le_of_dvd (by omega) h3
    have h5 : d * gcdL r ≤ 1 * gcdL r := by omega
    have h6 := Nat.le_of_mul_le_mul_right h5 (by omega)
    have h7 : d ≠ 0 := by
      rintro rfl
      rw [Nat.zero_mul] at h3
      have := Nat.eq_zero_of_zero_dvd h3
      omega
    omega
  · rw [if_neg h]
    refine ⟨1, by omega, fun j _ => Int.one_mul _, fun ⟨j, hj, hne⟩ d hdv => ?_⟩
    have h3 : d ∣ gcdL r := gcdF_great r 0 _ (Nat.dvd_zero _) fun x hx => by
      obtain ⟨j, hj, rfl⟩ := mem_gi hx
      have := Int.natAbs_dvd_natAbs.mpr (hdv j hj)
      rwa [Int.natAbs_natCast] at this
    have h4 : gcdL r ∣ (gi r j).natAbs := h2 _ (gi_mem hj)
    have h5 : gcdL r ≠ 0 := by
      intro e
      rw [e] at h4
      have := Nat.eq_zero_of_zero_dvd h4
      omega
    have h6 : gcdL r = 1 := by omega
    rw [h6] at h3
    exact Nat.dvd_one.mp h3
def mixL (r p : List Int) (c : Nat) : List Int := List.zipWith (fun x y => x * gi p c - y * gi r c) r p
def clrL (r p : List Int) (c : Nat) : List Int := if gi r c = 0 then r else redL (mixL r p c)
theorem mixL_len {r p : List Int} {c : Nat} (h : r.length = p.length) : (mixL r p c).length = r.length := by
  unfold mixL
  rw [List.length_zipWith, h, Nat.min_self]
theorem mixL_gi {r p : List Int} {c j : Nat} (h : r.length = p.length) (hj : j < r.length) : gi (mixL r p c) j = gi r j * gi p c - gi p j * gi r c := by
  have h1 := gi_lt (r := mixL r p c) (j := j) (by rw [mixL_len h]; exact hj)
  unfold mixL at h1
  rw [List.getElem?_zipWith, gi_lt hj, gi_lt (by omega)] at h1
  exact (Option.some.inj h1).symm
theorem clrL_len {r p : List Int} {c : Nat} (h : r.length = p.length) : (clrL r p c).length = r.length := by
  unfold clrL
  split
  · rfl
  · rw [redL_len, mixL_len h]
theorem clrL_spec {r p : List Int} {c : Nat} (h : r.length = p.length) (hp : 0 < gi p c) : ∃ k : Int, 0 < k ∧ (∀ j, j < r.length → k * gi (clrL r p c) j = gi r j * gi p c - gi p j * gi r c) ∧ (Prim r.length (gi r) → (∃ j, j < r.length ∧ gi r j * gi p c - gi p j * gi r c ≠ 0) → Prim r.length (gi (clrL r p c))) := by
  unfold clrL
  split
  · rename_i h0
    refine ⟨gi p c, hp, fun j _ => ?_, fun q _ => q⟩
    rw [h0, Int.mul_comm]
    omega
  · obtain ⟨k, hk, h1, h2⟩ := redL_spec (mixL r p c)
    rw [mixL_len h] at h1 h2
    refine ⟨k, hk, fun j hj => ?_, fun _ ⟨j, hj, hne⟩ => h2 ⟨j, hj, ?_⟩⟩
    · rw [h1 j hj, mixL_gi h hj]
    · rw [mixL_gi h hj]; exact hne
/-! ### tableaux as lists -/
structure St where
  rows : List (List Int)
  basis : List Nat
  goal : List Int
def rw' (rows : List (List Int)) (k : Nat) : List Int := rows.getD k []
def St.t (s : St) : T := ⟨fun k j => gi (rw' s.rows k) j, fun k => s.basis.getD k 0, gi s.goal⟩
/-- all rows have n entries -/
structure St.Ok (s : St) (m n : Nat) : Prop where
  rl : s.rows.length = m
  bl : s.basis.length = m
  gl : s.goal.length = n
  el : ∀ r ∈ s.rows, r.length = n
theorem rw_mem {rows : List (List Int)} {k : Nat} (h : k < rows.length) : rw' rows k ∈ rows ∧ rows[k]? = some (rw' rows k) := by
  unfold rw'
  have : rows[k]? = some (rows.getD k []) := by rw [List.getD_eq_getElem?_getD, List.getElem?_eq_getElem h]; rfl
  exact ⟨List.mem_iff_getElem?.mpr ⟨k, this⟩, this⟩
def pivL (s : St) (l c : Nat) : St := ⟨s.rows.mapIdx (fun at' r => if at' = l then r else clrL r (rw' s.rows l) c), s.basis.set l c, clrL s.goal (rw' s.rows l) c⟩
theorem pivL_row {s : St} {l c k : Nat} (h : k < s.rows.length) : rw' (pivL s l c).rows k = if k = l then rw' s.rows l else clrL (rw' s.rows k) (rw' s.rows l) c := by
  have h1 := (rw_mem (rows := (pivL s l c).rows) (k := k) (by unfold pivL; rw [List.length_mapIdx]; exact h)).2
  unfold pivL at h1
  dsimp only at h1
  rw [List.getElem?_mapIdx, (rw_mem h).2] at h1
  have h2 := Option.some.inj h1
  unfold pivL
  rw [← h2]
  dsimp only
  by_cases e : k = l
  · rw [if_pos e, if_pos e, e]
  · rw [if_neg e, if_neg e]
theorem pivL_ok {s : St} {m n l c : Nat} (o : s.Ok m n) (hl : l < m) : (pivL s l c).Ok m n := by
  have hlm := (rw_mem (rows := s.rows) (k := l) (by rw [o.rl]; exact hl)).1
  have hll := o.el _ hlm
  refine ⟨by unfold pivL; rw [List.length_mapIdx]; exact o.rl, by unfold pivL; rw [List.length_set]; exact o.bl, ?_, fun r hr => ?_⟩
  · unfold pivL
    rw [clrL_len (by rw [o.gl, hll])]; exact o.gl
  · obtain ⟨k, hk⟩ := List.mem_iff_getElem?.mp hr
    unfold pivL at hk
    dsimp only at hk
    rw [List.getElem?_mapIdx] at hk
    cases e : s.rows[k]? with
    | none => rw [e] at hk; cases hk
    | some r0 =>
      rw [e] at hk
      have hr0 := o.el r0 (List.mem_iff_getElem?.mpr ⟨k, e⟩)
      have hk' := Option.some.inj hk
      rw [← hk']
      split
      · exact hr0
      · rw [clrL_len (by rw [hr0, hll])]; exact hr0
theorem pivL_piv {s : St} {m n l c : Nat} (o : s.Ok m n) (hl : l < m) (hc : c < n) (hp : 0 < gi (rw' s.rows l) c) : Piv m n s.t (pivL s l c).t l c := by
  have hll := o.el _ (rw_mem (rows := s.rows) (k := l) (by rw [o.rl]; exact hl)).1
  refine ⟨hl, hp, fun j hj => ?_, fun k hk hkl => ?_, ?_, ?_, fun k hkl => ?_⟩
  · show gi (rw' (pivL s l c).rows l) j = gi (rw' s.rows l) j
    rw [pivL_row (by rw [o.rl]; exact hl), if_pos rfl]
  · have hkk := o.el _ (rw_mem (rows := s.rows) (k := k) (by rw [o.rl]; exact hk)).1
    obtain ⟨d, hd, h1, _⟩ := clrL_spec (r := rw' s.rows k) (p := rw' s.rows l) (c := c) (by rw [hkk, hll]) hp
    rw [hkk] at h1
    refine ⟨d, hd, fun j hj => ?_⟩
    show d * gi (rw' (pivL s l c).rows k) j = _
    rw [pivL_row (by rw [o.rl]; exact hk), if_neg hkl]
    exact h1 j hj
  · obtain ⟨d, hd, h1, _⟩ := clrL_spec (r := s.goal) (p := rw' s.rows l) (c := c) (by rw [o.gl, hll]) hp
    rw [o.gl] at h1
    exact ⟨d, hd, h1⟩
  · show (s.basis.set l c).getD l 0 = c
    rw [List.getD_eq_getElem?_getD, List.getElem?_set_self (by rw [o.bl]; exact hl)]
    rfl
  · show (s.basis.set l c).getD k 0 = s.basis.getD k 0
    rw [List.getD_eq_getElem?_getD, List.getElem?_set_ne (fun z => hkl z.symm), ← List.getD_eq_getElem?_getD]
end SX

-- needs: P_Sx4
namespace SX
/-- as Wf, but row l may have its column of the basis the wrong way round -/
structure Wf0 (m N l : Nat) (t : T) : Prop where
  bl : ∀ k, k < m → t.B k < N
  bp : ∀ k, k < m → k ≠ l → 0 < t.R k (t.B k)
  bz : ∀ k i, k < m → i < m → k ≠ i → t.R i (t.B k) = 0
  gz : ∀ k, k < m → t.g (t.B k) = 0
  rz : ∀ k, k < m → t.R k N = 0
  gp : 0 < t.g N
  rp : ∀ k, k < m → 0 ≤ t.R k (N + 1)
theorem Wf.to0 {m N l : Nat} {t : T} (w : Wf m N t) : Wf0 m N l t := ⟨w.bl, fun k hk _ => w.bp k hk, w.bz, w.gz, w.rz, w.gp, w.rp⟩
theorem wf_piv0 {m N : Nat} {t t' : T} {l s : Nat} (w : Wf0 m N l t) (p : Piv m (N + 2) t t' l s) (hs : s < N)
    (hr : ∀ k, k < m → 0 < t.R k s → t.R l (N + 1) * t.R k s ≤ t.R k (N + 1) * t.R l s) : Wf m N t' := by
  have pp := p.pos
  refine ⟨fun k hk => ?_, fun k hk => ?_, fun k i hk hi hki => ?_, fun k hk => ?_, fun k hk => ?_, ?_, fun k hk => ?_⟩
  · by_cases e : k = l
    · rw [e, p.bas.1]; exact hs
    · rw [p.bas.2 k e]; exact w.bl k hk
  · by_cases e : k = l
    · rw [e, p.bas.1, p.row s (by omega)]; exact pp
    · rw [p.bas.2 k e]
      obtain ⟨c, hc, h⟩ := p.oth k hk e
      have h1 := h (t.B k) (by have := w.bl k hk; omega)
      rw [w.bz k l hk p.lm e] at h1
      have h2 : 0 < c * t'.R k (t.B k) := by
        rw [h1]
        have := Int.mul_pos (w.bp k hk e) pp
        omega
      exact pos_right h2 hc
  · by_cases e : k = l
    · subst e
      rw [p.bas.1]
      obtain ⟨c, hc, h⟩ := p.oth i hi (fun z => hki z.symm)
      have h1 := h s (by omega)
      have h2 : c * t'.R i s = 0 := by rw [h1, Int.mul_comm]; omega
      rcases Int.mul_eq_zero.mp h2 with z | z
      · omega
      · exact z
    · rw [p.bas.2 k e]
      by_cases e2 : i = l
      · subst e2
        rw [p.row _ (by have := w.bl k hk; omega)]
        exact w.bz k i hk hi hki
      · obtain ⟨c, hc, h⟩ := p.oth i hi e2
        have h1 := h (t.B k) (by have := w.bl k hk; omega)
        rw [w.bz k i hk hi hki, w.bz k l hk p.lm e] at h1
        have h2 : c * t'.R i (t.B k) = 0 := by rw [h1]; omega
        rcases Int.mul_eq_zero.mp h2 with z | z
        · omega
        · exact z
  · obtain ⟨c, hc, h⟩ := p.goal
    by_cases e : k = l
    · subst e
      rw [p.bas.1]
      have h1 := h s (by omega)
      have h2 : c * t'.g s = 0 := by rw [h1, Int.mul_comm]; omega
      rcases Int.mul_eq_zero.mp h2 with z | z
      · omega
      · exact z
    · rw [p.bas.2 k e]
      have h1 := h (t.B k) (by have := w.bl k hk; omega)
      rw [w.gz k hk, w.bz k l hk p.lm e] at h1
      have h2 : c * t'.g (t.B k) = 0 := by rw [h1]; omega
      rcases Int.mul_eq_zero.mp h2 with z | z
      · omega
      · exact z
  · by_cases e : k = l
    · rw [e, p.row N (by omega)]; exact w.rz l p.lm
    · obtain ⟨c, hc, h⟩ := p.oth k hk e
      have h1 := h N (by omega)
      rw [w.rz k hk, w.rz l p.lm] at h1
      have h2 : c * t'.R k N = 0 := by rw [h1]; omega
      rcases Int.mul_eq_zero.mp h2 with z | z
      · omega
      · exact z
  · obtain ⟨c, hc, h⟩ := p.goal
    have h1 := h N (by omega)
    rw [w.rz l p.lm] at h1
    have h2 : 0 < c * t'.g N := by
      rw [h1]
      have := Int.mul_pos w.gp pp
      omega
    exact pos_right h2 hc
  · by_cases e : k = l
    · rw [e, p.row _ (by omega)]; exact w.rp l p.lm
    · obtain ⟨c, hc, h⟩ := p.oth k hk e
      have h1 := h (N + 1) (by omega)
      have h2 : 0 ≤ c * t'.R k (N + 1) := by
        rw [h1]
        by_cases hk0 : 0 < t.R k s
        · have := hr k hk hk0
          omega
        · have a1 : 0 ≤ t.R k (N + 1) * t.R l s := Int.mul_nonneg (w.rp k hk) (by omega)
          have a2 : t.R l (N + 1) * t.R k s ≤ 0 := Int.mul_nonpos_of_nonneg_of_nonpos (w.rp l p.lm) (by omega)
          omega
      rcases Int.lt_or_le (t'.R k (N + 1)) 0 with z | z
      · have := Int.mul_neg_of_pos_of_neg hc z
        omega
      · exact z
/-- combinations of combinations -/
theorem comb_mix {m many : Nat} {A : Nat → Nat → Int} {G v u w : Nat → Int} {c a b : Int} (hc : 0 < c) (hv : Comb m many A G v) (hu : Comb m many A G u) (h : ∀ j, j < many + m + 2 → c * w j = v j * a - u j * b) : Comb m many A G w := by
  intro j hj
  refine Int.eq_of_mul_eq_mul_left (show c ≠ 0 by omega) ?_
  rw [Int.mul_add, ← Int.mul_assoc, h j hj, h (many + m) (by omega), hv j hj, hu j hj]
  have e : c * si m (fun i => w (many + i) * A i j) = si m (fun i => v (many + i) * A i j) * a - si m (fun i => u (many + i) * A i j) * b := by
    have key : ∀ n, n ≤ m → c * si n (fun i => w (many + i) * A i j) = si n (fun i => v (many + i) * A i j) * a - si n (fun i => u (many + i) * A i j) * b := by
      intro n
      induction n with
      | zero => intro _; simp [si]
      | succ n ih =>
        intro hn
        simp only [si]
        rw [Int.mul_add, ih (by omega), ← Int.mul_assoc, h (many + n) (by omega)]
        grind
    exact key m (Nat.le_refl m)
  rw [e]
  grind
structure Inv0 (m many : Nat) (A : Nat → Nat → Int) (G : Nat → Int) (l : Nat) (t : T) : Prop where
  wf : Wf0 m (many + m) l t
  rk : ∀ X, (∀ k, k < m → dot (many + m + 2) (t.R k) X = 0) → ∀ i, i < m → dot (many + m + 2) (A i) X = 0
  rc : ∀ k, k < m → Comb m many A G (t.R k)
  gc : Comb m many A G t.g
theorem Inv.to0 {m many l : Nat} {A : Nat → Nat → Int} {G : Nat → Int} {t : T} (I : Inv m many A G t) : Inv0 m many A G l t := ⟨I.wf.to0, I.rk, I.rc, I.gc⟩
theorem inv_piv {m many : Nat} {A : Nat → Nat → Int} {G : Nat → Int} {t t' : T} {l s : Nat} (I : Inv0 m many A G l t) (p : Piv m (many + m + 2) t t' l s) (hs : s < many + m)
    (hr : ∀ k, k < m → 0 < t.R k s → t.R l (many + m + 1) * t.R k s ≤ t.R k (many + m + 1) * t.R l s) (h1 : ∀ k, k < m → Prim (many + m + 2) (t'.R k)) (h2 : Prim (many + m + 2) t'.g) : Inv m many A G t' := by
  refine ⟨wf_piv0 I.wf p hs hr, fun X hX => I.rk X fun k hk => ?_, fun k hk => ?_, ?_, h1, h2⟩
  · have el : dot (many + m + 2) (t'.R l) X = dot (many + m + 2) (t.R l) X := by
      unfold dot
      refine sm_congr fun j hj => ?_
      rw [p.row j hj]
    have h0 : dot (many + m + 2) (t.R l) X = 0 := by rw [← el]; exact hX l p.lm
    by_cases e : k = l
    · rw [e]; exact h0
    · obtain ⟨c, hc, h⟩ := p.oth k hk e
      have := dot_lin (X := X) h
      rw [hX k hk, h0] at this
      exact ratmul0 (a := (t.R l s : Rat)) (by grind) (castne p.pos)
  · by_cases e : k = l
    · subst e
      intro j hj
      rw [p.row j hj, p.row _ (by omega), I.rc k hk j hj]
      congr 1
      refine si_congr fun i hi => ?_
      rw [p.row _ (by omega)]
    · obtain ⟨c, hc, h⟩ := p.oth k hk e
      exact comb_mix hc (I.rc k hk) (I.rc l p.lm) h
  · obtain ⟨c, hc, h⟩ := p.goal
    exact comb_mix hc I.gc (I.rc l p.lm) h
/-- a pivot of lists -/
theorem inv_pivL {m many : Nat} {A : Nat → Nat → Int} {G : Nat → Int} {s : St} {l c : Nat} (o : s.Ok m (many + m + 2)) (I : Inv0 m many A G l s.t) (hp1 : ∀ k, k < m → Prim (many + m + 2) (s.t.R k)) (hp2 : Prim (many + m + 2) s.t.g) (hl : l < m) (hc : c < many + m) (hp : 0 < gi (rw' s.rows l) c)
    (hr : ∀ k, k < m → 0 < s.t.R k c → s.t.R l (many + m + 1) * s.t.R k c ≤ s.t.R k (many + m + 1) * s.t.R l c) : Inv m many A G (pivL s l c).t := by
  have hll := o.el _ (rw_mem (rows := s.rows) (k := l) (by rw [o.rl]; exact hl)).1
  refine inv_piv I (pivL_piv o hl (by omega) hp) hc hr (fun k hk => ?_) ?_
  · show Prim _ (gi (rw' (pivL s l c).rows k))
    rw [pivL_row (by rw [o.rl]; exact hk)]
    split
    · exact hp1 l hl
    · rename_i e
      have hkk := o.el _ (rw_mem (rows := s.rows) (k := k) (by rw [o.rl]; exact hk)).1
      obtain ⟨d, hd, _, h2⟩ := clrL_spec (r := rw' s.rows k) (p := rw' s.rows l) (c := c) (by rw [hkk, hll]) hp
      rw [hkk] at h2
      refine h2 (hp1 k hk) ⟨s.t.B k, by have := I.wf.bl k hk; omega, ?_⟩
      have h3 := I.wf.bp k hk e
      have h4 := I.wf.bz k l hk hl e
      have h4' : gi (rw' s.rows l) (s.t.B k) = 0 := h4
      have h3' : 0 < gi (rw' s.rows k) (s.t.B k) := h3
      rw [h4', Int.zero_mul]
      have := Int.mul_pos h3' hp
      omega
  · show Prim _ (gi (clrL s.goal (rw' s.rows l) c))
    obtain ⟨d, hd, _, h2⟩ := clrL_spec (r := s.goal) (p := rw' s.rows l) (c := c) (by rw [o.gl, hll]) hp
    rw [o.gl] at h2
    refine h2 hp2 ⟨many + m, by omega, ?_⟩
    have h3 : 0 < gi s.goal (many + m) := I.wf.gp
    have h4 : gi (rw' s.rows l) (many + m) = 0 := I.wf.rz l hl
    rw [h4, Int.zero_mul]
    have := Int.mul_pos h3 hp
    omega
/-! ### which row leaves -/
/-- row i bounds column c before row k does -/
def Bfr (s : St) (n1 c i k : Nat) : Prop := s.t.R i n1 * s.t.R k c < s.t.R k n1 * s.t.R i c ∨ (s.t.R i n1 * s.t.R k c = s.t.R k n1 * s.t.R i c ∧ s.t.B i ≤ s.t.B k)
def leavGo (s : St) (n1 c : Nat) : Nat → Option Nat
  | 0 => none
  | k + 1 => match leavGo s n1 c k with
    | none => if 0 < s.t.R k c then some k else none
    | some i => if 0 < s.t.R k c then (if s.t.R k n1 * s.t.R i c - s.t.R i n1 * s.t.R k c < 0 ∨ (s.t.R k n1 * s.t.R i c - s.t.R i n1 * s.t.R k c = 0 ∧ s.t.B k < s.t.B i) then some k else some i) else some i
theorem bfr_trans {s : St} {n1 c i k j : Nat} (hi : 0 < s.t.R i c) (hk : 0 < s.t.R k c) (hj : 0 < s.t.R j c) (h1 : Bfr s n1 c i k) (h2 : Bfr s n1 c k j) : Bfr s n1 c i j := by
  unfold Bfr at *
  generalize s.t.R i c = a at *
  generalize s.t.R k c = b at *
  generalize s.t.R j c = d at *
  generalize s.t.R i n1 = x at *
  generalize s.t.R k n1 = y at *
  generalize s.t.R j n1 = z at *
  -- x/a <= y/b <= z/d
  have m1 : x * b ≤ y * a := by rcases h1 with h | h <;> omega
  have m2 : y * d ≤ z * b := by rcases h2 with h | h <;> omega
  have e1 : x * b * d ≤ y * a * d := Int.mul_le_mul_of_nonneg_right m1 (by omega)
  have e2 : y * d * a ≤ z * b * a := Int.mul_le_mul_of_nonneg_right m2 (by omega)
  have e3 : x * d * b ≤ z * a * b := by
    have a1 : x * d * b = x * b * d := by grind
    have a2 : z * a * b = z * b * a := by grind
    have a3 : y * a * d = y * d * a := by grind
    omega
  have e4 : x * d ≤ z * a := Int.le_of_mul_le_mul_right e3 hk
  by_cases q : x * d < z * a
  · exact .inl q
  · have q' : x * d = z * a := by omega
    refine .inr ⟨q', ?_⟩
    have t1 : x * d * b = z * a * b := by rw [q']
    have a1 : x * d * b = x * b * d := by grind
    have a2 : z * a * b = z * b * a := by grind
    have a3 : y * a * d = y * d * a := by grind
    have f1 : x * b * d = y * a * d := by omega
    have f2 : y * d * a = z * b * a := by omega
    have g1 : x * b = y * a := Int.eq_of_mul_eq_mul_right (by omega) f1
    have g2 : y * d = z * b := Int.eq_of_mul_eq_mul_right (by omega) f2
    rcases h1 with h | h
    · omega
    · rcases h2 with h' | h'
      · omega
      · omega
theorem bfr_refl {s : St} {n1 c i : Nat} : Bfr s n1 c i i := .inr ⟨rfl, Nat.le_refl _⟩
theorem leavGo_spec (s : St) (n1 c : Nat) : ∀ k, match leavGo s n1 c k with
    | none => ∀ i, i < k → s.t.R i c ≤ 0
    | some i => i < k ∧ 0 < s.t.R i c ∧ ∀ j, j < k → 0 < s.t.R j c → Bfr s n1 c i j
  | 0 => fun i h => absurd h (Nat.not_lt_zero _)
  | k + 1 => by
    have ih := leavGo_spec s n1 c k
    rw [leavGo]
    cases e : leavGo s n1 c k with
    | none =>
      rw [e] at ih
      dsimp only at ih ⊢
      by_cases h : 0 < s.t.R k c
      · rw [if_pos h]
        refine ⟨by omega, h, fun j hj hjp => ?_⟩
        by_cases ej : j = k
        · rw [ej]; exact bfr_refl
        · have := ih j (by omega)
          omega
      · rw [if_neg h]
        intro i hi
        by_cases ei : i = k
        · rw [ei]; omega
        · exact ih i (by omega)
    | some i =>
      rw [e] at ih
      dsimp only at ih ⊢
      obtain ⟨i1, i2, i3⟩ := ih
      by_cases h : 0 < s.t.R k c
      · rw [if_pos h]
        by_cases g : s.t.R k n1 * s.t.R i c - s.t.R i n1 * s.t.R k c < 0 ∨ (s.t.R k n1 * s.t.R i c - s.t.R i n1 * s.t.R k c = 0 ∧ s.t.B k < s.t.B i)
        · rw [if_pos g]
          have bk : Bfr s n1 c k i := by
            unfold Bfr
            rcases g with g | g
            · exact .inl (by omega)
            · exact .inr ⟨by omega, by omega⟩
          refine ⟨by omega, h, fun j hj hjp => ?_⟩
          by_cases ej : j = k
          · rw [ej]; exact bfr_refl
          · exact bfr_trans h i2 hjp bk (i3 j (by omega) hjp)
        · rw [if_neg g]
          refine ⟨by omega, i2, fun j hj hjp => ?_⟩
          by_cases ej : j = k
          · rw [ej]
            unfold Bfr
            omega
          · exact i3 j (by omega) hjp
      · rw [if_neg h]
        refine ⟨by omega, i2, fun j hj hjp => ?_⟩
        by_cases ej : j = k
        · rw [ej] at hjp; exact absurd hjp h
        · exact i3 j (by omega) hjp
/-- the first column with a negative goal -/
def bestGo (g : Nat → Int) : Nat → Option Nat
  | 0 => none
  | k + 1 => match bestGo g k with
    | some j => some j
    | none => if g k < 0 then some k else none
theorem bestGo_spec (g : Nat → Int) : ∀ k, match bestGo g k with
    | none => ∀ j, j < k → 0 ≤ g j
    | some j => j < k ∧ g j < 0 ∧ ∀ i, i < j → 0 ≤ g i
  | 0 => fun j h => absurd h (Nat.not_lt_zero _)
  | k + 1 => by
    have ih := bestGo_spec g k
    rw [bestGo]
    cases e : bestGo g k with
    | some j =>
      rw [e] at ih
      dsimp only at ih ⊢
      exact ⟨by omega, ih.2⟩
    | none =>
      rw [e] at ih
      dsimp only at ih ⊢
      by_cases h : g k < 0
      · rw [if_pos h]
        exact ⟨by omega, h, ih⟩
      · rw [if_neg h]
        intro j hj
        by_cases ej : j = k
        · rw [ej]; omega
        · exact ih j (by omega)
/-! ### the run -/
def runL (m n1 many : Nat) : Nat → St → Option (St × Bool)
  | 0, _ => none
  | f + 1, s => match bestGo (gi s.goal) many with
    | none => some (s, true)
    | some c => match leavGo s n1 c m with
      | none => some (s, false)
      | some l => runL m n1 many f (pivL s l c)
end SX

-- needs: P_Sx5
namespace SX
section
variable {m many : Nat} {A : Nat → Nat → Int} {G : Nat → Int}
theorem leav_ok {s : St} {c l : Nat} (I : Inv m many A G s.t) (h : leavGo s (many + m + 1) c m = some l) : l < m ∧ 0 < s.t.R l c ∧ ∀ k, k < m → 0 < s.t.R k c → Bfr s (many + m + 1) c l k := by
  have := leavGo_spec s (many + m + 1) c m
  rw [h] at this
  exact this
theorem step_inv {s : St} {c l : Nat} (o : s.Ok m (many + m + 2)) (I : Inv m many A G s.t) (hb : bestGo (gi s.goal) many = some c) (hl : leavGo s (many + m + 1) c m = some l) : (pivL s l c).Ok m (many + m + 2) ∧ Inv m many A G (pivL s l c).t ∧ Bl m (many + m) many s.t (pivL s l c).t l c := by
  obtain ⟨l1, l2, l3⟩ := leav_ok I hl
  have b := bestGo_spec (gi s.goal) many
  rw [hb] at b
  obtain ⟨b1, b2, b3⟩ := b
  have hr : ∀ k, k < m → 0 < s.t.R k c → s.t.R l (many + m + 1) * s.t.R k c ≤ s.t.R k (many + m + 1) * s.t.R l c := fun k hk hp => by
    rcases l3 k hk hp with h | h <;> omega
  refine ⟨pivL_ok o l1, inv_pivL o I.to0 I.rprim I.gprim l1 (by omega) l2 hr, ⟨pivL_piv o l1 (by omega) l2, b1, b2, b3, fun k hk hp => ⟨hr k hk hp, fun e => ?_⟩⟩⟩
  rcases l3 k hk hp with h | h
  · omega
  · exact h.2
/-- the states that a run goes through -/
def seqL (m n1 many : Nat) (s : St) : Nat → St
  | 0 => s
  | i + 1 => match bestGo (gi (seqL m n1 many s i).goal) many with
    | none => seqL m n1 many s i
    | some c => match leavGo (seqL m n1 many s i) n1 c m with
      | none => seqL m n1 many s i
      | some l => pivL (seqL m n1 many s i) l c
theorem seqL_head {n1 : Nat} {s : St} {c l : Nat} (hb : bestGo (gi s.goal) many = some c) (hl : leavGo s n1 c m = some l) : ∀ i, seqL m n1 many s (i + 1) = seqL m n1 many (pivL s l c) i
  | 0 => by
    show (match bestGo (gi s.goal) many with
      | none => s
      | some c => match leavGo s n1 c m with
        | none => s
        | some l => pivL s l c) = pivL s l c
    rw [hb]
    dsimp only
    rw [hl]
  | i + 1 => by
    rw [seqL, seqL_head hb hl i, ← seqL]
theorem run_none {n1 : Nat} : ∀ (f : Nat) (s : St), runL m n1 many f s = none → ∀ i, i < f → ∃ c l, bestGo (gi (seqL m n1 many s i).goal) many = some c ∧ leavGo (seqL m n1 many s i) n1 c m = some l
  | 0, _, _, i, hi => absurd hi (Nat.not_lt_zero _)
  | f + 1, s, h, i, hi => by
    rw [runL] at h
    cases hb : bestGo (gi s.goal) many with
    | none => rw [hb] at h; cases h
    | some c =>
      rw [hb] at h
      dsimp only at h
      cases hl : leavGo s n1 c m with
      | none => rw [hl] at h; cases h
      | some l =>
        rw [hl] at h
        dsimp only at h
        cases i with
        | zero => exact ⟨c, l, hb, hl⟩
        | succ i =>
          rw [seqL_head hb hl]
          exact run_none f _ h i (by omega)
theorem run_ends {s : St} (o : s.Ok m (many + m + 2)) (I : Inv m many A G s.t) (hN : many + m ≤ 64) : ∃ r, runL m (many + m + 1) many (64 ^ m + 1) s = some r := by
  cases hr : runL m (many + m + 1) many (64 ^ m + 1) s with
  | some r => exact ⟨r, rfl⟩
  | none =>
    exfalso
    have h := run_none _ _ hr
    have inv : ∀ i, i ≤ 64 ^ m + 1 → (seqL m (many + m + 1) many s i).Ok m (many + m + 2) ∧ Inv m many A G (seqL m (many + m + 1) many s i).t := by
      intro i
      induction i with
      | zero => exact fun _ => ⟨o, I⟩
      | succ i ih =>
        intro hi
        obtain ⟨c, l, hb, hl⟩ := h i (by omega)
        obtain ⟨o1, I1⟩ := ih (by omega)
        have := step_inv o1 I1 hb hl
        rw [seqL, hb]
        dsimp only
        rw [hl]
        exact ⟨this.1, this.2.1⟩
    have bls : ∀ i, i < 64 ^ m + 1 → Bl m (many + m) many (seqL m (many + m + 1) many s i).t (seqL m (many + m + 1) many s (i + 1)).t ((leavGo (seqL m (many + m + 1) many s i) (many + m + 1) ((bestGo (gi (seqL m (many + m + 1) many s i).goal) many).getD 0) m).getD 0) ((bestGo (gi (seqL m (many + m + 1) many s i).goal) many).getD 0) := by
      intro i hi
      obtain ⟨c, l, hb, hl⟩ := h i hi
      obtain ⟨o1, I1⟩ := inv i (by omega)
      have := (step_inv o1 I1 hb hl).2.2
      rw [hb, Option.getD_some, hl, Option.getD_some, seqL, hb]
      dsimp only
      rw [hl]
      exact this
    obtain ⟨p, q, hpq, hq, he⟩ := pigeon (64 ^ m) (64 ^ m + 1) (fun i => enc 64 m fun k => (seqL m (many + m + 1) many s i).t.B k) (Nat.lt_succ_self _) (fun i hi => enc_lt fun k hk => by
      have := (inv i (by omega)).2.wf.bl k hk
      omega)
    have hB := enc_inj (M := 64) (r := m) (fun k hk => by have := (inv p (by omega)).2.wf.bl k hk; omega) (fun k hk => by have := (inv q (by omega)).2.wf.bl k hk; omega) he
    exact bland (m := m) (N := many + m) (many := many) (t := fun i => (seqL m (many + m + 1) many s i).t) (l := fun i => (leavGo (seqL m (many + m + 1) many s i) (many + m + 1) ((bestGo (gi (seqL m (many + m + 1) many s i).goal) many).getD 0) m).getD 0) (s := fun i => (bestGo (gi (seqL m (many + m + 1) many s i).goal) many).getD 0) (p := p) (q := q) (by omega) (inv p (by omega)).2.wf (fun i h1 h2 => bls i (by omega)) hpq hB
/-- how a run ends -/
theorem run_end : ∀ (f : Nat) {s s' : St} {b : Bool}, s.Ok m (many + m + 2) → Inv m many A G s.t → runL m (many + m + 1) many f s = some (s', b) → s'.Ok m (many + m + 2) ∧ Inv m many A G s'.t ∧ (b = true → ∀ j, j < many → 0 ≤ gi s'.goal j) ∧ (b = false → ∃ c, c < many ∧ gi s'.goal c < 0 ∧ ∀ k, k < m → s'.t.R k c ≤ 0)
  | 0, _, _, _, _, _, h => by cases h
  | f + 1, s, s', b, o, I, h => by
    rw [runL] at h
    have bs := bestGo_spec (gi s.goal) many
    cases hb : bestGo (gi s.goal) many with
    | none =>
      rw [hb] at h bs
      cases h
      exact ⟨o, I, fun _ => bs, (fun h => nomatch h)⟩
    | some c =>
      rw [hb] at h bs
      dsimp only at h bs
      have ls := leavGo_spec s (many + m + 1) c m
      cases hl : leavGo s (many + m + 1) c m with
      | none =>
        rw [hl] at h ls
        cases h
        exact ⟨o, I, (fun h => nomatch h), fun _ => ⟨c, bs.1, bs.2.1, ls⟩⟩
      | some l =>
        rw [hl] at h
        dsimp only at h
        obtain ⟨o1, I1, _⟩ := step_inv o I hb hl
        exact run_end f o1 I1 h
end
end SX

-- needs: P_Sx6
namespace SX
/-- a system: m rows, many columns a, the unit's columns, the right side b -/
structure Sys (m many : Nat) (a : Nat → Nat → Int) (b : Nat → Int) (A : Nat → Nat → Int) : Prop where
  lo : ∀ i j, i < m → j < many → A i j = a i j
  one : ∀ i, i < m → A i (many + i) = 1
  zer : ∀ i k, i < m → k < m → i ≠ k → A i (many + k) = 0
  an : ∀ i, i < m → A i (many + m) = 0
  ri : ∀ i, i < m → A i (many + m + 1) = b i
/-- a goal with costs c and last entry d -/
structure Gl (m many : Nat) (c : Nat → Int) (d : Int) (G : Nat → Int) : Prop where
  lo : ∀ j, j < many → G j = c j
  gz : ∀ i, i < m → G (many + i) = 0
  gn : G (many + m) = 1
  la : G (many + m + 1) = d
theorem Sys.org {m many : Nat} {a : Nat → Nat → Int} {b : Nat → Int} {A : Nat → Nat → Int} {c : Nat → Int} {d : Int} {G : Nat → Int} (h : Sys m many a b A) (g : Gl m many c d G) : Org m many A G := ⟨h.one, h.zer, h.an, g.gn, g.gz⟩
theorem sm_split {f : Nat → Rat} {n : Nat} : ∀ {k : Nat}, sm (n + k) f = sm n f + sm k (fun i => f (n + i))
  | 0 => by simp only [sm]; grind
  | k + 1 => by
    show sm (n + k) f + f (n + k) = sm n f + (sm k (fun i => f (n + i)) + f (n + k))
    rw [sm_split]; grind
section
variable {m many : Nat} {a : Nat → Nat → Int} {b c : Nat → Int} {d : Int} {A : Nat → Nat → Int} {G : Nat → Int} {t : T} {X : Nat → Rat}
theorem dot_row (h : Sys m many a b A) {i : Nat} (hi : i < m) : dot (many + m + 2) (A i) X = sm many (fun j => (a i j : Rat) * X j) + X (many + i) + (b i : Rat) * X (many + m + 1) := by
  unfold dot
  show sm (many + m) _ + (A i (many + m) : Rat) * X (many + m) + (A i (many + m + 1) : Rat) * X (many + m + 1) = _
  rw [sm_split, h.an i hi, h.ri i hi, sm_one (a := i) hi fun k hk hne => by rw [h.zer i k hi hk (fun z => hne z.symm)]; show (0 : Rat) * _ = 0; grind, h.one i hi,
    sm_congr (n := many) (g := fun j => (a i j : Rat) * X j) fun j hj => by rw [h.lo i j hi hj]]
  show _ + (1 : Rat) * X (many + i) + (0 : Rat) * _ + _ = _
  grind
theorem dot_goal (g : Gl m many c d G) : dot (many + m + 2) G X = sm many (fun j => (c j : Rat) * X j) + X (many + m) + (d : Rat) * X (many + m + 1) := by
  unfold dot
  show sm (many + m) _ + (G (many + m) : Rat) * X (many + m) + (G (many + m + 1) : Rat) * X (many + m + 1) = _
  rw [sm_split, g.gn, g.la, sm_zero (n := m) fun i hi => by rw [g.gz i hi]; show (0 : Rat) * _ = 0; grind,
    sm_congr (n := many) (g := fun j => (c j : Rat) * X j) fun j hj => by rw [g.lo j hj]]
  show _ + 0 + (1 : Rat) * X (many + m) + _ = _
  grind
/-- where rows and goal vanish -/
theorem ker_org (I : Inv m many A G t) (hk : Ker m (many + m + 2) t X) : (∀ i, i < m → dot (many + m + 2) (A i) X = 0) ∧ dot (many + m + 2) G X = 0 := by
  have hA := I.rk X hk.1
  refine ⟨hA, ?_⟩
  have h1 := dot_comb (v := t.g) I.gc hA
  rw [hk.2] at h1
  exact ratmul0 h1.symm (castne I.wf.gp)
/-- the first goal: minus the sums of the columns -/
def c1 (m : Nat) (a : Nat → Nat → Int) : Nat → Int := fun j => -si m (fun i => a i j)
theorem first_goal (h : Sys m many a b A) (g : Gl m many (c1 m a) (-si m b) G) (hA : ∀ i, i < m → dot (many + m + 2) (A i) X = 0) (hG : dot (many + m + 2) G X = 0) : X (many + m) = -sm m (fun i => X (many + i)) := by
  rw [dot_goal g] at hG
  have h1 : sm m (fun i => sm many (fun j => (a i j : Rat) * X j) + X (many + i) + (b i : Rat) * X (many + m + 1)) = 0 := sm_zero fun i hi => by rw [← dot_row h hi]; exact hA i hi
  rw [sm_add, sm_add, ← sm_swap] at h1
  have h2 : sm many (fun j => sm m (fun i => (a i j : Rat) * X j)) = sm many (fun j => -(((c1 m a j : Int) : Rat) * X j)) := by
    refine sm_congr fun j _ => ?_
    unfold c1
    rw [Rat.intCast_neg, si_cast]
    have : sm m (fun i => (a i j : Rat) * X j) = X j * sm m (fun i => (a i j : Rat)) := by
      rw [← sm_mul]
      exact sm_congr fun i _ => Rat.mul_comm _ _
    rw [this]
    grind
  have h3 : sm many (fun j => -(((c1 m a j : Int) : Rat) * X j)) = -sm many (fun j => ((c1 m a j : Int) : Rat) * X j) := by
    have : (fun j => -(((c1 m a j : Int) : Rat) * X j)) = fun j => (-1 : Rat) * (((c1 m a j : Int) : Rat) * X j) := by
      funext j; grind
    rw [this, sm_mul]
    grind
  have h4 : sm m (fun i => (b i : Rat) * X (many + m + 1)) = ((si m b : Int) : Rat) * X (many + m + 1) := by
    rw [si_cast]
    have : sm m (fun i => (b i : Rat) * X (many + m + 1)) = X (many + m + 1) * sm m (fun i => (b i : Rat)) := by
      rw [← sm_mul]
      exact sm_congr fun i _ => Rat.mul_comm _ _
    rw [this]; grind
  rw [h2, h3, h4] at h1
  rw [Rat.intCast_neg] at hG
  grind
theorem quot_nonpos {x y : Int} (hx : x ≤ 0) (hy : 0 < y) : (x : Rat) / (y : Rat) ≤ 0 := by
  have h1 : (x : Rat) / (y : Rat) * (y : Rat) = (x : Rat) := Rat.div_mul_cancel (castne hy)
  have h2 : (0 : Rat) < (y : Rat) := Rat.intCast_pos.mpr hy
  rcases ltle 0 ((x : Rat) / (y : Rat)) with z | z
  · have := Rat.mul_pos z h2
    rw [h1] at this
    have := Rat.intCast_pos.mp this
    omega
  · exact z
theorem quot_nonneg {x y : Int} (hx : 0 ≤ x) (hy : 0 < y) : 0 ≤ (x : Rat) / (y : Rat) := by
  have h1 : (x : Rat) / (y : Rat) * (y : Rat) = (x : Rat) := Rat.div_mul_cancel (castne hy)
  have h2 : (0 : Rat) < (y : Rat) := Rat.intCast_pos.mpr hy
  rcases ltle ((x : Rat) / (y : Rat)) 0 with z | z
  · have := Rat.mul_pos (show 0 < -((x : Rat) / (y : Rat)) by grind) h2
    have h3 : (0 : Rat) ≤ (x : Rat) := Rat.intCast_nonneg.mpr hx
    grind
  · exact z
theorem quot_zero {x y : Int} (hy : 0 < y) (h : (x : Rat) / (y : Rat) = 0) : x = 0 := by
  have h1 : (x : Rat) / (y : Rat) * (y : Rat) = (x : Rat) := Rat.div_mul_cancel (castne hy)
  rw [h, Rat.zero_mul] at h1
  exact (Rat.intCast_inj.mp h1).symm
/-- at a column that no row bounds: not negative in the lower columns -/
theorem kv_up (w : Wf m (many + m) t) {s : Nat} (hs : s < many) (hb : ∀ k, k < m → t.B k ≠ s) (hr : ∀ k, k < m → t.R k s ≤ 0) : ∀ j, j < many + m → 0 ≤ kv m (many + m) t s j := by
  intro j hj
  by_cases js : j = s
  · rw [js, kv_s]; decide
  · by_cases jb : ∃ k, k < m ∧ t.B k = j
    · obtain ⟨k, hk, rfl⟩ := jb
      rw [kv_B w hk (hb k hk)]
      have := quot_nonpos (hr k hk) (w.bp k hk)
      grind
    · rw [kv_0 js (by omega) fun k hk z => jb ⟨k, hk, z⟩]; decide
theorem pt_down (w : Wf m (many + m) t) : ∀ j, j < many + m → kv m (many + m) t (many + m + 1) j ≤ 0 := by
  intro j hj
  by_cases jb : ∃ k, k < m ∧ t.B k = j
  · obtain ⟨k, hk, rfl⟩ := jb
    rw [kv_B w hk (by omega)]
    have := quot_nonneg (w.rp k hk) (w.bp k hk)
    grind
  · rw [kv_0 (by omega) (by omega) fun k hk z => jb ⟨k, hk, z⟩]; decide
theorem sm_nonpos {f : Nat → Rat} {n : Nat} (h : ∀ j, j < n → f j ≤ 0) : sm n f ≤ 0 := by
  have h1 := sm_nonneg (f := fun j => (-1 : Rat) * f j) (n := n) fun j hj => by have := h j hj; grind
  rw [sm_mul] at h1
  grind
theorem sm_each {f : Nat → Rat} : ∀ {n : Nat}, (∀ j, j < n → f j ≤ 0) → sm n f = 0 → ∀ j, j < n → f j = 0
  | 0, _, _, j, hj => absurd hj (Nat.not_lt_zero _)
  | n + 1, h, e, j, hj => by
    simp only [sm] at e
    have h1 := sm_nonpos (f := f) (n := n) fun j hj => h j (by omega)
    have h2 := h n (by omega)
    by_cases ej : j = n
    · rw [ej]; grind
    · exact sm_each (n := n) (fun j hj => h j (by omega)) (by grind) j (by omega)
/-- the first goal is bounded -/
theorem first_bound (h : Sys m many a b A) (g : Gl m many (c1 m a) (-si m b) G) (I : Inv m many A G t) {s : Nat} (hs : s < many) (hg : t.g s < 0) (hr : ∀ k, k < m → t.R k s ≤ 0) : False := by
  have w := I.wf
  have hb : ∀ k, k < m → t.B k ≠ s := fun k hk e => by
    have := w.gz k hk
    rw [e] at this
    omega
  have kk := kv_ker (s := s) w (by omega) (by omega) hb
  obtain ⟨hA, hG⟩ := ker_org I kk
  have h1 := first_goal h g hA hG
  rw [kv_N (by omega)] at h1
  have h2 : 0 ≤ sm m (fun i => kv m (many + m) t s (many + i)) := sm_nonneg fun i hi => kv_up w hs hb hr _ (by omega)
  have h3 : (t.g s : Rat) / (t.g (many + m) : Rat) * (t.g (many + m) : Rat) = (t.g s : Rat) := Rat.div_mul_cancel (castne w.gp)
  have h4 : (t.g s : Rat) < 0 := Rat.intCast_neg_iff.mpr hg
  have h5 : (0 : Rat) < (t.g (many + m) : Rat) := Rat.intCast_pos.mpr w.gp
  have h6 : 0 ≤ (t.g s : Rat) / (t.g (many + m) : Rat) := by grind
  have := Rat.mul_nonneg h6 (show 0 ≤ (t.g (many + m) : Rat) by grind)
  grind
/-- the first goal's end -/
theorem first_last (h : Sys m many a b A) (g : Gl m many (c1 m a) (-si m b) G) (I : Inv m many A G t) : t.g (many + m + 1) ≤ 0 ∧ (t.g (many + m + 1) = 0 → ∀ k, k < m → many ≤ t.B k → t.R k (many + m + 1) = 0) := by
  have w := I.wf
  have kk := kv_ker (s := many + m + 1) w (by omega) (by omega) (fun k hk z => by have := w.bl k hk; omega)
  obtain ⟨hA, hG⟩ := ker_org I kk
  have h1 := first_goal h g hA hG
  rw [kv_N (by omega)] at h1
  have hd := pt_down w
  have h2 : sm m (fun i => kv m (many + m) t (many + m + 1) (many + i)) ≤ 0 := sm_nonpos fun i hi => hd _ (by omega)
  have h3 : (t.g (many + m + 1) : Rat) / (t.g (many + m) : Rat) * (t.g (many + m) : Rat) = (t.g (many + m + 1) : Rat) := Rat.div_mul_cancel (castne w.gp)
  have h5 : (0 : Rat) < (t.g (many + m) : Rat) := Rat.intCast_pos.mpr w.gp
  refine ⟨?_, fun e k hk hB => ?_⟩
  · rcases Int.lt_or_le 0 (t.g (many + m + 1)) with z | z
    · have z' : (0 : Rat) < (t.g (many + m + 1) : Rat) := Rat.intCast_pos.mpr z
      have h6 : (t.g (many + m + 1) : Rat) / (t.g (many + m) : Rat) ≤ 0 := by grind
      have := Rat.mul_nonneg (show 0 ≤ -((t.g (many + m + 1) : Rat) / (t.g (many + m) : Rat)) by grind) (show 0 ≤ (t.g (many + m) : Rat) by grind)
      grind
    · exact z
  · rw [e] at h1
    have h6 : sm m (fun i => kv m (many + m) t (many + m + 1) (many + i)) = 0 := by
      have : ((0 : Int) : Rat) / (t.g (many + m) : Rat) = 0 := by
        show (0 : Rat) / _ = 0
        rw [Rat.div_def, Rat.zero_mul]
      rw [this] at h1
      grind
    have h7 := sm_each (fun i hi => hd (many + i) (by omega)) h6 (t.B k - many) (by have := w.bl k hk; omega)
    rw [show many + (t.B k - many) = t.B k by omega, kv_B w hk (by have := w.bl k hk; omega)] at h7
    exact quot_zero (w.bp k hk) (by grind)
/-- no solution: the prices show it -/
theorem none_shown (h : Sys m many a b A) (g : Gl m many (c1 m a) (-si m b) G) (I : Inv m many A G t) (hup : ∀ j, j < many → 0 ≤ t.g j) (hneg : t.g (many + m + 1) < 0) :
    (∀ j, j < many → si m (fun i => (t.g (many + m) - t.g (many + i)) * a i j) ≤ 0) ∧ 0 < si m (fun i => (t.g (many + m) - t.g (many + i)) * b i) := by
  have key : ∀ (x : Nat → Int), si m (fun i => (t.g (many + m) - t.g (many + i)) * x i) = t.g (many + m) * si m x - si m (fun i => t.g (many + i) * x i) := by
    intro x
    have : ∀ n, si n (fun i => (t.g (many + m) - t.g (many + i)) * x i) = t.g (many + m) * si n x - si n (fun i => t.g (many + i) * x i) := by
      intro n
      induction n with
      | zero => simp [si]
      | succ n ih => simp only [si]; rw [ih]; grind
    exact this m
  refine ⟨fun j hj => ?_, ?_⟩
  · have h1 := I.gc j (by omega)
    have h2 := hup j hj
    rw [g.lo j hj, si_congr (g := fun i => t.g (many + i) * a i j) fun i hi => by rw [h.lo i j hi hj]] at h1
    rw [key fun i => a i j]
    unfold c1 at h1
    rw [Int.mul_neg] at h1
    omega
  · have h1 := I.gc (many + m + 1) (by omega)
    rw [si_congr (f := fun i => t.g (many + i) * A i (many + m + 1)) (g := fun i => t.g (many + i) * b i) fun i hi => by rw [h.ri i hi], g.la] at h1
    rw [key b]
    rw [Int.mul_neg] at h1
    omega
/-- rows whose column is the unit's have nothing else -/
def Freed (m many : Nat) (t : T) : Prop := ∀ k, k < m → many ≤ t.B k → t.R k (many + m + 1) = 0 ∧ ∀ j, j < many → t.R k j = 0
/-- the value of column j -/
noncomputable def xs (m many : Nat) (t : T) (j : Nat) : Rat := -kv m (many + m) t (many + m + 1) j
theorem sol_ok (h : Sys m many a b A) (g : Gl m many c 0 G) (I : Inv m many A G t) (F : Freed m many t) :
    (∀ j, j < many → 0 ≤ xs m many t j) ∧ (∀ i, i < m → sm many (fun j => (a i j : Rat) * xs m many t j) = (b i : Rat)) ∧ sm many (fun j => (c j : Rat) * xs m many t j) = -((t.g (many + m + 1) : Rat) / (t.g (many + m) : Rat)) := by
  have w := I.wf
  have kk := kv_ker (s := many + m + 1) w (by omega) (by omega) (fun k hk z => by have := w.bl k hk; omega)
  obtain ⟨hA, hG⟩ := ker_org I kk
  have neg : ∀ f : Nat → Int, sm many (fun j => (f j : Rat) * xs m many t j) = -sm many (fun j => (f j : Rat) * kv m (many + m) t (many + m + 1) j) := by
    intro f
    have e : (fun j => (f j : Rat) * xs m many t j) = fun j => (-1 : Rat) * ((f j : Rat) * kv m (many + m) t (many + m + 1) j) := by
      funext j; unfold xs; grind
    rw [e, sm_mul]; grind
  refine ⟨fun j hj => ?_, fun i hi => ?_, ?_⟩
  · have := pt_down w j (by omega)
    unfold xs
    grind
  · have h1 := hA i hi
    rw [dot_row h hi, kv_s] at h1
    have h2 : kv m (many + m) t (many + m + 1) (many + i) = 0 := by
      by_cases jb : ∃ k, k < m ∧ t.B k = many + i
      · obtain ⟨k, hk, e⟩ := jb
        rw [← e, kv_B w hk (by omega), (F k hk (by omega)).1]
        show -((0 : Rat) / _) = 0
        rw [Rat.div_def, Rat.zero_mul]; rfl
      · exact kv_0 (by omega) (by omega) fun k hk z => jb ⟨k, hk, z⟩
    rw [neg]
    grind
  · rw [dot_goal g, kv_N (by omega), kv_s] at hG
    rw [neg]
    have : ((0 : Int) : Rat) = 0 := rfl
    grind
/-- what the factors are, column by column -/
theorem xs_at (w : Wf m (many + m) t) {k : Nat} (hk : k < m) : xs m many t (t.B k) = (t.R k (many + m + 1) : Rat) / (t.R k (t.B k) : Rat) := by
  unfold xs
  rw [kv_B w hk (by have := w.bl k hk; omega)]
  grind
theorem xs_not {j : Nat} (hj : j < many) (h : ∀ k, k < m → t.B k ≠ j) : xs m many t j = 0 := by
  unfold xs
  rw [kv_0 (by omega) (by omega) h]
  grind
/-- the prices -/
theorem prices_ok (h : Sys m many a b A) (g : Gl m many c 0 G) (I : Inv m many A G t) (hup : ∀ j, j < many → 0 ≤ t.g j) :
    (∀ j, j < many → sm m (fun i => -((t.g (many + i) : Rat) / (t.g (many + m) : Rat)) * (a i j : Rat)) ≤ (c j : Rat)) ∧ sm m (fun i => -((t.g (many + i) : Rat) / (t.g (many + m) : Rat)) * (b i : Rat)) = -((t.g (many + m + 1) : Rat) / (t.g (many + m) : Rat)) := by
  have w := I.wf
  have hp : (0 : Rat) < (t.g (many + m) : Rat) := Rat.intCast_pos.mpr w.gp
  have key : ∀ x : Nat → Int, sm m (fun i => -((t.g (many + i) : Rat) / (t.g (many + m) : Rat)) * (x i : Rat)) * (t.g (many + m) : Rat) = -((si m (fun i => t.g (many + i) * x i) : Int) : Rat) := by
    intro x
    rw [Rat.mul_comm, ← sm_mul, si_cast]
    have : ∀ n, sm n (fun i => (t.g (many + m) : Rat) * (-((t.g (many + i) : Rat) / (t.g (many + m) : Rat)) * (x i : Rat))) = -sm n (fun i => ((t.g (many + i) * x i : Int) : Rat)) := by
      intro n
      induction n with
      | zero => simp only [sm]; rfl
      | succ n ih =>
        simp only [sm]
        rw [ih, Rat.intCast_mul]
        have h1 : (t.g (many + n) : Rat) / (t.g (many + m) : Rat) * (t.g (many + m) : Rat) = (t.g (many + n) : Rat) := Rat.div_mul_cancel (castne w.gp)
        grind
    exact this m
  refine ⟨fun j hj => ?_, ?_⟩
  · have h1 := I.gc j (by omega)
    rw [g.lo j hj, si_congr (g := fun i => t.g (many + i) * a i j) fun i hi => by rw [h.lo i j hi hj]] at h1
    have h2 : (0 : Rat) ≤ ((t.g j : Int) : Rat) := Rat.intCast_nonneg.mpr (hup j hj)
    rw [h1, Rat.intCast_add, Rat.intCast_mul] at h2
    have h3 := key fun i => a i j
    refine Rat.le_of_mul_le_mul_right (c := (t.g (many + m) : Rat)) ?_ hp
    rw [h3]
    grind
  · have h1 := I.gc (many + m + 1) (by omega)
    rw [g.la, si_congr (g := fun i => t.g (many + i) * b i) fun i hi => by rw [h.ri i hi], Int.mul_zero, Int.zero_add] at h1
    have h3 := key b
    rw [← h1] at h3
    have h4 : (t.g (many + m + 1) : Rat) / (t.g (many + m) : Rat) * (t.g (many + m) : Rat) = (t.g (many + m + 1) : Rat) := Rat.div_mul_cancel (castne w.gp)
    have h5 : (sm m (fun i => -((t.g (many + i) : Rat) / (t.g (many + m) : Rat)) * (b i : Rat)) + (t.g (many + m + 1) : Rat) / (t.g (many + m) : Rat)) * (t.g (many + m) : Rat) = 0 := by grind
    have := ratmul0 (a := (t.g (many + m) : Rat)) (by rw [Rat.mul_comm]; exact h5) (castne w.gp)
    grind
/-- an open end: a ray along which the costs fall -/
theorem open_ray (h : Sys m many a b A) (g : Gl m many c 0 G) (I : Inv m many A G t) (F : Freed m many t) {s : Nat} (hs : s < many) (hg : t.g s < 0) (hr : ∀ k, k < m → t.R k s ≤ 0) :
    ∃ Y : Nat → Rat, (∀ j, j < many → 0 ≤ Y j) ∧ (∀ i, i < m → sm many (fun j => (a i j : Rat) * Y j) = 0) ∧ sm many (fun j => (c j : Rat) * Y j) < 0 := by
  have w := I.wf
  have hb : ∀ k, k < m → t.B k ≠ s := fun k hk e => by
    have := w.gz k hk
    rw [e] at this
    omega
  have kk := kv_ker (s := s) w (by omega) (by omega) hb
  obtain ⟨hA, hG⟩ := ker_org I kk
  have hlast : kv m (many + m) t s (many + m + 1) = 0 := kv_0 (by omega) (by omega) fun k hk z => by have := w.bl k hk; omega
  refine ⟨kv m (many + m) t s, fun j hj => kv_up w hs hb hr j (by omega), fun i hi => ?_, ?_⟩
  · have h1 := hA i hi
    rw [dot_row h hi, hlast] at h1
    have h2 : kv m (many + m) t s (many + i) = 0 := by
      by_cases jb : ∃ k, k < m ∧ t.B k = many + i
      · obtain ⟨k, hk, e⟩ := jb
        rw [← e, kv_B w hk (hb k hk), (F k hk (by omega)).2 s hs]
        show -((0 : Rat) / _) = 0
        rw [Rat.div_def, Rat.zero_mul]; rfl
      · exact kv_0 (by omega) (by omega) fun k hk z => jb ⟨k, hk, z⟩
    grind
  · rw [dot_goal g, kv_N (by omega), hlast] at hG
    have h3 : (t.g s : Rat) / (t.g (many + m) : Rat) * (t.g (many + m) : Rat) = (t.g s : Rat) := Rat.div_mul_cancel (castne w.gp)
    have h4 : (t.g s : Rat) < 0 := Rat.intCast_neg_iff.mpr hg
    have h5 : (0 : Rat) < (t.g (many + m) : Rat) := Rat.intCast_pos.mpr w.gp
    have h6 : (t.g s : Rat) / (t.g (many + m) : Rat) < 0 := by
      rcases ltle ((t.g s : Rat) / (t.g (many + m) : Rat)) 0 with z | z
      · exact z
      · have := Rat.mul_nonneg z (show 0 ≤ (t.g (many + m) : Rat) by grind)
        grind
    grind
end
end SX

-- needs: P_Sx7
namespace SX
theorem gi_append {l r : List Int} {j : Nat} : gi (l ++ r) j = if j < l.length then gi l j else gi r (j - l.length) := by
  unfold gi
  rw [List.getD_eq_getElem?_getD, List.getElem?_append]
  split
  · rw [List.getD_eq_getElem?_getD]
  · rw [List.getD_eq_getElem?_getD]
theorem gi_range {n j : Nat} {f : Nat → Int} (h : j < n) : gi ((List.range n).map f) j = f j := by
  unfold gi
  rw [List.getD_eq_getElem?_getD, List.getElem?_map, List.getElem?_range h]
  rfl
theorem gi_mapL {α : Type} {l : List α} {f : α → Int} {j : Nat} {d : α} (h : j < l.length) : gi (l.map f) j = f (l.getD j d) := by
  unfold gi
  rw [List.getD_eq_getElem?_getD, List.getElem?_map, List.getElem?_eq_getElem h, List.getD_eq_getElem?_getD, List.getElem?_eq_getElem h]
  rfl
theorem gi_rep {n j : Nat} {x : Int} (h : j < n) : gi (List.replicate n x) j = x := by
  unfold gi
  rw [List.getD_eq_getElem?_getD, List.getElem?_replicate_of_lt h]
  rfl
theorem gi_0 {x : Int} {r : List Int} : gi (x :: r) 0 = x := rfl
theorem gi_S {x : Int} {r : List Int} {j : Nat} : gi (x :: r) (j + 1) = gi r j := rfl
theorem sum_si : ∀ (l : List Int), l.sum = si l.length (gi l) := by
  intro l
  have key : ∀ (l : List Int) (n : Nat), n ≤ l.length → (l.take n).sum = si n (gi l) := by
    intro l n
    induction n with
    | zero => intro _; simp [si]
    | succ n ih =>
      intro h
      rw [List.take_succ, gi_lt (by omega), List.sum_append, ih (by omega), si]
      simp
  have := key l l.length (Nat.le_refl _)
  rwa [List.take_length] at this
/-! ### the start -/
def colA (cols : List (List Int)) (i j : Nat) : Int := gi (rw' cols j) i
def row0 (cols : List (List Int)) (right : List Int) (i : Nat) : List Int := cols.map (fun c => gi c i) ++ ((List.range right.length).map (fun k => if i = k then (1 : Int) else 0) ++ [0, gi right i])
def start (cols : List (List Int)) (right : List Int) : St :=
  ⟨(List.range right.length).map (row0 cols right), (List.range right.length).map (cols.length + ·), cols.map (fun c => -c.sum) ++ (List.replicate right.length 0 ++ [1, -right.sum])⟩
section
variable {cols : List (List Int)} {right : List Int}
theorem row0_len {i : Nat} : (row0 cols right i).length = cols.length + right.length + 2 := by
  unfold row0
  simp only [List.length_append, List.length_map, List.length_range, List.length_cons, List.length_nil]
  omega
theorem start_row {i : Nat} (h : i < right.length) : rw' (start cols right).rows i = row0 cols right i := by
  unfold rw' start
  dsimp only
  rw [List.getD_eq_getElem?_getD, List.getElem?_map, List.getElem?_range h]
  rfl
theorem start_ok : (start cols right).Ok right.length (cols.length + right.length + 2) := by
  refine ⟨by simp [start], by simp [start], ?_, fun r hr => ?_⟩
  · unfold start
    simp only [List.length_append, List.length_map, List.length_replicate, List.length_cons, List.length_nil]
    omega
  · unfold start at hr
    obtain ⟨i, _, rfl⟩ := List.mem_map.mp hr
    exact row0_len
theorem row0_lo {i j : Nat} (hj : j < cols.length) : gi (row0 cols right i) j = colA cols i j := by
  unfold row0 colA rw'
  rw [gi_append, if_pos (by rw [List.length_map]; exact hj), gi_mapL (d := []) hj]
theorem row0_un {i k : Nat} (hk : k < right.length) : gi (row0 cols right i) (cols.length + k) = if i = k then 1 else 0 := by
  unfold row0
  rw [gi_append, if_neg (by rw [List.length_map]; omega), List.length_map, gi_append, if_pos (by simp; omega), show cols.length + k - cols.length = k by omega, gi_range hk]
theorem row0_n {i : Nat} : gi (row0 cols right i) (cols.length + right.length) = 0 := by
  unfold row0
  rw [gi_append, if_neg (by rw [List.length_map]; omega), List.length_map, gi_append, if_neg (by simp), List.length_map, List.length_range, show cols.length + right.length - cols.length - right.length = 0 by omega]
  rfl
theorem row0_r {i : Nat} : gi (row0 cols right i) (cols.length + right.length + 1) = gi right i := by
  unfold row0
  rw [gi_append, if_neg (by rw [List.length_map]; omega), List.length_map, gi_append, if_neg (by simp; omega), List.length_map, List.length_range, show cols.length + right.length + 1 - cols.length - right.length = 1 by omega]
  rfl
theorem start_sys : Sys right.length cols.length (colA cols) (gi right) (start cols right).t.R := by
  have e : ∀ i, i < right.length → ∀ j, (start cols right).t.R i j = gi (row0 cols right i) j := fun i hi j => by
    show gi (rw' (start cols right).rows i) j = _
    rw [start_row hi]
  refine ⟨fun i j hi hj => ?_, fun i hi => ?_, fun i k hi hk hne => ?_, fun i hi => ?_, fun i hi => ?_⟩
  · rw [e i hi, row0_lo hj]
  · rw [e i hi, row0_un hi, if_pos rfl]
  · rw [e i hi, row0_un hk, if_neg hne]
  · rw [e i hi, row0_n]
  · rw [e i hi, row0_r]
theorem goal_gl {m : Nat} {c : List Int} {d : Int} : Gl m c.length (gi c) d (gi (c ++ (List.replicate m 0 ++ [1, d]))) := by
  refine ⟨fun j hj => ?_, fun i hi => ?_, ?_, ?_⟩
  · rw [gi_append, if_pos hj]
  · rw [gi_append, if_neg (by omega), gi_append, if_pos (by rw [List.length_replicate]; omega), gi_rep (by omega)]
  · rw [gi_append, if_neg (by omega), gi_append, if_neg (by rw [List.length_replicate]; omega), List.length_replicate, show c.length + m - c.length - m = 0 by omega]; rfl
  · rw [gi_append, if_neg (by omega), gi_append, if_neg (by rw [List.length_replicate]; omega), List.length_replicate, show c.length + m + 1 - c.length - m = 1 by omega]; rfl
theorem Gl.congr {m many : Nat} {c c' : Nat → Int} {d : Int} {G : Nat → Int} (g : Gl m many c d G) (h : ∀ j, j < many → c j = c' j) : Gl m many c' d G := ⟨fun j hj => (g.lo j hj).trans (h j hj), g.gz, g.gn, g.la⟩
theorem start_gl (hc : ∀ c ∈ cols, c.length = right.length) : Gl right.length cols.length (c1 right.length (colA cols)) (-si right.length (gi right)) (start cols right).t.g := by
  have h := goal_gl (m := right.length) (c := cols.map fun c => -c.sum) (d := -right.sum)
  rw [List.length_map, sum_si right] at h
  unfold start St.t
  dsimp only
  rw [sum_si right]
  refine h.congr fun j hj => ?_
  rw [gi_mapL (d := []) hj]
  have hm := (rw_mem (rows := cols) (k := j) hj).1
  unfold c1 colA
  rw [sum_si]
  show -si (rw' cols j).length (gi (rw' cols j)) = _
  rw [hc _ hm]
theorem prim_one {n : Nat} {v : Nat → Int} {j : Nat} (hj : j < n) (h : v j = 1) : Prim n v := fun d hd => by
  have h1 := hd j hj
  rw [h] at h1
  have := Int.natAbs_dvd_natAbs.mpr h1
  rw [Int.natAbs_natCast] at this
  exact Nat.dvd_one.mp this
theorem comb_row {m many : Nat} {a : Nat → Nat → Int} {b : Nat → Int} {A : Nat → Nat → Int} {G : Nat → Int} (h : Sys m many a b A) {k : Nat} (hk : k < m) : Comb m many A G (A k) := fun j hj => by
  rw [h.an k hk, Int.zero_mul, Int.zero_add, si_one hk fun i hi hne => by rw [h.zer k i hk hi (fun z => hne z.symm), Int.zero_mul], h.one k hk, Int.one_mul]
theorem comb_goal {m many : Nat} {A : Nat → Nat → Int} {c : Nat → Int} {d : Int} {G : Nat → Int} (g : Gl m many c d G) : Comb m many A G G := fun j hj => by
  rw [g.gn, Int.one_mul, si_zero fun i hi => by rw [g.gz i hi, Int.zero_mul], Int.add_zero]
theorem start_B {k : Nat} (hk : k < right.length) : (start cols right).t.B k = cols.length + k := by
  show (start cols right).basis.getD k 0 = _
  unfold start
  dsimp only
  rw [List.getD_eq_getElem?_getD, List.getElem?_map, List.getElem?_range hk]
  rfl
theorem start_inv (hc : ∀ c ∈ cols, c.length = right.length) (hr : ∀ x ∈ right, 0 ≤ x) : Inv right.length cols.length (start cols right).t.R (start cols right).t.g (start cols right).t := by
  have h := start_sys (cols := cols) (right := right)
  have g := start_gl hc
  refine ⟨⟨fun k hk => ?_, fun k hk => ?_, fun k l hk hl hne => ?_, fun k hk => ?_, h.an, by rw [g.gn]; decide, fun k hk => ?_⟩, fun X hX => hX, fun k hk => comb_row h hk, comb_goal g, fun k hk => ?_, ?_⟩
  · rw [start_B hk]; omega
  · rw [start_B hk, h.one k hk]; decide
  · rw [start_B hk, h.zer l k hl hk (fun z => hne z.symm)]
  · rw [start_B hk, g.gz k hk]
  · rw [h.ri k hk]
    exact hr _ (gi_mem hk)
  · exact prim_one (j := cols.length + k) (by omega) (h.one k hk)
  · exact prim_one (j := cols.length + right.length) (by omega) g.gn
end
/-! ### rows whose column is the unit's -/
def negL (s : St) (l : Nat) : St := { s with rows := s.rows.set l ((rw' s.rows l).map fun x => -x) }
/-- the first column with an entry -/
def someGo (g : Nat → Int) : Nat → Option Nat
  | 0 => none
  | k + 1 => match someGo g k with
    | some j => some j
    | none => if g k ≠ 0 then some k else none
theorem someGo_spec (g : Nat → Int) : ∀ k, match someGo g k with
    | none => ∀ j, j < k → g j = 0
    | some j => j < k ∧ g j ≠ 0
  | 0 => fun j h => absurd h (Nat.not_lt_zero _)
  | k + 1 => by
    have ih := someGo_spec g k
    rw [someGo]
    cases e : someGo g k with
    | some j =>
      rw [e] at ih
      dsimp only at ih ⊢
      exact ⟨by omega, ih.2⟩
    | none =>
      rw [e] at ih
      dsimp only at ih ⊢
      by_cases h : g k ≠ 0
      · rw [if_pos h]
        exact ⟨by omega, h⟩
      · rw [if_neg h]
        intro j hj
        by_cases ej : j = k
        · rw [ej]; exact Classical.not_not.mp h
        · exact ih j (by omega)
def freeStep (many : Nat) (s : St) (l : Nat) : St := match someGo (gi (rw' s.rows l)) many with
  | none => s
  | some c => if many ≤ s.basis.getD l 0 then pivL (if gi (rw' s.rows l) c < 0 then negL s l else s) l c else s
def freeGo (many : Nat) (s : St) : Nat → St
  | 0 => s
  | k + 1 => freeStep many (freeGo many s k) k
theorem negL_row {s : St} {l k : Nat} (hl : l < s.rows.length) : rw' (negL s l).rows k = if k = l then (rw' s.rows l).map (fun x => -x) else rw' s.rows k := by
  unfold negL rw'
  dsimp only
  rw [List.getD_eq_getElem?_getD]
  by_cases e : k = l
  · rw [if_pos e, e, List.getElem?_set_self hl]; rfl
  · rw [if_neg e, List.getElem?_set_ne (fun z => e z.symm), ← List.getD_eq_getElem?_getD]
theorem negL_ok {s : St} {m n l : Nat} (o : s.Ok m n) (hl : l < m) : (negL s l).Ok m n := by
  refine ⟨by unfold negL; rw [List.length_set]; exact o.rl, o.bl, o.gl, fun r hr => ?_⟩
  unfold negL at hr
  dsimp only at hr
  rcases List.mem_or_eq_of_mem_set hr with h | h
  · exact o.el r h
  · rw [h, List.length_map]
    exact o.el _ (rw_mem (by rw [o.rl]; exact hl)).1
theorem gi_neg {r : List Int} {j : Nat} : gi (r.map fun x => -x) j = -gi r j := by
  by_cases h : j < r.length
  · exact gi_map h
  · rw [gi_ge (by rw [List.length_map]; omega), gi_ge (by omega)]; rfl
section
variable {m many : Nat} {A : Nat → Nat → Int} {G : Nat → Int}
theorem neg_inv {s : St} {l : Nat} (o : s.Ok m (many + m + 2)) (I : Inv m many A G s.t) (hl : l < m) (hz : s.t.R l (many + m + 1) = 0) : Inv0 m many A G l (negL s l).t ∧ (∀ k, k < m → Prim (many + m + 2) ((negL s l).t.R k)) ∧ Prim (many + m + 2) (negL s l).t.g := by
  have hrl : l < s.rows.length := by rw [o.rl]; exact hl
  have e1 : ∀ j, (negL s l).t.R l j = -s.t.R l j := fun j => by
    show gi (rw' (negL s l).rows l) j = -gi (rw' s.rows l) j
    rw [negL_row hrl, if_pos rfl, gi_neg]
  have e2 : ∀ k, k ≠ l → ∀ j, (negL s l).t.R k j = s.t.R k j := fun k hk j => by
    show gi (rw' (negL s l).rows k) j = gi (rw' s.rows k) j
    rw [negL_row hrl, if_neg hk]
  have w := I.wf
  refine ⟨⟨⟨w.bl, fun k hk hkl => ?_, fun k i hk hi hki => ?_, w.gz, fun k hk => ?_, w.gp, fun k hk => ?_⟩, fun X hX => I.rk X fun k hk => ?_, fun k hk => ?_, I.gc⟩, fun k hk => ?_, I.gprim⟩
  · rw [e2 k hkl]; exact w.bp k hk
  · by_cases e : i = l
    · rw [e, e1]
      have : s.t.R l (s.t.B k) = 0 := w.bz k l hk hl (by rw [← e]; exact hki)
      show -s.t.R l (s.t.B k) = 0
      omega
    · rw [e2 i e]; exact w.bz k i hk hi hki
  · by_cases e : k = l
    · rw [e, e1, w.rz l hl]; rfl
    · rw [e2 k e]; exact w.rz k hk
  · by_cases e : k = l
    · rw [e, e1, hz]; decide
    · rw [e2 k e]; exact w.rp k hk
  · by_cases e : k = l
    · have h1 := hX l hl
      have h2 : dot (many + m + 2) ((negL s l).t.R l) X = -dot (many + m + 2) (s.t.R l) X := by
        have := dot_lin (n := many + m + 2) (r := s.t.R l) (p := s.t.R l) (q := (negL s l).t.R l) (X := X) (c := 1) (s := 0) (f := 1) (fun j _ => by rw [e1]; omega)
        have a1 : ((1 : Int) : Rat) = 1 := rfl
        have a0 : ((0 : Int) : Rat) = 0 := rfl
        rw [a1, a0] at this
        grind
      rw [h2] at h1
      rw [e]
      grind
    · have h1 := hX k hk
      unfold dot at h1 ⊢
      rw [← h1]
      exact sm_congr fun j _ => by rw [e2 k e]
  · by_cases e : k = l
    · rw [e]
      refine comb_mix (c := 1) (a := 0) (b := 1) (by omega) (I.rc l hl) (I.rc l hl) fun j _ => ?_
      rw [e1]; omega
    · intro j hj
      rw [e2 k e, e2 k e, I.rc k hk j hj]
      congr 1
      exact si_congr fun i _ => by rw [e2 k e]
  · by_cases e : k = l
    · rw [e]
      intro d hd
      refine I.rprim l hl d fun j hj => ?_
      have := hd j hj
      rw [e1] at this
      exact Int.dvd_neg.mp this
    · intro d hd
      refine I.rprim k hk d fun j hj => ?_
      have := hd j hj
      rwa [e2 k e] at this
/-- what stands between two rows -/
structure Fr (m many k : Nat) (A : Nat → Nat → Int) (G : Nat → Int) (s : St) : Prop where
  ok : s.Ok m (many + m + 2)
  inv : Inv m many A G s.t
  la : ∀ k, k < m → many ≤ s.t.B k → s.t.R k (many + m + 1) = 0
  fr : ∀ i, i < k → many ≤ s.t.B i → ∀ j, j < many → s.t.R i j = 0
theorem piv_fr {s s' : St} {l c k : Nat} (p : Piv m (many + m + 2) s.t s'.t l c) (hc : c < many) (hz : s.t.R l (many + m + 1) = 0) (hlk : k ≤ l) (hkm : k < m)
    (la : ∀ k, k < m → many ≤ s.t.B k → s.t.R k (many + m + 1) = 0) (fr : ∀ i, i < k → many ≤ s.t.B i → ∀ j, j < many → s.t.R i j = 0) :
    (∀ k, k < m → many ≤ s'.t.B k → s'.t.R k (many + m + 1) = 0) ∧ (∀ i, i < k → many ≤ s'.t.B i → ∀ j, j < many → s'.t.R i j = 0) ∧ s'.t.B l = c := by
  refine ⟨fun i hi hB => ?_, fun i hi hB j hj => ?_, p.bas.1⟩
  · by_cases e : i = l
    · rw [e, p.bas.1] at hB; omega
    · rw [p.bas.2 i e] at hB
      obtain ⟨d, hd, h⟩ := p.oth i hi e
      have h1 := h (many + m + 1) (by omega)
      rw [la i hi hB, hz] at h1
      have h2 : d * s'.t.R i (many + m + 1) = 0 := by rw [h1]; omega
      rcases Int.mul_eq_zero.mp h2 with z | z
      · omega
      · exact z
  · have e : i ≠ l := by omega
    rw [p.bas.2 i e] at hB
    obtain ⟨d, hd, h⟩ := p.oth i (by omega) e
    have h1 := h j (by omega)
    rw [fr i hi hB j hj, fr i hi hB c hc] at h1
    have h2 : d * s'.t.R i j = 0 := by rw [h1]; omega
    rcases Int.mul_eq_zero.mp h2 with z | z
    · omega
    · exact z
theorem free_step {s : St} {l : Nat} (hl : l < m) (F : Fr m many l A G s) : Fr m many (l + 1) A G (freeStep many s l) := by
  have o := F.ok
  have I := F.inv
  have sp := someGo_spec (gi (rw' s.rows l)) many
  unfold freeStep
  cases e : someGo (gi (rw' s.rows l)) many with
  | none =>
    rw [e] at sp
    dsimp only at sp ⊢
    refine ⟨o, I, F.la, fun i hi hB j hj => ?_⟩
    by_cases ei : i = l
    · rw [ei]; exact sp j hj
    · exact F.fr i (by omega) hB j hj
  | some c =>
    rw [e] at sp
    dsimp only at sp ⊢
    by_cases hB : many ≤ s.basis.getD l 0
    · rw [if_pos hB]
      have hB' : many ≤ s.t.B l := hB
      have hz := F.la l hl hB'
      have fin : ∀ s1 : St, s1.Ok m (many + m + 2) → Inv0 m many A G l s1.t → (∀ k, k < m → Prim (many + m + 2) (s1.t.R k)) → Prim (many + m + 2) s1.t.g → 0 < gi (rw' s1.rows l) c → s1.t.R l (many + m + 1) = 0 →
          (∀ k, k < m → many ≤ s1.t.B k → s1.t.R k (many + m + 1) = 0) → (∀ i, i < l → many ≤ s1.t.B i → ∀ j, j < many → s1.t.R i j = 0) → Fr m many (l + 1) A G (pivL s1 l c) := by
        intro s1 o1 I1 p1 p2 hp hz1 la1 fr1
        have hpv := pivL_piv o1 hl (show c < many + m + 2 by omega) hp
        have hiv := inv_pivL o1 I1 p1 p2 hl (show c < many + m by omega) hp fun k hk hkc => by
          rw [hz1, Int.zero_mul]
          exact Int.mul_nonneg (I1.wf.rp k hk) (Int.le_of_lt hp)
        obtain ⟨q1, q2, q3⟩ := piv_fr hpv sp.1 hz1 (Nat.le_refl l) hl la1 fr1
        refine ⟨pivL_ok o1 hl, hiv, q1, fun i hi hBi j hj => ?_⟩
        by_cases ei : i = l
        · rw [ei, q3] at hBi; omega
        · exact q2 i (by omega) hBi j hj
      by_cases hn : gi (rw' s.rows l) c < 0
      · rw [if_pos hn]
        have hrl : l < s.rows.length := by rw [o.rl]; exact hl
        obtain ⟨n1, n2, n3⟩ := neg_inv o I hl hz
        have e1 : ∀ j, (negL s l).t.R l j = -s.t.R l j := fun j => by
          show gi (rw' (negL s l).rows l) j = -gi (rw' s.rows l) j
          rw [negL_row hrl, if_pos rfl, gi_neg]
        have e2 : ∀ k, k ≠ l → ∀ j, (negL s l).t.R k j = s.t.R k j := fun k hk j => by
          show gi (rw' (negL s l).rows k) j = gi (rw' s.rows k) j
          rw [negL_row hrl, if_neg hk]
        refine fin _ (negL_ok o hl) n1 n2 n3 ?_ (by rw [e1, hz]; rfl) (fun k hk hBk => ?_) (fun i hi hBi j hj => ?_)
        · have := e1 c
          have h2 : (negL s l).t.R l c = gi (rw' (negL s l).rows l) c := rfl
          have h3 : s.t.R l c = gi (rw' s.rows l) c := rfl
          omega
        · by_cases ek : k = l
          · rw [ek, e1, hz]; rfl
          · rw [e2 k ek]; exact F.la k hk hBk
        · rw [e2 i (by omega)]; exact F.fr i hi hBi j hj
      · rw [if_neg hn]
        exact fin s o I.to0 I.rprim I.gprim (by have := sp.2; omega) hz F.la F.fr
    · rw [if_neg hB]
      refine ⟨o, I, F.la, fun i hi hBi j hj => ?_⟩
      by_cases ei : i = l
      · rw [ei] at hBi; exact absurd hBi hB
      · exact F.fr i (by omega) hBi j hj
theorem free_go {s : St} (F : Fr m many 0 A G s) : ∀ k, k ≤ m → Fr m many k A G (freeGo many s k)
  | 0, _ => F
  | k + 1, h => free_step (by omega) (free_go F k (by omega))
/-! ### the second goal -/
def goalGo (s : St) (g : List Int) : Nat → List Int
  | 0 => g
  | k + 1 => clrL (goalGo s g k) (rw' s.rows k) (s.basis.getD k 0)
theorem goal_go {s : St} {c : Nat → Int} {d : Int} {g : List Int} (o : s.Ok m (many + m + 2)) (I : Inv m many A G s.t) (hg : g.length = many + m + 2) (gl : Gl m many c d (gi g)) : ∀ k, k ≤ m → (goalGo s g k).length = many + m + 2 ∧ Comb m many A (gi g) (gi (goalGo s g k)) ∧ 0 < gi (goalGo s g k) (many + m) ∧ Prim (many + m + 2) (gi (goalGo s g k)) ∧ ∀ i, i < k → gi (goalGo s g k) (s.t.B i) = 0
  | 0, _ => ⟨hg, comb_goal gl, by show 0 < gi g (many + m); rw [gl.gn]; decide, prim_one (j := many + m) (by omega) gl.gn, fun i hi => absurd hi (Nat.not_lt_zero _)⟩
  | k + 1, h => by
    obtain ⟨h1, h2, h3, h4, h5⟩ := goal_go o I hg gl k (by omega)
    have w := I.wf
    have hk : k < m := by omega
    have hll := o.el _ (rw_mem (rows := s.rows) (k := k) (by rw [o.rl]; exact hk)).1
    have hp : 0 < gi (rw' s.rows k) (s.basis.getD k 0) := w.bp k hk
    obtain ⟨e, he, q1, q2⟩ := clrL_spec (r := goalGo s g k) (p := rw' s.rows k) (c := s.basis.getD k 0) (by rw [h1, hll]) hp
    rw [h1] at q1 q2
    have hrN : gi (rw' s.rows k) (many + m) = 0 := w.rz k hk
    have hN := q1 (many + m) (by omega)
    rw [hrN, Int.zero_mul] at hN
    have hpos := Int.mul_pos h3 hp
    rw [goalGo]
    refine ⟨by rw [clrL_len (by rw [h1, hll])]; exact h1, ?_, ?_, ?_, fun i hi => ?_⟩
    · have rck : Comb m many A (gi g) (gi (rw' s.rows k)) := fun j hj => by
        have := I.rc k hk j hj
        have hz : s.t.R k (many + m) = 0 := w.rz k hk
        rw [hz, Int.zero_mul] at this
        have hz' : gi (rw' s.rows k) (many + m) = 0 := hz
        rw [hz', Int.zero_mul]
        exact this
      exact comb_mix he h2 rck q1
    · refine pos_right (a := e) ?_ he
      omega
    · exact q2 h4 ⟨many + m, by omega, by rw [hrN, Int.zero_mul]; omega⟩
    · have hbi : s.t.B i < many + m + 2 := by have := w.bl i (by omega); omega
      have q := q1 (s.t.B i) hbi
      by_cases ei : i = k
      · subst ei
        have e2 : s.t.B i = s.basis.getD i 0 := rfl
        rw [e2] at q ⊢
        have : e * gi (clrL (goalGo s g i) (rw' s.rows i) (s.basis.getD i 0)) (s.basis.getD i 0) = 0 := by rw [q, Int.mul_comm]; omega
        rcases Int.mul_eq_zero.mp this with z | z
        · omega
        · exact z
      · have hz : gi (rw' s.rows k) (s.t.B i) = 0 := w.bz i k (by omega) hk ei
        rw [h5 i (by omega), hz] at q
        have : e * gi (clrL (goalGo s g k) (rw' s.rows k) (s.basis.getD k 0)) (s.t.B i) = 0 := by rw [q]; omega
        rcases Int.mul_eq_zero.mp this with z | z
        · omega
        · exact z
/-- the state in which the second run begins -/
theorem second_inv {s : St} {c : Nat → Int} {d : Int} {g : List Int} (o : s.Ok m (many + m + 2)) (I : Inv m many A G s.t) (hg : g.length = many + m + 2) (gl : Gl m many c d (gi g)) :
    (⟨s.rows, s.basis, goalGo s g m⟩ : St).Ok m (many + m + 2) ∧ Inv m many A (gi g) (⟨s.rows, s.basis, goalGo s g m⟩ : St).t := by
  obtain ⟨h1, h2, h3, h4, h5⟩ := goal_go o I hg gl m (Nat.le_refl m)
  have w := I.wf
  refine ⟨⟨o.rl, o.bl, h1, o.el⟩, ⟨⟨w.bl, w.bp, w.bz, h5, w.rz, h3, w.rp⟩, I.rk, fun k hk j hj => ?_, h2, I.rprim, h4⟩⟩
  have := I.rc k hk j hj
  have hz : s.t.R k (many + m) = 0 := w.rz k hk
  rw [hz, Int.zero_mul] at this
  show s.t.R k j = s.t.R k (many + m) * gi g j + _
  rw [hz, Int.zero_mul]
  exact this
/-- the unit's rows stay as they are -/
theorem freed_step {s : St} {c l : Nat} (o : s.Ok m (many + m + 2)) (I : Inv m many A G s.t) (F : Freed m many s.t) (hb : bestGo (gi s.goal) many = some c) (hl : leavGo s (many + m + 1) c m = some l) : Freed m many (pivL s l c).t := by
  obtain ⟨l1, l2, l3⟩ := leav_ok I hl
  have b := bestGo_spec (gi s.goal) many
  rw [hb] at b
  obtain ⟨b1, b2, b3⟩ := b
  have p := pivL_piv o l1 (show c < many + m + 2 by omega) l2
  intro k hk hB
  by_cases e : k = l
  · rw [e, p.bas.1] at hB; omega
  · rw [p.bas.2 k e] at hB
    obtain ⟨f1, f2⟩ := F k hk hB
    obtain ⟨d, hd, h⟩ := p.oth k hk e
    have hkc := f2 c b1
    refine ⟨?_, fun j hj => ?_⟩
    · have h1 := h (many + m + 1) (by omega)
      rw [f1, hkc] at h1
      have h2 : d * (pivL s l c).t.R k (many + m + 1) = 0 := by rw [h1]; omega
      rcases Int.mul_eq_zero.mp h2 with z | z
      · omega
      · exact z
    · have h1 := h j (by omega)
      rw [f2 j hj, hkc] at h1
      have h2 : d * (pivL s l c).t.R k j = 0 := by rw [h1]; omega
      rcases Int.mul_eq_zero.mp h2 with z | z
      · omega
      · exact z
theorem run_freed : ∀ (f : Nat) {s s' : St} {b : Bool}, s.Ok m (many + m + 2) → Inv m many A G s.t → Freed m many s.t → runL m (many + m + 1) many f s = some (s', b) → Freed m many s'.t
  | 0, _, _, _, _, _, _, h => by cases h
  | f + 1, s, s', b, o, I, F, h => by
    rw [runL] at h
    cases hb : bestGo (gi s.goal) many with
    | none => rw [hb] at h; cases h; exact F
    | some c =>
      rw [hb] at h
      dsimp only at h
      cases hl : leavGo s (many + m + 1) c m with
      | none => rw [hl] at h; cases h; exact F
      | some l =>
        rw [hl] at h
        dsimp only at h
        obtain ⟨o1, I1, _⟩ := step_inv o I hb hl
        exact run_freed f o1 I1 (freed_step o I F hb hl) h
end
end SX

-- needs: P_Dec P_Sx8
/-! ### rows of integers -/
open SX
def dIs (r : List Int) : PyData := .list (r.map .int)
def dRows (rows : List (List Int)) : PyData := .list (rows.map dIs)
def dNs (b : List Nat) : PyData := .list (b.map fun k => .int ((k : Nat) : Int))
def Bd (K : Nat) (r : List Int) : Prop := ∀ x ∈ r, x.natAbs < 2 ^ K
theorem red_go : ∀ (r : List Int) (all : PyData) (a : Nat) (v2 : Sl), fGo (S := Unit) (bName 2) (sAsg 1 (eP (lenIs 2 m_divisor) (aCons (eVar 2) (aCons (eVar 1) aNil)))) (r.map .int) [.w (.d all), .w (.d (.int (a : Nat))), v2] () = .nx [.w (.d all), .w (.d (.int ((r.foldl (fun a x => Nat.gcd x.natAbs a) a : Nat) : Int))), (match r.getLast? with | none => v2 | some x => .w (.d (.int x)))] ()
  | [], all, a, v2 => by simp! [List.map_nil, fGo_nil, List.foldl_nil, List.getLast?_nil]
  | x :: r, all, a, v2 => by
    rw [List.map_cons, fGo_cons]
    simp! [divisor_ok, Int.natAbs_natCast]
    rw [red_go r all (Nat.gcd x.natAbs a) (.w (.d (.int x))), List.foldl_cons]
    cases r with
    | nil => rfl
    | cons y r => rw [List.getLast?_cons_cons]; rfl
theorem reduced_ok {r : List Int} (hl : r.length < 1000000) (hg : (gcdL r).log2 < 9000) : m_reduced [.d (dIs r)] () = .ok (.d (dIs (redL r))) () := by
  have h0 := red_go r (dIs r) 0 .non
  unfold dIs at h0 ⊢
  by_cases h : 1 < gcdL r
  · have h1 : (1 : Int) < ((gcdL r : Nat) : Int) := by omega
    have hc : ∀ v2 : Sl, cGo (S := Unit) (bName 2) yes (eOp pyFdiv (eVar 2) (eVar 1)) [.w (.d (.list (r.map .int))), .w (.d (.int ((gcdL r : Nat) : Int))), .non] (r.map .int) () = .ok ((redL r).map .int) () := fun v2 => by
      unfold redL
      rw [if_pos h, List.map_map]
      refine cGo_mapF fun x _ => ⟨_, rfl, fun s => ?_⟩
      have hd := fdiv_big (i := x) (j := ((gcdL r : Nat) : Int)) (by omega) (by rw [Int.natAbs_natCast]; exact hg)
      simp! [hd, Function.comp]
    have hl' : (r.map PyData.int).length < 1000000 := by rw [List.length_map]; exact hl
    have h0' : fGo (S := Unit) (bName 2) (sAsg 1 (eP (lenIs 2 m_divisor) (aCons (eVar 2) (aCons (eVar 1) aNil)))) (r.map .int) [.w (.d (.list (r.map .int))), .w (.d (.int 0)), .non] () = .nx [.w (.d (.list (r.map .int))), .w (.d (.int ((gcdL r : Nat) : Int))), (match r.getLast? with | none => .non | some x => .w (.d (.int x)))] () := h0
    simp! [m_reduced, b_reduced, h0', h1, hc .non]
  · have h1 : ¬ (1 : Int) < ((gcdL r : Nat) : Int) := by omega
    have e : redL r = r := by unfold redL; rw [if_neg h]
    have h0' : fGo (S := Unit) (bName 2) (sAsg 1 (eP (lenIs 2 m_divisor) (aCons (eVar 2) (aCons (eVar 1) aNil)))) (r.map .int) [.w (.d (.list (r.map .int))), .w (.d (.int 0)), .non] () = .nx [.w (.d (.list (r.map .int))), .w (.d (.int ((gcdL r : Nat) : Int))), (match r.getLast? with | none => .non | some x => .w (.d (.int x)))] () := h0
    simp! [m_reduced, b_reduced, h0', h1, e]
/-- what divides them all is at most as large as they are -/
theorem gcd_bits {r : List Int} {K : Nat} (h : Bd K r) (hK : 0 < K) : (gcdL r).log2 < K := by
  have hd := (gcdF_dvd r 0).2
  by_cases hz : gcdL r = 0
  · rw [hz]; simpa using hK
  · have : ∃ x ∈ r, x ≠ 0 := by
      apply Classical.byContradiction
      intro hno
      have : 0 ∣ gcdL r := gcdF_great r 0 0 (Nat.dvd_zero 0) fun x hx => by
        have : x = 0 := Classical.byContradiction fun hne => hno ⟨x, hx, hne⟩
        rw [this]; exact Nat.dvd_refl 0
      exact hz (Nat.eq_zero_of_zero_dvd this)
    obtain ⟨x, hx, hne⟩ := this
    have h1 := Nat.le_of_dvd (by omega) (hd x hx)
    exact log_lt (Nat.lt_of_le_of_lt h1 (h x hx)) hK
theorem ix_row {r : List Int} {c : Nat} (h : c < r.length) : pyIx (dIs r) (.int (c : Nat)) = some (.int (gi r c)) := by
  have := gi_lt h
  exact (getI this).2
theorem cleared_ok {r p : List Int} {c K : Nat} (hl : r.length = p.length) (hc : c < r.length) (hs : r.length < 1000000) (hr : Bd K r) (hp : Bd K p) (hK : 0 < K) (hK2 : K ≤ 4000) : m_cleared [.d (dIs r), .d (dIs p), .d (.int (c : Nat))] () = .ok (.d (dIs (clrL r p c))) () := by
  have i1 := ix_row hc
  have i2 := ix_row (r := p) (c := c) (by omega)
  have bp : (gi p c).natAbs < 2 ^ K := hp _ (gi_mem (by omega))
  have br : (gi r c).natAbs < 2 ^ K := hr _ (gi_mem hc)
  by_cases h : gi r c = 0
  · have e : clrL r p c = r := by unfold clrL; rw [if_pos h]
    simp! [m_cleared, b_cleared, i1, be_t h, e]
  · have hmx : cGo (S := Unit) (bTup [5, 6]) yes (eOp pySub (eOp pyMul (eVar 6) (eVar 3)) (eOp pyMul (eOp pyIx (eVar 1) (eVar 5)) (eVar 4))) [.w (.d (dIs r)), .w (.d (dIs p)), .w (.d (.int (c : Nat))), .w (.d (.int (gi p c))), .w (.d (.int (gi r c))), .non, .non] (enD 0 (r.map .int)) () = .ok ((mixL r p c).map .int) () := by
      refine cGo_enum (by rw [List.length_map, List.length_map, mixL_len hl]) fun i x y hx hy => ?_
      rw [List.getElem?_map] at hx hy
      have hi : i < r.length := by
        rcases Nat.lt_or_ge i r.length with z | z
        · exact z
        · rw [List.getElem?_eq_none z] at hx; cases hx
      rw [gi_lt hi] at hx
      rw [gi_lt (by rw [mixL_len hl]; exact hi), mixL_gi hl hi] at hy
      cases hx
      cases hy
      refine ⟨_, rfl, fun _ => rfl, fun s => ?_⟩
      rw [Nat.zero_add]
      have i3 := ix_row (r := p) (c := i) (by omega)
      have m1 : pyMul (.int (gi r i)) (.int (gi p c)) = some (.int (gi r i * gi p c)) := mul_bits (hr _ (gi_mem hi)) bp hK hK (by omega)
      have m2 : pyMul (.int (gi p i)) (.int (gi r c)) = some (.int (gi p i * gi r c)) := mul_bits (hp _ (gi_mem (by omega))) br hK hK (by omega)
      simp! [i3, m1, m2]
    have e : clrL r p c = redL (mixL r p c) := by unfold clrL; rw [if_neg h]
    have hb : Bd (2 * K + 1) (mixL r p c) := fun x hx => by
      obtain ⟨j, hj, rfl⟩ := mem_gi hx
      rw [mixL_len hl] at hj
      rw [mixL_gi hl hj, Int.sub_eq_add_neg]
      refine natAbs_add_lt ?_ ?_
      · rw [Int.natAbs_mul, show 2 * K = K + K by omega]
        exact mul_lt_pow (hr _ (gi_mem hj)) bp
      · rw [Int.natAbs_neg, Int.natAbs_mul, show 2 * K = K + K by omega]
        exact mul_lt_pow (hp _ (gi_mem (by omega))) br
    have e2 := reduced_ok (r := mixL r p c) (by rw [mixL_len hl]; exact hs) (Nat.lt_of_lt_of_le (gcd_bits hb (by omega)) (by omega))
    have hl2 : (enD 0 (r.map PyData.int)).length < 1000000 := by rw [enD_len, List.length_map]; exact hs
    rw [e]
    unfold dIs at i1 i2 hmx e2 ⊢
    simp! [m_cleared, b_cleared, i1, i2, be_f h, hmx, e2]

-- needs: P_Lin
/-! ### which row leaves, a pivot -/
open SX
theorem at_neg {α : Type} {ds : List α} {k : Nat} {z : α} (hk : 0 < k) (hl : k ≤ ds.length) (h : ds[ds.length - k]? = some z) : atI ds (-(k : Int)) = some z := by
  unfold atI ixN
  rw [if_neg (by omega), if_pos (by omega), show (-(k : Int) + ds.length).toNat = ds.length - k by omega]
  exact h
theorem ix_last {r : List Int} {n : Nat} (hl : r.length = n + 1) : pyIx (dIs r) (.int (-1)) = some (.int (gi r n)) := by
  show atI (r.map PyData.int) (-1) = _
  refine at_neg (k := 1) (by decide) (by rw [List.length_map]; omega) ?_
  rw [List.length_map, List.getElem?_map, show r.length - 1 = n by omega, gi_lt (by omega)]
  rfl
theorem ix_last2 {r : List Int} {n : Nat} (hl : r.length = n + 2) : pyIx (dIs r) (.int (-2)) = some (.int (gi r n)) := by
  show atI (r.map PyData.int) (-2) = _
  refine at_neg (k := 2) (by decide) (by rw [List.length_map]; omega) ?_
  rw [List.length_map, List.getElem?_map, show r.length - 2 = n by omega, gi_lt (by omega)]
  rfl
theorem ix_rows {rows : List (List Int)} {k : Nat} (h : k < rows.length) : pyIx (dRows rows) (.int (k : Nat)) = some (dIs (rw' rows k)) := by
  show atI (rows.map dIs) _ = _
  refine at_nat (by omega) ?_
  rw [Int.toNat_natCast, List.getElem?_map, (rw_mem h).2]
  rfl
theorem ix_bas {b : List Nat} {k : Nat} (h : k < b.length) : pyIx (dNs b) (.int (k : Nat)) = some (.int ((b.getD k 0 : Nat) : Int)) := by
  show atI (b.map fun k => PyData.int ((k : Nat) : Int)) _ = _
  refine at_nat (by omega) ?_
  rw [Int.toNat_natCast, List.getElem?_map, List.getElem?_eq_getElem h, List.getD_eq_getElem?_getD, List.getElem?_eq_getElem h]
  rfl
def dOpt : Option Nat → PyData
  | none => .none
  | some k => .int ((k : Nat) : Int)
/-- all numbers have at most so many bits -/
structure StBd (K : Nat) (s : SX.St) : Prop where
  r : ∀ r ∈ s.rows, Bd K r
  g : Bd K s.goal
section
variable {s : SX.St} {m n1 K c : Nat}
theorem leav_turn (o : s.Ok m (n1 + 1)) (hb : StBd K s) (hK : 0 < K) (hK2 : K ≤ 4000) (hc : c ≤ n1) {k : Nat} (hk : k < m) (v4 v5 v6 : Sl) : ∃ u4 u5 u6 : Sl, turnK (S := Unit) (bTup [4, 5]) (sIf (eTest (eOp pyGt (eOp pyIx (eVar 5) (eVar 2)) (eC (.int 0)))) (sIf (eTest (eOp pyIs (eVar 3) (eC .none))) (sAsg 3 (eVar 4)) (sSeq (sAsg 6 (eOp pySub (eOp pyMul (eOp pyIx (eVar 5) (eUn pyNeg (eC (.int 1)))) (eOp pyIx (eOp pyIx (eVar 0) (eVar 3)) (eVar 2))) (eOp pyMul (eOp pyIx (eOp pyIx (eVar 0) (eVar 3)) (eUn pyNeg (eC (.int 1)))) (eOp pyIx (eVar 5) (eVar 2)))))
    (sIf (tOrT (eTest (eOp pyLt (eVar 6) (eC (.int 0)))) (tAndT (eTest (eOp pyEq (eVar 6) (eC (.int 0)))) (eTest (eOp pyLt (eOp pyIx (eVar 1) (eVar 4)) (eOp pyIx (eVar 1) (eVar 3)))))) (sAsg 3 (eVar 4)) sNext))) sNext) (.tuple [.int (k : Nat), dIs (rw' s.rows k)]) [.w (.d (dRows s.rows)), .w (.d (dNs s.basis)), .w (.d (.int (c : Nat))), .w (.d (dOpt (leavGo s n1 c k))), v4, v5, v6] () = .nx [.w (.d (dRows s.rows)), .w (.d (dNs s.basis)), .w (.d (.int (c : Nat))), .w (.d (dOpt (leavGo s n1 c (k + 1)))), u4, u5, u6] () := by
  have hkr : k < s.rows.length := by rw [o.rl]; exact hk
  have hll := o.el _ (rw_mem hkr).1
  have i1 := ix_row (r := rw' s.rows k) (c := c) (by omega)
  have i2 := ix_last (r := rw' s.rows k) hll
  have sp := leavGo_spec s n1 c k
  by_cases h : 0 < s.t.R k c
  · rw [leavGo]
    have h' : 0 < gi (rw' s.rows k) c := h
    cases e : leavGo s n1 c k with
    | none =>
      dsimp only
      rw [if_pos h]
      simp! [dOpt, i1, h']
      exact ⟨_, _, _, rfl⟩
    | some i =>
      rw [e] at sp
      obtain ⟨i3, i4, i5⟩ := sp
      have hir : i < s.rows.length := by rw [o.rl]; omega
      have hil := o.el _ (rw_mem hir).1
      have j1 := ix_rows hir
      have j2 := ix_row (r := rw' s.rows i) (c := c) (by omega)
      have j3 := ix_last (r := rw' s.rows i) hil
      have bk := hb.r _ (rw_mem hkr).1
      have bi := hb.r _ (rw_mem hir).1
      have m1 : pyMul (.int (gi (rw' s.rows k) n1)) (.int (gi (rw' s.rows i) c)) = some (.int (gi (rw' s.rows k) n1 * gi (rw' s.rows i) c)) := mul_bits (bk _ (gi_mem (by omega))) (bi _ (gi_mem (by omega))) hK hK (by omega)
      have m2 : pyMul (.int (gi (rw' s.rows i) n1)) (.int (gi (rw' s.rows k) c)) = some (.int (gi (rw' s.rows i) n1 * gi (rw' s.rows k) c)) := mul_bits (bi _ (gi_mem (by omega))) (bk _ (gi_mem (by omega))) hK hK (by omega)
      have b1 := ix_bas (b := s.basis) (k := k) (by rw [o.bl]; exact hk)
      have b2 := ix_bas (b := s.basis) (k := i) (by rw [o.bl]; omega)
      dsimp only
      rw [if_pos h]
      have eR1 : s.t.R k n1 = gi (rw' s.rows k) n1 := rfl
      have eR2 : s.t.R i n1 = gi (rw' s.rows i) n1 := rfl
      have eR3 : s.t.R k c = gi (rw' s.rows k) c := rfl
      have eR4 : s.t.R i c = gi (rw' s.rows i) c := rfl
      have eB1 : s.t.B k = s.basis.getD k 0 := rfl
      have eB2 : s.t.B i = s.basis.getD i 0 := rfl
      rw [eR1, eR2, eR3, eR4, eB1, eB2]
      generalize hgap : gi (rw' s.rows k) n1 * gi (rw' s.rows i) c - gi (rw' s.rows i) n1 * gi (rw' s.rows k) c = gap
      by_cases g1 : gap < 0
      · rw [if_pos (.inl g1)]
        simp! [dOpt, i1, h', i2, j1, j2, j3, m1, m2, hgap, g1]
        exact ⟨_, _, _, rfl⟩
      · by_cases g2 : gap = 0
        · by_cases g3 : s.basis.getD k 0 < s.basis.getD i 0
          · rw [if_pos (.inr ⟨g2, g3⟩)]
            have g3' : ((s.basis.getD k 0 : Nat) : Int) < ((s.basis.getD i 0 : Nat) : Int) := by omega
            simp! [dOpt, i1, h', i2, j1, j2, j3, m1, m2, hgap, g1, be_t g2, b1, b2, g3']
            exact ⟨_, _, _, rfl⟩
          · rw [if_neg (fun z => by rcases z with z | z; exact g1 z; exact g3 z.2)]
            have g3' : ¬ ((s.basis.getD k 0 : Nat) : Int) < ((s.basis.getD i 0 : Nat) : Int) := by omega
            simp! [dOpt, i1, h', i2, j1, j2, j3, m1, m2, hgap, g1, be_t g2, b1, b2, g3']
            exact ⟨_, _, _, rfl⟩
        · rw [if_neg (fun z => by rcases z with z | z; exact g1 z; exact g2 z.1)]
          simp! [dOpt, i1, h', i2, j1, j2, j3, m1, m2, hgap, g1, be_f g2]
          exact ⟨_, _, _, rfl⟩
  · have h' : ¬ 0 < gi (rw' s.rows k) c := h
    have e2 : leavGo s n1 c (k + 1) = leavGo s n1 c k := by
      rw [leavGo]
      cases leavGo s n1 c k with
      | none => exact if_neg h
      | some i => exact if_neg h
    rw [e2]
    simp! [i1, h']
    exact ⟨_, _, _, rfl⟩
theorem enD_at {ds : List PyData} : ∀ {k i : Nat} {d : PyData}, (enD k ds)[i]? = some d → ∃ x, ds[i]? = some x ∧ d = .tuple [.int ((k + i : Nat) : Int), x] := by
  induction ds with
  | nil => intro k i d h; simp [enD] at h
  | cons x r ih =>
    intro k i d h
    rw [enD] at h
    cases i with
    | zero => exact ⟨x, rfl, (Option.some.inj h).symm⟩
    | succ i =>
      obtain ⟨y, h1, h2⟩ := ih (k := k + 1) (i := i) (d := d) (by simpa using h)
      exact ⟨y, by simpa using h1, by rw [h2, show k + 1 + i = k + (i + 1) by omega]⟩
theorem leaving_ok (o : s.Ok m (n1 + 1)) (hb : StBd K s) (hK : 0 < K) (hK2 : K ≤ 4000) (hc : c ≤ n1) (hm : m < 1000000) : m_leaving [.d (dRows s.rows), .d (dNs s.basis), .d (.int (c : Nat))] () = .ok (.d (dOpt (leavGo s n1 c m))) () := by
  have key : ∃ v4 v5 v6 : Sl, fGo (S := Unit) (bTup [4, 5]) (sIf (eTest (eOp pyGt (eOp pyIx (eVar 5) (eVar 2)) (eC (.int 0)))) (sIf (eTest (eOp pyIs (eVar 3) (eC .none))) (sAsg 3 (eVar 4)) (sSeq (sAsg 6 (eOp pySub (eOp pyMul (eOp pyIx (eVar 5) (eUn pyNeg (eC (.int 1)))) (eOp pyIx (eOp pyIx (eVar 0) (eVar 3)) (eVar 2))) (eOp pyMul (eOp pyIx (eOp pyIx (eVar 0) (eVar 3)) (eUn pyNeg (eC (.int 1)))) (eOp pyIx (eVar 5) (eVar 2)))))
    (sIf (tOrT (eTest (eOp pyLt (eVar 6) (eC (.int 0)))) (tAndT (eTest (eOp pyEq (eVar 6) (eC (.int 0)))) (eTest (eOp pyLt (eOp pyIx (eVar 1) (eVar 4)) (eOp pyIx (eVar 1) (eVar 3)))))) (sAsg 3 (eVar 4)) sNext))) sNext) (enD 0 (s.rows.map dIs)) [.w (.d (dRows s.rows)), .w (.d (dNs s.basis)), .w (.d (.int (c : Nat))), .w (.d .none), .non, .non, .non] () = .nx [.w (.d (dRows s.rows)), .w (.d (dNs s.basis)), .w (.d (.int (c : Nat))), .w (.d (dOpt (leavGo s n1 c m))), v4, v5, v6] () := by
    refine loop_endI (P := fun r => ∃ v4 v5 v6 : Sl, r = .nx [.w (.d (dRows s.rows)), .w (.d (dNs s.basis)), .w (.d (.int (c : Nat))), .w (.d (dOpt (leavGo s n1 c m))), v4, v5, v6] ()) (fun i σ _ => ∃ v4 v5 v6 : Sl, σ = [.w (.d (dRows s.rows)), .w (.d (dNs s.basis)), .w (.d (.int (c : Nat))), .w (.d (dOpt (leavGo s n1 c i))), v4, v5, v6]) ⟨_, _, _, rfl⟩ ?_ ?_
    · rintro i d hd σ u ⟨v4, v5, v6, rfl⟩
      obtain ⟨x, h1, h2⟩ := enD_at hd
      rw [List.getElem?_map] at h1
      have hi : i < s.rows.length := by
        rcases Nat.lt_or_ge i s.rows.length with z | z
        · exact z
        · rw [List.getElem?_eq_none z] at h1; cases h1
      rw [(rw_mem hi).2] at h1
      cases h1
      subst h2
      rw [Nat.zero_add]
      obtain ⟨u4, u5, u6, e⟩ := leav_turn o hb hK hK2 hc (k := i) (by rw [← o.rl]; exact hi) v4 v5 v6
      rw [e]
      exact .mk ⟨_, _, _, rfl⟩
    · rintro σ u ⟨v4, v5, v6, rfl⟩
      rw [enD_len, List.length_map, o.rl]
      exact ⟨_, _, _, rfl⟩
  obtain ⟨v4, v5, v6, e⟩ := key
  unfold dRows at e ⊢
  simp! [m_leaving, b_leaving, e]
/-- a list with one item put in -/
theorem cut_set {α : Type} (p : α → PyData) {b : List α} {l : Nat} {x : α} (h : l < b.length) (hz : b.length < 500000) : ∃ a, pyAdd (.list (cutD (b.map p) none (some ((l : Nat) : Int)))) (.list [p x]) = some a ∧ pyAdd a (.list (cutD (b.map p) (some (((l : Nat) : Int) + 1)) none)) = some (.list ((b.set l x).map p)) := by
  have e1 : cutD (b.map p) none (some ((l : Nat) : Int)) = (b.take l).map p := by
    unfold cutD
    rw [HT.sIx_none, HT.sIx_nat, List.length_map, Nat.min_eq_left (by omega), List.drop_zero, Nat.sub_zero, List.map_take]
  have e2 : cutD (b.map p) (some (((l : Nat) : Int) + 1)) none = (b.drop (l + 1)).map p := by
    unfold cutD
    rw [HT.sIx_none, show ((l : Nat) : Int) + 1 = ((l + 1 : Nat) : Int) by omega, HT.sIx_nat, List.length_map, Nat.min_eq_left (by omega), ← List.map_drop, List.take_of_length_le (by rw [List.length_map, List.length_drop]; omega)]
  rw [e1, e2]
  refine ⟨_, o_addL (by simp; omega), ?_⟩
  rw [o_addL (by simp; omega), List.set_eq_take_append_cons_drop, if_pos h, List.map_append, List.map_cons, List.append_assoc]
  rfl
theorem pivoted_ok (o : s.Ok m (n1 + 1)) (hb : StBd K s) (hK : 0 < K) (hK2 : K ≤ 4000) (hc : c ≤ n1) (hm : m < 500000) (hn : n1 < 500000) {l : Nat} (hl : l < m) :
    m_pivoted [.d (dRows s.rows), .d (dNs s.basis), .d (dIs s.goal), .d (.int (l : Nat)), .d (.int (c : Nat))] () = .ok (.d (.tuple [dRows (pivL s l c).rows, dNs (pivL s l c).basis, dIs (pivL s l c).goal])) () := by
  have hlr : l < s.rows.length := by rw [o.rl]; exact hl
  have hll := o.el _ (rw_mem hlr).1
  have i1 := ix_rows hlr
  have hcomp : cGo (S := Unit) (bTup [7, 8]) yes (eIf (eTest (eOp pyEq (eVar 7) (eVar 3))) (eVar 8) (eP (lenIs 3 m_cleared) (aCons (eVar 8) (aCons (eVar 5) (aCons (eVar 4) aNil))))) [.w (.d (dRows s.rows)), .w (.d (dNs s.basis)), .w (.d (dIs s.goal)), .w (.d (.int (l : Nat))), .w (.d (.int (c : Nat))), .w (.d (dIs (rw' s.rows l))), .non, .non, .non] (enD 0 (s.rows.map dIs)) () = .ok ((pivL s l c).rows.map dIs) () := by
    refine cGo_enum (by rw [List.length_map, List.length_map]; unfold pivL; rw [List.length_mapIdx]) fun i x y hx hy => ?_
    rw [List.getElem?_map] at hx hy
    have hi : i < s.rows.length := by
      rcases Nat.lt_or_ge i s.rows.length with z | z
      · exact z
      · rw [List.getElem?_eq_none z] at hx; cases hx
    have hil := o.el _ (rw_mem hi).1
    have hip : i < (pivL s l c).rows.length := by unfold pivL; rw [List.length_mapIdx]; exact hi
    rw [(rw_mem hi).2] at hx
    rw [(rw_mem hip).2, pivL_row hi] at hy
    cases hx
    cases hy
    refine ⟨_, rfl, fun _ => rfl, fun u => ?_⟩
    rw [Nat.zero_add]
    by_cases e : i = l
    · subst e
      simp! [be_t (rfl : ((i : Nat) : Int) = ((i : Nat) : Int))]
    · have hcl := cleared_ok (r := rw' s.rows i) (p := rw' s.rows l) (c := c) (by rw [hil, hll]) (by omega) (by omega) (hb.r _ (rw_mem hi).1) (hb.r _ (rw_mem hlr).1) hK hK2
      simp! [be_f (show ((i : Nat) : Int) ≠ ((l : Nat) : Int) by omega), hcl, if_neg e]
  have hg := cleared_ok (r := s.goal) (p := rw' s.rows l) (c := c) (by rw [o.gl, hll]) (by rw [o.gl]; omega) (by rw [o.gl]; omega) hb.g (hb.r _ (rw_mem hlr).1) hK hK2
  obtain ⟨q, q1, q2⟩ := cut_set (fun k => PyData.int ((k : Nat) : Int)) (b := s.basis) (l := l) (x := c) (by rw [o.bl]; exact hl) (by rw [o.bl]; exact hm)
  have hlen : (enD 0 (s.rows.map dIs)).length < 1000000 := by rw [enD_len, List.length_map, o.rl]; omega
  have eb : (pivL s l c).basis = s.basis.set l c := rfl
  have eg : (pivL s l c).goal = clrL s.goal (rw' s.rows l) c := rfl
  rw [eb, eg]
  unfold dRows at i1
  unfold dRows dNs at hcomp ⊢
  simp! [m_pivoted, b_pivoted, i1, hcomp, hg, q1, q2]
end

-- needs: P_Lin2
/-! ### lowered, freed -/
open SX
theorem cGo_filter {S : Type} {α : Type} {b : PyData → List Sl → Option (List Sl)} {t : List Sl → S → Rs S Bool} {e : List Sl → S → Rs S W} {σ0 : List Sl} {p : α → PyData} {f : α → Bool} {g : α → PyData} : ∀ {xs : List α} {s : S}, (∀ x ∈ xs, ∃ σ1, b (p x) σ0 = some σ1 ∧ (∀ s, t σ1 s = .ok (f x) s) ∧ (f x = true → ∀ s, e σ1 s = .ok (.d (g x)) s)) → cGo b t e σ0 (xs.map p) s = .ok ((xs.filter f).map g) s
  | [], s, _ => rfl
  | d :: r, s, h => by
    obtain ⟨σ1, h1, h2, h3⟩ := h d List.mem_cons_self
    rw [List.map_cons, cGo, h1]
    dsimp only
    rw [h2]
    have ih := fun s => cGo_filter (s := s) fun x hx => h x (List.mem_cons_of_mem _ hx)
    cases hf : f d with
    | true =>
      dsimp only
      rw [h3 hf]
      dsimp only
      rw [ih, List.filter_cons_of_pos hf]
      rfl
    | false =>
      dsimp only
      rw [ih, List.filter_cons_of_neg (by rw [hf]; exact Bool.false_ne_true)]
theorem best_head (g : Nat → Int) : ∀ k, ((List.range k).filter fun j => decide (g j < 0)).head? = bestGo g k
  | 0 => rfl
  | k + 1 => by
    rw [List.range_succ, List.filter_append, List.head?_append, best_head g k, bestGo]
    cases bestGo g k with
    | some j => rfl
    | none =>
      by_cases h : g k < 0
      · rw [if_pos h, List.filter_cons_of_pos (by simpa using h)]; rfl
      · rw [if_neg h, List.filter_cons_of_neg (by simpa using h)]; rfl
theorem some_head (g : Nat → Int) : ∀ k, ((List.range k).filter fun j => !(g j == 0)).head? = someGo g k
  | 0 => rfl
  | k + 1 => by
    rw [List.range_succ, List.filter_append, List.head?_append, some_head g k, someGo]
    cases someGo g k with
    | some j => rfl
    | none =>
      by_cases h : g k = 0
      · rw [if_neg (fun z => z h), List.filter_cons_of_neg (by simpa using h)]; rfl
      · rw [if_pos h, List.filter_cons_of_pos (by simpa using h)]; rfl
theorem fo_ns (l : List Nat) : flatOk 1 (.list (l.map fun k => PyData.int ((k : Nat) : Int))) := fo_list (k := 0) (fo_map fun x _ => fo_int _)
theorem sh_nilL : SeqAt.shaped (.list []) = true := by decide +kernel
theorem eq_nil {l : List Nat} : pyEq (.list (l.map fun k => PyData.int ((k : Nat) : Int))) (.list []) = some (.bool l.isEmpty) := by
  refine o_eq (fo_sh (fo_ns l) (by decide)) sh_nilL ?_
  cases l <;> rfl
theorem ne_nil {l : List Nat} : pyNe (.list (l.map fun k => PyData.int ((k : Nat) : Int))) (.list []) = some (.bool (!l.isEmpty)) := by
  refine o_ne (fo_sh (fo_ns l) (by decide)) sh_nilL ?_
  cases l <;> rfl
theorem runL_mono {m n1 many : Nat} : ∀ {f g : Nat} {s : SX.St} {r : SX.St × Bool}, f ≤ g → runL m n1 many f s = some r → runL m n1 many g s = some r
  | 0, _, _, _, _, h => by cases h
  | f + 1, 0, _, _, hfg, _ => by omega
  | f + 1, g + 1, s, r, hfg, h => by
    rw [runL] at h ⊢
    cases hb : bestGo (gi s.goal) many with
    | none => rw [hb] at h; exact h
    | some c =>
      rw [hb] at h
      dsimp only at h ⊢
      cases hl : leavGo s n1 c m with
      | none => rw [hl] at h; exact h
      | some l =>
        rw [hl] at h
        dsimp only at h ⊢
        exact runL_mono (by omega) h
section
variable {m many K : Nat} {A : Nat → Nat → Int} {G : Nat → Int}
theorem low_go (hbd : ∀ s : SX.St, s.Ok m (many + m + 2) → SX.Inv m many A G s.t → StBd K s) (hK : 0 < K) (hK2 : K ≤ 4000) (hm : many + m ≤ 64) : ∀ (f : Nat) {s s' : SX.St} {b : Bool} (v4 v5 v6 : Sl), s.Ok m (many + m + 2) → SX.Inv m many A G s.t → runL m (many + m + 1) many f s = some (s', b) →
    wGo (S := Unit) (eTest (eC (.bool true))) (sSeq (sAsg 4 (eComp (iRange1 (aCons (eVar 3) aNil)) [5] (bName 5) (eTest (eOp pyLt (eOp pyIx (eVar 2) (eVar 5)) (eC (.int 0)))) (eVar 5)))
    (sSeq (sIf (eTest (eOp pyEq (eVar 4) (eLst aNil))) (sRet (eTup (aCons (eVar 0) (aCons (eVar 1) (aCons (eVar 2) (aCons (eC (.bool true)) aNil)))))) sNext)
    (sSeq (sAsg 6 (eP (lenIs 3 m_leaving) (aCons (eVar 0) (aCons (eVar 1) (aCons (eOp pyIx (eVar 4) (eC (.int 0))) aNil)))))
    (sSeq (sIf (eTest (eOp pyIs (eVar 6) (eC .none))) (sRet (eTup (aCons (eVar 0) (aCons (eVar 1) (aCons (eVar 2) (aCons (eC (.bool false)) aNil)))))) sNext)
    (sAsgT [0, 1, 2] (eP (lenIs 5 m_pivoted) (aCons (eVar 0) (aCons (eVar 1) (aCons (eVar 2) (aCons (eVar 6) (aCons (eOp pyIx (eVar 4) (eC (.int 0))) aNil))))))))))) f [.w (.d (dRows s.rows)), .w (.d (dNs s.basis)), .w (.d (dIs s.goal)), .w (.d (.int (many : Nat))), v4, v5, v6] () = .rt (.d (.tuple [dRows s'.rows, dNs s'.basis, dIs s'.goal, .bool b])) ()
  | 0, _, _, _, _, _, _, _, _, h => by cases h
  | f + 1, s, s', b, v4, v5, v6, o, I, h => by
    have hB := hbd s o I
    rw [wGo, sT_eK]
    have hcomp : cGo (S := Unit) (bName 5) (eTest (eOp pyLt (eOp pyIx (eVar 2) (eVar 5)) (eC (.int 0)))) (eVar 5) [.w (.d (dRows s.rows)), .w (.d (dNs s.basis)), .w (.d (dIs s.goal)), .w (.d (.int (many : Nat))), v4, .non, v6] (rgD 0 many) () = .ok (((List.range many).filter fun j => decide (gi s.goal j < 0)).map fun k => .int ((k : Nat) : Int)) () := by
      rw [rg_map]
      refine cGo_filter fun j hj => ⟨_, rfl, fun u => ?_, fun _ u => ?_⟩
      · have hj' := List.mem_range.mp hj
        have i1 := ix_row (r := s.goal) (c := j) (by rw [o.gl]; omega)
        simp! [i1]
      · simp! [hK]
    have hr1 : -1000000 ≤ ((many : Nat) : Int) ∧ ((many : Nat) : Int) ≤ 1000000 := by omega
    have hr2 : (rgD 0 many).length < 1000000 := by rw [rg_map]; simp; omega
    have hh := best_head (gi s.goal) many
    have bsp := bestGo_spec (gi s.goal) many
    rw [runL] at h
    generalize hbl : ((List.range many).filter fun j => decide (gi s.goal j < 0)) = bl at hcomp hh
    cases hb : bestGo (gi s.goal) many with
    | none =>
      rw [hb] at h hh
      cases h
      have : bl = [] := List.head?_eq_none_iff.mp hh
      subst this
      have e := eq_nil (l := [])
      simp! [Int.toNat_natCast, hcomp, e, List.map_nil, List.isEmpty_nil]
      rfl
    | some c =>
      rw [hb] at h hh bsp
      dsimp only at h bsp
      obtain ⟨r, hbl'⟩ : ∃ r, bl = c :: r := by
        cases bl with
        | nil => cases hh
        | cons x r => rw [List.head?_cons] at hh; cases hh; exact ⟨r, rfl⟩
      subst hbl'
      have e := eq_nil (l := c :: r)
      have i0 : pyIx (.list ((c :: r).map fun k => PyData.int ((k : Nat) : Int))) (.int 0) = some (.int ((c : Nat) : Int)) := at_nat (by decide) rfl
      have hlv := leaving_ok (n1 := many + m + 1) (c := c) o hB hK hK2 (by omega) (by omega)
      cases hl : leavGo s (many + m + 1) c m with
      | none =>
        rw [hl] at h hlv
        cases h
        simp! [Int.toNat_natCast, hcomp, e, List.isEmpty_cons, i0, hlv, dOpt]
      | some l =>
        rw [hl] at h hlv
        dsimp only at h
        obtain ⟨o1, I1, _⟩ := step_inv o I hb hl
        have hlm := (leav_ok I hl).1
        have hpv := pivoted_ok (n1 := many + m + 1) (c := c) o hB hK hK2 (by omega) (by omega) (by omega) hlm
        have ih := fun v4 v5 v6 => low_go hbd hK hK2 hm f v4 v5 v6 o1 I1 h
        simp! [Int.toNat_natCast, hcomp, e, List.isEmpty_cons, i0, hlv, dOpt, hpv, ih]
theorem lowered_ok (hbd : ∀ s : SX.St, s.Ok m (many + m + 2) → SX.Inv m many A G s.t → StBd K s) (hK : 0 < K) (hK2 : K ≤ 4000) (hm : many + m ≤ 64) {FU : Nat} (hF : 64 ^ m + 1 ≤ FU) {s : SX.St} (o : s.Ok m (many + m + 2)) (I : SX.Inv m many A G s.t) :
    ∃ s' b, runL m (many + m + 1) many FU s = some (s', b) ∧ m_lowered FU [.d (dRows s.rows), .d (dNs s.basis), .d (dIs s.goal), .d (.int (many : Nat))] () = .ok (.d (.tuple [dRows s'.rows, dNs s'.basis, dIs s'.goal, .bool b])) () := by
  obtain ⟨⟨s', b⟩, hr⟩ := run_ends o I hm
  have hr' := runL_mono hF hr
  refine ⟨s', b, hr', ?_⟩
  have e := low_go hbd hK hK2 hm FU .non .non .non o I hr'
  simp! [m_lowered, b_lowered]
  rw [sWhile, e]
  rfl
theorem neg_bd {K l : Nat} {s : SX.St} (h : StBd K s) (hl : l < s.rows.length) : StBd K (negL s l) := by
  refine ⟨fun r hr => ?_, h.g⟩
  unfold negL at hr
  dsimp only at hr
  rcases List.mem_or_eq_of_mem_set hr with z | z
  · exact h.r r z
  · rw [z]
    intro x hx
    obtain ⟨y, hy, rfl⟩ := List.mem_map.mp hx
    rw [Int.natAbs_neg]
    exact h.r _ (rw_mem hl).1 y hy
theorem free_turn (hbd : ∀ s : SX.St, s.Ok m (many + m + 2) → SX.Inv m many A G s.t → StBd K s) (hK : 0 < K) (hK2 : K ≤ 4000) (hm : many + m ≤ 64) {s : SX.St} {l : Nat} (hl : l < m) (F : Fr m many l A G s) (v4 v5 v6 v7 : Sl) :
    ∃ u4 u5 u6 u7 : Sl, turnK (S := Unit) (bName 4) (sSeq (sAsg 5 (eComp (iRange1 (aCons (eVar 3) aNil)) [6] (bName 6) (eTest (eOp pyNe (eOp pyIx (eOp pyIx (eVar 0) (eVar 4)) (eVar 6)) (eC (.int 0)))) (eVar 6)))
    (sIf (tAndT (eTest (eOp pyGe (eOp pyIx (eVar 1) (eVar 4)) (eVar 3))) (eTest (eOp pyNe (eVar 5) (eLst aNil)))) (sSeq (sIf (eTest (eOp pyLt (eOp pyIx (eOp pyIx (eVar 0) (eVar 4)) (eOp pyIx (eVar 5) (eC (.int 0)))) (eC (.int 0)))) (sAsg 0 (eOp pyAdd (eOp pyAdd (eSl (eVar 0) oNo (oPart (eVar 4))) (eLst (aCons (eComp (iOf (eOp pyIx (eVar 0) (eVar 4))) [7] (bName 7) yes (eUn pyNeg (eVar 7))) aNil))) (eSl (eVar 0) (oPart (eOp pyAdd (eVar 4) (eC (.int 1)))) oNo))) sNext)
    (sAsgT [0, 1, 2] (eP (lenIs 5 m_pivoted) (aCons (eVar 0) (aCons (eVar 1) (aCons (eVar 2) (aCons (eVar 4) (aCons (eOp pyIx (eVar 5) (eC (.int 0))) aNil)))))))) sNext)) (.int (l : Nat)) [.w (.d (dRows s.rows)), .w (.d (dNs s.basis)), .w (.d (dIs s.goal)), .w (.d (.int (many : Nat))), v4, v5, v6, v7] () = .nx [.w (.d (dRows (freeStep many s l).rows)), .w (.d (dNs (freeStep many s l).basis)), .w (.d (dIs (freeStep many s l).goal)), .w (.d (.int (many : Nat))), u4, u5, u6, u7] () := by
  have o := F.ok
  have I := F.inv
  have hlr : l < s.rows.length := by rw [o.rl]; exact hl
  have hll := o.el _ (rw_mem hlr).1
  have i1 := ix_rows hlr
  have b1 := ix_bas (b := s.basis) (k := l) (by rw [o.bl]; exact hl)
  have hcomp : cGo (S := Unit) (bName 6) (eTest (eOp pyNe (eOp pyIx (eOp pyIx (eVar 0) (eVar 4)) (eVar 6)) (eC (.int 0)))) (eVar 6) [.w (.d (dRows s.rows)), .w (.d (dNs s.basis)), .w (.d (dIs s.goal)), .w (.d (.int (many : Nat))), .w (.d (.int (l : Nat))), v5, .non, v7] (rgD 0 many) () = .ok (((List.range many).filter fun j => !(gi (rw' s.rows l) j == 0)).map fun k => .int ((k : Nat) : Int)) () := by
    rw [rg_map]
    refine cGo_filter fun j hj => ⟨_, rfl, fun u => ?_, fun _ u => ?_⟩
    · have hj' := List.mem_range.mp hj
      have i2 := ix_row (r := rw' s.rows l) (c := j) (by omega)
      simp! [i1, i2]
    · simp! [hK]
  have hr1 : -1000000 ≤ ((many : Nat) : Int) ∧ ((many : Nat) : Int) ≤ 1000000 := by omega
  have hr2 : (rgD 0 many).length < 1000000 := by rw [rg_map]; simp; omega
  have hh := some_head (gi (rw' s.rows l)) many
  have sp := someGo_spec (gi (rw' s.rows l)) many
  generalize hbl : ((List.range many).filter fun j => !(gi (rw' s.rows l) j == 0)) = bl at hcomp hh
  unfold freeStep
  by_cases hge : many ≤ s.basis.getD l 0
  · have hge' : ((many : Nat) : Int) ≤ ((s.basis.getD l 0 : Nat) : Int) := by omega
    cases hs : someGo (gi (rw' s.rows l)) many with
    | none =>
      rw [hs] at hh
      have : bl = [] := List.head?_eq_none_iff.mp hh
      subst this
      have e := ne_nil (l := [])
      simp! [Int.toNat_natCast, hcomp, b1, hge', e, List.map_nil, List.isEmpty_nil]
      exact ⟨_, _, _, _, rfl⟩
    | some c =>
      rw [hs] at hh sp
      dsimp only at sp ⊢
      rw [if_pos hge]
      obtain ⟨r, hbl'⟩ : ∃ r, bl = c :: r := by
        cases bl with
        | nil => cases hh
        | cons x r => rw [List.head?_cons] at hh; cases hh; exact ⟨r, rfl⟩
      subst hbl'
      have e := ne_nil (l := c :: r)
      have i0 : pyIx (.list ((c :: r).map fun k => PyData.int ((k : Nat) : Int))) (.int 0) = some (.int ((c : Nat) : Int)) := at_nat (by decide) rfl
      have i2 := ix_row (r := rw' s.rows l) (c := c) (by omega)
      have hz := F.la l hl hge
      by_cases hn : gi (rw' s.rows l) c < 0
      · rw [if_pos hn]
        obtain ⟨n1, n2, n3⟩ := neg_inv o I hl hz
        have o1 := negL_ok o hl
        have hpv := pivoted_ok (n1 := many + m + 1) (c := c) o1 (neg_bd (hbd s o I) hlr) hK hK2 (by omega) (by omega) (by omega) hl
        have hneg : ∀ v : Sl, cGo (S := Unit) (bName 7) yes (eUn pyNeg (eVar 7)) [.w (.d (dRows s.rows)), .w (.d (dNs s.basis)), .w (.d (dIs s.goal)), .w (.d (.int (many : Nat))), .w (.d (.int (l : Nat))), .w (.d (.list ((c :: r).map fun k => PyData.int ((k : Nat) : Int)))), v, .non] ((rw' s.rows l).map .int) () = .ok (((rw' s.rows l).map fun x => -x).map .int) () := fun v => by
          rw [List.map_map]
          exact cGo_mapF fun x _ => ⟨_, rfl, fun u => by simp! [Function.comp]⟩
        have hln : ((rw' s.rows l).map PyData.int).length < 1000000 := by rw [List.length_map, hll]; omega
        obtain ⟨q, q1, q2⟩ := cut_set dIs (b := s.rows) (l := l) (x := (rw' s.rows l).map fun x => -x) hlr (by rw [o.rl]; omega)
        have er : (negL s l).rows = s.rows.set l ((rw' s.rows l).map fun x => -x) := rfl
        have eb : (negL s l).basis = s.basis := rfl
        have eg : (negL s l).goal = s.goal := rfl
        rw [er, eb, eg] at hpv
        unfold dRows at i1 hpv
        have edi : dIs (rw' s.rows l) = .list ((rw' s.rows l).map .int) := rfl
        have edi2 : PyData.list (((rw' s.rows l).map fun x => -x).map .int) = dIs ((rw' s.rows l).map fun x => -x) := rfl
        unfold dRows at hneg hcomp
        rw [edi] at i1 i2
        have hneg' := hneg v6
        unfold dRows
        simp! [Int.toNat_natCast, hcomp, b1, hge', e, List.isEmpty_cons, i1, i0, i2, hn, hneg, edi2, q1, q2, hpv]
        exact ⟨_, _, _, _, rfl⟩
      · rw [if_neg hn]
        have hpv := pivoted_ok (n1 := many + m + 1) (c := c) o (hbd s o I) hK hK2 (by omega) (by omega) (by omega) hl
        simp! [Int.toNat_natCast, hcomp, b1, hge', e, List.isEmpty_cons, i1, i0, i2, hn, hpv]
        exact ⟨_, _, _, _, rfl⟩
  · have hge' : ¬ ((many : Nat) : Int) ≤ ((s.basis.getD l 0 : Nat) : Int) := by omega
    have e2 : (match someGo (gi (rw' s.rows l)) many with
      | none => s
      | some c => if many ≤ s.basis.getD l 0 then pivL (if gi (rw' s.rows l) c < 0 then negL s l else s) l c else s) = s := by
      cases someGo (gi (rw' s.rows l)) many with
      | none => rfl
      | some c => exact if_neg hge
    simp! [Int.toNat_natCast, hcomp, b1, hge']
    cases hs : someGo (gi (rw' s.rows l)) many with
    | none => exact ⟨_, _, _, _, rfl⟩
    | some c =>
      dsimp only
      rw [if_neg hge]
      exact ⟨_, _, _, _, rfl⟩
theorem freed_ok (hbd : ∀ s : SX.St, s.Ok m (many + m + 2) → SX.Inv m many A G s.t → StBd K s) (hK : 0 < K) (hK2 : K ≤ 4000) (hm : many + m ≤ 64) {s : SX.St} (F : Fr m many 0 A G s) :
    m_freed [.d (dRows s.rows), .d (dNs s.basis), .d (dIs s.goal), .d (.int (many : Nat))] () = .ok (.d (.tuple [dRows (freeGo many s m).rows, dNs (freeGo many s m).basis, dIs (freeGo many s m).goal])) () := by
  have hr1 : -1000000 ≤ ((m : Nat) : Int) ∧ ((m : Nat) : Int) ≤ 1000000 := by omega
  have hlen : (((s.rows.map dIs).length : Nat) : Int) = ((m : Nat) : Int) := by rw [List.length_map, F.ok.rl]
  unfold dRows
  simp! [m_freed, b_freed, hlen, Int.toNat_natCast]
  refine loop_seqI (P := fun r => defK r = _) (fun i σ _ => i ≤ m → ∃ v4 v5 v6 v7 : Sl, σ = [.w (.d (dRows (freeGo many s i).rows)), .w (.d (dNs (freeGo many s i).basis)), .w (.d (dIs (freeGo many s i).goal)), .w (.d (.int (many : Nat))), v4, v5, v6, v7]) (fun _ => ⟨_, _, _, _, rfl⟩) ?_ ?_
  · rintro i d hd σ u hσ
    rw [rg_map, List.getElem?_map] at hd
    have hi : i < m := by
      rcases Nat.lt_or_ge i m with z | z
      · exact z
      · rw [List.getElem?_eq_none (by rw [List.length_range]; exact z)] at hd; cases hd
    rw [List.getElem?_range hi] at hd
    cases hd
    obtain ⟨v4, v5, v6, v7, rfl⟩ := hσ (by omega)
    obtain ⟨u4, u5, u6, u7, e⟩ := free_turn hbd hK hK2 hm hi (free_go F i (by omega)) v4 v5 v6 v7
    rw [e]
    exact .mk fun _ => ⟨_, _, _, _, rfl⟩
  · rintro σ u hσ
    rw [rg_map, List.length_map, List.length_range] at hσ
    obtain ⟨v4, v5, v6, v7, rfl⟩ := hσ (Nat.le_refl m)
    simp! [hK]
    rfl
end

-- needs: P_Lin3
/-! ### how large the numbers get -/
open SX
/-- what is asked of a system: entries 0, 1, -1; right sides from 0 to 99 -/
structure Small (m many : Nat) (cols : List (List Int)) (right : List Int) : Prop where
  cl : cols.length = many
  rl : right.length = m
  m1 : 1 ≤ m
  m15 : m ≤ 15
  nm : many + m ≤ 64
  el : ∀ c ∈ cols, c.length = m
  ev : ∀ c ∈ cols, ∀ x ∈ c, -1 ≤ x ∧ x ≤ 1
  rv : ∀ x ∈ right, 0 ≤ x ∧ x ≤ 99
theorem row_bits {m : Nat} (h : m ≤ 15) : ((2 * m * 1 + 1) ^ (m - 1) : Nat) < 2 ^ 70 ∧ (m ≤ 10 → ((2 * m * 1 + 1) ^ (m - 1) : Nat) < 2 ^ 40) := by
  have : ∀ m : Fin 16, ((2 * m.val * 1 + 1) ^ (m.val - 1) : Nat) < 2 ^ 70 ∧ (m.val ≤ 10 → ((2 * m.val * 1 + 1) ^ (m.val - 1) : Nat) < 2 ^ 40) := by decide +kernel
  exact this ⟨m, by omega⟩
theorem goal_bits {m : Nat} (h : m ≤ 15) : ((2 * (m + 1) * 15 + 1) ^ m : Nat) < 2 ^ 134 := by
  have : ∀ m : Fin 16, ((2 * (m.val + 1) * 15 + 1) ^ m.val : Nat) < 2 ^ 134 := by decide +kernel
  exact this ⟨m, by omega⟩
section
variable {m many : Nat} {cols : List (List Int)} {right : List Int} {G : Nat → Int}
theorem Small.A1 (h : Small m many cols right) : ∀ i j, i < m → j < many + m → -((1 : Nat) : Int) ≤ (start cols right).t.R i j ∧ (start cols right).t.R i j ≤ ((1 : Nat) : Int) := by
  intro i j hi hj
  have sy := start_sys (cols := cols) (right := right)
  rw [h.rl, h.cl] at sy
  by_cases e : j < many
  · rw [sy.lo i j hi e]
    unfold colA
    have hm := (rw_mem (rows := cols) (k := j) (by rw [h.cl]; exact e)).1
    have := h.ev _ hm (gi (rw' cols j) i) (gi_mem (by rw [h.el _ hm]; exact hi))
    omega
  · by_cases e2 : i = j - many
    · have := sy.one i hi
      rw [show many + i = j by omega] at this
      rw [this]; decide
    · have := sy.zer i (j - many) hi (by omega) e2
      rw [show many + (j - many) = j by omega] at this
      rw [this]; decide
theorem Small.row_small (h : Small m many cols right) (o : Org m many (start cols right).t.R G) {s : SX.St} (I : SX.Inv m many (start cols right).t.R G s.t) {k : Nat} (hk : k < m) :
    ∀ i, i < m → -(((2 * m * 1 + 1) ^ (m - 1) : Nat) : Int) ≤ s.t.R k (many + i) ∧ s.t.R k (many + i) ≤ (((2 * m * 1 + 1) ^ (m - 1) : Nat) : Int) := SX.row_small o I hk h.A1
/-- an entry of a row -/
theorem Small.row_entry (h : Small m many cols right) (o : Org m many (start cols right).t.R G) {s : SX.St} (I : SX.Inv m many (start cols right).t.R G s.t) {k : Nat} (hk : k < m) {j : Nat} (hj : j < many + m + 2) :
    (s.t.R k j).natAbs < 2 ^ 81 ∧ (m ≤ 10 → (s.t.R k j).natAbs < 2 ^ 51) := by
  have sm := h.row_small o I hk
  have hc := I.rc k hk j hj
  have w := I.wf
  have sy := start_sys (cols := cols) (right := right)
  rw [h.rl, h.cl] at sy
  rw [w.rz k hk] at hc
  have hD : ∀ i, i < m → -(99 : Int) ≤ (start cols right).t.R i j ∧ (start cols right).t.R i j ≤ 99 := fun i hi => by
    by_cases e : j < many + m
    · have := h.A1 i j hi e; omega
    · by_cases e2 : j = many + m
      · rw [e2, sy.an i hi]; decide
      · rw [show j = many + m + 1 by omega, sy.ri i hi]
        have := h.rv _ (gi_mem (r := right) (j := i) (by rw [h.rl]; exact hi))
        omega
  have key := comb_entry (G := fun _ => 0) (Y := 0) (j := j) (v := s.t.R k) (T := (((2 * m * 1 + 1) ^ (m - 1) : Nat) : Int)) (D := 99) (by rw [hc]; simp) sm (by constructor <;> omega) hD (by decide) (by omega) (by decide)
  obtain ⟨b1, b2⟩ := row_bits h.m15
  have hm15 := h.m15
  generalize (2 * m * 1 + 1) ^ (m - 1) = T at *
  have e1 : ((m : Int) + 1) * (((T : Nat) : Int) * 99) ≤ 16 * (((T : Nat) : Int) * 99) := Int.mul_le_mul_of_nonneg_right (by omega) (by omega)
  refine ⟨?_, fun h10 => ?_⟩
  · omega
  · have := b2 h10
    have e2 : ((m : Int) + 1) * (((T : Nat) : Int) * 99) ≤ 11 * (((T : Nat) : Int) * 99) := Int.mul_le_mul_of_nonneg_right (by omega) (by omega)
    omega
/-- an entry of the goal -/
theorem Small.goal_entry (h : Small m many cols right) (o : Org m many (start cols right).t.R G) {s : SX.St} (I : SX.Inv m many (start cols right).t.R G s.t) (hG : ∀ j, j < many + m → -((15 : Nat) : Int) ≤ G j ∧ G j ≤ ((15 : Nat) : Int)) (hG2 : -(1485 : Int) ≤ G (many + m + 1) ∧ G (many + m + 1) ≤ 1485) {j : Nat} (hj : j < many + m + 2) :
    (s.t.g j).natAbs < 2 ^ 150 := by
  obtain ⟨g1, g2⟩ := SX.goal_small o I (C := 15) (fun i j hi hj => by have := h.A1 i j hi hj; omega) hG
  have hc := I.gc j hj
  have w := I.wf
  have sy := start_sys (cols := cols) (right := right)
  rw [h.rl, h.cl] at sy
  have hD : ∀ i, i < m → -(1485 : Int) ≤ (start cols right).t.R i j ∧ (start cols right).t.R i j ≤ 1485 := fun i hi => by
    by_cases e : j < many + m
    · have := h.A1 i j hi e; omega
    · by_cases e2 : j = many + m
      · rw [e2, sy.an i hi]; decide
      · rw [show j = many + m + 1 by omega, sy.ri i hi]
        have := h.rv _ (gi_mem (r := right) (j := i) (by rw [h.rl]; exact hi))
        omega
  have hGj : -(1485 : Int) ≤ G j ∧ G j ≤ 1485 := by
    by_cases e : j < many + m
    · have := hG j e; omega
    · by_cases e2 : j = many + m
      · rw [e2, o.gn]; decide
      · rw [show j = many + m + 1 by omega]; exact hG2
  have key := comb_entry (j := j) (v := s.t.g) (T := (((2 * (m + 1) * 15 + 1) ^ m : Nat) : Int)) (D := 1485) hc g2 ⟨by have := w.gp; omega, g1⟩ hD hGj (by omega) (by decide)
  have b1 := goal_bits h.m15
  have hm15 := h.m15
  generalize (2 * (m + 1) * 15 + 1) ^ m = T at *
  have e1 : ((m : Int) + 1) * (((T : Nat) : Int) * 1485) ≤ 16 * (((T : Nat) : Int) * 1485) := Int.mul_le_mul_of_nonneg_right (by omega) (by omega)
  omega
theorem Small.bd (h : Small m many cols right) (o : Org m many (start cols right).t.R G) (hG : ∀ j, j < many + m → -((15 : Nat) : Int) ≤ G j ∧ G j ≤ ((15 : Nat) : Int)) (hG2 : -(1485 : Int) ≤ G (many + m + 1) ∧ G (many + m + 1) ≤ 1485) :
    ∀ s : SX.St, s.Ok m (many + m + 2) → SX.Inv m many (start cols right).t.R G s.t → StBd 150 s := by
  intro s ok I
  refine ⟨fun r hr => ?_, fun x hx => ?_⟩
  · obtain ⟨k, hk⟩ := List.mem_iff_getElem?.mp hr
    have hkl := (List.getElem?_eq_some_iff.mp hk).1
    have e : r = rw' s.rows k := by
      have := (rw_mem hkl).2
      rw [hk] at this
      exact Option.some.inj this
    intro x hx
    rw [e] at hx
    obtain ⟨j, hj, rfl⟩ := mem_gi hx
    rw [ok.el _ (rw_mem hkl).1] at hj
    have := (h.row_entry o I (k := k) (by rw [← ok.rl]; exact hkl) hj).1
    exact Nat.lt_of_lt_of_le this (by decide)
  · obtain ⟨j, hj, rfl⟩ := mem_gi hx
    rw [ok.gl] at hj
    exact h.goal_entry o I hG hG2 hj
end

-- needs: P_Lin4
/-! ### least_sum -/
open SX
def xr (x : List Rat) (j : Nat) : Rat := x.getD j 0
/-- factors that add up to the right side -/
structure Feas (m many : Nat) (cols : List (List Int)) (right : List Int) (x : List Rat) : Prop where
  len : x.length = many
  pos : ∀ q ∈ x, 0 ≤ q
  sum : ∀ i, i < m → sm many (fun j => (colA cols i j : Rat) * xr x j) = (gi right i : Rat)
  sz : ∀ q ∈ x, Sz 81 q ∧ (m ≤ 10 → Sz 51 q)
  sup : ∃ bs : List Nat, bs.length = m ∧ ∀ j, j < many → xr x j ≠ 0 → j ∈ bs
inductive LpRes (m many : Nat) (cols : List (List Int)) (right : List Int) (costs : List Int) : PyData → Prop
  | none (p : List Int) (hl : p.length = m) (h1 : ∀ j, j < many → si m (fun i => gi p i * colA cols i j) ≤ 0) (h2 : 0 < si m (fun i => gi p i * gi right i)) : LpRes m many cols right costs (.tuple [.str "none", .none, .list [], dIs p])
  | opn (x : List Rat) (hx : Feas m many cols right x) (Y : Nat → Rat) (y1 : ∀ j, j < many → 0 ≤ Y j) (y2 : ∀ i, i < m → sm many (fun j => (colA cols i j : Rat) * Y j) = 0) (y3 : sm many (fun j => (gi costs j : Rat) * Y j) < 0) : LpRes m many cols right costs (.tuple [.str "open", .none, .list (x.map dR), .list []])
  | least (v : Rat) (x p : List Rat) (hx : Feas m many cols right x) (hv : sm many (fun j => (gi costs j : Rat) * xr x j) = v) (pl : p.length = m) (p1 : ∀ j, j < many → sm m (fun i => xr p i * (colA cols i j : Rat)) ≤ (gi costs j : Rat)) (p2 : sm m (fun i => xr p i * (gi right i : Rat)) = v) (sv : Sz 150 v) (sp : ∀ q ∈ p, Sz 150 q) : LpRes m many cols right costs (.tuple [.str "least", dR v, .list (x.map dR), .list (p.map dR)])
/-- a list or a tuple of integers -/
structure SeqI (f : List Int → PyData) : Prop where
  ix : ∀ (r : List Int) (k : Nat), k < r.length → pyIx (f r) (.int (k : Nat)) = some (.int (gi r k))
  sum : ∀ r : List Int, pySumA [f r] = some (.int r.sum)
  len : ∀ r : List Int, pyLen [f r] = some (.int r.length)
  lst : ∀ r : List Int, pyListOf [f r] = some (dIs r)
theorem seqI_L : SeqI dIs := ⟨fun r k h => ix_row h, fun r => o_sum dInts_ints, fun r => by unfold dIs; rw [o_lenL, List.length_map], fun r => rfl⟩
theorem seqI_T : SeqI (fun r => .tuple (r.map .int)) := ⟨fun r k h => (getI (gi_lt h)).1, fun r => o_sumT dInts_ints, fun r => by rw [o_lenT, List.length_map], fun r => rfl⟩
theorem red_bd {K : Nat} {r : List Int} (h : Bd K r) : Bd K (redL r) := by
  obtain ⟨c, hc, h1, _⟩ := redL_spec r
  intro x hx
  obtain ⟨j, hj, rfl⟩ := mem_gi hx
  rw [redL_len] at hj
  have h2 := h _ (gi_mem hj)
  rw [← h1 j hj, Int.natAbs_mul] at h2
  exact Nat.lt_of_le_of_lt (Nat.le_mul_of_pos_left _ (by omega)) h2
theorem clr_bd {K1 K2 c : Nat} {r p : List Int} (hl : r.length = p.length) (hc : c < r.length) (h1 : Bd K1 r) (h2 : Bd K2 p) : Bd (K1 + K2 + 1) (clrL r p c) := by
  unfold clrL
  split
  · exact fun x hx => Nat.lt_of_lt_of_le (h1 x hx) (pow_mono (by omega))
  · refine red_bd fun x hx => ?_
    obtain ⟨j, hj, rfl⟩ := mem_gi hx
    rw [mixL_len hl] at hj
    rw [mixL_gi hl hj, Int.sub_eq_add_neg]
    refine natAbs_add_lt ?_ ?_
    · rw [Int.natAbs_mul]
      exact mul_lt_pow (h1 _ (gi_mem hj)) (h2 _ (gi_mem (by omega)))
    · rw [Int.natAbs_neg, Int.natAbs_mul, Nat.add_comm K1]
      exact mul_lt_pow (h2 _ (gi_mem (by omega))) (h1 _ (gi_mem hc))
theorem Bd.mono {a b : Nat} {r : List Int} (h : Bd a r) (hab : a ≤ b) : Bd b r := fun x hx => Nat.lt_of_lt_of_le (h x hx) (pow_mono hab)
section
variable {m many : Nat} {cols : List (List Int)} {right : List Int} {col rt : List Int → PyData}
theorem put_in_comp {i : Nat} (hm : m < 1000000) {v7 v9 v10 v11 v12 v13 v14 v15 c0 c1 c2 c3 c5 : Sl} : cGo (S := Unit) (bName 8) yes (eIf (eTest (eOp pyEq (eVar 6) (eVar 8))) (eC (.int 1)) (eC (.int 0))) [c0, c1, c2, c3, .w (.d (.int (m : Nat))), c5, .w (.d (.int (i : Nat))), v7, .non, v9, v10, v11, v12, v13, v14, v15] (rgD 0 m) () = .ok (((List.range m).map fun k => if i = k then (1 : Int) else 0).map .int) () := by
  rw [rg_map, List.map_map]
  refine cGo_mapF fun k hk => ⟨_, rfl, fun u => ?_⟩
  by_cases e : i = k
  · simp! [be_t (show ((i : Nat) : Int) = ((k : Nat) : Int) by omega), Function.comp, if_pos e]
  · simp! [be_f (show ((i : Nat) : Int) ≠ ((k : Nat) : Int) by omega), Function.comp, if_neg e]
theorem col_comp (hS : SeqI col) (h : Small m many cols right) {i : Nat} (hi : i < m) {c0 c1 c2 c3 c4 c5 c7 c8 c10 c11 c12 c13 c14 c15 : Sl} : cGo (S := Unit) (bName 9) yes (eOp pyIx (eVar 9) (eVar 6)) [c0, c1, c2, c3, c4, c5, .w (.d (.int (i : Nat))), c7, c8, .non, c10, c11, c12, c13, c14, c15] (cols.map col) () = .ok ((cols.map fun c => gi c i).map .int) () := by
  rw [List.map_map]
  refine cGo_mapF fun c hc => ⟨_, rfl, fun u => ?_⟩
  have := hS.ix c i (by rw [h.el c hc]; exact hi)
  simp! [this, Function.comp]
theorem sum_comp (hS : SeqI col) {c0 c1 c2 c3 c4 c5 c6 c7 c8 c10 c11 c12 c13 c14 c15 : Sl} : cGo (S := Unit) (bName 9) yes (eUn pyNeg (eB pySumA (aCons (eVar 9) aNil))) [c0, c1, c2, c3, c4, c5, c6, c7, c8, .non, c10, c11, c12, c13, c14, c15] (cols.map col) () = .ok ((cols.map fun c => -c.sum).map .int) () := by
  rw [List.map_map]
  refine cGo_mapF fun c hc => ⟨_, rfl, fun u => ?_⟩
  simp! [hS.sum c, Function.comp]
/-- the rows are built -/
theorem rows_turn (hS : SeqI col) (hR : SeqI rt) (h : Small m many cols right) {i : Nat} (hi : i < m) {c2 v6 v7 v8 v9 : Sl} :
    ∃ u6 u7 : Sl, turnK (S := Unit) (bName 6) (sSeq (sAsg 7 (eComp (iRange1 (aCons (eVar 4) aNil)) [8] (bName 8) yes (eIf (eTest (eOp pyEq (eVar 6) (eVar 8))) (eC (.int 1)) (eC (.int 0)))))
    (sApp 5 (eOp pyAdd (eOp pyAdd (eComp (iOf (eVar 0)) [9] (bName 9) yes (eOp pyIx (eVar 9) (eVar 6))) (eVar 7)) (eLst (aCons (eC (.int 0)) (aCons (eOp pyIx (eVar 1) (eVar 6)) aNil)))))) (.int (i : Nat)) [.w (.d (.list (cols.map col))), .w (.d (rt right)), c2, .w (.d (.int (many : Nat))), .w (.d (.int (m : Nat))), .own (((List.range i).map (row0 cols right)).map dIs), v6, v7, v8, v9, .non, .non, .non, .non, .non, .non] () = .nx [.w (.d (.list (cols.map col))), .w (.d (rt right)), c2, .w (.d (.int (many : Nat))), .w (.d (.int (m : Nat))), .own (((List.range (i + 1)).map (row0 cols right)).map dIs), u6, u7, v8, v9, .non, .non, .non, .non, .non, .non] () := by
  have hm := h.m15
  have hn := h.nm
  have hr1 : -1000000 ≤ ((m : Nat) : Int) ∧ ((m : Nat) : Int) ≤ 1000000 := by omega
  have hr2 : (rgD 0 m).length < 1000000 := by rw [rg_map]; simp; omega
  have hcl := h.cl
  have hr3 : (cols.map col).length < 1000000 := by rw [List.length_map]; omega
  have i1 := hR.ix right i (by rw [h.rl]; exact hi)
  have hl5 : (((List.range i).map (row0 cols right)).map dIs).length < 1000000 := by simp; omega
  have p1 := fun c0 c1 c2 c3 c5 v7 v9 v10 v11 v12 v13 v14 v15 => put_in_comp (m := m) (i := i) (by omega) (c0 := c0) (c1 := c1) (c2 := c2) (c3 := c3) (c5 := c5) (v7 := v7) (v9 := v9) (v10 := v10) (v11 := v11) (v12 := v12) (v13 := v13) (v14 := v14) (v15 := v15)
  have p2 := fun c0 c1 c2 c3 c4 c5 c7 c8 c10 c11 c12 c13 c14 c15 => col_comp (cols := cols) hS h hi (c0 := c0) (c1 := c1) (c2 := c2) (c3 := c3) (c4 := c4) (c5 := c5) (c7 := c7) (c8 := c8) (c10 := c10) (c11 := c11) (c12 := c12) (c13 := c13) (c14 := c14) (c15 := c15)
  have a1 : pyAdd (.list ((cols.map fun c => gi c i).map .int)) (.list (((List.range m).map fun k => if i = k then (1 : Int) else 0).map .int)) = some (.list ((cols.map fun c => gi c i).map .int ++ ((List.range m).map fun k => if i = k then (1 : Int) else 0).map .int)) := o_addL (by simp; omega)
  have a2 : pyAdd (.list ((cols.map fun c => gi c i).map .int ++ ((List.range m).map fun k => if i = k then (1 : Int) else 0).map .int)) (.list [.int 0, .int (gi right i)]) = some (dIs (row0 cols right i)) := by
    rw [o_addL (by simp; omega)]
    unfold dIs row0
    rw [h.rl, List.map_append, List.map_append, List.append_assoc]
    rfl
  have e5 : ((List.range (i + 1)).map (row0 cols right)).map dIs = ((List.range i).map (row0 cols right)).map dIs ++ [dIs (row0 cols right i)] := by
    rw [List.range_succ, List.map_append, List.map_append]; rfl
  rw [e5]
  simp! [Int.toNat_natCast, p1, p2, i1, a1, a2]
  exact ⟨_, _, rfl⟩
/-- the second goal is cleared -/
theorem goal_bd (h : Small m many cols right) {G : Nat → Int} (o : Org m many (start cols right).t.R G) {s : SX.St} (ok : s.Ok m (many + m + 2)) (I : SX.Inv m many (start cols right).t.R G s.t) {g : List Int} (hg : g.length = many + m + 2) (hb : Bd 4 g) : ∀ k, k ≤ m → (goalGo s g k).length = many + m + 2 ∧ Bd (4 + 82 * k) (goalGo s g k)
  | 0, _ => ⟨hg, hb⟩
  | k + 1, hk => by
    obtain ⟨h1, h2⟩ := goal_bd h o ok I hg hb k (by omega)
    have hkm : k < m := by omega
    have hkr : k < s.rows.length := by rw [ok.rl]; exact hkm
    have hll := ok.el _ (rw_mem hkr).1
    have hrb : Bd 81 (rw' s.rows k) := fun x hx => by
      obtain ⟨j, hj, rfl⟩ := mem_gi hx
      rw [hll] at hj
      exact (h.row_entry o I hkm hj).1
    rw [goalGo]
    refine ⟨by rw [clrL_len (by rw [h1, hll])]; exact h1, ?_⟩
    refine (clr_bd (by rw [h1, hll]) (by rw [h1]; have := I.wf.bl k hkm; have e : s.t.B k = s.basis.getD k 0 := rfl; omega) h2 hrb).mono (by omega)
end

-- needs: P_Lin5
/-! ### least_sum, put together -/
open SX
theorem div_cast (x y : Int) : Rat.divInt x y = (x : Rat) / (y : Rat) := Rat.divInt_eq_div x y
section
variable {m many : Nat} {cols : List (List Int)} {right costs : List Int} {col rt ct : List Int → PyData}
theorem Small.gl1 (h : Small m many cols right) : Gl m many (c1 m (colA cols)) (-si m (gi right)) (start cols right).t.g := by
  have := start_gl (cols := cols) (right := right) (by rw [h.rl]; exact h.el)
  rwa [h.rl, h.cl] at this
theorem Small.sys (h : Small m many cols right) : Sys m many (colA cols) (gi right) (start cols right).t.R := by
  have := start_sys (cols := cols) (right := right)
  rwa [h.rl, h.cl] at this
theorem Small.ok0 (h : Small m many cols right) : (start cols right).Ok m (many + m + 2) := by
  have := start_ok (cols := cols) (right := right)
  rwa [h.rl, h.cl] at this
theorem Small.inv0 (h : Small m many cols right) : SX.Inv m many (start cols right).t.R (start cols right).t.g (start cols right).t := by
  have := start_inv (cols := cols) (right := right) (by rw [h.rl]; exact h.el) (fun x hx => (h.rv x hx).1)
  rwa [h.rl, h.cl] at this
theorem si_le {f : Nat → Int} {C : Int} {n : Nat} (h : ∀ j, j < n → -C ≤ f j ∧ f j ≤ C) (hn : n ≤ 15) (hC : 0 ≤ C) : -(15 * C) ≤ si n f ∧ si n f ≤ 15 * C := by
  have h1 := si_abs h
  have h2 : (n : Int) * C ≤ 15 * C := Int.mul_le_mul_of_nonneg_right (by omega) hC
  omega
theorem Small.g1 (h : Small m many cols right) : (∀ j, j < many + m → -((15 : Nat) : Int) ≤ (start cols right).t.g j ∧ (start cols right).t.g j ≤ ((15 : Nat) : Int)) ∧ (-(1485 : Int) ≤ (start cols right).t.g (many + m + 1) ∧ (start cols right).t.g (many + m + 1) ≤ 1485) := by
  have g := h.gl1
  refine ⟨fun j hj => ?_, ?_⟩
  · by_cases e : j < many
    · rw [g.lo j e]
      unfold c1
      have := si_le (C := 1) (n := m) (f := fun i => colA cols i j) (fun i hi => by
        have hm := (rw_mem (rows := cols) (k := j) (by rw [h.cl]; exact e)).1
        exact h.ev _ hm _ (gi_mem (by rw [h.el _ hm]; exact hi))) h.m15 (by decide)
      omega
    · have := g.gz (j - many) (by omega)
      rw [show many + (j - many) = j by omega] at this
      rw [this]; decide
  · rw [g.la]
    have := si_le (C := 99) (n := m) (f := gi right) (fun i hi => by
      have := h.rv _ (gi_mem (r := right) (j := i) (by rw [h.rl]; exact hi))
      omega) h.m15 (by decide)
    omega
/-- the factors are told -/
theorem fac_turn (h : Small m many cols right) {G : Nat → Int} (og : Org m many (start cols right).t.R G) {s : SX.St} (ok : s.Ok m (many + m + 2)) (I : SX.Inv m many (start cols right).t.R G s.t) {i : Nat} (hi : i < m) {fs : List Rat} (hf : fs.length = many) {c0 c1 c2 c4 c6 c7 c8 c10 c11 c12 c15 v9 v13 : Sl} :
    ∃ u9 u13 : Sl, turnK (S := Unit) (bTup [13, 9]) (sIf (eTest (eOp pyLt (eVar 9) (eVar 3))) (sSetO 14 (eVar 9) (eP (lenIs 2 m_lowest) (aCons (eOp pyIx (eIxO 5 (eVar 13)) (eUn pyNeg (eC (.int 1)))) (aCons (eOp pyIx (eIxO 5 (eVar 13)) (eVar 9)) aNil)))) sNext) (.tuple [.int (i : Nat), .int ((s.basis.getD i 0 : Nat) : Int)]) [c0, c1, c2, .w (.d (.int (many : Nat))), c4, .w (.d (dRows s.rows)), c6, c7, c8, v9, c10, c11, c12, v13, .own (fs.map dR), c15] () = .nx [c0, c1, c2, .w (.d (.int (many : Nat))), c4, .w (.d (dRows s.rows)), c6, c7, c8, u9, c10, c11, c12, u13, .own ((if s.t.B i < many then fs.set (s.t.B i) (xs m many s.t (s.t.B i)) else fs).map dR), c15] () := by
  have hir : i < s.rows.length := by rw [ok.rl]; exact hi
  have hil := ok.el _ (rw_mem hir).1
  have i1 := ix_rows hir
  have i2 := ix_last (r := rw' s.rows i) (n := many + m + 1) hil
  have eB : s.t.B i = s.basis.getD i 0 := rfl
  have hbl := I.wf.bl i hi
  rw [eB] at hbl ⊢
  have i3 := ix_row (r := rw' s.rows i) (c := s.basis.getD i 0) (by omega)
  by_cases e : s.basis.getD i 0 < many
  · rw [if_pos e]
    have hbp : 0 < gi (rw' s.rows i) (s.basis.getD i 0) := I.wf.bp i hi
    have hen : (gi (rw' s.rows i) (s.basis.getD i 0)).natAbs < 2 ^ 81 := (h.row_entry og I hi (j := s.basis.getD i 0) (by omega)).1
    have lo := lowest_ok (t := gi (rw' s.rows i) (many + m + 1)) hbp hen (by decide)
    have ex : Rat.divInt (gi (rw' s.rows i) (many + m + 1)) (gi (rw' s.rows i) (s.basis.getD i 0)) = xs m many s.t (s.basis.getD i 0) := by
      rw [div_cast]
      exact (xs_at I.wf hi).symm
    rw [ex] at lo
    have e' : ((s.basis.getD i 0 : Nat) : Int) < ((many : Nat) : Int) := by omega
    have hlt : ((s.basis.getD i 0 : Nat) : Int) < (((fs.map dR).length : Nat) : Int) := by rw [List.length_map, hf]; omega
    have h0 : (0 : Int) ≤ ((s.basis.getD i 0 : Nat) : Int) := by omega
    simp! [e', i1, i2, i3, lo]
    rw [Int.toNat_natCast, ← List.map_set]
    exact ⟨_, _, rfl⟩
  · rw [if_neg e]
    have e' : ¬ ((s.basis.getD i 0 : Nat) : Int) < ((many : Nat) : Int) := by omega
    simp! [e']
    exact ⟨_, _, rfl⟩
noncomputable def fxs (m many : Nat) (t : SX.T) : Nat → List Rat
  | 0 => List.replicate many 0
  | i + 1 => if t.B i < many then (fxs m many t i).set (t.B i) (xs m many t (t.B i)) else fxs m many t i
theorem fxs_len {t : SX.T} : ∀ {i : Nat}, (fxs m many t i).length = many
  | 0 => List.length_replicate
  | i + 1 => by
    rw [fxs]
    split
    · rw [List.length_set]; exact fxs_len
    · exact fxs_len
theorem fxs_at {t : SX.T} : ∀ (i : Nat) {j : Nat}, j < many → (xr (fxs m many t i) j = xs m many t j ∨ (xr (fxs m many t i) j = 0 ∧ ∀ k, k < i → t.B k ≠ j))
  | 0, j, hj => .inr ⟨by unfold xr fxs; rw [List.getD_eq_getElem?_getD, List.getElem?_replicate_of_lt hj]; rfl, fun k hk => absurd hk (Nat.not_lt_zero _)⟩
  | i + 1, j, hj => by
    have ih := fxs_at (t := t) i hj
    rw [fxs]
    by_cases e : t.B i < many
    · rw [if_pos e]
      by_cases e2 : t.B i = j
      · left
        unfold xr
        rw [e2, List.getD_eq_getElem?_getD, List.getElem?_set_self (by rw [fxs_len]; exact hj)]
        rfl
      · have : xr ((fxs m many t i).set (t.B i) (xs m many t (t.B i))) j = xr (fxs m many t i) j := by
          unfold xr
          rw [List.getD_eq_getElem?_getD, List.getElem?_set_ne e2, ← List.getD_eq_getElem?_getD]
        rw [this]
        rcases ih with q | ⟨q1, q2⟩
        · exact .inl q
        · refine .inr ⟨q1, fun k hk => ?_⟩
          by_cases ek : k = i
          · rw [ek]; exact e2
          · exact q2 k (by omega)
    · rw [if_neg e]
      rcases ih with q | ⟨q1, q2⟩
      · exact .inl q
      · refine .inr ⟨q1, fun k hk => ?_⟩
        by_cases ek : k = i
        · rw [ek]; omega
        · exact q2 k (by omega)
theorem fxs_xs {t : SX.T} {j : Nat} (hj : j < many) : xr (fxs m many t m) j = xs m many t j := by
  rcases fxs_at (t := t) m hj with q | ⟨q1, q2⟩
  · exact q
  · rw [q1, xs_not hj q2]
theorem mem_xr {x : List Rat} {q : Rat} (h : q ∈ x) : ∃ j, j < x.length ∧ q = xr x j := by
  obtain ⟨j, hj⟩ := List.mem_iff_getElem?.mp h
  refine ⟨j, (List.getElem?_eq_some_iff.mp hj).1, ?_⟩
  unfold xr
  rw [List.getD_eq_getElem?_getD, hj]
  rfl
theorem feas_of (h : Small m many cols right) {G : Nat → Int} {c : Nat → Int} (g : Gl m many c 0 G) {s : SX.St} (ok : s.Ok m (many + m + 2)) (I : SX.Inv m many (start cols right).t.R G s.t) (F : Freed m many s.t) : Feas m many cols right (fxs m many s.t m) := by
  obtain ⟨s1, s2, s3⟩ := sol_ok h.sys g I F
  have og := h.sys.org g
  refine ⟨fxs_len, fun q hq => ?_, fun i hi => ?_, fun q hq => ?_, ⟨(List.range m).map s.t.B, by simp, fun j hj hne => ?_⟩⟩
  · obtain ⟨j, hj, rfl⟩ := mem_xr hq
    rw [fxs_len] at hj
    rw [fxs_xs hj]
    exact s1 j hj
  · rw [← s2 i hi]
    exact sm_congr fun j hj => by rw [fxs_xs hj]
  · obtain ⟨j, hj, rfl⟩ := mem_xr hq
    rw [fxs_len] at hj
    rw [fxs_xs hj]
    by_cases e : ∃ k, k < m ∧ s.t.B k = j
    · obtain ⟨k, hk, rfl⟩ := e
      rw [xs_at I.wf hk, ← div_cast]
      have e1 := h.row_entry og I hk (j := many + m + 1) (by omega)
      have e2 := h.row_entry og I hk (j := s.t.B k) (by omega)
      exact ⟨Sz.divInt (I.wf.bp k hk) e1.1 e2.1, fun h10 => Sz.divInt (I.wf.bp k hk) (e1.2 h10) (e2.2 h10)⟩
    · rw [xs_not hj fun k hk z => e ⟨k, hk, z⟩]
      exact ⟨⟨by decide, by decide⟩, fun _ => ⟨by decide, by decide⟩⟩
  · rw [fxs_xs hj] at hne
    apply Classical.byContradiction
    intro hno
    refine hne (xs_not hj fun k hk z => hno ?_)
    exact List.mem_map.mpr ⟨k, List.mem_range.mpr hk, z⟩
end

-- needs: P_Lin6
/-! ### what least_sum tells -/
open SX
section
variable {m many : Nat} {cols : List (List Int)} {right costs : List Int} {col rt ct : List Int → PyData}
theorem si_scale {c : Int} {f g : Nat → Int} : ∀ {n : Nat}, (∀ j, j < n → c * f j = g j) → c * si n f = si n g
  | 0, _ => by simp [si]
  | n + 1, h => by rw [si, si, Int.mul_add, si_scale (n := n) fun j hj => h j (by omega), h n (by omega)]
theorem least_sum_ok (hS : SeqI col) (hR : SeqI rt) (hC : SeqI ct) (h : Small m many cols right) (hc : costs.length = many) (hcv : ∀ x ∈ costs, -9 ≤ x ∧ x ≤ 9) {FU : Nat} (hF : 64 ^ 15 + 1 ≤ FU) :
    ∃ res, m_least_sum FU [.d (.list (cols.map col)), .d (rt right), .d (ct costs)] () = .ok (.d res) () ∧ LpRes m many cols right costs res := by
  have hm := h.m15
  have hn := h.nm
  have hcl := h.cl
  have hrl := h.rl
  have hFm : 64 ^ m + 1 ≤ FU := by
    have := Nat.pow_le_pow_right (n := 64) (by decide) hm
    omega
  have sy := h.sys
  have g1 := h.gl1
  obtain ⟨gb1, gb2⟩ := h.g1
  obtain ⟨s1, b1, r1, e1⟩ := lowered_ok (h.bd (sy.org g1) gb1 gb2) (by decide) (by decide) hn hFm h.ok0 h.inv0
  obtain ⟨ok1, I1, up1, dn1⟩ := run_end _ h.ok0 h.inv0 r1
  have hb1 : b1 = true := by
    cases b1 with
    | true => rfl
    | false =>
      obtain ⟨c, c1, c2, c3⟩ := dn1 rfl
      exact (first_bound sy g1 I1 c1 c2 c3).elim
  subst hb1
  -- the start, written out
  have es : (start cols right).rows = (List.range m).map (row0 cols right) := by unfold SX.start; rw [hrl]
  have eb : (start cols right).basis = (List.range m).map (many + ·) := by unfold SX.start; rw [hrl, hcl]
  have eg : (start cols right).goal = cols.map (fun c => -c.sum) ++ (List.replicate m 0 ++ [1, -right.sum]) := by unfold SX.start; rw [hrl]
  rw [es, eb, eg] at e1
  have hr1 : -1000000 ≤ ((m : Nat) : Int) ∧ ((m : Nat) : Int) ≤ 1000000 := by omega
  have hr2 : (rgD 0 m).length < 1000000 := by rw [rg_map]; simp; omega
  have hr3 : (cols.map col).length < 1000000 := by rw [List.length_map]; omega
  have hlc : (((cols.map col).length : Nat) : Int) = ((many : Nat) : Int) := by rw [List.length_map, hcl]
  have hlr := hR.len right
  rw [hrl] at hlr
  have hbas : ∀ c0 c1 c2 c4 c5 c7 c8 c9 c10 c11 c12 c13 c14 c15 : Sl, cGo (S := Unit) (bName 6) yes (eOp pyAdd (eVar 3) (eVar 6)) [c0, c1, c2, .w (.d (.int (many : Nat))), c4, c5, .non, c7, c8, c9, c10, c11, c12, c13, c14, c15] (rgD 0 m) () = .ok (((List.range m).map (many + ·)).map fun k => .int ((k : Nat) : Int)) () := by
    intros
    rw [rg_map, List.map_map]
    refine cGo_mapF fun k _ => ⟨_, rfl, fun u => ?_⟩
    simp! [Function.comp, Int.natCast_add]
  have hsum := fun c0 c1 c2 c3 c4 c5 c6 c7 c8 c10 c11 c12 c13 c14 c15 => sum_comp (cols := cols) hS (c0 := c0) (c1 := c1) (c2 := c2) (c3 := c3) (c4 := c4) (c5 := c5) (c6 := c6) (c7 := c7) (c8 := c8) (c10 := c10) (c11 := c11) (c12 := c12) (c13 := c13) (c14 := c14) (c15 := c15)
  have hmul : pyMul (.list [.int 0]) (.int ((m : Nat) : Int)) = some (.list ((List.replicate m (0 : Int)).map .int)) := by
    show (if _ then _ else _) = _
    rw [if_pos ⟨by omega, by omega, by decide⟩, Int.toNat_natCast, flat_zero]
  have ha1 : pyAdd (.list ((cols.map fun c => -c.sum).map .int)) (.list ((List.replicate m (0 : Int)).map .int)) = some (.list ((cols.map fun c => -c.sum).map .int ++ (List.replicate m (0 : Int)).map .int)) := o_addL (by simp; omega)
  have ha2 : pyAdd (.list ((cols.map fun c => -c.sum).map .int ++ (List.replicate m (0 : Int)).map .int)) (.list [.int 1, .int (-right.sum)]) = some (dIs (cols.map (fun c => -c.sum) ++ (List.replicate m 0 ++ [1, -right.sum]))) := by
    rw [o_addL (by simp; omega)]
    unfold dIs
    rw [List.map_append, List.map_append, List.append_assoc]
    rfl
  have il := ix_last (r := s1.goal) (n := many + m + 1) ok1.gl
  have il2 := ix_last2 (r := s1.goal) (n := many + m) ok1.gl
  -- what is asked of the end
  have key : ∀ r : Rs Unit W, (∃ res, r = .ok (.d res) () ∧ LpRes m many cols right costs res) → ∃ res, r = .ok (.d res) () ∧ LpRes m many cols right costs res := fun _ h => h
  simp! [m_least_sum, b_least_sum, hlc, hlr, Int.toNat_natCast]
  refine loop_seqI (P := fun r => ∃ res, defK r = .ok (.d res) () ∧ LpRes m many cols right costs res) (fun i σ _ => i ≤ m → ∃ v6 v7 v8 v9 : Sl, σ = [.w (.d (.list (cols.map col))), .w (.d (rt right)), .w (.d (ct costs)), .w (.d (.int (many : Nat))), .w (.d (.int (m : Nat))), .own (((List.range i).map (row0 cols right)).map dIs), v6, v7, v8, v9, .non, .non, .non, .non, .non, .non]) (fun _ => ⟨_, _, _, _, rfl⟩) ?_ ?_
  · rintro i d hd σ u hσ
    rw [rg_map, List.getElem?_map] at hd
    have hi : i < m := by
      rcases Nat.lt_or_ge i m with z | z
      · exact z
      · rw [List.getElem?_eq_none (by rw [List.length_range]; exact z)] at hd; cases hd
    rw [List.getElem?_range hi] at hd
    cases hd
    obtain ⟨v6, v7, v8, v9, rfl⟩ := hσ (by omega)
    obtain ⟨u6, u7, e⟩ := rows_turn hS hR h hi (c2 := .w (.d (ct costs))) (v6 := v6) (v7 := v7) (v8 := v8) (v9 := v9)
    rw [e]
    exact .mk fun _ => ⟨_, _, _, _, rfl⟩
  rintro σ u hσ
  rw [rg_map, List.length_map, List.length_range] at hσ
  obtain ⟨v6, v7, v8, v9, rfl⟩ := hσ (Nat.le_refl m)
  have eR : PyData.list (((List.range m).map (row0 cols right)).map dIs) = dRows ((List.range m).map (row0 cols right)) := rfl
  have eN : ∀ l : List Nat, PyData.list (l.map fun k => PyData.int ((k : Nat) : Int)) = dNs l := fun _ => rfl
  simp! [Int.toNat_natCast, hbas, hsum, hmul, ha1, ha2, hR.sum right, eR, eN, e1, il]
  by_cases hneg : gi s1.goal (many + m + 1) < 0
  · -- none
    have hcomp : ∀ c0 c1 c2 c4 c5 c7 c8 c9 c10 c12 c13 c14 c15 : Sl, cGo (S := Unit) (bName 6) yes (eOp pySub (eOp pyIx (eVar 11) (eUn pyNeg (eC (.int 2)))) (eOp pyIx (eVar 11) (eOp pyAdd (eVar 3) (eVar 6)))) [c0, c1, c2, .w (.d (.int (many : Nat))), c4, c5, .non, c7, c8, c9, c10, .w (.d (dIs s1.goal)), c12, c13, c14, c15] (rgD 0 m) () = .ok (((List.range m).map fun k => gi s1.goal (many + m) - gi s1.goal (many + k)).map .int) () := by
      intros
      rw [rg_map, List.map_map]
      refine cGo_mapF fun k hk => ⟨_, rfl, fun u => ?_⟩
      have i3 := ix_row (r := s1.goal) (c := many + k) (by rw [ok1.gl]; have := List.mem_range.mp hk; omega)
      rw [Int.natCast_add] at i3
      simp! [il2, i3, Function.comp]
    have hbd := h.bd (sy.org g1) gb1 gb2 s1 ok1 I1
    have hvb : Bd 151 ((List.range m).map fun k => gi s1.goal (many + m) - gi s1.goal (many + k)) := fun x hx => by
      obtain ⟨k, hk, rfl⟩ := List.mem_map.mp hx
      have hk' := List.mem_range.mp hk
      rw [Int.sub_eq_add_neg]
      refine natAbs_add_lt (hbd.g _ (gi_mem (by rw [ok1.gl]; omega))) ?_
      rw [Int.natAbs_neg]
      exact hbd.g _ (gi_mem (by rw [ok1.gl]; omega))
    have hred := reduced_ok (r := (List.range m).map fun k => gi s1.goal (many + m) - gi s1.goal (many + k)) (by simp; omega) (Nat.lt_of_lt_of_le (gcd_bits hvb (by decide)) (by decide))
    have edi : PyData.list (((List.range m).map fun k => gi s1.goal (many + m) - gi s1.goal (many + k)).map .int) = dIs ((List.range m).map fun k => gi s1.goal (many + m) - gi s1.goal (many + k)) := rfl
    simp! [hneg, Int.toNat_natCast, hcomp, edi, hred]
    refine ⟨_, rfl, ?_⟩
    obtain ⟨q1, q2⟩ := none_shown sy g1 I1 (up1 rfl) hneg
    obtain ⟨d, hd, p1, _⟩ := redL_spec ((List.range m).map fun k => gi s1.goal (many + m) - gi s1.goal (many + k))
    rw [List.length_map, List.length_range] at p1
    have hp : ∀ i, i < m → d * gi (redL ((List.range m).map fun k => gi s1.goal (many + m) - gi s1.goal (many + k))) i = gi s1.goal (many + m) - gi s1.goal (many + i) := fun i hi => by rw [p1 i hi, gi_range hi]
    refine .none _ (by rw [redL_len]; simp) (fun j hj => ?_) ?_
    · have a1 := si_scale (c := d) (n := m) (f := fun i => gi (redL ((List.range m).map fun k => gi s1.goal (many + m) - gi s1.goal (many + k))) i * colA cols i j) (g := fun i => (gi s1.goal (many + m) - gi s1.goal (many + i)) * colA cols i j) (fun i hi => by rw [← Int.mul_assoc, hp i hi])
      have a2 := q1 j hj
      have a3 : d * si m (fun i => gi (redL ((List.range m).map fun k => gi s1.goal (many + m) - gi s1.goal (many + k))) i * colA cols i j) ≤ 0 := by rw [a1]; exact a2
      rcases Int.lt_or_le 0 (si m (fun i => gi (redL ((List.range m).map fun k => gi s1.goal (many + m) - gi s1.goal (many + k))) i * colA cols i j)) with z | z
      · have := Int.mul_pos hd z
        omega
      · exact z
    · have a1 := si_scale (c := d) (n := m) (f := fun i => gi (redL ((List.range m).map fun k => gi s1.goal (many + m) - gi s1.goal (many + k))) i * gi right i) (g := fun i => (gi s1.goal (many + m) - gi s1.goal (many + i)) * gi right i) (fun i hi => by rw [← Int.mul_assoc, hp i hi])
      have a3 : 0 < d * si m (fun i => gi (redL ((List.range m).map fun k => gi s1.goal (many + m) - gi s1.goal (many + k))) i * gi right i) := by rw [a1]; exact q2
      exact pos_right a3 hd
  · -- the second run
    obtain ⟨f1, f2⟩ := first_last sy g1 I1
    have hz0 : s1.t.g (many + m + 1) = 0 := by
      have e : s1.t.g (many + m + 1) = gi s1.goal (many + m + 1) := rfl
      omega
    have F0 : Fr m many 0 (SX.start cols right).t.R (SX.start cols right).t.g s1 := ⟨ok1, I1, f2 hz0, fun i hi => absurd hi (Nat.not_lt_zero _)⟩
    have e2 := freed_ok (h.bd (sy.org g1) gb1 gb2) (by decide) (by decide) hn F0
    have F2 := free_go F0 m (Nat.le_refl m)
    generalize freeGo many s1 m = s2 at e2 F2
    have hg2l : (costs ++ (List.replicate m 0 ++ [1, (0 : Int)])).length = many + m + 2 := by simp [hc]; omega
    have gl2 : Gl m many (gi costs) 0 (gi (costs ++ (List.replicate m 0 ++ [1, (0 : Int)]))) := by
      have := goal_gl (m := m) (c := costs) (d := 0)
      rwa [hc] at this
    have hg2b : Bd 4 (costs ++ (List.replicate m 0 ++ [1, (0 : Int)])) := fun x hx => by
      rcases List.mem_append.mp hx with z | z
      · have := hcv x z; omega
      · rcases List.mem_append.mp z with z | z
        · rw [List.eq_of_mem_replicate z]; decide
        · simp at z; rcases z with z | z <;> rw [z] <;> decide
    have gbd := goal_bd h (sy.org g1) F2.ok F2.inv hg2l hg2b
    obtain ⟨ok3, I3⟩ := second_inv F2.ok F2.inv hg2l gl2
    have hG3 : ∀ j, j < many + m → -((15 : Nat) : Int) ≤ gi (costs ++ (List.replicate m 0 ++ [1, (0 : Int)])) j ∧ gi (costs ++ (List.replicate m 0 ++ [1, (0 : Int)])) j ≤ ((15 : Nat) : Int) := fun j hj => by
      by_cases e : j < many
      · rw [gl2.lo j e]
        have := hcv _ (gi_mem (r := costs) (j := j) (by omega))
        omega
      · have := gl2.gz (j - many) (by omega)
        rw [show many + (j - many) = j by omega] at this
        rw [this]; decide
    obtain ⟨s4, b4, r4, e4⟩ := lowered_ok (h.bd (sy.org gl2) hG3 (by rw [gl2.la]; decide)) (by decide) (by decide) hn hFm ok3 I3
    obtain ⟨ok4, I4, up4, dn4⟩ := run_end _ ok3 I3 r4
    have Fd3 : Freed m many (⟨s2.rows, s2.basis, goalGo s2 (costs ++ (List.replicate m 0 ++ [1, (0 : Int)])) m⟩ : SX.St).t := fun k hk hB => ⟨F2.la k hk hB, F2.fr k hk hB⟩
    have Fd4 := run_freed _ ok3 I3 Fd3 r4
    have hfe := feas_of h gl2 ok4 I4 Fd4
    dsimp only at e4
    have ha3 : pyAdd (dIs costs) (.list ((List.replicate m (0 : Int)).map .int)) = some (.list (costs.map .int ++ (List.replicate m (0 : Int)).map .int)) := o_addL (by simp; omega)
    have ha4 : pyAdd (.list (costs.map .int ++ (List.replicate m (0 : Int)).map .int)) (.list [.int 1, .int 0]) = some (dIs (costs ++ (List.replicate m 0 ++ [1, (0 : Int)]))) := by
      rw [o_addL (by simp; omega)]
      unfold dIs
      rw [List.map_append, List.map_append, List.append_assoc]
      rfl
    simp! [hneg, e2, hC.lst costs, hmul, ha3, ha4]
    -- the goal is cleared
    have hEn : ∀ b : List Nat, iEnAD (S := Unit) [.d (dNs b)] () = .ok (enD 0 (b.map fun k => PyData.int ((k : Nat) : Int))) () := fun _ => rfl
    simp! [hEn]
    refine loop_seqI (P := fun r => ∃ res, defK r = .ok (.d res) () ∧ LpRes m many cols right costs res) (fun i σ _ => i ≤ m → ∃ w9 w13 : Sl, σ = [.w (.d (.list (cols.map col))), .w (.d (rt right)), .w (.d (ct costs)), .w (.d (.int (many : Nat))), .w (.d (.int (m : Nat))), .w (.d (dRows s2.rows)), v6, v7, v8, w9, .w (.d (dNs s2.basis)), .w (.d (dIs (goalGo s2 (costs ++ (List.replicate m 0 ++ [1, (0 : Int)])) i))), .w (.d (.bool true)), w13, .non, .non]) (fun _ => ⟨_, _, rfl⟩) ?_ ?_
    · rintro i d hd σ u hσ
      obtain ⟨x, h1, h2⟩ := enD_at hd
      rw [List.getElem?_map] at h1
      have hi : i < m := by
        rcases Nat.lt_or_ge i m with z | z
        · exact z
        · rw [List.getElem?_eq_none (by rw [F2.ok.bl]; exact z)] at h1; cases h1
      have hib : s2.basis[i]? = some (s2.basis.getD i 0) := by rw [List.getD_eq_getElem?_getD, List.getElem?_eq_getElem (by rw [F2.ok.bl]; exact hi)]; rfl
      rw [hib] at h1
      cases h1
      subst h2
      obtain ⟨w9, w13, rfl⟩ := hσ (by omega)
      have hir : i < s2.rows.length := by rw [F2.ok.rl]; exact hi
      have hil := F2.ok.el _ (rw_mem hir).1
      have i1 := ix_rows hir
      obtain ⟨gl, gb⟩ := gbd i (by omega)
      have hrb : Bd 81 (rw' s2.rows i) := fun x hx => by
        obtain ⟨j, hj, rfl⟩ := mem_gi hx
        rw [hil] at hj
        exact (h.row_entry (sy.org g1) F2.inv hi hj).1
      have hbl : s2.basis.getD i 0 < many + m := F2.inv.wf.bl i hi
      have hcl2 := cleared_ok (r := goalGo s2 (costs ++ (List.replicate m 0 ++ [1, (0 : Int)])) i) (p := rw' s2.rows i) (c := s2.basis.getD i 0) (K := 2000) (by rw [gl, hil]) (by rw [gl]; omega) (by rw [gl]; omega) (gb.mono (by omega)) (hrb.mono (by decide)) (by decide) (by decide)
      rw [Nat.zero_add]
      simp! [i1, hcl2]
      exact .mk fun _ => ⟨_, _, by rw [goalGo]⟩
    rintro σ u hσ
    rw [enD_len, List.length_map, F2.ok.bl] at hσ
    obtain ⟨w9, w13, rfl⟩ := hσ (Nat.le_refl m)
    have hm0 : pyMulL (.list [.tuple [.int 0, .int 1]]) (.int ((many : Nat) : Int)) = some (.list ((List.replicate many (0 : Rat)).map dR)) := by
      show (if _ then _ else _) = _
      rw [if_pos ⟨by omega, by omega, by decide⟩, Int.toNat_natCast, List.map_replicate]
      congr 2
      generalize many = k
      induction k with
      | zero => rfl
      | succ k ih => rw [List.replicate_succ, List.replicate_succ, List.flatten_cons, ih]; rfl
    simp! [e4, hm0, hEn]
    refine loop_seqI (P := fun r => ∃ res, defK r = .ok (.d res) () ∧ LpRes m many cols right costs res) (fun i σ _ => i ≤ m → ∃ w9 w13 : Sl, σ = [.w (.d (.list (cols.map col))), .w (.d (rt right)), .w (.d (ct costs)), .w (.d (.int (many : Nat))), .w (.d (.int (m : Nat))), .w (.d (dRows s4.rows)), v6, v7, v8, w9, .w (.d (dNs s4.basis)), .w (.d (dIs s4.goal)), .w (.d (.bool b4)), w13, .own ((fxs m many s4.t i).map dR), .non]) (fun _ => ⟨_, _, rfl⟩) ?_ ?_
    · rintro i d hd σ u hσ
      obtain ⟨x, h1, h2⟩ := enD_at hd
      rw [List.getElem?_map] at h1
      have hi : i < m := by
        rcases Nat.lt_or_ge i m with z | z
        · exact z
        · rw [List.getElem?_eq_none (by rw [ok4.bl]; exact z)] at h1; cases h1
      have hib : s4.basis[i]? = some (s4.basis.getD i 0) := by rw [List.getD_eq_getElem?_getD, List.getElem?_eq_getElem (by rw [ok4.bl]; exact hi)]; rfl
      rw [hib] at h1
      cases h1
      subst h2
      obtain ⟨w9, w13, rfl⟩ := hσ (by omega)
      rw [Nat.zero_add]
      obtain ⟨u9, u13, e⟩ := fac_turn h (sy.org gl2) ok4 I4 hi (fs := fxs m many s4.t i) fxs_len (c0 := .w (.d (.list (cols.map col)))) (c1 := .w (.d (rt right))) (c2 := .w (.d (ct costs))) (c4 := .w (.d (.int (m : Nat)))) (c6 := v6) (c7 := v7) (c8 := v8) (c10 := .w (.d (dNs s4.basis))) (c11 := .w (.d (dIs s4.goal))) (c12 := .w (.d (.bool b4))) (c15 := .non) (v9 := w9) (v13 := w13)
      rw [e]
      exact .mk fun _ => ⟨_, _, by rw [fxs]⟩
    rintro σ u hσ
    rw [enD_len, List.length_map, ok4.bl] at hσ
    obtain ⟨w9', w13', rfl⟩ := hσ (Nat.le_refl m)
    cases b4 with
    | false =>
      simp! [hm]
      refine ⟨_, rfl, ?_⟩
      obtain ⟨c, cm, cn, cr⟩ := dn4 rfl
      obtain ⟨Y, y1, y2, y3⟩ := open_ray sy gl2 I4 Fd4 cm cn cr
      exact .opn _ hfe Y y1 y2 y3
    | true =>
      have jl := ix_last (r := s4.goal) (n := many + m + 1) ok4.gl
      have jl2 := ix_last2 (r := s4.goal) (n := many + m) ok4.gl
      have gN : 0 < gi s4.goal (many + m) := I4.wf.gp
      have gent : ∀ j, j < many + m + 2 → (gi s4.goal j).natAbs < 2 ^ 150 := fun j hj => h.goal_entry (sy.org gl2) I4 hG3 (by rw [gl2.la]; decide) hj
      have lo1 := lowest_ok (t := -gi s4.goal (many + m + 1)) gN (gent _ (by omega)) (by decide)
      have hpr : ∀ c0 c1 c2 c4 c5 c7 c8 c9 c10 c12 c13 c14 c15 : Sl, cGo (S := Unit) (bName 6) yes (eP (lenIs 2 m_lowest) (aCons (eUn pyNeg (eOp pyIx (eVar 11) (eOp pyAdd (eVar 3) (eVar 6)))) (aCons (eOp pyIx (eVar 11) (eUn pyNeg (eC (.int 2)))) aNil))) [c0, c1, c2, .w (.d (.int (many : Nat))), c4, c5, .non, c7, c8, c9, c10, .w (.d (dIs s4.goal)), c12, c13, c14, c15] (rgD 0 m) () = .ok (((List.range m).map fun k => Rat.divInt (-gi s4.goal (many + k)) (gi s4.goal (many + m))).map dR) () := by
        intros
        rw [rg_map, List.map_map]
        refine cGo_mapF fun k hk => ⟨_, rfl, fun u => ?_⟩
        have hk' := List.mem_range.mp hk
        have i3 := ix_row (r := s4.goal) (c := many + k) (by rw [ok4.gl]; omega)
        rw [Int.natCast_add] at i3
        have lo2 := lowest_ok (t := -gi s4.goal (many + k)) gN (gent _ (by omega)) (by decide)
        simp! [jl2, i3, lo2, Function.comp]
      simp! [Int.toNat_natCast, hpr, jl, jl2, lo1]
      refine ⟨_, rfl, ?_⟩
      obtain ⟨p1, p2⟩ := prices_ok sy gl2 I4 (up4 rfl)
      obtain ⟨q1, q2, q3⟩ := sol_ok sy gl2 I4 Fd4
      have hxr : ∀ i, i < m → xr ((List.range m).map fun k => Rat.divInt (-gi s4.goal (many + k)) (gi s4.goal (many + m))) i = -((s4.t.g (many + i) : Rat) / (s4.t.g (many + m) : Rat)) := fun i hi => by
        unfold xr
        rw [List.getD_eq_getElem?_getD, List.getElem?_map, List.getElem?_range hi]
        show Rat.divInt (-gi s4.goal (many + i)) (gi s4.goal (many + m)) = _
        rw [div_cast, Rat.intCast_neg, Rat.div_def, Rat.neg_mul, ← Rat.div_def]
        rfl
      have hv : Rat.divInt (-gi s4.goal (many + m + 1)) (gi s4.goal (many + m)) = -((s4.t.g (many + m + 1) : Rat) / (s4.t.g (many + m) : Rat)) := by
        rw [div_cast, Rat.intCast_neg, Rat.div_def, Rat.neg_mul, ← Rat.div_def]
        rfl
      refine .least _ _ _ hfe ?_ (by simp) (fun j hj => ?_) ?_ ?_ (fun q hq => ?_)
      · rw [hv, ← q3]
        exact sm_congr fun j hj => by rw [fxs_xs hj]
      · have := p1 j hj
        rw [sm_congr (g := fun i => -((s4.t.g (many + i) : Rat) / (s4.t.g (many + m) : Rat)) * (colA cols i j : Rat)) fun i hi => by rw [hxr i hi]]
        exact this
      · rw [sm_congr (g := fun i => -((s4.t.g (many + i) : Rat) / (s4.t.g (many + m) : Rat)) * (gi right i : Rat)) fun i hi => by rw [hxr i hi], hv]
        exact p2
      · exact Sz.divInt gN (by rw [Int.natAbs_neg]; exact gent _ (by omega)) (gent _ (by omega))
      · obtain ⟨k, hk, rfl⟩ := List.mem_map.mp hq
        have hk' := List.mem_range.mp hk
        exact Sz.divInt gN (by rw [Int.natAbs_neg]; exact gent _ (by omega)) (gent _ (by omega))
end

-- needs: P_Dec
/-! ### the law's own sums -/
theorem cut_in (n : Int) (a : 2 ≤ n) (b : n ≤ 6) : ∀ c ∈ cutsI n, pyNotIn (dC c) (.list (cutsD n)) = some (.bool false) := by
  have h : ((cutsI n).map fun c => pyNotIn (dC c) (.list (cutsD n))) = ((cutsI n).map fun _ => some (.bool false)) :=
    small (p := fun n => ((cutsI n).map fun c => pyNotIn (dC c) (.list (cutsD n))) = ((cutsI n).map fun _ => some (.bool false))) (by kernel_rfl) (by kernel_rfl) (by kernel_rfl) (by kernel_rfl) (by kernel_rfl) n a b
  exact fun c hc => List.map_inj_left.mp h c hc
theorem llow_self {q : Rat} {k : Nat} (h : Sz k q) (hk : k ≤ 9000) : m_law_lowest [.d (.int q.num), .d (.int (q.den : Int))] () = .ok (.d (dR q)) () := by
  rw [llowest_ok (den_pos q) (by rw [Int.natAbs_natCast]; exact h.2) hk, Rat.num_divInt_den]
theorem low_self {q : Rat} {k : Nat} (h : Sz k q) (hk : k ≤ 9000) : m_lowest [.d (.int q.num), .d (.int (q.den : Int))] () = .ok (.d (dR q)) () := by
  rw [lowest_ok (den_pos q) (by rw [Int.natAbs_natCast]; exact h.2) hk, Rat.num_divInt_den]
theorem lsum_go (n : Int) (a : 2 ≤ n) (b : n ≤ 6) : ∀ (ws : List (List Int × Rat)) (all : PyData) (last : List Int) (xs : List Rat) (k : Nat) (v4 v5 v6 v7 v8 : Sl), (ws.map (·.1)).Pairwise (fun x y => lexLe y x = false) → (∀ p ∈ ws, p.1 ∈ cutsI n ∧ Sz 167 p.2 ∧ 0 < p.2.num) → (∀ p ∈ ws, lexLe p.1 last = false) → xs.length = (pairsD n).length → (∀ x ∈ xs, Sz k x) → k + 168 * ws.length ≤ 9000 →
    seqK (fGo (S := Unit) (bTup [4, 5]) (sSeq (sIf (tOrT (eTest (eOp pyLe (eVar 4) (eVar 3))) (tOrT (eTest (eOp pyNotIn (eVar 4) (eP (lenIs 1 m_law_cuts) (aCons (eVar 0) aNil)))) (tOrT (eTest (eOp pyLe (eOp pyIx (eVar 5) (eC (.int 0))) (eC (.int 0)))) (eTest (eOp pyNe (eP (lenIs 2 m_law_lowest) (aCons (eOp pyIx (eVar 5) (eC (.int 0))) (aCons (eOp pyIx (eVar 5) (eC (.int 1))) aNil))) (eVar 5)))))) (sRet (eC .none)) sNext)
    (sSeq (sAsgT [3, 6] (eTup (aCons (eVar 4) (aCons (eP (lenIs 2 m_law_marks) (aCons (eVar 0) (aCons (eVar 4) aNil))) aNil))))
    (sAsg 2 (eComp (iEnumM (aCons (eVar 2) aNil)) [7, 8] (bTup [7, 8]) yes (eIf (eTest (eOp pyEq (eOp pyIx (eVar 6) (eVar 7)) (eC (.int 1)))) (eP (lenIs 2 m_law_plus) (aCons (eVar 8) (aCons (eVar 5) aNil))) (eVar 8)))))) (ws.map fun p => .tuple [dC p.1, dR p.2]) [.w (.d (.int n)), .w (.d all), .w (.d (.list (xs.map dR))), .w (.d (dC last)), v4, v5, v6, v7, v8] ())
    (sRet (eVar 2)) = .rt (.d (.list ((sumsR n ws xs).map dR))) ()
  | [], all, last, xs, k, v4, v5, v6, v7, v8, _, _, _, _, _, _ => by simp! [List.map_nil, fGo_nil, sumsR, List.foldl_nil]
  | (c, q) :: r, all, last, xs, k, v4, v5, v6, v7, v8, h1, h, h2, hl, hx, hk => by
    obtain ⟨hc, hq, hpos⟩ := h (c, q) List.mem_cons_self
    dsimp only at hc hq hpos
    obtain ⟨m1, m2, m3, m4⟩ := marks_I n a b c hc
    have hlen : (marksI n c).length = xs.length := by rw [m3, hl]
    rw [List.length_cons] at hk
    rw [List.map_cons, List.pairwise_cons] at h1
    have e := lsum_comp (n := n) (all := all) (w := dC c) (v3 := dC c) hlen hq hx (by omega)
    have hp := pairs_few n a b
    have hl2 : (enD 0 (xs.map dR)).length < 1000000 := by rw [enD_len, List.length_map, hl]; omega
    have e1 : pyLe (dC c) (dC last) = some (.bool false) := by rw [le_dC, h2 _ List.mem_cons_self]
    have e2 := cut_in n a b c hc
    have e3 := llow_self hq (by decide)
    have e4 : pyNe (dR q) (dR q) = some (.bool false) := o_ner rfl (fo_dR q) (by decide)
    have e5 : pyIx (dR q) (.int 0) = some (.int q.num) := rfl
    have e6 : pyIx (dR q) (.int 1) = some (.int q.den) := rfl
    have e7 : decide (q.num ≤ 0) = false := decide_eq_false (by omega)
    have ih := fun v3 v4 v5 v6 v7 => lsum_go n a b r all c (addMark (marksI n c) q xs) (k + 168) v3 v4 v5 v6 v7 h1.2 (fun p hp => h p (List.mem_cons_of_mem _ hp)) (fun p hp => h1.1 _ (List.mem_map.mpr ⟨p, hp, rfl⟩)) (by rw [addMark_len hlen, hl]) (addMark_sz hq hx) (by omega)
    rw [List.map_cons, fGo_cons]
    simp! [e1, cuts_ev n a b, e2, e5, e6, e7, e3, e4, m2, e, ih]
    rfl
theorem WOk.lsum {n : Int} (a : 2 ≤ n) (b : n ≤ 6) {ws : List (List Int × Rat)} (h : WOk n ws) : m_law_sum [.d (.int n), .d (dWs ws)] () = .ok (.d (.list ((sumW n ws).map dR))) () := by
  have hk := h.len a b
  have e := lsum_go n a b ws (dWs ws) [] (List.replicate (pairsD n).length 0) 1 .non .non .non .non .non ((cuts_sorted n a b).1.sublist h.sub) (fun p hp => ⟨h.cut hp, h.sz hp, (h.pos p hp).1⟩) (fun p hp => ((cuts_sorted n a b).2.1 _ (h.cut hp)).1) (by rw [List.length_replicate]) (fun x hx => by rw [List.eq_of_mem_replicate hx]; exact ⟨by decide, by decide⟩) (by omega)
  have hp := pairs_few n a b
  have hm2 : pyMul (.list [.tuple [.int 0, .int 1]]) (.int ((pairsD n).length : Int)) = some (.list ((List.replicate (pairsD n).length (0 : Rat)).map dR)) := by
    show (if _ then _ else _) = _
    rw [if_pos ⟨by omega, by omega, by decide⟩, Int.toNat_natCast, List.map_replicate]
    congr 2
    induction (pairsD n).length with
    | zero => rfl
    | succ k ih => rw [List.replicate_succ, List.replicate_succ, List.flatten_cons, ih]; rfl
  rw [show dC [] = .tuple [] from rfl] at e
  unfold dWs at e ⊢
  simp! [m_law_sum, b_law_sum, pairs_ev n a b, hm2, e]
  rfl
theorem WOk.is_sum {n : Int} (a : 2 ≤ n) (b : n ≤ 6) {ws : List (List Int × Rat)} (h : WOk n ws) {xs : List Int} (hl : xs.length ≤ 100) [Decidable (sumW n ws = asR xs)] :
    m_law_is_sum [.d (.tuple [.int n, .tuple (xs.map .int)]), .d (dWs ws)] () = .ok (.d (.bool (decide (sumW n ws = asR xs)))) () := by
  have e := ints_comp (xs := xs) (t := .w (.d (.tuple [.int n, .tuple (xs.map .int)]))) (v1 := .w (.d (dWs ws)))
  have hl' : (xs.map PyData.int).length < 1000000 := by rw [List.length_map]; omega
  simp! [m_law_is_sum, b_law_is_sum, h.lsum a b, e, eq_rsL]

-- needs: P_Lin7 P_LSum
/-! ### solved -/
open SX
theorem all_cuts_ok (n : Int) (a : 2 ≤ n) (b : n ≤ 6) : m_all_cuts [.d (.int n)] () = .ok (.d (.list ((cutsI n).map dC))) () :=
  small (p := fun n => m_all_cuts [.d (.int n)] () = .ok (.d (.list ((cutsI n).map dC))) ()) (by kernel_rfl) (by kernel_rfl) (by kernel_rfl) (by kernel_rfl) (by kernel_rfl) n a b
def colsI (n : Int) : List (List Int) := (cutsI n).map (marksI n)
/-- a table's own list -/
structure TabOk (n : Int) (xs : List Int) : Prop where
  n2 : 2 ≤ n
  n6 : n ≤ 6
  len : (xs.length : Int) = n * (n - 1) / 2
  val : ∀ x ∈ xs, 0 ≤ x ∧ x ≤ 99
theorem TabOk.table {n : Int} {xs : List Int} (h : TabOk n xs) : tableB (.tuple [.int n, .tuple (xs.map .int)]) = true := table_of h.n2 h.n6 h.len h.val
theorem TabOk.plen {n : Int} {xs : List Int} (h : TabOk n xs) : xs.length = (pairsD n).length := by
  have h1 := h.len
  have h2 := pairs_len n h.n2 h.n6
  omega
theorem TabOk.few {n : Int} {xs : List Int} (h : TabOk n xs) : 1 ≤ xs.length ∧ xs.length ≤ 15 := by
  have h1 := h.len
  have := small (p := fun n => 1 ≤ n * (n - 1) / 2 ∧ n * (n - 1) / 2 ≤ 15) (by decide) (by decide) (by decide) (by decide) (by decide) n h.n2 h.n6
  omega
theorem TabOk.small {n : Int} {xs : List Int} (h : TabOk n xs) : Small xs.length (cutsI n).length (colsI n) xs := by
  have hm := marks_I n h.n2 h.n6
  have hc := (cuts_sorted n h.n2 h.n6).2.2
  refine ⟨by unfold colsI; rw [List.length_map], rfl, h.few.1, h.few.2, by have := h.few; omega, fun c hc => ?_, fun c hc x hx => ?_, h.val⟩
  · obtain ⟨d, hd, rfl⟩ := List.mem_map.mp hc
    rw [(hm d hd).2.2.1, h.plen]
  · obtain ⟨d, hd, rfl⟩ := List.mem_map.mp hc
    rcases (hm d hd).2.2.2 x hx with z | z <;> rw [z] <;> decide
/-- the mark of a cut at a pair -/
def mkR (n : Int) (c : List Int) (i : Nat) : Rat := (gi (marksI n c) i : Rat)
def rsum (l : List Rat) : Rat := l.foldr (fun x y => x + y) 0
theorem rsum_nil : rsum [] = 0 := rfl
theorem rsum_cons {x : Rat} {l : List Rat} : rsum (x :: l) = x + rsum l := rfl
theorem sums_at {n : Int} (a : 2 ≤ n) (b : n ≤ 6) : ∀ (ws : List (List Int × Rat)) (xs : List Rat) (i : Nat), (∀ p ∈ ws, p.1 ∈ cutsI n) → xs.length = (pairsD n).length → i < xs.length → xr (sumsR n ws xs) i = xr xs i + rsum (ws.map fun p => mkR n p.1 i * p.2)
  | [], xs, i, _, _, _ => by show xr xs i = xr xs i + 0; grind
  | p :: r, xs, i, hp, hl, hi => by
    obtain ⟨m1, m2, m3, m4⟩ := marks_I n a b p.1 (hp p List.mem_cons_self)
    have hlen : (marksI n p.1).length = xs.length := by rw [m3, hl]
    have ih := sums_at a b r (addMark (marksI n p.1) p.2 xs) i (fun q hq => hp q (List.mem_cons_of_mem _ hq)) (by rw [addMark_len hlen, hl]) (by rw [addMark_len hlen]; exact hi)
    have e1 : sumsR n (p :: r) xs = sumsR n r (addMark (marksI n p.1) p.2 xs) := rfl
    rw [e1, ih, List.map_cons, rsum_cons]
    have hmi := gi_lt (r := marksI n p.1) (j := i) (by omega)
    have hxi : xs[i]? = some (xr xs i) := by unfold xr; rw [List.getD_eq_getElem?_getD, List.getElem?_eq_getElem hi]; rfl
    have e2 : xr (addMark (marksI n p.1) p.2 xs) i = if gi (marksI n p.1) i = 1 then xr xs i + p.2 else xr xs i := by
      unfold addMark
      conv => lhs; unfold xr
      rw [List.getD_eq_getElem?_getD, List.getElem?_zipWith, hmi, hxi]
      rfl
    rw [e2]
    unfold mkR
    rcases m4 _ (gi_mem (by omega) : gi (marksI n p.1) i ∈ marksI n p.1) with z | z
    · rw [z, if_neg (by decide)]
      show xr xs i + _ = xr xs i + ((0 : Rat) * p.2 + _)
      grind
    · rw [z, if_pos rfl]
      show xr xs i + p.2 + _ = xr xs i + ((1 : Rat) * p.2 + _)
      grind
theorem sumW_at {n : Int} (a : 2 ≤ n) (b : n ≤ 6) {ws : List (List Int × Rat)} (h : ∀ p ∈ ws, p.1 ∈ cutsI n) {i : Nat} (hi : i < (pairsD n).length) : xr (sumW n ws) i = rsum (ws.map fun p => mkR n p.1 i * p.2) := by
  unfold sumW
  rw [sums_at a b ws _ i h List.length_replicate (by rw [List.length_replicate]; exact hi)]
  unfold xr
  rw [List.getD_eq_getElem?_getD, List.getElem?_replicate_of_lt hi]
  show (0 : Rat) + _ = _
  grind
theorem sumW_len' {n : Int} (a : 2 ≤ n) (b : n ≤ 6) {ws : List (List Int × Rat)} (h : ∀ p ∈ ws, p.1 ∈ cutsI n) : (sumW n ws).length = (pairsD n).length := by
  have key : ∀ (ws : List (List Int × Rat)) (xs : List Rat), (∀ p ∈ ws, p.1 ∈ cutsI n) → xs.length = (pairsD n).length → (sumsR n ws xs).length = (pairsD n).length := by
    intro ws
    induction ws with
    | nil => exact fun xs _ h => h
    | cons p r ih =>
      intro xs hp hx
      refine ih _ (fun q hq => hp q (List.mem_cons_of_mem _ hq)) ?_
      rw [addMark_len, hx]
      rw [(marks_I n a b _ (hp p List.mem_cons_self)).2.2.1, hx]
  exact key ws _ h List.length_replicate
/-- lists that are alike at all places -/
theorem xr_ext {x y : List Rat} (hl : x.length = y.length) (h : ∀ i, i < x.length → xr x i = xr y i) : x = y := by
  refine List.ext_getElem? fun i => ?_
  by_cases hi : i < x.length
  · have := h i hi
    unfold xr at this
    rw [List.getD_eq_getElem?_getD, List.getD_eq_getElem?_getD, List.getElem?_eq_getElem hi, List.getElem?_eq_getElem (by omega)] at this
    rw [List.getElem?_eq_getElem hi, List.getElem?_eq_getElem (by omega)]
    exact congrArg some this
  · rw [List.getElem?_eq_none (by omega), List.getElem?_eq_none (by omega)]
theorem asR_at {xs : List Int} {i : Nat} (h : i < xs.length) : xr (asR xs) i = (gi xs i : Rat) := by
  unfold xr asR
  rw [List.getD_eq_getElem?_getD, List.getElem?_map, gi_lt h]
  rfl
/-- weights add up to a table just if they do at each pair -/
theorem sum_iff {n : Int} {xs : List Int} (h : TabOk n xs) {ws : List (List Int × Rat)} (hw : ∀ p ∈ ws, p.1 ∈ cutsI n) : sumW n ws = asR xs ↔ ∀ i, i < xs.length → rsum (ws.map fun p => mkR n p.1 i * p.2) = (gi xs i : Rat) := by
  have hl := sumW_len' h.n2 h.n6 hw
  constructor
  · intro e i hi
    rw [← sumW_at h.n2 h.n6 hw (by rw [← h.plen]; exact hi), e, asR_at hi]
  · intro e
    refine xr_ext (by rw [hl, ← h.plen]; unfold asR; rw [List.length_map]) fun i hi => ?_
    rw [hl] at hi
    rw [sumW_at h.n2 h.n6 hw hi, e i (by rw [h.plen]; exact hi), asR_at (by rw [h.plen]; exact hi)]

-- needs: P_Solved
/-! ### weights by factors -/
open SX
def cutAt (n : Int) (j : Nat) : List Int := (cutsI n).getD j []
def cutN (n : Int) : Nat := (cutsI n).length
def asW (n : Int) (x : List Rat) : List (List Int × Rat) := ((List.range (cutN n)).filter fun j => decide (0 < (xr x j).num)).map fun j => (cutAt n j, xr x j)
theorem range_get {α : Type} (l : List α) (d : α) : (List.range l.length).map (fun j => l.getD j d) = l := by
  refine List.ext_getElem? fun i => ?_
  rw [List.getElem?_map]
  by_cases hi : i < l.length
  · rw [List.getElem?_range hi, List.getElem?_eq_getElem hi]
    show some (l.getD i d) = _
    rw [List.getD_eq_getElem?_getD, List.getElem?_eq_getElem hi]
    rfl
  · rw [List.getElem?_eq_none (by rw [List.length_range]; omega), List.getElem?_eq_none (by omega)]
    rfl
theorem enD_range {α : Type} (d : α) (p : α → PyData) : ∀ (l : List α) (k : Nat), enD k (l.map p) = (List.range l.length).map fun i => .tuple [.int ((k + i : Nat) : Int), p (l.getD i d)]
  | [], k => rfl
  | x :: l, k => by
    rw [List.map_cons, enD, enD_range d p l (k + 1), List.length_cons, List.range_succ_eq_map, List.map_cons, List.map_map]
    congr 1
    refine List.map_congr_left fun i _ => ?_
    show PyData.tuple [.int ((k + 1 + i : Nat) : Int), p (l.getD i d)] = PyData.tuple [.int ((k + (i + 1) : Nat) : Int), p (l.getD i d)]
    rw [show k + 1 + i = k + (i + 1) by omega]
theorem cut_mem {n : Int} {j : Nat} (h : j < cutN n) : cutAt n j ∈ cutsI n := by
  unfold cutAt
  rw [List.getD_eq_getElem?_getD, List.getElem?_eq_getElem h]
  exact List.getElem_mem h
theorem ix_rats {x : List Rat} {j : Nat} (h : j < x.length) : pyIx (.list (x.map dR)) (.int (j : Nat)) = some (dR (xr x j)) := by
  show atI (x.map dR) _ = _
  refine at_nat (by omega) ?_
  unfold xr
  rw [Int.toNat_natCast, List.getElem?_map, List.getElem?_eq_getElem h, List.getD_eq_getElem?_getD, List.getElem?_eq_getElem h]
  rfl
theorem as_weights_ok {n : Int} (a : 2 ≤ n) (b : n ≤ 6) {x : List Rat} (hx : x.length = cutN n) : m_as_weights [.d (.int n), .d (.list (x.map dR))] () = .ok (.d (dWs (asW n x))) () := by
  have hcl := (cuts_sorted n a b).2.2
  have hc : cGo (S := Unit) (bTup [3, 4]) (eTest (eOp pyGt (eOp pyIx (eOp pyIx (eVar 1) (eVar 3)) (eC (.int 0))) (eC (.int 0)))) (eTup (aCons (eVar 4) (aCons (eOp pyIx (eVar 1) (eVar 3)) aNil))) [.w (.d (.int n)), .w (.d (.list (x.map dR))), .w (.d (.list ((cutsI n).map dC))), .non, .non] (enD 0 ((cutsI n).map dC)) () = .ok ((asW n x).map fun p => .tuple [dC p.1, dR p.2]) () := by
    rw [enD_range []]
    unfold asW
    rw [List.map_map]
    refine cGo_filter (f := fun j => decide (0 < (xr x j).num)) fun j hj => ⟨_, rfl, fun u => ?_, fun _ u => ?_⟩
    · have hj' := List.mem_range.mp hj
      have i1 := ix_rats (x := x) (j := j) (by rw [hx]; exact hj')
      have i2 : pyIx (dR (xr x j)) (.int 0) = some (.int (xr x j).num) := rfl
      rw [Nat.zero_add]
      simp! [i1, i2]
    · have hj' := List.mem_range.mp hj
      have i1 := ix_rats (x := x) (j := j) (by rw [hx]; exact hj')
      rw [Nat.zero_add]
      simp! [i1, Function.comp]
      rfl
  have hl : (enD 0 ((cutsI n).map dC)).length < 1000000 := by rw [enD_len, List.length_map]; omega
  unfold dWs
  simp! [m_as_weights, b_as_weights, all_cuts_ok n a b, hc]
theorem pow81 : ((2 ^ 81 : Nat) : Int) < big := by decide +kernel
theorem asW_ok {n : Int} {x : List Rat} (hs : ∀ j, j < cutN n → Sz 81 (xr x j)) : WOk n (asW n x) := by
  refine ⟨?_, fun p hp => ?_⟩
  · unfold asW
    rw [List.map_map]
    have h1 : (((List.range (cutN n)).filter fun j => decide (0 < (xr x j).num)).map (cutAt n)).Sublist ((List.range (cutN n)).map (cutAt n)) := List.Sublist.map _ List.filter_sublist
    have h2 : (List.range (cutN n)).map (cutAt n) = cutsI n := range_get (cutsI n) []
    rw [h2] at h1
    exact h1
  · unfold asW at hp
    obtain ⟨j, hj, rfl⟩ := List.mem_map.mp hp
    obtain ⟨h1, h2⟩ := List.mem_filter.mp hj
    have hs' := hs j (List.mem_range.mp h1)
    have h3 := of_decide_eq_true h2
    have e := pow81
    refine ⟨h3, ?_, ?_⟩
    · have := hs'.1; show (xr x j).num < big; omega
    · have := hs'.2; show ((xr x j).den : Int) < big; omega
theorem rsum_append {l r : List Rat} : rsum (l ++ r) = rsum l + rsum r := by
  induction l with
  | nil => show rsum r = 0 + rsum r; grind
  | cons x l ih => rw [List.cons_append, rsum_cons, ih, rsum_cons]; grind
/-- sums over the weights are sums over all cuts -/
theorem rsum_asW {n : Int} {x : List Rat} (f : List Int → Rat) (h0 : ∀ j, j < cutN n → 0 ≤ xr x j) : rsum ((asW n x).map fun p => f p.1 * p.2) = sm (cutN n) (fun j => f (cutAt n j) * xr x j) := by
  unfold asW
  rw [List.map_map]
  have key : ∀ k, k ≤ cutN n → rsum (((List.range k).filter fun j => decide (0 < (xr x j).num)).map ((fun p : List Int × Rat => f p.1 * p.2) ∘ fun j => (cutAt n j, xr x j))) = sm k (fun j => f (cutAt n j) * xr x j) := by
    intro k
    induction k with
    | zero => intro _; rfl
    | succ k ih =>
      intro hk
      rw [List.range_succ, List.filter_append, List.map_append, rsum_append, ih (by omega)]
      simp only [sm]
      congr 1
      by_cases hp : 0 < (xr x k).num
      · rw [List.filter_cons_of_pos (by simpa using hp)]
        show f (cutAt n k) * xr x k + 0 = _
        grind
      · rw [List.filter_cons_of_neg (by simpa using hp)]
        have hz : xr x k = 0 := by
          have h1 := Rat.num_nonneg.mpr (h0 k (by omega))
          have h2 : (xr x k).num = 0 := by omega
          exact Rat.num_eq_zero.mp h2
        rw [hz]
        show (0 : Rat) = _
        grind
  exact key (cutN n) (Nat.le_refl _)
theorem colA_mk {n : Int} {i j : Nat} (hj : j < cutN n) : (colA (colsI n) i j : Rat) = mkR n (cutAt n j) i := by
  unfold colA mkR colsI rw' cutAt
  rw [List.getD_eq_getElem?_getD, List.getElem?_map, List.getD_eq_getElem?_getD]
  have : j < (cutsI n).length := hj
  rw [List.getElem?_eq_getElem this]
  rfl
/-- factors that fit give a decomposition -/
theorem feas_dec {n : Int} {xs : List Int} (h : TabOk n xs) {x : List Rat} (hf : Feas xs.length (cutN n) (colsI n) xs x) : WOk n (asW n x) ∧ sumW n (asW n x) = asR xs := by
  have hx : ∀ j, j < cutN n → xr x j ∈ x := fun j hj => by
    unfold xr
    rw [List.getD_eq_getElem?_getD, List.getElem?_eq_getElem (by rw [hf.len]; exact hj)]
    exact List.getElem_mem _
  have hw := asW_ok (n := n) (x := x) fun j hj => (hf.sz _ (hx j hj)).1
  refine ⟨hw, (sum_iff h fun p hp => hw.cut hp).mpr fun i hi => ?_⟩
  rw [rsum_asW (fun c => mkR n c i) fun j hj => hf.pos _ (hx j hj), ← hf.sum i hi]
  exact sm_congr fun j hj => by rw [colA_mk hj]
/-- every cut parts some pair -/
theorem cut_parts {n : Int} (a : 2 ≤ n) (b : n ≤ 6) : ∀ c ∈ cutsI n, ∃ i, i < (pairsD n).length ∧ gi (marksI n c) i = 1 := by
  have h := small (p := fun n => (cutsI n).all (fun c => (marksI n c).contains 1) = true) (by decide +kernel) (by decide +kernel) (by decide +kernel) (by decide +kernel) (by decide +kernel) n a b
  intro c hc
  have h1 := List.contains_iff_mem.mp (List.all_eq_true.mp h c hc)
  obtain ⟨i, hi, e⟩ := mem_gi h1
  rw [(marks_I n a b c hc).2.2.1] at hi
  exact ⟨i, hi, e.symm⟩
theorem sm_term {f : Nat → Rat} : ∀ {n : Nat}, (∀ j, j < n → 0 ≤ f j) → sm n f = 0 → ∀ j, j < n → f j = 0
  | 0, _, _, j, hj => absurd hj (Nat.not_lt_zero _)
  | n + 1, h, e, j, hj => by
    simp only [sm] at e
    have h1 := sm_nonneg (f := f) (n := n) fun j hj => h j (by omega)
    have h2 := h n (by omega)
    by_cases ej : j = n
    · rw [ej]; grind
    · exact sm_term (n := n) (fun j hj => h j (by omega)) (by grind) j (by omega)
/-- no ray: the cuts' marks are not negative -/
theorem no_ray {n : Int} {xs : List Int} (h : TabOk n xs) {Y : Nat → Rat} (y1 : ∀ j, j < cutN n → 0 ≤ Y j) (y2 : ∀ i, i < xs.length → sm (cutN n) (fun j => (colA (colsI n) i j : Rat) * Y j) = 0) : ∀ j, j < cutN n → Y j = 0 := by
  intro j hj
  obtain ⟨i, hi, e⟩ := cut_parts h.n2 h.n6 _ (cut_mem hj)
  rw [← h.plen] at hi
  have h1 := sm_term (fun k hk => ?_) (y2 i hi) j hj
  · rw [colA_mk hj] at h1
    unfold mkR at h1
    rw [e] at h1
    have : ((1 : Int) : Rat) * Y j = 0 := h1
    have e1 : ((1 : Int) : Rat) = 1 := rfl
    rw [e1, Rat.one_mul] at this
    exact this
  · rw [colA_mk hk]
    unfold mkR
    have hm := (marks_I n h.n2 h.n6 _ (cut_mem hk)).2.2
    rcases hm.2 _ (gi_mem (by rw [hm.1, ← h.plen]; exact hi)) with z | z
    · rw [z]; show 0 ≤ (0 : Rat) * _; grind
    · rw [z]; show 0 ≤ (1 : Rat) * _; have := y1 k hk; grind
/-- prices that support costs -/
def Supp (n : Int) (m : Nat) (p : List Rat) (costs : List Int) : Prop := ∀ j, j < cutN n → sm m (fun i => xr p i * mkR n (cutAt n j) i) ≤ (gi costs j : Rat)
/-- an inequality that holds for all cuts and not for the table -/
structure Excl (n : Int) (xs p : List Int) : Prop where
  len : p.length = xs.length
  cut : ∀ c ∈ cutsI n, si xs.length (fun i => gi p i * gi (marksI n c) i) ≤ 0
  tab : 0 < si xs.length (fun i => gi p i * gi xs i)
/-- the cost of weights -/
def costW (n : Int) (costs : List Int) (ws : List (List Int × Rat)) : Rat := rsum (ws.map fun p => (gi costs ((cutsI n).idxOf p.1) : Rat) * p.2)
/-- a least cost: value, weights, prices -/
structure Least (n : Int) (xs costs : List Int) (v : Rat) (ws : List (List Int × Rat)) (p : List Rat) : Prop where
  ok : WOk n ws
  sum : sumW n ws = asR xs
  cost : costW n costs ws = v
  plen : p.length = xs.length
  supp : Supp n xs.length p costs
  pval : sm xs.length (fun i => xr p i * (gi xs i : Rat)) = v
  sv : Sz 150 v
  sp : ∀ q ∈ p, Sz 150 q
  sw : ∀ q ∈ ws, Sz 81 q.2 ∧ (xs.length ≤ 10 → Sz 51 q.2)
  few : ws.length ≤ xs.length
inductive SolRes (n : Int) (xs costs : List Int) : PyData → Prop
  | none (p : List Int) (h : Excl n xs p) : SolRes n xs costs (.tuple [.str "none", .none, .tuple [], dIs p])
  | least (v : Rat) (ws : List (List Int × Rat)) (p : List Rat) (h : Least n xs costs v ws p) : SolRes n xs costs (.tuple [.str "least", dR v, dWs ws, .list (p.map dR)])

-- needs: P_Solved2
/-! ### solved, decomposition, excluding -/
open SX
theorem idx_cut {n : Int} (a : 2 ≤ n) (b : n ≤ 6) : ∀ j, j < cutN n → (cutsI n).idxOf (cutAt n j) = j := by
  have h := small (p := fun n => (List.range (cutN n)).all (fun j => (cutsI n).idxOf (cutAt n j) == j) = true) (by decide +kernel) (by decide +kernel) (by decide +kernel) (by decide +kernel) (by decide +kernel) n a b
  intro j hj
  exact beq_iff_eq.mp (List.all_eq_true.mp h j (List.mem_range.mpr hj))
theorem idx_at {n : Int} (a : 2 ≤ n) (b : n ≤ 6) {c : List Int} (h : c ∈ cutsI n) : (cutsI n).idxOf c < cutN n ∧ cutAt n ((cutsI n).idxOf c) = c := by
  have h1 := List.idxOf_lt_length_of_mem h
  refine ⟨h1, ?_⟩
  unfold cutAt
  rw [List.getD_eq_getElem?_getD, List.getElem?_eq_getElem h1]
  simp
theorem nodup_le : ∀ {l bs : List Nat}, l.Nodup → (∀ x ∈ l, x ∈ bs) → l.length ≤ bs.length
  | [], _, _, _ => Nat.zero_le _
  | x :: l, bs, hn, hs => by
    have hx := hs x List.mem_cons_self
    have h1 : l.length ≤ (bs.erase x).length := nodup_le (List.nodup_cons.mp hn).2 fun y hy => by
      have hne : y ≠ x := fun e => (List.nodup_cons.mp hn).1 (e ▸ hy)
      exact (List.mem_erase_of_ne hne).mpr (hs y (List.mem_cons_of_mem _ hy))
    rw [List.length_erase_of_mem hx] at h1
    have : 0 < bs.length := List.length_pos_of_mem hx
    rw [List.length_cons]
    omega
theorem asW_few {n : Int} {x : List Rat} {bs : List Nat} (h : ∀ j, j < cutN n → xr x j ≠ 0 → j ∈ bs) : (asW n x).length ≤ bs.length := by
  unfold asW
  rw [List.length_map]
  refine nodup_le (List.Nodup.sublist List.filter_sublist List.nodup_range) fun j hj => ?_
  obtain ⟨h1, h2⟩ := List.mem_filter.mp hj
  have h3 := of_decide_eq_true h2
  refine h j (List.mem_range.mp h1) fun e => ?_
  rw [e] at h3
  exact absurd h3 (by decide)
theorem costW_asW {n : Int} (a : 2 ≤ n) (b : n ≤ 6) {costs : List Int} {x : List Rat} (h0 : ∀ j, j < cutN n → 0 ≤ xr x j) : costW n costs (asW n x) = sm (cutN n) (fun j => (gi costs j : Rat) * xr x j) := by
  unfold costW
  rw [rsum_asW (fun c => (gi costs ((cutsI n).idxOf c) : Rat)) h0]
  exact sm_congr fun j hj => by rw [idx_cut a b j hj]
theorem eq_ll : pyEq (.str "least") (.str "least") = some (.bool true) := by kernel_rfl
theorem eq_nl : pyEq (.str "none") (.str "least") = some (.bool false) := by kernel_rfl
theorem eq_nn : pyEq (.str "none") (.str "none") = some (.bool true) := by kernel_rfl
theorem eq_ln : pyEq (.str "least") (.str "none") = some (.bool false) := by kernel_rfl
theorem ne_ll : pyNe (.str "least") (.str "least") = some (.bool false) := by kernel_rfl
theorem ne_nl : pyNe (.str "none") (.str "least") = some (.bool true) := by kernel_rfl
section
variable {n : Int} {xs costs : List Int} {ct : List Int → PyData} {FU : Nat}
theorem solved_ok (h : TabOk n xs) (hC : SeqI ct) (hc : costs.length = cutN n) (hcv : ∀ x ∈ costs, -9 ≤ x ∧ x ≤ 9) (hF : 64 ^ 15 + 1 ≤ FU) :
    ∃ res, m_solved FU [.d (.tuple [.int n, .tuple (xs.map .int)]), .d (ct costs)] () = .ok (.d res) () ∧ SolRes n xs costs res := by
  have hcl := (cuts_sorted n h.n2 h.n6).2.2
  obtain ⟨res, e1, hres⟩ := least_sum_ok (col := fun r => .tuple (r.map .int)) (rt := fun r => .tuple (r.map .int)) (ct := ct) seqI_T seqI_T hC h.small hc hcv hF
  have hcomp : ∀ c0 c1 c3 c5 c6 c7 c8 : Sl, cGo (S := Unit) (bName 4) yes (eP (lenIs 2 m_marks_of) (aCons (eVar 2) (aCons (eVar 4) aNil))) [c0, c1, .w (.d (.int n)), c3, .non, c5, c6, c7, c8] ((cutsI n).map dC) () = .ok ((colsI n).map fun r => .tuple (r.map .int)) () := by
    intros
    unfold colsI
    rw [List.map_map]
    refine cGo_mapF fun c hc => ⟨_, rfl, fun u => ?_⟩
    simp! [(marks_I n h.n2 h.n6 c hc).1, Function.comp]
  have hl : ((cutsI n).map dC).length < 1000000 := by rw [List.length_map]; omega
  cases hres with
  | none p hl' h1 h2 =>
    refine ⟨.tuple [.str "none", .none, .tuple [], dIs p], ?_, .none p ⟨hl', fun c hc => ?_, h2⟩⟩
    · simp! [m_solved, b_solved, all_cuts_ok n h.n2 h.n6, hcomp, e1, eq_nl]
    · obtain ⟨q1, q2⟩ := idx_at h.n2 h.n6 hc
      have := h1 _ q1
      have e : ∀ i, colA (colsI n) i ((cutsI n).idxOf c) = gi (marksI n c) i := fun i => by
        have := colA_mk (n := n) (i := i) q1
        unfold mkR at this
        rw [q2] at this
        exact Rat.intCast_inj.mp this
      rw [si_congr fun i _ => by rw [e i]] at this
      exact this
  | opn x hx Y y1 y2 y3 =>
    exfalso
    have hz := no_ray h y1 y2
    have : sm (cutN n) (fun j => (gi costs j : Rat) * Y j) = 0 := sm_zero fun j hj => by rw [hz j hj]; grind
    rw [show (cutsI n).length = cutN n from rfl, this] at y3
    exact absurd y3 Rat.lt_irrefl
  | least v x p hx hv pl p1 p2 sv sp =>
    obtain ⟨w1, w2⟩ := feas_dec h hx
    have hmem : ∀ j, j < cutN n → xr x j ∈ x := fun j hj => by
      unfold xr
      rw [List.getD_eq_getElem?_getD, List.getElem?_eq_getElem (by rw [hx.len]; exact hj)]
      exact List.getElem_mem _
    refine ⟨.tuple [.str "least", dR v, dWs (asW n x), .list (p.map dR)], ?_, .least v (asW n x) p ⟨w1, w2, ?_, pl, fun j hj => ?_, p2, sv, sp, fun q hq => ?_, ?_⟩⟩
    · simp! [m_solved, b_solved, all_cuts_ok n h.n2 h.n6, hcomp, e1, eq_ll, as_weights_ok h.n2 h.n6 hx.len]
    · rw [costW_asW h.n2 h.n6 fun j hj => hx.pos _ (hmem j hj)]
      exact hv
    · have := p1 j hj
      rw [sm_congr (g := fun i => xr p i * mkR n (cutAt n j) i) fun i _ => by rw [colA_mk hj]] at this
      exact this
    · unfold asW at hq
      obtain ⟨j, hj, rfl⟩ := List.mem_map.mp hq
      exact hx.sz _ (hmem j (List.mem_range.mp (List.mem_filter.mp hj).1))
    · obtain ⟨bs, b1, b2⟩ := hx.sup
      rw [← b1]
      exact asW_few b2
theorem free_costs_ok (a : 2 ≤ n) (b : n ≤ 6) : m_free_costs [.d (.int n)] () = .ok (.d (dIs (List.replicate (cutN n) 0))) () := by
  have hcl := (cuts_sorted n a b).2.2
  have hcl' : cutN n ≤ 31 := hcl
  have hm : pyMul (.list [.int 0]) (.int ((((cutsI n).map dC).length : Nat) : Int)) = some (dIs (List.replicate (cutN n) 0)) := by
    show (if _ then _ else _) = _
    rw [List.length_map, if_pos ⟨by omega, by omega, by decide⟩, Int.toNat_natCast, flat_zero]
    rfl
  simp! [m_free_costs, b_free_costs, all_cuts_ok n a b, hm]
def zcosts (n : Int) : List Int := List.replicate (cutN n) 0
theorem zc_ok : (zcosts n).length = cutN n ∧ ∀ x ∈ zcosts n, -9 ≤ x ∧ x ≤ 9 := ⟨List.length_replicate, fun x hx => by rw [List.eq_of_mem_replicate hx]; decide⟩
/-- what decomposition and excluding tell -/
theorem decomp_ok (h : TabOk n xs) (hF : 64 ^ 15 + 1 ≤ FU) :
    (∃ ws p v, Least n xs (zcosts n) v ws p ∧ m_decomposition FU [.d (.tuple [.int n, .tuple (xs.map .int)])] () = .ok (.d (dWs ws)) () ∧ m_excluding FU [.d (.tuple [.int n, .tuple (xs.map .int)])] () = .ok (.d .none) ()) ∨
    (∃ p, Excl n xs p ∧ m_decomposition FU [.d (.tuple [.int n, .tuple (xs.map .int)])] () = .ok (.d .none) () ∧ m_excluding FU [.d (.tuple [.int n, .tuple (xs.map .int)])] () = .ok (.d (.tuple (p.map .int))) ()) := by
  obtain ⟨res, e1, hres⟩ := solved_ok (ct := dIs) h seqI_L zc_ok.1 zc_ok.2 hF
  have e2 := free_costs_ok h.n2 h.n6
  have e3 := need_table_ok h.table
  unfold zcosts at e1
  cases hres with
  | none p hp =>
    refine .inr ⟨p, hp, ?_, ?_⟩
    · simp! [m_decomposition, b_decomposition, e3, e2, e1, eq_nl]
    · unfold dIs at e1 e2
      simp! [m_excluding, b_excluding, e3, e2, e1, eq_nn]
  | least v ws p hp =>
    refine .inl ⟨ws, p, v, hp, ?_, ?_⟩
    · simp! [m_decomposition, b_decomposition, e3, e2, e1, eq_ll]
    · simp! [m_excluding, b_excluding, e3, e2, e1, eq_ln]
end

-- needs: P_Solved3
/-! ### weights against prices -/
open SX
/-- cuts with weights from 0 on, in any order, a cut more often than once -/
def Wq (n : Int) (ws : List (List Int × Rat)) : Prop := ∀ p ∈ ws, p.1 ∈ cutsI n ∧ 0 ≤ p.2
theorem WOk.wq {n : Int} {ws : List (List Int × Rat)} (h : WOk n ws) : Wq n ws := fun p hp => ⟨h.cut hp, Rat.num_nonneg.mp (Int.le_of_lt (h.pos p hp).1)⟩
theorem dual_eq {m : Nat} {p : Nat → Rat} {f : List Int → Nat → Rat} : ∀ (ws : List (List Int × Rat)), sm m (fun i => p i * rsum (ws.map fun w => f w.1 i * w.2)) = rsum (ws.map fun w => sm m (fun i => p i * f w.1 i) * w.2)
  | [] => by
    show sm m (fun i => p i * 0) = 0
    exact sm_zero fun i _ => by grind
  | w :: r => by
    rw [List.map_cons, rsum_cons, ← dual_eq r]
    have e : sm m (fun i => p i * f w.1 i) * w.2 = sm m (fun i => w.2 * (p i * f w.1 i)) := by rw [sm_mul]; grind
    rw [e, ← sm_add]
    refine sm_congr fun i _ => ?_
    rw [List.map_cons, rsum_cons]
    grind
theorem rsum_le {ws : List (List Int × Rat)} {f g : List Int → Rat} (h : ∀ w ∈ ws, f w.1 ≤ g w.1 ∧ 0 ≤ w.2) : rsum (ws.map fun w => f w.1 * w.2) ≤ rsum (ws.map fun w => g w.1 * w.2) := by
  induction ws with
  | nil => exact Rat.le_refl
  | cons w r ih =>
    rw [List.map_cons, List.map_cons, rsum_cons, rsum_cons]
    have h1 := ih fun x hx => h x (List.mem_cons_of_mem _ hx)
    obtain ⟨h2, h3⟩ := h w List.mem_cons_self
    have h4 := Rat.mul_le_mul_of_nonneg_right h2 h3
    grind
section
variable {n : Int} {xs : List Int}
/-- prices times distances, by the weights -/
theorem price_eq (h : TabOk n xs) {ws : List (List Int × Rat)} (hw : Wq n ws) (hs : sumW n ws = asR xs) (p : Nat → Rat) : sm xs.length (fun i => p i * (gi xs i : Rat)) = rsum (ws.map fun w => sm xs.length (fun i => p i * mkR n w.1 i) * w.2) := by
  rw [← dual_eq]
  have := (sum_iff h fun q hq => (hw q hq).1).mp hs
  exact sm_congr fun i hi => by rw [this i hi]
theorem si_mk {m : Nat} {p : List Int} {c : List Int} : ((si m (fun i => gi p i * gi (marksI n c) i) : Int) : Rat) = sm m (fun i => (gi p i : Rat) * mkR n c i) := by
  rw [si_cast]
  exact sm_congr fun i _ => by rw [Rat.intCast_mul]; rfl
/-- what excludes a table shows that there are no weights -/
theorem excl_no (h : TabOk n xs) {p : List Int} (he : Excl n xs p) {ws : List (List Int × Rat)} (hw : Wq n ws) (hs : sumW n ws = asR xs) : False := by
  have e := price_eq h hw hs (fun i => (gi p i : Rat))
  have h1 : rsum (ws.map fun w => sm xs.length (fun i => (gi p i : Rat) * mkR n w.1 i) * w.2) ≤ rsum (ws.map fun w => (fun _ : List Int => (0 : Rat)) w.1 * w.2) :=
    rsum_le (f := fun c => sm xs.length (fun i => (gi p i : Rat) * mkR n c i)) (g := fun _ => 0) fun w hw' => ⟨by
      have := he.cut w.1 (hw w hw').1
      rw [← si_mk]
      exact Rat.intCast_nonpos.mpr this, (hw w hw').2⟩
  have h2 : rsum (ws.map fun w => (fun _ : List Int => (0 : Rat)) w.1 * w.2) = 0 := by
    clear hw hs e h1
    induction ws with
    | nil => rfl
    | cons w r ih => rw [List.map_cons, rsum_cons, ih]; grind
  rw [h2, ← e] at h1
  have h3 := he.tab
  have h4 : (0 : Rat) < ((si xs.length (fun i => gi p i * gi xs i) : Int) : Rat) := Rat.intCast_pos.mpr h3
  rw [si_cast] at h4
  have h5 : sm xs.length (fun i => ((gi p i * gi xs i : Int) : Rat)) = sm xs.length (fun i => (gi p i : Rat) * (gi xs i : Rat)) := sm_congr fun i _ => Rat.intCast_mul ..
  rw [h5] at h4
  grind
/-- decomposable -/
def DecQ (n : Int) (xs : List Int) : Prop := ∃ ws, Wq n ws ∧ sumW n ws = asR xs
/-- decomposition and excluding, by that -/
theorem decomp_iff (h : TabOk n xs) {FU : Nat} (hF : 64 ^ 15 + 1 ≤ FU) :
    (DecQ n xs → ∃ ws p v, Least n xs (zcosts n) v ws p ∧ m_decomposition FU [.d (.tuple [.int n, .tuple (xs.map .int)])] () = .ok (.d (dWs ws)) () ∧ m_excluding FU [.d (.tuple [.int n, .tuple (xs.map .int)])] () = .ok (.d .none) ()) ∧
    (¬ DecQ n xs → ∃ p, Excl n xs p ∧ m_decomposition FU [.d (.tuple [.int n, .tuple (xs.map .int)])] () = .ok (.d .none) () ∧ m_excluding FU [.d (.tuple [.int n, .tuple (xs.map .int)])] () = .ok (.d (.tuple (p.map .int))) ()) := by
  rcases decomp_ok h hF with ⟨ws, p, v, hl, e1, e2⟩ | ⟨p, he, e1, e2⟩
  · exact ⟨fun _ => ⟨ws, p, v, hl, e1, e2⟩, fun hn => absurd ⟨ws, hl.ok.wq, hl.sum⟩ hn⟩
  · exact ⟨fun ⟨ws, hw, hs⟩ => (excl_no h he hw hs).elim, fun _ => ⟨p, he, e1, e2⟩⟩
/-- no weights cost less than the prices say -/
theorem dual_le (h : TabOk n xs) {costs : List Int} {p : List Rat} (hp : Supp n xs.length p costs) {ws : List (List Int × Rat)} (hw : Wq n ws) (hs : sumW n ws = asR xs) : sm xs.length (fun i => xr p i * (gi xs i : Rat)) ≤ costW n costs ws := by
  rw [price_eq h hw hs]
  unfold costW
  refine rsum_le (f := fun c => sm xs.length (fun i => xr p i * mkR n c i)) (g := fun c => (gi costs ((cutsI n).idxOf c) : Rat)) fun w hw' => ⟨?_, (hw w hw').2⟩
  obtain ⟨q1, q2⟩ := idx_at h.n2 h.n6 (hw w hw').1
  have := hp _ q1
  rwa [q2] at this
/-- so the least cost is the least -/
theorem Least.le (h : TabOk n xs) {costs : List Int} {v : Rat} {ws : List (List Int × Rat)} {p : List Rat} (hl : Least n xs costs v ws p) {us : List (List Int × Rat)} (hw : Wq n us) (hs : sumW n us = asR xs) : v ≤ costW n costs us := by
  rw [← hl.pval]
  exact dual_le h hl.supp hw hs
end

-- needs: P_Dual
/-! ### least costs -/
open SX
section
variable {n : Int} {xs costs : List Int} {ct : List Int → PyData} {FU : Nat}
def dTab (n : Int) (xs : List Int) : PyData := .tuple [.int n, .tuple (xs.map .int)]
def CostOk (n : Int) (costs : List Int) : Prop := costs.length = cutN n ∧ ∀ x ∈ costs, -9 ≤ x ∧ x ≤ 9
def dLeast (v : Rat) (ws : List (List Int × Rat)) (p : List Rat) : PyData := .tuple [dR v, dWs ws, .tuple (p.map dR)]
theorem lowest_cost_ok (h : TabOk n xs) (hd : DecQ n xs) (hC : SeqI ct) (hc : CostOk n costs) (hF : 64 ^ 15 + 1 ≤ FU) :
    ∃ v ws p, Least n xs costs v ws p ∧ m_lowest_cost FU [.d (dTab n xs), .d (ct costs)] () = .ok (.d (dLeast v ws p)) () := by
  obtain ⟨res, e1, hres⟩ := solved_ok (ct := ct) h hC hc.1 hc.2 hF
  cases hres with
  | none p hp =>
    obtain ⟨us, u1, u2⟩ := hd
    exact (excl_no h hp u1 u2).elim
  | least v ws p hp =>
    refine ⟨v, ws, p, hp, ?_⟩
    have hl : (p.map dR).length < 1000000 := by rw [List.length_map, hp.plen]; have := h.few; omega
    unfold dTab dLeast
    simp! [m_lowest_cost, b_lowest_cost, e1, ne_ll]
theorem lowest_cost_no (h : TabOk n xs) (hd : ¬ DecQ n xs) (hC : SeqI ct) (hc : CostOk n costs) (hF : 64 ^ 15 + 1 ≤ FU) :
    m_lowest_cost FU [.d (dTab n xs), .d (ct costs)] () = .exc 8 () := by
  obtain ⟨res, e1, hres⟩ := solved_ok (ct := ct) h hC hc.1 hc.2 hF
  cases hres with
  | none p hp =>
    unfold dTab
    simp! [m_lowest_cost, b_lowest_cost, e1, ne_nl]
  | least v ws p hp => exact absurd ⟨ws, hp.ok.wq, hp.sum⟩ hd
theorem need_costs_ok (a : 2 ≤ n) (b : n ≤ 6) (hc : CostOk n costs) : m_need_costs [.d (.int n), .d (.tuple (costs.map .int))] () = .ok (.d .none) () := by
  have hcl := (cuts_sorted n a b).2.2
  have hcl' : cutN n ≤ 31 := hcl
  have h1 : ∀ v0 v1 : Sl, cGo (S := Unit) (bName 2) yes (eP (lenIs 3 m_is_whole) (aCons (eVar 2) (aCons (eUn pyNeg (eC (.int 9))) (aCons (eC (.int 9)) aNil)))) [v0, v1, .non] (costs.map .int) () = .ok (costs.map fun _ => .bool true) () := by
    intro v0 v1
    refine cGo_mapF fun x hx => ⟨_, rfl, fun u => ?_⟩
    have := hc.2 x hx
    have hw : wholeB (-9) 9 (.int x) = true := by unfold wholeB; simp; omega
    simp! [whole_ok, hw]
  have h2 : pyAll [.list (costs.map fun _ => .bool true)] = some (.bool true) := by
    rw [o_all dBools_map]
    simp
  have h3 : ((costs.map PyData.int).length : Int) = (((cutsI n).map dC).length : Int) := by rw [List.length_map, List.length_map, hc.1]; rfl
  have h4 : (costs.map PyData.int).length < 1000000 := by rw [List.length_map, hc.1]; omega
  simp! [m_need_costs, b_need_costs, all_cuts_ok n a b, h1, h2, h3]
theorem least_ok (h : TabOk n xs) (hd : DecQ n xs) (hc : CostOk n costs) (hF : 64 ^ 15 + 1 ≤ FU) :
    ∃ v ws p, Least n xs costs v ws p ∧ m_least FU [.d (dTab n xs), .d (.tuple (costs.map .int))] () = .ok (.d (dLeast v ws p)) () := by
  obtain ⟨v, ws, p, hl, e1⟩ := lowest_cost_ok (ct := fun r => .tuple (r.map .int)) h hd seqI_T hc hF
  refine ⟨v, ws, p, hl, ?_⟩
  have e2 := need_table_ok h.table
  have e3 := need_costs_ok h.n2 h.n6 hc
  unfold dTab at *
  simp! [m_least, b_least, e1, e2, e3]
theorem least_no (h : TabOk n xs) (hd : ¬ DecQ n xs) (hc : CostOk n costs) (hF : 64 ^ 15 + 1 ≤ FU) :
    m_least FU [.d (dTab n xs), .d (.tuple (costs.map .int))] () = .exc 8 () := by
  have e1 := lowest_cost_no (ct := fun r => .tuple (r.map .int)) h hd seqI_T hc hF
  have e2 := need_table_ok h.table
  have e3 := need_costs_ok h.n2 h.n6 hc
  unfold dTab at *
  simp! [m_least, b_least, e1, e2, e3]
def negs (costs : List Int) : List Int := costs.map fun x => -x
theorem negs_ok (h : CostOk n costs) : CostOk n (negs costs) := by
  refine ⟨by unfold negs; rw [List.length_map]; exact h.1, fun x hx => ?_⟩
  obtain ⟨y, hy, rfl⟩ := List.mem_map.mp hx
  have := h.2 y hy
  omega
theorem dR_neg (q : Rat) : dR (-q) = .tuple [.int (-q.num), .int q.den] := rfl
/-- least and greatest -/
theorem both_ends_ok (h : TabOk n xs) (hd : DecQ n xs) (hc : CostOk n costs) (hF : 64 ^ 15 + 1 ≤ FU) :
    ∃ v ws p v' ws' p', Least n xs costs v ws p ∧ Least n xs (negs costs) v' ws' p' ∧ m_both_ends FU [.d (dTab n xs), .d (dIs costs)] () = .ok (.d (.tuple [dR v, dR (-v')])) () := by
  obtain ⟨v, ws, p, hl, e1⟩ := lowest_cost_ok (ct := dIs) h hd seqI_L hc hF
  obtain ⟨v', ws', p', hl', e1'⟩ := lowest_cost_ok (ct := dIs) h hd seqI_L (negs_ok hc) hF
  refine ⟨v, ws, p, v', ws', p', hl, hl', ?_⟩
  have hcl := (cuts_sorted n h.n2 h.n6).2.2
  have hcl' : cutN n ≤ 31 := hcl
  have h1 : ∀ v0 v1 v2 v3 : Sl, cGo (S := Unit) (bName 4) yes (eUn pyNeg (eVar 4)) [v0, v1, v2, v3, .non] (costs.map .int) () = .ok ((negs costs).map .int) () := by
    intros
    unfold negs
    rw [List.map_map]
    refine cGo_mapF fun x hx => ⟨_, rfl, fun u => ?_⟩
    simp! [Function.comp]
  have hlen : (costs.map PyData.int).length < 1000000 := by rw [List.length_map, hc.1]; omega
  have g0 : pyIx (dLeast v ws p) (.int 0) = some (dR v) := rfl
  have g0' : pyIx (dLeast v' ws' p') (.int 0) = some (dR v') := rfl
  have g1 : pyIx (dR v') (.int 0) = some (.int v'.num) := rfl
  have g2 : pyIx (dR v') (.int 1) = some (.int v'.den) := rfl
  rw [dR_neg]
  unfold dTab dIs at *
  simp! [m_both_ends, b_both_ends, e1, e1', h1, g0, g0', g1, g2]
end

-- needs: P_Least
/-! ### ranges -/
open SX
theorem dC_inj {a b : List Int} (h : dC a = dC b) : a = b := by
  unfold dC at h
  injection h with h
  exact map_inj (fun x y e => by injection e) h
theorem eq_dC {a b : List Int} : pyEq (dC a) (dC b) = some (.bool (decide (a = b))) := by
  by_cases h : a = b
  · rw [decide_eq_true h]
    exact o_eqr (by rw [h]) (fo_dC a) (by decide)
  · rw [decide_eq_false h]
    exact o_eq (sh_dC a) (sh_dC b) (eqv_ne (pure_dC a) (pure_dC b) fun e => h (dC_inj e))
theorem eq_dR {p q : Rat} [Decidable (p = q)] : pyEq (dR p) (dR q) = some (.bool (decide (p = q))) := by
  by_cases h : p = q
  · rw [decide_eq_true h]
    exact o_eqr (by rw [h]) (fo_dR p) (by decide)
  · rw [decide_eq_false h]
    exact o_eq (fo_sh (fo_dR p) (by decide)) (fo_sh (fo_dR q) (by decide)) (eqv_ne (pure_dR p) (pure_dR q) fun e => h (dR_inj e))
theorem ne_dR (p : Rat) : pyNe (dR p) (dR p) = some (.bool false) := o_ner rfl (fo_dR p) (by decide)
/-- 1 for a cut, 0 for the others -/
def indC (n : Int) (c : List Int) : List Int := (cutsI n).map fun d => if d = c then 1 else 0
def onesC (n : Int) : List Int := (cutsI n).map fun _ => 1
section
variable {n : Int} {xs costs : List Int} {FU : Nat}
theorem ind_ok {c : List Int} : CostOk n (indC n c) := ⟨List.length_map .., fun x hx => by
  obtain ⟨d, _, rfl⟩ := List.mem_map.mp hx
  split <;> decide⟩
theorem ones_ok : CostOk n (onesC n) := ⟨List.length_map .., fun x hx => by
  obtain ⟨d, _, rfl⟩ := List.mem_map.mp hx
  decide⟩
theorem need_cut_ok (a : 2 ≤ n) (b : n ≤ 6) {c : List Int} (hc : c ∈ cutsI n) : m_need_cut [.d (.int n), .d (dC c)] () = .ok (.d .none) () := by
  have h1 := (cuts_sorted n a b).2.1 c hc
  have h2 := is_cut_ok n c (by omega)
  rw [h1.2.1] at h2
  simp! [m_need_cut, b_need_cut, h2]
theorem weight_range_ok (h : TabOk n xs) (hd : DecQ n xs) {c : List Int} (hc : c ∈ cutsI n) (hF : 64 ^ 15 + 1 ≤ FU) :
    ∃ v ws p v' ws' p', Least n xs (indC n c) v ws p ∧ Least n xs (negs (indC n c)) v' ws' p' ∧ m_weight_range FU [.d (dTab n xs), .d (dC c)] () = .ok (.d (.tuple [dR v, dR (-v')])) () := by
  obtain ⟨v, ws, p, v', ws', p', h1, h2, e1⟩ := both_ends_ok h hd (ind_ok (n := n) (c := c)) hF
  refine ⟨v, ws, p, v', ws', p', h1, h2, ?_⟩
  have hcl := (cuts_sorted n h.n2 h.n6).2.2
  have hcomp : ∀ v0 : Sl, cGo (S := Unit) (bName 2) yes (eIf (eTest (eOp pyEq (eVar 2) (eVar 1))) (eC (.int 1)) (eC (.int 0))) [v0, .w (.d (dC c)), .non] ((cutsI n).map dC) () = .ok ((indC n c).map .int) () := by
    intro v0
    unfold indC
    rw [List.map_map]
    refine cGo_mapF fun d hd => ⟨_, rfl, fun u => ?_⟩
    by_cases e : d = c
    · simp! [eq_dC, decide_eq_true e, Function.comp, e]
    · simp! [eq_dC, decide_eq_false e, Function.comp, if_neg e]
  have hl : ((cutsI n).map dC).length < 1000000 := by rw [List.length_map]; omega
  have e2 := need_table_ok h.table
  have e3 := need_cut_ok h.n2 h.n6 hc
  have e4 := all_cuts_ok n h.n2 h.n6
  unfold dTab dIs at *
  simp! [m_weight_range, b_weight_range, e1, e2, e3, e4, hcomp]
theorem total_range_ok (h : TabOk n xs) (hd : DecQ n xs) (hF : 64 ^ 15 + 1 ≤ FU) :
    ∃ v ws p v' ws' p', Least n xs (onesC n) v ws p ∧ Least n xs (negs (onesC n)) v' ws' p' ∧ m_total_range FU [.d (dTab n xs)] () = .ok (.d (.tuple [dR v, dR (-v')])) () := by
  obtain ⟨v, ws, p, v', ws', p', h1, h2, e1⟩ := both_ends_ok h hd (ones_ok (n := n)) hF
  refine ⟨v, ws, p, v', ws', p', h1, h2, ?_⟩
  have hcl := (cuts_sorted n h.n2 h.n6).2.2
  have hcomp : ∀ v0 : Sl, cGo (S := Unit) (bName 1) yes (eC (.int 1)) [v0, .non] ((cutsI n).map dC) () = .ok ((onesC n).map .int) () := by
    intro v0
    unfold onesC
    rw [List.map_map]
    refine cGo_mapF fun d hd => ⟨_, rfl, fun u => ?_⟩
    simp! [Function.comp]
  have hl : ((cutsI n).map dC).length < 1000000 := by rw [List.length_map]; omega
  have e2 := need_table_ok h.table
  have e4 := all_cuts_ok n h.n2 h.n6
  unfold dTab dIs at *
  simp! [m_total_range, b_total_range, e1, e2, e4, hcomp]
end
/-! ### the law's own -/
theorem more_ok {p q : Rat} {a b : Nat} (hp : Sz a p) (hq : Sz b q) (h : a + b ≤ 9000) [Decidable (q < p)] : m_law_is_more [.d (dR p), .d (dR q)] () = .ok (.d (.bool (decide (q < p)))) () := by
  have e1 : pyMul (.int p.num) (.int q.den) = some (.int (p.num * q.den)) := mul_bits hp.1 (by rw [Int.natAbs_natCast]; exact hq.2) hp.pos hq.pos (by omega)
  have e2 : pyMul (.int q.num) (.int p.den) = some (.int (q.num * p.den)) := mul_bits hq.1 (by rw [Int.natAbs_natCast]; exact hp.2) hq.pos hp.pos (by omega)
  have g0 : pyIx (dR p) (.int 0) = some (.int p.num) := rfl
  have g1 : pyIx (dR p) (.int 1) = some (.int p.den) := rfl
  have g2 : pyIx (dR q) (.int 0) = some (.int q.num) := rfl
  have g3 : pyIx (dR q) (.int 1) = some (.int q.den) := rfl
  have e3 : decide (q.num * (p.den : Int) < p.num * (q.den : Int)) = decide (q < p) := by
    rw [decide_eq_decide, Rat.lt_iff]
  simp! [m_law_is_more, b_law_is_more, g0, g1, g2, g3, e1, e2, e3]
theorem total_go : ∀ (qs : List Rat) (all : Sl) (acc : Rat) (k j : Nat) (v2 : Sl), Sz k acc → (∀ q ∈ qs, Sz j q) → k + (j + 1) * qs.length ≤ 9000 →
    ∃ v2', fGo (S := Unit) (bName 2) (sAsg 1 (eP (lenIs 2 m_law_plus) (aCons (eVar 1) (aCons (eVar 2) aNil)))) (qs.map dR) [all, .w (.d (dR acc)), v2] () = .nx [all, .w (.d (dR (acc + rsum qs))), v2'] ()
  | [], all, acc, k, j, v2, _, _, _ => ⟨v2, by rw [List.map_nil, rsum_nil, Rat.add_zero]; rfl⟩
  | q :: r, all, acc, k, j, v2, hk, hj, hl => by
    rw [List.length_cons] at hl
    have hm : (j + 1) * (r.length + 1) = (j + 1) * r.length + (j + 1) := Nat.mul_succ ..
    have hq := hj q List.mem_cons_self
    have e1 := lplus_ok hk hq (by omega)
    obtain ⟨v2', e2⟩ := total_go r all (acc + q) (k + j + 1) j (.w (.d (dR q))) (hk.add hq) (fun x hx => hj x (List.mem_cons_of_mem _ hx)) (by omega)
    refine ⟨v2', ?_⟩
    rw [List.map_cons, rsum_cons, ← Rat.add_assoc, ← e2, fGo_cons]
    simp! [e1]
theorem law_total_ok {qs : List Rat} {j : Nat} (hj : ∀ q ∈ qs, Sz j q) (hl : 1 + (j + 1) * qs.length ≤ 9000) : m_law_total [.d (.list (qs.map dR))] () = .ok (.d (dR (rsum qs))) () := by
  obtain ⟨v2', e⟩ := total_go qs (.w (.d (.list (qs.map dR)))) 0 1 j .non ⟨by decide, by decide⟩ hj hl
  rw [Rat.zero_add] at e
  have h0 : dR 0 = .tuple [.int 0, .int 1] := rfl
  rw [h0] at e
  simp! [m_law_total, b_law_total, e]

-- needs: P_Range
/-! ### weights by cut -/
open SX
def kC (c : List Int) : List Key := c.map Sum.inl
def kvR (p : List Int × Rat) : List Key × PyData := (kC p.1, dR p.2)
theorem keyD_C (c : List Int) : keyD (c.map .int) = some (kC c) := by
  induction c with
  | nil => rfl
  | cons x r ih =>
    rw [List.map_cons, keyD, ih]
    rfl
theorem kC_inj {a b : List Int} (h : kC a = kC b) : a = b := map_inj (fun x y e => by injection e) h
/-- the weight of a cut -/
def wOf (ws : List (List Int × Rat)) (c : List Int) : Rat := ((ws.find? fun p => decide (p.1 = c)).map (·.2)).getD 0
theorem wOf_nil {c : List Int} : wOf [] c = 0 := rfl
theorem wOf_cons {p : List Int × Rat} {ws : List (List Int × Rat)} {c : List Int} : wOf (p :: ws) c = if p.1 = c then p.2 else wOf ws c := by
  unfold wOf
  rw [List.find?_cons]
  by_cases h : p.1 = c
  · rw [if_pos h, show decide (p.1 = c) = true from decide_eq_true h]; rfl
  · rw [if_neg h, show decide (p.1 = c) = false from decide_eq_false h]
theorem get_w {ws : List (List Int × Rat)} {c : List Int} : (getD (ws.map kvR) (kC c)).getD (dR 0) = dR (wOf ws c) := by
  induction ws with
  | nil => rfl
  | cons p r ih =>
    rw [wOf_cons]
    unfold getD
    rw [List.map_cons, List.find?_cons]
    by_cases h : p.1 = c
    · rw [if_pos h, show decide ((kvR p).1 = kC c) = true from decide_eq_true (congrArg kC h)]; rfl
    · rw [if_neg h, show decide ((kvR p).1 = kC c) = false from decide_eq_false fun e => h (kC_inj e)]
      exact ih
theorem putD_new {kvs : List (List Key × PyData)} {k : List Key} {d : PyData} (h : ∀ kv ∈ kvs, kv.1 ≠ k) : putD kvs k d = kvs ++ [(k, d)] := by
  unfold putD
  rw [if_neg]
  intro e
  obtain ⟨kv, h1, h2⟩ := List.any_eq_true.mp e
  exact h kv h1 (of_decide_eq_true h2)
theorem dict_go : ∀ (us ws : List (List Int × Rat)) (v0 v2 v3 : Sl), ((ws ++ us).map (·.1)).Nodup → ws.length + us.length ≤ 1000 →
    ∃ v2' v3', fGo (S := Unit) (bTup [2, 3]) (sPutD 1 (eVar 2) (eVar 3)) (us.map fun p => .tuple [dC p.1, dR p.2]) [v0, .odc (ws.map kvR), v2, v3] () = .nx [v0, .odc ((ws ++ us).map kvR), v2', v3'] ()
  | [], ws, v0, v2, v3, _, _ => ⟨v2, v3, by rw [List.append_nil]; rfl⟩
  | p :: r, ws, v0, v2, v3, hn, hl => by
    rw [List.length_cons] at hl
    obtain ⟨v2', v3', e⟩ := dict_go r (ws ++ [p]) v0 (.w (.d (dC p.1))) (.w (.d (dR p.2))) (by rw [List.append_assoc]; exact hn) (by rw [List.length_append]; simp; omega)
    refine ⟨v2', v3', ?_⟩
    have hp : putD (ws.map kvR) (kC p.1) (dR p.2) = (ws ++ [p]).map kvR := by
      rw [putD_new, List.map_append]
      · rfl
      · intro kv hkv e
        obtain ⟨q, hq, rfl⟩ := List.mem_map.mp hkv
        rw [List.map_append, List.nodup_append] at hn
        exact hn.2.2 q.1 (List.mem_map.mpr ⟨q, hq, rfl⟩) p.1 (List.mem_map.mpr ⟨p, List.mem_cons_self, rfl⟩) (kC_inj e)
    have hlen : (ws.map kvR).length < 1000000 := by rw [List.length_map]; omega
    rw [List.append_assoc] at e
    rw [List.map_cons, fGo_cons]
    unfold dC at *
    have hk : ∀ σ : List Sl, putK2 1 σ (ws.map kvR) (dR p.2) (.ok (.d (.tuple (p.1.map .int))) ()) = .nx (σ.set 1 (.odc ((ws ++ [p]).map kvR))) () := fun σ => by
      rw [r_putK2_ok (keyD_C p.1) hlen, hp]
    simp! [hk]
    exact e
theorem WOk.nodup {n : Int} (a : 2 ≤ n) (b : n ≤ 6) {ws : List (List Int × Rat)} (h : WOk n ws) : (ws.map (·.1)).Nodup := by
  exact List.Nodup.sublist h.sub (small (p := fun n => (cutsI n).Nodup) (by decide +kernel) (by decide +kernel) (by decide +kernel) (by decide +kernel) (by decide +kernel) n a b)
theorem as_dict_ok {n : Int} (a : 2 ≤ n) (b : n ≤ 6) {ws : List (List Int × Rat)} (h : WOk n ws) : m_law_as_dict [.d (dWs ws)] () = .ok (.dic (ws.map kvR)) () := by
  have hl := h.len a b
  obtain ⟨v2', v3', e⟩ := dict_go ws [] (.w (.d (dWs ws))) .non .non (by rw [List.nil_append]; exact h.nodup a b) (by simp; omega)
  rw [List.nil_append, List.map_nil] at e
  unfold dWs at *
  simp! [m_law_as_dict, b_law_as_dict, e]
/-- the cost of one cut is its weight -/
theorem cost_ind {n : Int} (a : 2 ≤ n) (b : n ≤ 6) {c : List Int} (hc : c ∈ cutsI n) : ∀ {ws : List (List Int × Rat)}, (ws.map (·.1)).Nodup → (∀ p ∈ ws, p.1 ∈ cutsI n) → costW n (indC n c) ws = wOf ws c
  | [], _, _ => rfl
  | p :: r, hn, hw => by
    rw [List.map_cons, List.nodup_cons] at hn
    have ih := cost_ind a b hc hn.2 fun q hq => hw q (List.mem_cons_of_mem _ hq)
    have hp := hw p List.mem_cons_self
    rw [wOf_cons]
    unfold costW at ih ⊢
    rw [List.map_cons, rsum_cons, ih]
    have hg : gi (indC n c) ((cutsI n).idxOf p.1) = if p.1 = c then 1 else 0 := by
      obtain ⟨h1, h2⟩ := idx_at a b hp
      unfold indC gi
      rw [List.getD_eq_getElem?_getD, List.getElem?_map]
      unfold cutAt at h2
      rw [List.getD_eq_getElem?_getD, List.getElem?_eq_getElem h1] at h2
      rw [List.getElem?_eq_getElem h1]
      simp only [Option.map_some, Option.getD_some] at h2 ⊢
      rw [h2]
    rw [hg]
    by_cases e : p.1 = c
    · rw [if_pos e, if_pos e]
      have : wOf r c = 0 := by
        unfold wOf
        rw [List.find?_eq_none.mpr]
        · rfl
        · intro q hq hq'
          exact hn.1 (by rw [e, ← of_decide_eq_true hq']; exact List.mem_map.mpr ⟨q, hq, rfl⟩)
      rw [this]
      show ((1 : Int) : Rat) * p.2 + 0 = p.2
      grind
    · rw [if_neg e, if_neg e]
      show ((0 : Int) : Rat) * p.2 + wOf r c = wOf r c
      grind
theorem cost_neg {n : Int} (a : 2 ≤ n) (b : n ≤ 6) {costs : List Int} (hc : costs.length = cutN n) : ∀ {ws : List (List Int × Rat)}, (∀ p ∈ ws, p.1 ∈ cutsI n) → costW n (negs costs) ws = - costW n costs ws
  | [], _ => rfl
  | p :: r, hw => by
    have ih := cost_neg a b hc (ws := r) fun q hq => hw q (List.mem_cons_of_mem _ hq)
    obtain ⟨h1, _⟩ := idx_at a b (hw p List.mem_cons_self)
    unfold costW at ih ⊢
    rw [List.map_cons, rsum_cons, List.map_cons, rsum_cons, ih]
    have hg : gi (negs costs) ((cutsI n).idxOf p.1) = - gi costs ((cutsI n).idxOf p.1) := by
      unfold negs gi
      rw [List.getD_eq_getElem?_getD, List.getElem?_map, List.getD_eq_getElem?_getD, List.getElem?_eq_getElem (by rw [hc]; exact h1)]
      rfl
    rw [hg, Rat.intCast_neg]
    grind
theorem cost_ones {n : Int} (a : 2 ≤ n) (b : n ≤ 6) : ∀ {ws : List (List Int × Rat)}, (∀ p ∈ ws, p.1 ∈ cutsI n) → costW n (onesC n) ws = rsum (ws.map (·.2))
  | [], _ => rfl
  | p :: r, hw => by
    have ih := cost_ones a b (ws := r) fun q hq => hw q (List.mem_cons_of_mem _ hq)
    obtain ⟨h1, _⟩ := idx_at a b (hw p List.mem_cons_self)
    unfold costW at ih ⊢
    rw [List.map_cons, rsum_cons, List.map_cons, rsum_cons, ih]
    have hg : gi (onesC n) ((cutsI n).idxOf p.1) = 1 := by
      unfold onesC gi
      rw [List.getD_eq_getElem?_getD, List.getElem?_map, List.getElem?_eq_getElem h1]
      rfl
    rw [hg]
    show ((1 : Int) : Rat) * p.2 + _ = _
    grind

-- needs: P_Dual
/-! ### drawn sums of cuts -/
open SX
theorem ints_get {xs ms : List Int} {w : Int} : ∀ {i : Nat} {y : Int}, (List.zipWith (fun x m => x + w * m) xs ms)[i]? = some y → ∃ x m, xs[i]? = some x ∧ ms[i]? = some m ∧ y = x + w * m := by
  intro i y h
  rw [List.getElem?_zipWith] at h
  cases ex : xs[i]? with
  | none => rw [ex] at h; cases h
  | some x =>
    cases em : ms[i]? with
    | none => rw [ex, em] at h; cases h
    | some m =>
      rw [ex, em] at h
      cases h
      exact ⟨x, m, rfl, rfl, rfl⟩
def castW (us : List (List Int × Int)) : List (List Int × Rat) := us.map fun u => (u.1, (u.2 : Rat))
theorem add_ints : ∀ {ms xs : List Int} {w : Int}, (∀ m ∈ ms, m = 0 ∨ m = 1) → addMark ms (w : Rat) (asR xs) = asR (List.zipWith (fun x m => x + w * m) xs ms)
  | [], xs, w, _ => by cases xs <;> rfl
  | m :: r, [], w, _ => rfl
  | m :: r, x :: xs, w, h => by
    have ih := add_ints (ms := r) (xs := xs) (w := w) fun y hy => h y (List.mem_cons_of_mem _ hy)
    unfold addMark asR at ih ⊢
    rw [List.map_cons, List.zipWith_cons_cons, List.zipWith_cons_cons, List.map_cons, ih]
    congr 1
    rcases h m List.mem_cons_self with e | e
    · rw [e, if_neg (by decide)]; rw [show x + w * 0 = x by omega]
    · rw [e, if_pos rfl, show x + w * 1 = x + w by omega, Rat.intCast_add]
theorem any_sum_dec (da : Addr) (n t : Int) (s : DiceS) (a : 2 ≤ n) (b : n ≤ 6) (t0 : 0 ≤ t) (t1 : t ≤ 1000) :
    ∃ (xs : List Int) (us : List (List Int × Int)) (s' : DiceS), m_law_any_sum da [.ref da, .d (.int n), .d (.int t)] s = .ok (.d (.list (xs.map .int))) s' ∧ xs.length = (pairsD n).length ∧ (∀ x ∈ xs, 0 ≤ x ∧ x ≤ 5 * t) ∧
      (∀ u ∈ us, u.1 ∈ cutsI n ∧ 1 ≤ u.2 ∧ u.2 ≤ 5) ∧ (us.length : Int) = t ∧ sumW n (castW us) = asR xs := by
  have hp := pairs_ev n a b
  have hc := cuts_ev n a b
  have hf := pairs_few n a b
  have hcl := cuts_len n a b
  have hm : pyMulL (.list [.int 0]) (.int ((pairsD n).length : Int)) = some (.list ((List.replicate (pairsD n).length (0 : Int)).map .int)) := by
    show (if _ then _ else _) = _
    rw [if_pos ⟨by omega, by omega, by decide⟩, Int.toNat_natCast, flat_zero]
  have ht : -1000000 ≤ t ∧ t ≤ 1000000 := ⟨by omega, by omega⟩
  have key : ∀ P : Rs DiceS W → Prop, (∀ (xs : List Int) (us : List (List Int × Int)) (s' : DiceS), xs.length = (pairsD n).length → (∀ x ∈ xs, 0 ≤ x ∧ x ≤ 5 * t) → (∀ u ∈ us, u.1 ∈ cutsI n ∧ 1 ≤ u.2 ∧ u.2 ≤ 5) → (us.length : Int) = t → sumW n (castW us) = asR xs → P (.ok (.d (.list (xs.map .int))) s')) → P (m_law_any_sum da [.ref da, .d (.int n), .d (.int t)] s) := by
    intro P hP
    simp! [m_law_any_sum, b_law_any_sum, hp, hc, hm]
    refine loop_seqI (P := fun r => P (defLK r)) (fun i σ _ => ∃ (xs : List Int) (us : List (List Int × Int)) (v5 v6 v7 v8 v9 : Sl), σ = [.w (.ref da), .w (.d (.int n)), .w (.d (.int t)), .own (xs.map .int), .w (.d (.list (cutsD n))), v5, v6, v7, v8, v9] ∧ xs.length = (pairsD n).length ∧ (∀ x ∈ xs, 0 ≤ x ∧ x ≤ 5 * (i : Int)) ∧ (∀ u ∈ us, u.1 ∈ cutsI n ∧ 1 ≤ u.2 ∧ u.2 ≤ 5) ∧ us.length = i ∧ sumW n (castW us) = asR xs)
      ⟨List.replicate (pairsD n).length 0, [], _, _, _, _, _, rfl, List.length_replicate, (fun x hx => by rw [List.eq_of_mem_replicate hx]; omega), (fun u hu => nomatch hu), rfl, ?_⟩ ?_ ?_
    · unfold asR
      rw [List.map_replicate]
      rfl
    · rintro i d hd σ s1 ⟨xs, us, v5, v6, v7, v8, v9, rfl, hl, hb, hu, hul, hs⟩
      obtain ⟨k1, s2, r1, r1a, r1b⟩ := roll_ok da ((cutsD n).length : Int) s1 (by omega) (by omega)
      obtain ⟨k2, s3, r2, r2a, r2b⟩ := roll_ok da 5 s2 (by decide) (by decide)
      obtain ⟨c, hc1, hc2, _⟩ := ix_some r1a r1b
      rw [cutsD_I n a b] at hc2
      obtain ⟨cc, hcc, rfl⟩ := List.mem_map.mp hc2
      obtain ⟨m1, m2, m3, m4⟩ := marks_I n a b cc hcc
      have hen : ∀ (v0 v1 v2 v3 v4 v5 : Sl), cGo (S := DiceS) (bTup [8, 9]) yes (eOp pyAdd (eVar 9) (eOp pyMul (eVar 7) (eOp pyIx (eVar 6) (eVar 8)))) [v0, v1, v2, v3, v4, v5, .w (.d (.list ((marksI n cc).map .int))), .w (.d (.int (1 + k2))), .non, .non] (enD 0 (xs.map .int)) s3 = .ok ((List.zipWith (fun x m => x + (1 + k2) * m) xs (marksI n cc)).map .int) s3 := by
        intros
        refine cGo_enum (by rw [List.length_map, List.length_map, List.length_zipWith]; omega) fun j x y hx' hy => ?_
        rw [List.getElem?_map] at hx' hy
        obtain ⟨y', hy', rfl⟩ := Option.map_eq_some_iff.mp hy
        obtain ⟨x', m, ex, em, rfl⟩ := ints_get hy'
        rw [ex] at hx'
        cases hx'
        have hmi := m4 m (List.mem_of_getElem? em)
        refine ⟨_, rfl, fun s => rfl, fun s => ?_⟩
        have e1 := ix_int em
        have e2 := mul_bit (w := 1 + k2) (m := m) (by omega) (by omega)
        simp! [Nat.zero_add, e1, e2]
      have hlen : (enD 0 (xs.map PyData.int)).length < 1000000 := by rw [enD_len, List.length_map]; omega
      have hl2 : (List.zipWith (fun x m => x + (1 + k2) * m) xs (marksI n cc)).length = (pairsD n).length := by rw [List.length_zipWith]; omega
      simp! [r1, hc1, m2, r2, hen]
      refine .mk ⟨_, us ++ [(cc, 1 + k2)], _, _, _, _, _, rfl, hl2, fun y hy => ?_, fun u hu' => ?_, by rw [List.length_append, hul]; rfl, ?_⟩
      · obtain ⟨j, hj⟩ := List.mem_iff_getElem?.mp hy
        obtain ⟨x, m, ex, em, rfl⟩ := ints_get hj
        have h1 := hb x (List.mem_of_getElem? ex)
        rcases m4 m (List.mem_of_getElem? em) with z | z <;> subst z <;> omega
      · rcases List.mem_append.mp hu' with z | z
        · exact hu u z
        · rw [List.mem_singleton.mp z]
          exact ⟨hcc, by show 1 ≤ 1 + k2; omega, by show 1 + k2 ≤ 5; omega⟩
      · unfold sumW castW at *
        rw [List.map_append]
        unfold sumsR at *
        rw [List.foldl_append, hs]
        exact add_ints m4
    · rintro σ' s' ⟨xs, us, v5, v6, v7, v8, v9, rfl, hl, hb, hu, hul, hs⟩
      rw [rgD_len] at hb hul
      have := hP xs us s' hl (fun x hx => by have := hb x hx; omega) hu (by omega) hs
      exact this
  obtain ⟨xs, us, s', e, h1, h2, h3, h4, h5⟩ := key (fun r => ∃ (xs : List Int) (us : List (List Int × Int)) (s' : DiceS), r = .ok (.d (.list (xs.map .int))) s' ∧ xs.length = (pairsD n).length ∧ (∀ x ∈ xs, 0 ≤ x ∧ x ≤ 5 * t) ∧ (∀ u ∈ us, u.1 ∈ cutsI n ∧ 1 ≤ u.2 ∧ u.2 ≤ 5) ∧ (us.length : Int) = t ∧ sumW n (castW us) = asR xs) fun xs us s' h1 h2 h3 h4 h5 => ⟨xs, us, s', rfl, h1, h2, h3, h4, h5⟩
  exact ⟨xs, us, s', e, h1, h2, h3, h4, h5⟩
theorem castW_q {n : Int} {us : List (List Int × Int)} (h : ∀ u ∈ us, u.1 ∈ cutsI n ∧ 1 ≤ u.2 ∧ u.2 ≤ 5) : Wq n (castW us) := by
  intro p hp
  obtain ⟨u, hu, rfl⟩ := List.mem_map.mp hp
  obtain ⟨h1, h2, _⟩ := h u hu
  exact ⟨h1, Rat.intCast_nonneg.mpr (by omega)⟩

-- needs: P_Least
/-- turns enough for every table -/
def FU : Nat := 64 ^ 15 + 1
theorem fu_ok : 64 ^ 15 + 1 ≤ FU := Nat.le_refl _

-- needs: P_AsDict P_AnySum P_Fuel
/-! ### between -/
open SX
theorem Least.uniq {n : Int} {xs costs : List Int} (h : TabOk n xs) {v v' : Rat} {ws ws' : List (List Int × Rat)} {p p' : List Rat} (a : Least n xs costs v ws p) (b : Least n xs costs v' ws' p') : v = v' := by
  have h1 := a.le h b.ok.wq b.sum
  have h2 := b.le h a.ok.wq a.sum
  rw [b.cost] at h1
  rw [a.cost] at h2
  exact Rat.le_antisymm h1 h2
theorem rsum_sz {j : Nat} : ∀ {qs : List Rat}, (∀ q ∈ qs, Sz j q) → Sz (1 + (j + 1) * qs.length) (rsum qs)
  | [], _ => (show Sz 1 0 from ⟨by decide, by decide⟩).mono (by simp)
  | q :: r, h => by
    have ih := rsum_sz (qs := r) fun x hx => h x (List.mem_cons_of_mem _ hx)
    rw [rsum_cons, List.length_cons]
    refine ((h q List.mem_cons_self).add ih).mono ?_
    rw [Nat.mul_succ]
    omega
theorem rsum_nonneg : ∀ {qs : List Rat}, (∀ q ∈ qs, 0 ≤ q) → 0 ≤ rsum qs
  | [], _ => Rat.le_refl
  | q :: r, h => by
    rw [rsum_cons]
    exact Rat.add_nonneg (h q List.mem_cons_self) (rsum_nonneg fun x hx => h x (List.mem_cons_of_mem _ hx))
theorem wOf_nonneg {n : Int} {ws : List (List Int × Rat)} (h : Wq n ws) (c : List Int) : 0 ≤ wOf ws c := by
  induction ws with
  | nil => exact Rat.le_refl
  | cons p r ih =>
    rw [wOf_cons]
    split
    · exact (h p List.mem_cons_self).2
    · exact ih fun q hq => h q (List.mem_cons_of_mem _ hq)
theorem wOf_sz {j : Nat} {ws : List (List Int × Rat)} (hj : 1 ≤ j) (h : ∀ p ∈ ws, Sz j p.2) (c : List Int) : Sz j (wOf ws c) := by
  induction ws with
  | nil => exact Sz.mono (a := 1) (q := 0) ⟨by decide, by decide⟩ hj
  | cons p r ih =>
    rw [wOf_cons]
    split
    · exact h p List.mem_cons_self
    · exact ih fun q hq => h q (List.mem_cons_of_mem _ hq)
theorem sz_neg {k : Nat} {q : Rat} (h : Sz k q) : Sz k (-q) := ⟨by show (-q.num).natAbs < _; rw [Int.natAbs_neg]; exact h.1, h.2⟩
/-- the greatest of some ints -/
theorem max_mem {x : Int} {r : List Int} : r.foldl max x ∈ x :: r := by
  induction r generalizing x with
  | nil => exact List.mem_cons_self
  | cons y r ih =>
    rw [List.foldl_cons]
    rcases List.mem_cons.mp (ih (x := max x y)) with e | e
    · rw [e]
      by_cases h : x ≤ y
      · rw [Int.max_eq_right h]; exact List.mem_cons_of_mem _ List.mem_cons_self
      · rw [Int.max_eq_left (by omega)]; exact List.mem_cons_self
    · exact List.mem_cons_of_mem _ (List.mem_cons_of_mem _ e)
theorem max_ok {xs : List Int} (h : 1 ≤ xs.length) : ∃ m ∈ xs, pyMax1 [.tuple (xs.map .int)] = some (.int m) := by
  cases xs with
  | nil => exact absurd h (by decide)
  | cons x r =>
    refine ⟨r.foldl max x, max_mem, ?_⟩
    show ((dInts ((x :: r).map .int)).bind fun bs => (maxL bs).map PyData.int) = _
    rw [dInts_ints]
    rfl
/-- no distance is more than the total -/
theorem total_ge {n : Int} {xs : List Int} (h : TabOk n xs) {ws : List (List Int × Rat)} (hw : Wq n ws) (hs : sumW n ws = asR xs) {m : Int} (hm : m ∈ xs) : (m : Rat) ≤ rsum (ws.map (·.2)) := by
  obtain ⟨i, hi, rfl⟩ := List.mem_iff_getElem.mp hm
  have h1 := (sum_iff h fun q hq => (hw q hq).1).mp hs i hi
  have e : gi xs i = xs[i] := by unfold gi; rw [List.getD_eq_getElem?_getD, List.getElem?_eq_getElem hi]; rfl
  rw [← e, ← h1]
  have e2 : rsum (ws.map (·.2)) = rsum (ws.map fun w => (fun _ : List Int => (1 : Rat)) w.1 * w.2) := by
    congr 1
    exact List.map_congr_left fun w _ => by grind
  rw [e2]
  refine rsum_le (f := fun c => mkR n c i) (g := fun _ => 1) fun w hw' => ⟨?_, (hw w hw').2⟩
  obtain ⟨_, _, m3, m4⟩ := marks_I n h.n2 h.n6 w.1 (hw w hw').1
  unfold mkR
  rcases m4 _ (gi_mem (by rw [m3, ← h.plen]; exact hi)) with z | z
  · rw [z]; decide
  · rw [z]; decide

-- needs: P_Betw
/-! ### k11 -/
open SX
theorem ones_ev (n : Int) (a : 2 ≤ n) (b : n ≤ 6) : pyMul (.tuple [.int 1]) (.int (((cutsI n).map dC).length : Int)) = some (.tuple ((onesC n).map .int)) :=
  small (p := fun n => pyMul (.tuple [.int 1]) (.int (((cutsI n).map dC).length : Int)) = some (.tuple ((onesC n).map .int))) (by kernel_rfl) (by kernel_rfl) (by kernel_rfl) (by kernel_rfl) (by kernel_rfl) n a b
theorem negs_ev (n : Int) (a : 2 ≤ n) (b : n ≤ 6) : pyMul (.tuple [.int (-1)]) (.int (((cutsI n).map dC).length : Int)) = some (.tuple ((negs (onesC n)).map .int)) :=
  small (p := fun n => pyMul (.tuple [.int (-1)]) (.int (((cutsI n).map dC).length : Int)) = some (.tuple ((negs (onesC n)).map .int))) (by kernel_rfl) (by kernel_rfl) (by kernel_rfl) (by kernel_rfl) (by kernel_rfl) n a b
theorem law_math (da : Addr) (c : Int) : ∃ σ' s', b_law da FU (slots0 16 da) (c, 0) = .nx σ' s' := by
  obtain ⟨k, s1, hr, k0, k1⟩ := roll_ok da 4 (c, 0) (by decide) (by decide)
  have n2 : 2 ≤ 2 + k := by omega
  have n6 : 2 + k ≤ 6 := by omega
  generalize hn : 2 + k = n at n2 n6
  obtain ⟨k2, s2, r2, r2a, r2b⟩ := roll_ok da 6 s1 (by decide) (by decide)
  obtain ⟨xs, us, s3, es, hl, hb, hu, _, hsum⟩ := any_sum_dec da n (1 + k2) s2 n2 n6 (by omega) (by omega)
  have h : TabOk n xs := ⟨n2, n6, by rw [hl]; exact pairs_len n n2 n6, fun x hx => by have := hb x hx; omega⟩
  have hd : DecQ n xs := ⟨castW us, castW_q hu, hsum⟩
  obtain ⟨ws, p0, v0, l0, e1, _⟩ := (decomp_iff h fu_ok).1 hd
  have hcl := (cuts_sorted n n2 n6).2.2
  have hc0 := cuts_len n n2 n6
  have hc := cuts_ev n n2 n6
  rw [cutsD_I n n2 n6] at hc hc0
  obtain ⟨k3, s4, r3, r3a, r3b⟩ := roll_ok da (((cutsI n).map dC).length : Int) s3 (by omega) (by omega)
  obtain ⟨c', hc1, hc2, _⟩ := ix_some r3a r3b
  obtain ⟨cc, hcc, rfl⟩ := List.mem_map.mp hc2
  obtain ⟨v1, ws1, p1, v2, ws2, p2, l1, l2, e2⟩ := weight_range_ok h hd hcc fu_ok
  obtain ⟨v1', ws1', p1', l1', e3⟩ := least_ok h hd (ind_ok (n := n) (c := cc)) fu_ok
  obtain ⟨v2', ws2', p2', l2', e4⟩ := least_ok h hd (negs_ok (ind_ok (n := n) (c := cc))) fu_ok
  obtain ⟨v3, ws3, p3, v4, ws4, p4, l3, l4, e5⟩ := total_range_ok h hd fu_ok
  obtain ⟨v3', ws3', p3', l3', e6⟩ := least_ok h hd (ones_ok (n := n)) fu_ok
  obtain ⟨v4', ws4', p4', l4', e7⟩ := least_ok h hd (negs_ok (ones_ok (n := n))) fu_ok
  obtain rfl := l1.uniq h l1'
  obtain rfl := l2.uniq h l2'
  obtain rfl := l3.uniq h l3'
  obtain rfl := l4.uniq h l4'
  have hcut : ∀ {us : List (List Int × Rat)}, WOk n us → ∀ p ∈ us, p.1 ∈ cutsI n := fun hu p hp => hu.cut hp
  -- the weight of the cut
  have w1 : v1 ≤ wOf ws cc := by
    have := l1.le h l0.ok.wq l0.sum
    rwa [cost_ind n2 n6 hcc (l0.ok.nodup n2 n6) (hcut l0.ok)] at this
  have w2 : wOf ws cc ≤ -v2 := by
    have := l2.le h l0.ok.wq l0.sum
    rw [cost_neg n2 n6 ind_ok.1 (hcut l0.ok), cost_ind n2 n6 hcc (l0.ok.nodup n2 n6) (hcut l0.ok)] at this
    grind
  have w3 : 0 ≤ v1 := by
    rw [← l1.cost, cost_ind n2 n6 hcc (l1.ok.nodup n2 n6) (hcut l1.ok)]
    exact wOf_nonneg l1.ok.wq cc
  have w4 : wOf ws2' cc = -v2 := by
    have := l2'.cost
    rw [cost_neg n2 n6 ind_ok.1 (hcut l2'.ok), cost_ind n2 n6 hcc (l2'.ok.nodup n2 n6) (hcut l2'.ok)] at this
    grind
  -- the totals
  have t1 : v3 ≤ rsum (ws.map (·.2)) := by
    have := l3.le h l0.ok.wq l0.sum
    rwa [cost_ones n2 n6 (hcut l0.ok)] at this
  have t2 : rsum (ws.map (·.2)) ≤ -v4 := by
    have := l4.le h l0.ok.wq l0.sum
    rw [cost_neg n2 n6 ones_ok.1 (hcut l0.ok), cost_ones n2 n6 (hcut l0.ok)] at this
    grind
  obtain ⟨m, hm, em⟩ := max_ok (xs := xs) h.few.1
  have t3 : (m : Rat) ≤ v3 := by
    rw [← l3.cost, cost_ones n2 n6 (hcut l3.ok)]
    exact total_ge h l3.ok.wq l3.sum hm
  have no : ∀ {a b : Rat}, a ≤ b → ∀ [Decidable (b < a)], decide (b < a) = false := fun hab => decide_eq_false (Rat.not_lt.mpr hab)
  have : ∀ a b : Rat, Decidable (a < b) := fun _ _ => Classical.propDecidable _
  have hsw : ∀ q ∈ ws.map (·.2), Sz 81 q := fun q hq => by
    obtain ⟨p, hp, rfl⟩ := List.mem_map.mp hq
    exact (l0.sw p hp).1
  have hfew : ws.length ≤ 15 := Nat.le_trans l0.few h.few.2
  have sw := wOf_sz (j := 81) (by decide) (fun p hp => (l0.sw p hp).1) cc
  have m1 := more_ok l1.sv sw (by decide)
  rw [no w1] at m1
  have m2 := more_ok sw (sz_neg l2.sv) (by decide)
  rw [no w2] at m2
  have st := rsum_sz hsw
  rw [List.length_map] at st
  have m3 := more_ok l3.sv st (by omega)
  rw [no t1] at m3
  have m4 := more_ok st (sz_neg l4.sv) (by omega)
  rw [no t2] at m4
  have sm' : Sz 8 (m : Rat) := by
    have := h.val m hm
    refine ⟨?_, ?_⟩
    · rw [Rat.num_intCast]; show m.natAbs < 256; omega
    · rw [Rat.den_intCast]; decide
  have m5 := more_ok sm' l3.sv (by decide)
  rw [no t3, dR_int] at m5
  have m6 : decide (v1.num < 0) = false := decide_eq_false (by have := Rat.num_nonneg.mpr w3; omega)
  -- data
  have hx : (xs.map PyData.int).length < 1000000 := by rw [List.length_map]; have := h.few; omega
  have hlc : ((cutsI n).map dC).length < 1000000 := by omega
  have hli : ((indC n cc).map PyData.int).length < 1000000 := by rw [List.length_map, ind_ok.1]; show (cutsI n).length < _; omega
  have hli2 : ((negs (indC n cc)).map PyData.int).length < 1000000 := by rw [List.length_map, (negs_ok (ind_ok (n := n) (c := cc))).1]; show (cutsI n).length < _; omega
  have hlw : (ws.map fun p => PyData.tuple [dC p.1, dR p.2]).length < 1000000 := by rw [List.length_map]; omega
  have d1 := as_dict_ok n2 n6 l0.ok
  have d2 := as_dict_ok n2 n6 l2'.ok
  have hget : ∀ (us : List (List Int × Rat)) (s : DiceS), dg2K (.dic (us.map kvR)) (.d (dC cc)) (.d (.tuple [.int 0, .int 1])) s = .ok (.d (dR (wOf us cc))) s := fun us s => by
    rw [← get_w]
    show optR ((keyD (cc.map .int)).map fun k => W.d (((CS.getD (us.map kvR) k)).getD (.tuple [.int 0, .int 1]))) s = _
    rw [keyD_C]
    rfl
  have g0 : ∀ q : Rat, pyIx (dR q) (.int 0) = some (.int q.num) := fun _ => rfl
  have g1 : ∀ q : Rat, pyIx (dR q) (.int 1) = some (.int q.den) := fun _ => rfl
  have g2 : ∀ v ws p, pyIx (dLeast v ws p) (.int 0) = some (dR v) := fun _ _ _ => rfl
  have g3 : ∀ v ws p, pyIx (dLeast v ws p) (.int 1) = some (dWs ws) := fun _ _ _ => rfl
  have g4 : pyIs (dWs ws) .none = some (.bool false) := rfl
  have g5 : ∀ q : Rat, PyData.tuple [.int (-(-q).num), .int ((-q).den : Int)] = dR q := fun q => by
    show PyData.tuple [.int (-(-q.num)), .int (q.den : Int)] = dR q
    rw [Int.neg_neg]
    rfl
  have c1 : ∀ (v0 v1 v2 v3 v4 v5 v6 v8 v9 v10 v12 v13 v14 v15 : Sl) (s : DiceS), cGo (S := DiceS) (bName 11) yes (eIf (eTest (eOp pyEq (eVar 11) (eVar 7))) (eC (.int 1)) (eC (.int 0))) [v0, v1, v2, v3, v4, v5, v6, .w (.d (dC cc)), v8, v9, v10, .non, v12, v13, v14, v15] ((cutsI n).map dC) s = .ok ((indC n cc).map .int) s := by
    intros
    unfold indC
    rw [List.map_map]
    refine cGo_mapF fun d hd => ⟨_, rfl, fun u => ?_⟩
    by_cases e : d = cc
    · simp! [eq_dC, decide_eq_true e, Function.comp, e]
    · simp! [eq_dC, decide_eq_false e, Function.comp, if_neg e]
  have c2 : ∀ (v0 v1 v2 v3 v4 v5 v6 v7 v8 v9 v10 v11 v12 v14 v15 : Sl) (s : DiceS), cGo (S := DiceS) (bName 13) yes (eUn pyNeg (eVar 13)) [v0, v1, v2, v3, v4, v5, v6, v7, v8, v9, v10, v11, v12, .non, v14, v15] ((indC n cc).map .int) s = .ok ((negs (indC n cc)).map .int) s := by
    intros
    unfold negs
    rw [List.map_map]
    refine cGo_mapF fun d hd => ⟨_, rfl, fun u => ?_⟩
    simp! [Function.comp]
  have c3 : ∀ (v0 v1 v2 v3 v4 v5 v6 v7 v8 v9 v10 v12 v13 v14 : Sl) (s : DiceS), cGo (S := DiceS) (bTup [11, 15]) yes (eVar 15) [v0, v1, v2, v3, v4, v5, v6, v7, v8, v9, v10, .non, v12, v13, v14, .non] (ws.map fun p => .tuple [dC p.1, dR p.2]) s = .ok ((ws.map (·.2)).map dR) s := by
    intros
    rw [List.map_map]
    refine cGo_mapF fun d hd => ⟨_, rfl, fun u => ?_⟩
    simp! [Function.comp]
  have tot := law_total_ok hsw (by rw [List.length_map]; omega)
  have hw : dWs ws = .tuple (ws.map fun p => .tuple [dC p.1, dR p.2]) := rfl
  have o1 := ones_ev n n2 n6
  have o2 := negs_ev n n2 n6
  have h0 : slots0 16 da = [.non, .w (.ref da), .non, .non, .non, .non, .non, .non, .non, .non, .non, .non, .non, .non, .non, .non] := rfl
  show Nx _
  unfold dTab at *
  simp! [h0, b_law, hr, hn, r2, es, e1, hc, g4, d1, r3, hc1, e2, hget, m1, m2, g0, m6, c1, e3, g2, ne_dR]
  simp! [c2, e4, g2, g0, g1, g5, ne_dR, g3, d2, hget, w4, e5]
  simp! [hw, c3, tot, m3, m4, o1, e6, g2, ne_dR, o2, e7, g0, g1, g5, em, m5]
  exact Nx.mk

section
theorem all_mk {w : World} {K : PySem.W.Frag} {h : Heap} {mg : Str → Option Value} {fa cc : Addr} (X : K.In h) (G : h.Ns mainGlobals mg) (hfa : mg "law" = some (.ref fa))
    {f30 f33 f43 f9 f11 f10 f12 f13 f17 f18 f5 f0 f2 f3 f4 f6 f7 f1 f8 f14 f19 f15 f16 f20 f21 f25 f27 f28 f24 f26 f29 f38 f39 f40 f41 f42 f31 f32 f22 f23 f35 f34 f36 f37 f44 : Addr} {od30 an30 od33 an33 od43 an43 od9 an9 od11 an11 od10 an10 od12 an12 od13 an13 od17 an17 od18 an18 od5 an5 od0 an0 od2 an2 od3 an3 od4 an4 od6 an6 od7 an7 od1 an1 od8 an8 od14 an14 od19 an19 od15 an15 od16 an16 od20 an20 od21 an21 od25 an25 od27 an27 od28 an28 od24 an24 od26 an26 od29 an29 od38 an38 od39 an39 od40 an40 od41 an41 od42 an42 od31 an31 od32 an32 od22 an22 od23 an23 od35 an35 od34 an34 od36 an36 od37 an37 od44 an44 : Option Addr} {sl30 sl33 sl43 sl9 sl11 sl10 sl12 sl13 sl17 sl18 sl5 sl0 sl2 sl3 sl4 sl6 sl7 sl1 sl8 sl14 sl19 sl15 sl16 sl20 sl21 sl25 sl27 sl28 sl24 sl26 sl29 sl38 sl39 sl40 sl41 sl42 sl31 sl32 sl22 sl23 sl35 sl34 sl36 sl37 sl44 : Array (Option Value)} {oc30 kV30 dc30 pm30 ct30 cd30 oc33 kV33 dc33 pm33 ct33 cd33 oc43 kV43 dc43 pm43 ct43 cd43 oc9 kV9 dc9 pm9 ct9 cd9 oc11 kV11 dc11 pm11 ct11 cd11 oc10 kV10 dc10 pm10 ct10 cd10 oc12 kV12 dc12 pm12 ct12 cd12 oc13 kV13 dc13 pm13 ct13 cd13 oc17 kV17 dc17 pm17 ct17 cd17 oc18 kV18 dc18 pm18 ct18 cd18 oc5 kV5 dc5 pm5 ct5 cd5 oc0 kV0 dc0 pm0 ct0 cd0 oc2 kV2 dc2 pm2 ct2 cd2 oc3 kV3 dc3 pm3 ct3 cd3 oc4 kV4 dc4 pm4 ct4 cd4 oc6 kV6 dc6 pm6 ct6 cd6 oc7 kV7 dc7 pm7 ct7 cd7 oc1 kV1 dc1 pm1 ct1 cd1 oc8 kV8 dc8 pm8 ct8 cd8 oc14 kV14 dc14 pm14 ct14 cd14 oc19 kV19 dc19 pm19 ct19 cd19 oc15 kV15 dc15 pm15 ct15 cd15 oc16 kV16 dc16 pm16 ct16 cd16 oc20 kV20 dc20 pm20 ct20 cd20 oc21 kV21 dc21 pm21 ct21 cd21 oc25 kV25 dc25 pm25 ct25 cd25 oc27 kV27 dc27 pm27 ct27 cd27 oc28 kV28 dc28 pm28 ct28 cd28 oc24 kV24 dc24 pm24 ct24 cd24 oc26 kV26 dc26 pm26 ct26 cd26 oc29 kV29 dc29 pm29 ct29 cd29 oc38 kV38 dc38 pm38 ct38 cd38 oc39 kV39 dc39 pm39 ct39 cd39 oc40 kV40 dc40 pm40 ct40 cd40 oc41 kV41 dc41 pm41 ct41 cd41 oc42 kV42 dc42 pm42 ct42 cd42 oc31 kV31 dc31 pm31 ct31 cd31 oc32 kV32 dc32 pm32 ct32 cd32 oc22 kV22 dc22 pm22 ct22 cd22 oc23 kV23 dc23 pm23 ct23 cd23 oc35 kV35 dc35 pm35 ct35 cd35 oc34 kV34 dc34 pm34 ct34 cd34 oc36 kV36 dc36 pm36 ct36 cd36 oc37 kV37 dc37 pm37 ct37 cd37 oc44 kV44 dc44 pm44 ct44 : Value} {C0 C3 C6 C8 : Addr}
    (a30 : PySem.W.nsIn K mainGlobals "_law_cell" = some (some (.ref f30)))
    (l30 : K.lookup f30 = some ⟨oc30, od30, .func (PySem.W.fnOf "_law_cell" "_law_cell" (defArgs (topS 41)) (defBody (topS 41)) (defScope (topS 41)) .none kV30 dc30 pm30 an30 cd30 ct30), sl30⟩)
    (c30 : PySem.W.codeIn K cd30 "_law_cell" = true)
    (k30 : PySem.W.keepIn K (.ref f30) = true)
    (a33 : PySem.W.nsIn K mainGlobals "_law_rounds" = some (some (.ref f33)))
    (l33 : K.lookup f33 = some ⟨oc33, od33, .func (PySem.W.fnOf "_law_rounds" "_law_rounds" (defArgs (topS 44)) (defBody (topS 44)) (defScope (topS 44)) .none kV33 dc33 pm33 an33 cd33 ct33), sl33⟩)
    (c33 : PySem.W.codeIn K cd33 "_law_rounds" = true)
    (k33 : PySem.W.keepIn K (.ref f33) = true)
    (a43 : PySem.W.nsIn K mainGlobals "_law_as_dict" = some (some (.ref f43)))
    (l43 : K.lookup f43 = some ⟨oc43, od43, .func (PySem.W.fnOf "_law_as_dict" "_law_as_dict" (defArgs (topS 54)) (defBody (topS 54)) (defScope (topS 54)) .none kV43 dc43 pm43 an43 cd43 ct43), sl43⟩)
    (c43 : PySem.W.codeIn K cd43 "_law_as_dict" = true)
    (k43 : PySem.W.keepIn K (.ref f43) = true)
    (a9 : PySem.W.nsIn K mainGlobals "is_whole" = some (some (.ref f9)))
    (l9 : K.lookup f9 = some ⟨oc9, od9, .func (PySem.W.fnOf "is_whole" "is_whole" (defArgs (topS 17)) (defBody (topS 17)) (defScope (topS 17)) .none kV9 dc9 pm9 an9 cd9 ct9), sl9⟩)
    (c9 : PySem.W.codeIn K cd9 "is_whole" = true)
    (k9 : PySem.W.keepIn K (.ref f9) = true)
    (a11 : PySem.W.nsIn K mainGlobals "is_shaped" = some (some (.ref f11)))
    (l11 : K.lookup f11 = some ⟨oc11, od11, .func (PySem.W.fnOf "is_shaped" "is_shaped" (defArgs (topS 19)) (defBody (topS 19)) (defScope (topS 19)) .none kV11 dc11 pm11 an11 cd11 ct11), sl11⟩)
    (c11 : PySem.W.codeIn K cd11 "is_shaped" = true)
    (k11 : PySem.W.keepIn K (.ref f11) = true)
    (a10 : PySem.W.nsIn K mainGlobals "is_distance" = some (some (.ref f10)))
    (l10 : K.lookup f10 = some ⟨oc10, od10, .func (PySem.W.fnOf "is_distance" "is_distance" (defArgs (topS 18)) (defBody (topS 18)) (defScope (topS 18)) .none kV10 dc10 pm10 an10 cd10 ct10), sl10⟩)
    (c10 : PySem.W.codeIn K cd10 "is_distance" = true)
    (k10 : PySem.W.keepIn K (.ref f10) = true)
    (a12 : PySem.W.nsIn K mainGlobals "is_table" = some (some (.ref f12)))
    (l12 : K.lookup f12 = some ⟨oc12, od12, .func (PySem.W.fnOf "is_table" "is_table" (defArgs (topS 20)) (defBody (topS 20)) (defScope (topS 20)) .none kV12 dc12 pm12 an12 cd12 ct12), sl12⟩)
    (c12 : PySem.W.codeIn K cd12 "is_table" = true)
    (k12 : PySem.W.keepIn K (.ref f12) = true)
    (a13 : PySem.W.nsIn K mainGlobals "need_table" = some (some (.ref f13)))
    (l13 : K.lookup f13 = some ⟨oc13, od13, .func (PySem.W.fnOf "need_table" "need_table" (defArgs (topS 21)) (defBody (topS 21)) (defScope (topS 21)) .none kV13 dc13 pm13 an13 cd13 ct13), sl13⟩)
    (c13 : PySem.W.codeIn K cd13 "need_table" = true)
    (k13 : PySem.W.keepIn K (.ref f13) = true)
    (a17 : PySem.W.nsIn K mainGlobals "is_cut" = some (some (.ref f17)))
    (l17 : K.lookup f17 = some ⟨oc17, od17, .func (PySem.W.fnOf "is_cut" "is_cut" (defArgs (topS 25)) (defBody (topS 25)) (defScope (topS 25)) .none kV17 dc17 pm17 an17 cd17 ct17), sl17⟩)
    (c17 : PySem.W.codeIn K cd17 "is_cut" = true)
    (k17 : PySem.W.keepIn K (.ref f17) = true)
    (a18 : PySem.W.nsIn K mainGlobals "need_cut" = some (some (.ref f18)))
    (l18 : K.lookup f18 = some ⟨oc18, od18, .func (PySem.W.fnOf "need_cut" "need_cut" (defArgs (topS 26)) (defBody (topS 26)) (defScope (topS 26)) .none kV18 dc18 pm18 an18 cd18 ct18), sl18⟩)
    (c18 : PySem.W.codeIn K cd18 "need_cut" = true)
    (k18 : PySem.W.keepIn K (.ref f18) = true)
    (a5 : PySem.W.nsIn K mainGlobals "leaving" = some (some (.ref f5)))
    (l5 : K.lookup f5 = some ⟨oc5, od5, .func (PySem.W.fnOf "leaving" "leaving" (defArgs (topS 12)) (defBody (topS 12)) (defScope (topS 12)) .none kV5 dc5 pm5 an5 cd5 ct5), sl5⟩)
    (c5 : PySem.W.codeIn K cd5 "leaving" = true)
    (k5 : PySem.W.keepIn K (.ref f5) = true)
    (a0 : PySem.W.nsIn K mainGlobals "divisor" = some (some (.ref f0)))
    (l0 : K.lookup f0 = some ⟨oc0, od0, .func (PySem.W.fnOf "divisor" "divisor" (defArgs (topS 7)) (defBody (topS 7)) (defScope (topS 7)) .none kV0 dc0 pm0 an0 cd0 ct0), sl0⟩)
    (c0 : PySem.W.codeIn K cd0 "divisor" = true)
    (k0 : PySem.W.keepIn K (.ref f0) = true)
    (a2 : PySem.W.nsIn K mainGlobals "reduced" = some (some (.ref f2)))
    (l2 : K.lookup f2 = some ⟨oc2, od2, .func (PySem.W.fnOf "reduced" "reduced" (defArgs (topS 9)) (defBody (topS 9)) (defScope (topS 9)) .none kV2 dc2 pm2 an2 cd2 ct2), sl2⟩)
    (c2 : PySem.W.codeIn K cd2 "reduced" = true)
    (k2 : PySem.W.keepIn K (.ref f2) = true)
    (a3 : PySem.W.nsIn K mainGlobals "cleared" = some (some (.ref f3)))
    (l3 : K.lookup f3 = some ⟨oc3, od3, .func (PySem.W.fnOf "cleared" "cleared" (defArgs (topS 10)) (defBody (topS 10)) (defScope (topS 10)) .none kV3 dc3 pm3 an3 cd3 ct3), sl3⟩)
    (c3 : PySem.W.codeIn K cd3 "cleared" = true)
    (k3 : PySem.W.keepIn K (.ref f3) = true)
    (a4 : PySem.W.nsIn K mainGlobals "pivoted" = some (some (.ref f4)))
    (l4 : K.lookup f4 = some ⟨oc4, od4, .func (PySem.W.fnOf "pivoted" "pivoted" (defArgs (topS 11)) (defBody (topS 11)) (defScope (topS 11)) .none kV4 dc4 pm4 an4 cd4 ct4), sl4⟩)
    (c4 : PySem.W.codeIn K cd4 "pivoted" = true)
    (k4 : PySem.W.keepIn K (.ref f4) = true)
    (a6 : PySem.W.nsIn K mainGlobals "lowered" = some (some (.ref f6)))
    (l6 : K.lookup f6 = some ⟨oc6, od6, .func (PySem.W.fnOf "lowered" "lowered" (defArgs (topS 13)) (defBody (topS 13)) (defScope (topS 13)) .none kV6 dc6 pm6 an6 cd6 ct6), sl6⟩)
    (c6 : PySem.W.codeIn K cd6 "lowered" = true)
    (k6 : PySem.W.keepIn K (.ref f6) = true)
    (a7 : PySem.W.nsIn K mainGlobals "freed" = some (some (.ref f7)))
    (l7 : K.lookup f7 = some ⟨oc7, od7, .func (PySem.W.fnOf "freed" "freed" (defArgs (topS 14)) (defBody (topS 14)) (defScope (topS 14)) .none kV7 dc7 pm7 an7 cd7 ct7), sl7⟩)
    (c7 : PySem.W.codeIn K cd7 "freed" = true)
    (k7 : PySem.W.keepIn K (.ref f7) = true)
    (a1 : PySem.W.nsIn K mainGlobals "lowest" = some (some (.ref f1)))
    (l1 : K.lookup f1 = some ⟨oc1, od1, .func (PySem.W.fnOf "lowest" "lowest" (defArgs (topS 8)) (defBody (topS 8)) (defScope (topS 8)) .none kV1 dc1 pm1 an1 cd1 ct1), sl1⟩)
    (c1 : PySem.W.codeIn K cd1 "lowest" = true)
    (k1 : PySem.W.keepIn K (.ref f1) = true)
    (a8 : PySem.W.nsIn K mainGlobals "least_sum" = some (some (.ref f8)))
    (l8 : K.lookup f8 = some ⟨oc8, od8, .func (PySem.W.fnOf "least_sum" "least_sum" (defArgs (topS 15)) (defBody (topS 15)) (defScope (topS 15)) .none kV8 dc8 pm8 an8 cd8 ct8), sl8⟩)
    (c8 : PySem.W.codeIn K cd8 "least_sum" = true)
    (k8 : PySem.W.keepIn K (.ref f8) = true)
    (a14 : PySem.W.nsIn K mainGlobals "all_pairs" = some (some (.ref f14)))
    (l14 : K.lookup f14 = some ⟨oc14, od14, .func (PySem.W.fnOf "all_pairs" "all_pairs" (defArgs (topS 22)) (defBody (topS 22)) (defScope (topS 22)) .none kV14 dc14 pm14 an14 cd14 ct14), sl14⟩)
    (c14 : PySem.W.codeIn K cd14 "all_pairs" = true)
    (k14 : PySem.W.keepIn K (.ref f14) = true)
    (a19 : PySem.W.nsIn K mainGlobals "marks_of" = some (some (.ref f19)))
    (l19 : K.lookup f19 = some ⟨oc19, od19, .func (PySem.W.fnOf "marks_of" "marks_of" (defArgs (topS 27)) (defBody (topS 27)) (defScope (topS 27)) .none kV19 dc19 pm19 an19 cd19 ct19), sl19⟩)
    (c19 : PySem.W.codeIn K cd19 "marks_of" = true)
    (k19 : PySem.W.keepIn K (.ref f19) = true)
    (a15 : PySem.W.nsIn K mainGlobals "parts" = some (some (.ref f15)))
    (l15 : K.lookup f15 = some ⟨oc15, od15, .func (PySem.W.fnOf "parts" "parts" (defArgs (topS 23)) (defBody (topS 23)) (defScope (topS 23)) .none kV15 dc15 pm15 an15 cd15 ct15), sl15⟩)
    (c15 : PySem.W.codeIn K cd15 "parts" = true)
    (k15 : PySem.W.keepIn K (.ref f15) = true)
    (a16 : PySem.W.nsIn K mainGlobals "all_cuts" = some (some (.ref f16)))
    (l16 : K.lookup f16 = some ⟨oc16, od16, .func (PySem.W.fnOf "all_cuts" "all_cuts" (defArgs (topS 24)) (defBody (topS 24)) (defScope (topS 24)) .none kV16 dc16 pm16 an16 cd16 ct16), sl16⟩)
    (c16 : PySem.W.codeIn K cd16 "all_cuts" = true)
    (k16 : PySem.W.keepIn K (.ref f16) = true)
    (a20 : PySem.W.nsIn K mainGlobals "as_weights" = some (some (.ref f20)))
    (l20 : K.lookup f20 = some ⟨oc20, od20, .func (PySem.W.fnOf "as_weights" "as_weights" (defArgs (topS 29)) (defBody (topS 29)) (defScope (topS 29)) .none kV20 dc20 pm20 an20 cd20 ct20), sl20⟩)
    (c20 : PySem.W.codeIn K cd20 "as_weights" = true)
    (k20 : PySem.W.keepIn K (.ref f20) = true)
    (a21 : PySem.W.nsIn K mainGlobals "solved" = some (some (.ref f21)))
    (l21 : K.lookup f21 = some ⟨oc21, od21, .func (PySem.W.fnOf "solved" "solved" (defArgs (topS 30)) (defBody (topS 30)) (defScope (topS 30)) .none kV21 dc21 pm21 an21 cd21 ct21), sl21⟩)
    (c21 : PySem.W.codeIn K cd21 "solved" = true)
    (k21 : PySem.W.keepIn K (.ref f21) = true)
    (a25 : PySem.W.nsIn K mainGlobals "lowest_cost" = some (some (.ref f25)))
    (l25 : K.lookup f25 = some ⟨oc25, od25, .func (PySem.W.fnOf "lowest_cost" "lowest_cost" (defArgs (topS 35)) (defBody (topS 35)) (defScope (topS 35)) .none kV25 dc25 pm25 an25 cd25 ct25), sl25⟩)
    (c25 : PySem.W.codeIn K cd25 "lowest_cost" = true)
    (k25 : PySem.W.keepIn K (.ref f25) = true)
    (a27 : PySem.W.nsIn K mainGlobals "both_ends" = some (some (.ref f27)))
    (l27 : K.lookup f27 = some ⟨oc27, od27, .func (PySem.W.fnOf "both_ends" "both_ends" (defArgs (topS 37)) (defBody (topS 37)) (defScope (topS 37)) .none kV27 dc27 pm27 an27 cd27 ct27), sl27⟩)
    (c27 : PySem.W.codeIn K cd27 "both_ends" = true)
    (k27 : PySem.W.keepIn K (.ref f27) = true)
    (a28 : PySem.W.nsIn K mainGlobals "weight_range" = some (some (.ref f28)))
    (l28 : K.lookup f28 = some ⟨oc28, od28, .func (PySem.W.fnOf "weight_range" "weight_range" (defArgs (topS 38)) (defBody (topS 38)) (defScope (topS 38)) .none kV28 dc28 pm28 an28 cd28 ct28), sl28⟩)
    (c28 : PySem.W.codeIn K cd28 "weight_range" = true)
    (k28 : PySem.W.keepIn K (.ref f28) = true)
    (a24 : PySem.W.nsIn K mainGlobals "need_costs" = some (some (.ref f24)))
    (l24 : K.lookup f24 = some ⟨oc24, od24, .func (PySem.W.fnOf "need_costs" "need_costs" (defArgs (topS 34)) (defBody (topS 34)) (defScope (topS 34)) .none kV24 dc24 pm24 an24 cd24 ct24), sl24⟩)
    (c24 : PySem.W.codeIn K cd24 "need_costs" = true)
    (k24 : PySem.W.keepIn K (.ref f24) = true)
    (a26 : PySem.W.nsIn K mainGlobals "least" = some (some (.ref f26)))
    (l26 : K.lookup f26 = some ⟨oc26, od26, .func (PySem.W.fnOf "least" "least" (defArgs (topS 36)) (defBody (topS 36)) (defScope (topS 36)) .none kV26 dc26 pm26 an26 cd26 ct26), sl26⟩)
    (c26 : PySem.W.codeIn K cd26 "least" = true)
    (k26 : PySem.W.keepIn K (.ref f26) = true)
    (a29 : PySem.W.nsIn K mainGlobals "total_range" = some (some (.ref f29)))
    (l29 : K.lookup f29 = some ⟨oc29, od29, .func (PySem.W.fnOf "total_range" "total_range" (defArgs (topS 39)) (defBody (topS 39)) (defScope (topS 39)) .none kV29 dc29 pm29 an29 cd29 ct29), sl29⟩)
    (c29 : PySem.W.codeIn K cd29 "total_range" = true)
    (k29 : PySem.W.keepIn K (.ref f29) = true)
    (a38 : PySem.W.nsIn K mainGlobals "_law_divisor" = some (some (.ref f38)))
    (l38 : K.lookup f38 = some ⟨oc38, od38, .func (PySem.W.fnOf "_law_divisor" "_law_divisor" (defArgs (topS 49)) (defBody (topS 49)) (defScope (topS 49)) .none kV38 dc38 pm38 an38 cd38 ct38), sl38⟩)
    (c38 : PySem.W.codeIn K cd38 "_law_divisor" = true)
    (k38 : PySem.W.keepIn K (.ref f38) = true)
    (a39 : PySem.W.nsIn K mainGlobals "_law_lowest" = some (some (.ref f39)))
    (l39 : K.lookup f39 = some ⟨oc39, od39, .func (PySem.W.fnOf "_law_lowest" "_law_lowest" (defArgs (topS 50)) (defBody (topS 50)) (defScope (topS 50)) .none kV39 dc39 pm39 an39 cd39 ct39), sl39⟩)
    (c39 : PySem.W.codeIn K cd39 "_law_lowest" = true)
    (k39 : PySem.W.keepIn K (.ref f39) = true)
    (a40 : PySem.W.nsIn K mainGlobals "_law_plus" = some (some (.ref f40)))
    (l40 : K.lookup f40 = some ⟨oc40, od40, .func (PySem.W.fnOf "_law_plus" "_law_plus" (defArgs (topS 51)) (defBody (topS 51)) (defScope (topS 51)) .none kV40 dc40 pm40 an40 cd40 ct40), sl40⟩)
    (c40 : PySem.W.codeIn K cd40 "_law_plus" = true)
    (k40 : PySem.W.keepIn K (.ref f40) = true)
    (a41 : PySem.W.nsIn K mainGlobals "_law_total" = some (some (.ref f41)))
    (l41 : K.lookup f41 = some ⟨oc41, od41, .func (PySem.W.fnOf "_law_total" "_law_total" (defArgs (topS 52)) (defBody (topS 52)) (defScope (topS 52)) .none kV41 dc41 pm41 an41 cd41 ct41), sl41⟩)
    (c41 : PySem.W.codeIn K cd41 "_law_total" = true)
    (k41 : PySem.W.keepIn K (.ref f41) = true)
    (a42 : PySem.W.nsIn K mainGlobals "_law_is_more" = some (some (.ref f42)))
    (l42 : K.lookup f42 = some ⟨oc42, od42, .func (PySem.W.fnOf "_law_is_more" "_law_is_more" (defArgs (topS 53)) (defBody (topS 53)) (defScope (topS 53)) .none kV42 dc42 pm42 an42 cd42 ct42), sl42⟩)
    (c42 : PySem.W.codeIn K cd42 "_law_is_more" = true)
    (k42 : PySem.W.keepIn K (.ref f42) = true)
    (a31 : PySem.W.nsIn K mainGlobals "_law_drawn" = some (some (.ref f31)))
    (l31 : K.lookup f31 = some ⟨oc31, od31, .func (PySem.W.fnOf "_law_drawn" "_law_drawn" (defArgs (topS 42)) (defBody (topS 42)) (defScope (topS 42)) .none kV31 dc31 pm31 an31 cd31 ct31), sl31⟩)
    (c31 : PySem.W.codeIn K cd31 "_law_drawn" = true)
    (k31 : PySem.W.keepIn K (.ref f31) = true)
    (a32 : PySem.W.nsIn K mainGlobals "_law_roll" = some (some (.ref f32)))
    (l32 : K.lookup f32 = some ⟨oc32, od32, .func (PySem.W.fnOf "_law_roll" "_law_roll" (defArgs (topS 43)) (defBody (topS 43)) (defScope (topS 43)) .none kV32 dc32 pm32 an32 cd32 ct32), sl32⟩)
    (c32 : PySem.W.codeIn K cd32 "_law_roll" = true)
    (k32 : PySem.W.keepIn K (.ref f32) = true)
    (a22 : PySem.W.nsIn K mainGlobals "free_costs" = some (some (.ref f22)))
    (l22 : K.lookup f22 = some ⟨oc22, od22, .func (PySem.W.fnOf "free_costs" "free_costs" (defArgs (topS 31)) (defBody (topS 31)) (defScope (topS 31)) .none kV22 dc22 pm22 an22 cd22 ct22), sl22⟩)
    (c22 : PySem.W.codeIn K cd22 "free_costs" = true)
    (k22 : PySem.W.keepIn K (.ref f22) = true)
    (a23 : PySem.W.nsIn K mainGlobals "decomposition" = some (some (.ref f23)))
    (l23 : K.lookup f23 = some ⟨oc23, od23, .func (PySem.W.fnOf "decomposition" "decomposition" (defArgs (topS 32)) (defBody (topS 32)) (defScope (topS 32)) .none kV23 dc23 pm23 an23 cd23 ct23), sl23⟩)
    (c23 : PySem.W.codeIn K cd23 "decomposition" = true)
    (k23 : PySem.W.keepIn K (.ref f23) = true)
    (a35 : PySem.W.nsIn K mainGlobals "_law_cuts" = some (some (.ref f35)))
    (l35 : K.lookup f35 = some ⟨oc35, od35, .func (PySem.W.fnOf "_law_cuts" "_law_cuts" (defArgs (topS 46)) (defBody (topS 46)) (defScope (topS 46)) .none kV35 dc35 pm35 an35 cd35 ct35), sl35⟩)
    (c35 : PySem.W.codeIn K cd35 "_law_cuts" = true)
    (k35 : PySem.W.keepIn K (.ref f35) = true)
    (a34 : PySem.W.nsIn K mainGlobals "_law_pairs" = some (some (.ref f34)))
    (l34 : K.lookup f34 = some ⟨oc34, od34, .func (PySem.W.fnOf "_law_pairs" "_law_pairs" (defArgs (topS 45)) (defBody (topS 45)) (defScope (topS 45)) .none kV34 dc34 pm34 an34 cd34 ct34), sl34⟩)
    (c34 : PySem.W.codeIn K cd34 "_law_pairs" = true)
    (k34 : PySem.W.keepIn K (.ref f34) = true)
    (a36 : PySem.W.nsIn K mainGlobals "_law_marks" = some (some (.ref f36)))
    (l36 : K.lookup f36 = some ⟨oc36, od36, .func (PySem.W.fnOf "_law_marks" "_law_marks" (defArgs (topS 47)) (defBody (topS 47)) (defScope (topS 47)) .none kV36 dc36 pm36 an36 cd36 ct36), sl36⟩)
    (c36 : PySem.W.codeIn K cd36 "_law_marks" = true)
    (k36 : PySem.W.keepIn K (.ref f36) = true)
    (a37 : PySem.W.nsIn K mainGlobals "_law_any_sum" = some (some (.ref f37)))
    (l37 : K.lookup f37 = some ⟨oc37, od37, .func (PySem.W.fnOf "_law_any_sum" "_law_any_sum" (defArgs (topS 48)) (defBody (topS 48)) (defScope (topS 48)) .none kV37 dc37 pm37 an37 cd37 ct37), sl37⟩)
    (c37 : PySem.W.codeIn K cd37 "_law_any_sum" = true)
    (k37 : PySem.W.keepIn K (.ref f37) = true)
    (a44 : PySem.W.nsIn K mainGlobals "law" = some (some (.ref f44)))
    (l44 : K.lookup f44 = some ⟨oc44, od44, .func (PySem.W.fnOf "law" "law" (defArgs (topS 55)) (defBody (topS 55)) (defScope (topS 55)) .none kV44 dc44 pm44 an44 (.ref cc) ct44), sl44⟩)
    (c44 : PySem.W.codeIn K (.ref cc) "law" = true)
    (k44 : PySem.W.keepIn K (.ref f44) = true)
    (z_abs : PySem.W.nsIn K mainGlobals "abs" = some none)
    (z_all : PySem.W.nsIn K mainGlobals "all" = some none)
    (z_bool : PySem.W.nsIn K mainGlobals "bool" = some none)
    (z_enumerate : PySem.W.nsIn K mainGlobals "enumerate" = some none)
    (z_int : PySem.W.nsIn K mainGlobals "int" = some none)
    (z_isinstance : PySem.W.nsIn K mainGlobals "isinstance" = some none)
    (z_len : PySem.W.nsIn K mainGlobals "len" = some none)
    (z_list : PySem.W.nsIn K mainGlobals "list" = some none)
    (z_max : PySem.W.nsIn K mainGlobals "max" = some none)
    (z_min : PySem.W.nsIn K mainGlobals "min" = some none)
    (z_range : PySem.W.nsIn K mainGlobals "range" = some none)
    (z_sorted : PySem.W.nsIn K mainGlobals "sorted" = some none)
    (z_sum : PySem.W.nsIn K mainGlobals "sum" = some none)
    (z_tuple : PySem.W.nsIn K mainGlobals "tuple" = some none)
    (g_InvalidTable : PySem.W.nsIn K mainGlobals "InvalidTable" = some (some (.ref C0)))
    (g_InvalidCut : PySem.W.nsIn K mainGlobals "InvalidCut" = some (some (.ref C3)))
    (g_InvalidCosts : PySem.W.nsIn K mainGlobals "InvalidCosts" = some (some (.ref C6)))
    (g_NotDecomposable : PySem.W.nsIn K mainGlobals "NotDecomposable" = some (some (.ref C8)))
    (x_InvalidCosts : PySem.W.excIn K C6 [.type "ValueError", .type "Exception", .type "BaseException", .type "object"] "ValueError.__new__" = true)
    (k_InvalidCosts : PySem.W.keepIn K (.ref C6) = true)
    (b_InvalidCosts : PySem.W.subIn K (.ref C6) (.type "BaseException") = some true)
    (t_InvalidCosts : PySem.W.typeIn K (.ref C6) = some (.type "type"))
    (x_InvalidCut : PySem.W.excIn K C3 [.type "ValueError", .type "Exception", .type "BaseException", .type "object"] "ValueError.__new__" = true)
    (k_InvalidCut : PySem.W.keepIn K (.ref C3) = true)
    (b_InvalidCut : PySem.W.subIn K (.ref C3) (.type "BaseException") = some true)
    (t_InvalidCut : PySem.W.typeIn K (.ref C3) = some (.type "type"))
    (x_InvalidTable : PySem.W.excIn K C0 [.type "ValueError", .type "Exception", .type "BaseException", .type "object"] "ValueError.__new__" = true)
    (k_InvalidTable : PySem.W.keepIn K (.ref C0) = true)
    (b_InvalidTable : PySem.W.subIn K (.ref C0) (.type "BaseException") = some true)
    (t_InvalidTable : PySem.W.typeIn K (.ref C0) = some (.type "type"))
    (x_NotDecomposable : PySem.W.excIn K C8 [.type "ValueError", .type "Exception", .type "BaseException", .type "object"] "ValueError.__new__" = true)
    (k_NotDecomposable : PySem.W.keepIn K (.ref C8) = true)
    (b_NotDecomposable : PySem.W.subIn K (.ref C8) (.type "BaseException") = some true)
    (t_NotDecomposable : PySem.W.typeIn K (.ref C8) = some (.type "type")) :
    LamX.LawAtS PySem.Challenge.rw_cutsums_k11_whole_between w K (L2N.CX PySem.Challenge.rw_cutsums_k11_whole_between.prog w) 24 63 "script" mg fa h := by
  have e := hfa.symm.trans (PySem.W.mg_of X G a44)
  cases e
  have T : Txt K mg (fun i => ([f0, f1, f2, f3, f4, f5, f6, f7, f8, f9, f10, f11, f12, f13, f14, f15, f16, f17, f18, f19, f20, f21, f22, f23, f24, f25, f26, f27, f28, f29, f30, f31, f32, f33, f34, f35, f36, f37, f38, f39, f40, f41, f42, f43, fa] : List Addr).getD i 0) (fun i => ([(PySem.W.fnOf "divisor" "divisor" (defArgs (topS 7)) (defBody (topS 7)) (defScope (topS 7)) .none kV0 dc0 pm0 an0 cd0 ct0), (PySem.W.fnOf "lowest" "lowest" (defArgs (topS 8)) (defBody (topS 8)) (defScope (topS 8)) .none kV1 dc1 pm1 an1 cd1 ct1), (PySem.W.fnOf "reduced" "reduced" (defArgs (topS 9)) (defBody (topS 9)) (defScope (topS 9)) .none kV2 dc2 pm2 an2 cd2 ct2), (PySem.W.fnOf "cleared" "cleared" (defArgs (topS 10)) (defBody (topS 10)) (defScope (topS 10)) .none kV3 dc3 pm3 an3 cd3 ct3), (PySem.W.fnOf "pivoted" "pivoted" (defArgs (topS 11)) (defBody (topS 11)) (defScope (topS 11)) .none kV4 dc4 pm4 an4 cd4 ct4), (PySem.W.fnOf "leaving" "leaving" (defArgs (topS 12)) (defBody (topS 12)) (defScope (topS 12)) .none kV5 dc5 pm5 an5 cd5 ct5), (PySem.W.fnOf "lowered" "lowered" (defArgs (topS 13)) (defBody (topS 13)) (defScope (topS 13)) .none kV6 dc6 pm6 an6 cd6 ct6), (PySem.W.fnOf "freed" "freed" (defArgs (topS 14)) (defBody (topS 14)) (defScope (topS 14)) .none kV7 dc7 pm7 an7 cd7 ct7), (PySem.W.fnOf "least_sum" "least_sum" (defArgs (topS 15)) (defBody (topS 15)) (defScope (topS 15)) .none kV8 dc8 pm8 an8 cd8 ct8), (PySem.W.fnOf "is_whole" "is_whole" (defArgs (topS 17)) (defBody (topS 17)) (defScope (topS 17)) .none kV9 dc9 pm9 an9 cd9 ct9), (PySem.W.fnOf "is_distance" "is_distance" (defArgs (topS 18)) (defBody (topS 18)) (defScope (topS 18)) .none kV10 dc10 pm10 an10 cd10 ct10), (PySem.W.fnOf "is_shaped" "is_shaped" (defArgs (topS 19)) (defBody (topS 19)) (defScope (topS 19)) .none kV11 dc11 pm11 an11 cd11 ct11), (PySem.W.fnOf "is_table" "is_table" (defArgs (topS 20)) (defBody (topS 20)) (defScope (topS 20)) .none kV12 dc12 pm12 an12 cd12 ct12), (PySem.W.fnOf "need_table" "need_table" (defArgs (topS 21)) (defBody (topS 21)) (defScope (topS 21)) .none kV13 dc13 pm13 an13 cd13 ct13), (PySem.W.fnOf "all_pairs" "all_pairs" (defArgs (topS 22)) (defBody (topS 22)) (defScope (topS 22)) .none kV14 dc14 pm14 an14 cd14 ct14), (PySem.W.fnOf "parts" "parts" (defArgs (topS 23)) (defBody (topS 23)) (defScope (topS 23)) .none kV15 dc15 pm15 an15 cd15 ct15), (PySem.W.fnOf "all_cuts" "all_cuts" (defArgs (topS 24)) (defBody (topS 24)) (defScope (topS 24)) .none kV16 dc16 pm16 an16 cd16 ct16), (PySem.W.fnOf "is_cut" "is_cut" (defArgs (topS 25)) (defBody (topS 25)) (defScope (topS 25)) .none kV17 dc17 pm17 an17 cd17 ct17), (PySem.W.fnOf "need_cut" "need_cut" (defArgs (topS 26)) (defBody (topS 26)) (defScope (topS 26)) .none kV18 dc18 pm18 an18 cd18 ct18), (PySem.W.fnOf "marks_of" "marks_of" (defArgs (topS 27)) (defBody (topS 27)) (defScope (topS 27)) .none kV19 dc19 pm19 an19 cd19 ct19), (PySem.W.fnOf "as_weights" "as_weights" (defArgs (topS 29)) (defBody (topS 29)) (defScope (topS 29)) .none kV20 dc20 pm20 an20 cd20 ct20), (PySem.W.fnOf "solved" "solved" (defArgs (topS 30)) (defBody (topS 30)) (defScope (topS 30)) .none kV21 dc21 pm21 an21 cd21 ct21), (PySem.W.fnOf "free_costs" "free_costs" (defArgs (topS 31)) (defBody (topS 31)) (defScope (topS 31)) .none kV22 dc22 pm22 an22 cd22 ct22), (PySem.W.fnOf "decomposition" "decomposition" (defArgs (topS 32)) (defBody (topS 32)) (defScope (topS 32)) .none kV23 dc23 pm23 an23 cd23 ct23), (PySem.W.fnOf "need_costs" "need_costs" (defArgs (topS 34)) (defBody (topS 34)) (defScope (topS 34)) .none kV24 dc24 pm24 an24 cd24 ct24), (PySem.W.fnOf "lowest_cost" "lowest_cost" (defArgs (topS 35)) (defBody (topS 35)) (defScope (topS 35)) .none kV25 dc25 pm25 an25 cd25 ct25), (PySem.W.fnOf "least" "least" (defArgs (topS 36)) (defBody (topS 36)) (defScope (topS 36)) .none kV26 dc26 pm26 an26 cd26 ct26), (PySem.W.fnOf "both_ends" "both_ends" (defArgs (topS 37)) (defBody (topS 37)) (defScope (topS 37)) .none kV27 dc27 pm27 an27 cd27 ct27), (PySem.W.fnOf "weight_range" "weight_range" (defArgs (topS 38)) (defBody (topS 38)) (defScope (topS 38)) .none kV28 dc28 pm28 an28 cd28 ct28), (PySem.W.fnOf "total_range" "total_range" (defArgs (topS 39)) (defBody (topS 39)) (defScope (topS 39)) .none kV29 dc29 pm29 an29 cd29 ct29), (PySem.W.fnOf "_law_cell" "_law_cell" (defArgs (topS 41)) (defBody (topS 41)) (defScope (topS 41)) .none kV30 dc30 pm30 an30 cd30 ct30), (PySem.W.fnOf "_law_drawn" "_law_drawn" (defArgs (topS 42)) (defBody (topS 42)) (defScope (topS 42)) .none kV31 dc31 pm31 an31 cd31 ct31), (PySem.W.fnOf "_law_roll" "_law_roll" (defArgs (topS 43)) (defBody (topS 43)) (defScope (topS 43)) .none kV32 dc32 pm32 an32 cd32 ct32), (PySem.W.fnOf "_law_rounds" "_law_rounds" (defArgs (topS 44)) (defBody (topS 44)) (defScope (topS 44)) .none kV33 dc33 pm33 an33 cd33 ct33), (PySem.W.fnOf "_law_pairs" "_law_pairs" (defArgs (topS 45)) (defBody (topS 45)) (defScope (topS 45)) .none kV34 dc34 pm34 an34 cd34 ct34), (PySem.W.fnOf "_law_cuts" "_law_cuts" (defArgs (topS 46)) (defBody (topS 46)) (defScope (topS 46)) .none kV35 dc35 pm35 an35 cd35 ct35), (PySem.W.fnOf "_law_marks" "_law_marks" (defArgs (topS 47)) (defBody (topS 47)) (defScope (topS 47)) .none kV36 dc36 pm36 an36 cd36 ct36), (PySem.W.fnOf "_law_any_sum" "_law_any_sum" (defArgs (topS 48)) (defBody (topS 48)) (defScope (topS 48)) .none kV37 dc37 pm37 an37 cd37 ct37), (PySem.W.fnOf "_law_divisor" "_law_divisor" (defArgs (topS 49)) (defBody (topS 49)) (defScope (topS 49)) .none kV38 dc38 pm38 an38 cd38 ct38), (PySem.W.fnOf "_law_lowest" "_law_lowest" (defArgs (topS 50)) (defBody (topS 50)) (defScope (topS 50)) .none kV39 dc39 pm39 an39 cd39 ct39), (PySem.W.fnOf "_law_plus" "_law_plus" (defArgs (topS 51)) (defBody (topS 51)) (defScope (topS 51)) .none kV40 dc40 pm40 an40 cd40 ct40), (PySem.W.fnOf "_law_total" "_law_total" (defArgs (topS 52)) (defBody (topS 52)) (defScope (topS 52)) .none kV41 dc41 pm41 an41 cd41 ct41), (PySem.W.fnOf "_law_is_more" "_law_is_more" (defArgs (topS 53)) (defBody (topS 53)) (defScope (topS 53)) .none kV42 dc42 pm42 an42 cd42 ct42), (PySem.W.fnOf "_law_as_dict" "_law_as_dict" (defArgs (topS 54)) (defBody (topS 54)) (defScope (topS 54)) .none kV43 dc43 pm43 an43 cd43 ct43), (PySem.W.fnOf "law" "law" (defArgs (topS 55)) (defBody (topS 55)) (defScope (topS 55)) .none kV44 dc44 pm44 an44 (.ref cc) ct44)] : List FuncData).getD i (PySem.W.fnOf "law" "law" (defArgs (topS 55)) (defBody (topS 55)) (defScope (topS 55)) .none kV44 dc44 pm44 an44 (.ref cc) ct44)) (fun i => ([C0, 0, 0, C3, 0, 0, C6, 0, C8, 0, 0, 0] : List Addr).getD i 0) :=
    { F_law_cell := fun_mk (st := topS 41) l30 c30 k30,
      g_law_cell := PySem.W.mg_of X G a30,
      b_law_cell := (fun_mk (st := topS 41) l30 c30 k30).binds (ps := ["script", "k"]) fun _ _ _ _ _ _ us hl => match us, hl with | [_, _], _ => rfl,
      F_law_rounds := fun_mk (st := topS 44) l33 c33 k33,
      g_law_rounds := PySem.W.mg_of X G a33,
      b_law_rounds := (fun_mk (st := topS 44) l33 c33 k33).binds (ps := ["script", "most"]) fun _ _ _ _ _ _ us hl => match us, hl with | [_, _], _ => rfl,
      F_law_as_dict := fun_mk (st := topS 54) l43 c43 k43,
      g_law_as_dict := PySem.W.mg_of X G a43,
      b_law_as_dict := (fun_mk (st := topS 54) l43 c43 k43).binds (ps := ["weights"]) fun _ _ _ _ _ _ us hl => match us, hl with | [_], _ => rfl,
      F_is_whole := fun_mk (st := topS 17) l9 c9 k9,
      g_is_whole := PySem.W.mg_of X G a9,
      b_is_whole := (fun_mk (st := topS 17) l9 c9 k9).binds (ps := ["value", "low", "high"]) fun _ _ _ _ _ _ us hl => match us, hl with | [_, _, _], _ => rfl,
      F_is_shaped := fun_mk (st := topS 19) l11 c11 k11,
      g_is_shaped := PySem.W.mg_of X G a11,
      b_is_shaped := (fun_mk (st := topS 19) l11 c11 k11).binds (ps := ["value"]) fun _ _ _ _ _ _ us hl => match us, hl with | [_], _ => rfl,
      F_is_distance := fun_mk (st := topS 18) l10 c10 k10,
      g_is_distance := PySem.W.mg_of X G a10,
      b_is_distance := (fun_mk (st := topS 18) l10 c10 k10).binds (ps := ["value"]) fun _ _ _ _ _ _ us hl => match us, hl with | [_], _ => rfl,
      F_is_table := fun_mk (st := topS 20) l12 c12 k12,
      g_is_table := PySem.W.mg_of X G a12,
      b_is_table := (fun_mk (st := topS 20) l12 c12 k12).binds (ps := ["value"]) fun _ _ _ _ _ _ us hl => match us, hl with | [_], _ => rfl,
      F_need_table := fun_mk (st := topS 21) l13 c13 k13,
      g_need_table := PySem.W.mg_of X G a13,
      b_need_table := (fun_mk (st := topS 21) l13 c13 k13).binds (ps := ["table"]) fun _ _ _ _ _ _ us hl => match us, hl with | [_], _ => rfl,
      F_is_cut := fun_mk (st := topS 25) l17 c17 k17,
      g_is_cut := PySem.W.mg_of X G a17,
      b_is_cut := (fun_mk (st := topS 25) l17 c17 k17).binds (ps := ["many", "value"]) fun _ _ _ _ _ _ us hl => match us, hl with | [_, _], _ => rfl,
      F_need_cut := fun_mk (st := topS 26) l18 c18 k18,
      g_need_cut := PySem.W.mg_of X G a18,
      b_need_cut := (fun_mk (st := topS 26) l18 c18 k18).binds (ps := ["many", "cut"]) fun _ _ _ _ _ _ us hl => match us, hl with | [_, _], _ => rfl,
      F_leaving := fun_mk (st := topS 12) l5 c5 k5,
      g_leaving := PySem.W.mg_of X G a5,
      b_leaving := (fun_mk (st := topS 12) l5 c5 k5).binds (ps := ["rows", "basis", "column"]) fun _ _ _ _ _ _ us hl => match us, hl with | [_, _, _], _ => rfl,
      F_divisor := fun_mk (st := topS 7) l0 c0 k0,
      g_divisor := PySem.W.mg_of X G a0,
      b_divisor := (fun_mk (st := topS 7) l0 c0 k0).binds (ps := ["one", "other"]) fun _ _ _ _ _ _ us hl => match us, hl with | [_, _], _ => rfl,
      F_reduced := fun_mk (st := topS 9) l2 c2 k2,
      g_reduced := PySem.W.mg_of X G a2,
      b_reduced := (fun_mk (st := topS 9) l2 c2 k2).binds (ps := ["row"]) fun _ _ _ _ _ _ us hl => match us, hl with | [_], _ => rfl,
      F_cleared := fun_mk (st := topS 10) l3 c3 k3,
      g_cleared := PySem.W.mg_of X G a3,
      b_cleared := (fun_mk (st := topS 10) l3 c3 k3).binds (ps := ["row", "pivot", "column"]) fun _ _ _ _ _ _ us hl => match us, hl with | [_, _, _], _ => rfl,
      F_pivoted := fun_mk (st := topS 11) l4 c4 k4,
      g_pivoted := PySem.W.mg_of X G a4,
      b_pivoted := (fun_mk (st := topS 11) l4 c4 k4).binds (ps := ["rows", "basis", "goal", "number", "column"]) fun _ _ _ _ _ _ us hl => match us, hl with | [_, _, _, _, _], _ => rfl,
      F_lowered := fun_mk (st := topS 13) l6 c6 k6,
      g_lowered := PySem.W.mg_of X G a6,
      b_lowered := (fun_mk (st := topS 13) l6 c6 k6).binds (ps := ["rows", "basis", "goal", "many"]) fun _ _ _ _ _ _ us hl => match us, hl with | [_, _, _, _], _ => rfl,
      F_freed := fun_mk (st := topS 14) l7 c7 k7,
      g_freed := PySem.W.mg_of X G a7,
      b_freed := (fun_mk (st := topS 14) l7 c7 k7).binds (ps := ["rows", "basis", "goal", "many"]) fun _ _ _ _ _ _ us hl => match us, hl with | [_, _, _, _], _ => rfl,
      F_lowest := fun_mk (st := topS 8) l1 c1 k1,
      g_lowest := PySem.W.mg_of X G a1,
      b_lowest := (fun_mk (st := topS 8) l1 c1 k1).binds (ps := ["top", "under"]) fun _ _ _ _ _ _ us hl => match us, hl with | [_, _], _ => rfl,
      F_least_sum := fun_mk (st := topS 15) l8 c8 k8,
      g_least_sum := PySem.W.mg_of X G a8,
      b_least_sum := (fun_mk (st := topS 15) l8 c8 k8).binds (ps := ["columns", "right", "costs"]) fun _ _ _ _ _ _ us hl => match us, hl with | [_, _, _], _ => rfl,
      F_all_pairs := fun_mk (st := topS 22) l14 c14 k14,
      g_all_pairs := PySem.W.mg_of X G a14,
      b_all_pairs := (fun_mk (st := topS 22) l14 c14 k14).binds (ps := ["many"]) fun _ _ _ _ _ _ us hl => match us, hl with | [_], _ => rfl,
      F_marks_of := fun_mk (st := topS 27) l19 c19 k19,
      g_marks_of := PySem.W.mg_of X G a19,
      b_marks_of := (fun_mk (st := topS 27) l19 c19 k19).binds (ps := ["many", "cut"]) fun _ _ _ _ _ _ us hl => match us, hl with | [_, _], _ => rfl,
      F_parts := fun_mk (st := topS 23) l15 c15 k15,
      g_parts := PySem.W.mg_of X G a15,
      b_parts := (fun_mk (st := topS 23) l15 c15 k15).binds (ps := ["first", "many"]) fun _ _ _ _ _ _ us hl => match us, hl with | [_, _], _ => rfl,
      F_all_cuts := fun_mk (st := topS 24) l16 c16 k16,
      g_all_cuts := PySem.W.mg_of X G a16,
      b_all_cuts := (fun_mk (st := topS 24) l16 c16 k16).binds (ps := ["many"]) fun _ _ _ _ _ _ us hl => match us, hl with | [_], _ => rfl,
      F_as_weights := fun_mk (st := topS 29) l20 c20 k20,
      g_as_weights := PySem.W.mg_of X G a20,
      b_as_weights := (fun_mk (st := topS 29) l20 c20 k20).binds (ps := ["many", "factors"]) fun _ _ _ _ _ _ us hl => match us, hl with | [_, _], _ => rfl,
      F_solved := fun_mk (st := topS 30) l21 c21 k21,
      g_solved := PySem.W.mg_of X G a21,
      b_solved := (fun_mk (st := topS 30) l21 c21 k21).binds (ps := ["table", "costs"]) fun _ _ _ _ _ _ us hl => match us, hl with | [_, _], _ => rfl,
      F_lowest_cost := fun_mk (st := topS 35) l25 c25 k25,
      g_lowest_cost := PySem.W.mg_of X G a25,
      b_lowest_cost := (fun_mk (st := topS 35) l25 c25 k25).binds (ps := ["table", "costs"]) fun _ _ _ _ _ _ us hl => match us, hl with | [_, _], _ => rfl,
      F_both_ends := fun_mk (st := topS 37) l27 c27 k27,
      g_both_ends := PySem.W.mg_of X G a27,
      b_both_ends := (fun_mk (st := topS 37) l27 c27 k27).binds (ps := ["table", "costs"]) fun _ _ _ _ _ _ us hl => match us, hl with | [_, _], _ => rfl,
      F_weight_range := fun_mk (st := topS 38) l28 c28 k28,
      g_weight_range := PySem.W.mg_of X G a28,
      b_weight_range := (fun_mk (st := topS 38) l28 c28 k28).binds (ps := ["table", "cut"]) fun _ _ _ _ _ _ us hl => match us, hl with | [_, _], _ => rfl,
      F_need_costs := fun_mk (st := topS 34) l24 c24 k24,
      g_need_costs := PySem.W.mg_of X G a24,
      b_need_costs := (fun_mk (st := topS 34) l24 c24 k24).binds (ps := ["many", "costs"]) fun _ _ _ _ _ _ us hl => match us, hl with | [_, _], _ => rfl,
      F_least := fun_mk (st := topS 36) l26 c26 k26,
      g_least := PySem.W.mg_of X G a26,
      b_least := (fun_mk (st := topS 36) l26 c26 k26).binds (ps := ["table", "costs"]) fun _ _ _ _ _ _ us hl => match us, hl with | [_, _], _ => rfl,
      F_total_range := fun_mk (st := topS 39) l29 c29 k29,
      g_total_range := PySem.W.mg_of X G a29,
      b_total_range := (fun_mk (st := topS 39) l29 c29 k29).binds (ps := ["table"]) fun _ _ _ _ _ _ us hl => match us, hl with | [_], _ => rfl,
      F_law_divisor := fun_mk (st := topS 49) l38 c38 k38,
      g_law_divisor := PySem.W.mg_of X G a38,
      b_law_divisor := (fun_mk (st := topS 49) l38 c38 k38).binds (ps := ["one", "other"]) fun _ _ _ _ _ _ us hl => match us, hl with | [_, _], _ => rfl,
      F_law_lowest := fun_mk (st := topS 50) l39 c39 k39,
      g_law_lowest := PySem.W.mg_of X G a39,
      b_law_lowest := (fun_mk (st := topS 50) l39 c39 k39).binds (ps := ["top", "under"]) fun _ _ _ _ _ _ us hl => match us, hl with | [_, _], _ => rfl,
      F_law_plus := fun_mk (st := topS 51) l40 c40 k40,
      g_law_plus := PySem.W.mg_of X G a40,
      b_law_plus := (fun_mk (st := topS 51) l40 c40 k40).binds (ps := ["one", "other"]) fun _ _ _ _ _ _ us hl => match us, hl with | [_, _], _ => rfl,
      F_law_total := fun_mk (st := topS 52) l41 c41 k41,
      g_law_total := PySem.W.mg_of X G a41,
      b_law_total := (fun_mk (st := topS 52) l41 c41 k41).binds (ps := ["some"]) fun _ _ _ _ _ _ us hl => match us, hl with | [_], _ => rfl,
      F_law_is_more := fun_mk (st := topS 53) l42 c42 k42,
      g_law_is_more := PySem.W.mg_of X G a42,
      b_law_is_more := (fun_mk (st := topS 53) l42 c42 k42).binds (ps := ["one", "other"]) fun _ _ _ _ _ _ us hl => match us, hl with | [_, _], _ => rfl,
      F_law_drawn := fun_mk (st := topS 42) l31 c31 k31,
      g_law_drawn := PySem.W.mg_of X G a31,
      b_law_drawn := (fun_mk (st := topS 42) l31 c31 k31).binds (ps := ["cell", "k"]) fun _ _ _ _ _ _ us hl => match us, hl with | [_, _], _ => rfl,
      F_law_roll := fun_mk (st := topS 43) l32 c32 k32,
      g_law_roll := PySem.W.mg_of X G a32,
      b_law_roll := (fun_mk (st := topS 43) l32 c32 k32).binds (ps := ["dice", "many"]) fun _ _ _ _ _ _ us hl => match us, hl with | [_, _], _ => rfl,
      F_free_costs := fun_mk (st := topS 31) l22 c22 k22,
      g_free_costs := PySem.W.mg_of X G a22,
      b_free_costs := (fun_mk (st := topS 31) l22 c22 k22).binds (ps := ["many"]) fun _ _ _ _ _ _ us hl => match us, hl with | [_], _ => rfl,
      F_decomposition := fun_mk (st := topS 32) l23 c23 k23,
      g_decomposition := PySem.W.mg_of X G a23,
      b_decomposition := (fun_mk (st := topS 32) l23 c23 k23).binds (ps := ["table"]) fun _ _ _ _ _ _ us hl => match us, hl with | [_], _ => rfl,
      F_law_cuts := fun_mk (st := topS 46) l35 c35 k35,
      g_law_cuts := PySem.W.mg_of X G a35,
      b_law_cuts := (fun_mk (st := topS 46) l35 c35 k35).binds (ps := ["many"]) fun _ _ _ _ _ _ us hl => match us, hl with | [_], _ => rfl,
      F_law_pairs := fun_mk (st := topS 45) l34 c34 k34,
      g_law_pairs := PySem.W.mg_of X G a34,
      b_law_pairs := (fun_mk (st := topS 45) l34 c34 k34).binds (ps := ["many"]) fun _ _ _ _ _ _ us hl => match us, hl with | [_], _ => rfl,
      F_law_marks := fun_mk (st := topS 47) l36 c36 k36,
      g_law_marks := PySem.W.mg_of X G a36,
      b_law_marks := (fun_mk (st := topS 47) l36 c36 k36).binds (ps := ["many", "side"]) fun _ _ _ _ _ _ us hl => match us, hl with | [_, _], _ => rfl,
      F_law_any_sum := fun_mk (st := topS 48) l37 c37 k37,
      g_law_any_sum := PySem.W.mg_of X G a37,
      b_law_any_sum := (fun_mk (st := topS 48) l37 c37 k37).binds (ps := ["dice", "many", "turns"]) fun _ _ _ _ _ _ us hl => match us, hl with | [_, _, _], _ => rfl,
      z_abs := PySem.W.mg_none_of X G z_abs,
      z_all := PySem.W.mg_none_of X G z_all,
      z_bool := PySem.W.mg_none_of X G z_bool,
      z_enumerate := PySem.W.mg_none_of X G z_enumerate,
      z_int := PySem.W.mg_none_of X G z_int,
      z_isinstance := PySem.W.mg_none_of X G z_isinstance,
      z_len := PySem.W.mg_none_of X G z_len,
      z_list := PySem.W.mg_none_of X G z_list,
      z_max := PySem.W.mg_none_of X G z_max,
      z_min := PySem.W.mg_none_of X G z_min,
      z_range := PySem.W.mg_none_of X G z_range,
      z_sorted := PySem.W.mg_none_of X G z_sorted,
      z_sum := PySem.W.mg_none_of X G z_sum,
      z_tuple := PySem.W.mg_none_of X G z_tuple,
      g_InvalidTable := PySem.W.mg_of X G g_InvalidTable,
      g_InvalidCut := PySem.W.mg_of X G g_InvalidCut,
      g_InvalidCosts := PySem.W.mg_of X G g_InvalidCosts,
      g_NotDecomposable := PySem.W.mg_of X G g_NotDecomposable,
      x_InvalidCosts := x_InvalidCosts,
      k_InvalidCosts := k_InvalidCosts,
      b_InvalidCosts := b_InvalidCosts,
      t_InvalidCosts := t_InvalidCosts,
      x_InvalidCut := x_InvalidCut,
      k_InvalidCut := k_InvalidCut,
      b_InvalidCut := b_InvalidCut,
      t_InvalidCut := t_InvalidCut,
      x_InvalidTable := x_InvalidTable,
      k_InvalidTable := k_InvalidTable,
      b_InvalidTable := b_InvalidTable,
      t_InvalidTable := t_InvalidTable,
      x_NotDecomposable := x_NotDecomposable,
      k_NotDecomposable := k_NotDecomposable,
      b_NotDecomposable := b_NotDecomposable,
      t_NotDecomposable := t_NotDecomposable }
  refine ⟨PySem.W.fnOf "law" "law" (defArgs (topS 55)) (defBody (topS 55)) (defScope (topS 55)) .none kV44 dc44 pm44 an44 (.ref cc) ct44, [], spLaw K [], (fun p hp => nomatch hp), (fun p hp => nomatch hp), (fun p hp => nomatch hp), fun s u => .of_eq rfl, fun H a ns hl _ hH hS => ⟨a, ns, rfl, hS, Nat.le_trans hl (by decide), (fun p hp => nomatch hp), fun _ => rfl⟩, fun base _ _ TB => ?_⟩
  exact ok_law (Pt := 0) T FU (dt := []) l44 c44  (fun da c => law_math da c)
end
end CS
open PySem PySem.W PyProof.Rows
set_option maxRecDepth 100000 in
set_option maxHeartbeats 0 in
theorem PySem.Challenge.cw_cutsums_k11_whole_between_holds : PySem.Challenge.rw_cutsums_k11_whole_between.Holds := by
  w_on; o_law; k_head; (case hw => w_witness2)
  k_fill
  refine CS.walk_ofT (l := PySem.Challenge.rw_cutsums_k11_whole_between) (n := 63) (k := 24) (x := "script") (CX := fun w => L2N.CX PySem.Challenge.rw_cutsums_k11_whole_between.prog w) rfl (by decide) rfl ⟨rfl, by decide, by decide⟩ (fun w h Y => by first | exact PySem.W.kIn_of Y | exact PySem.W.km_in_of Y) ?F (fun _ _ _ _ _ h => CS.cxN_end h)
  case F =>
    intro w mg fa h KX G hmg tabs
    refine' CS.all_mk KX G hmg ?a30 ?l30 ?c30 ?k30 ?a33 ?l33 ?c33 ?k33 ?a43 ?l43 ?c43 ?k43 ?a9 ?l9 ?c9 ?k9 ?a11 ?l11 ?c11 ?k11 ?a10 ?l10 ?c10 ?k10 ?a12 ?l12 ?c12 ?k12 ?a13 ?l13 ?c13 ?k13 ?a17 ?l17 ?c17 ?k17 ?a18 ?l18 ?c18 ?k18 ?a5 ?l5 ?c5 ?k5 ?a0 ?l0 ?c0 ?k0 ?a2 ?l2 ?c2 ?k2 ?a3 ?l3 ?c3 ?k3 ?a4 ?l4 ?c4 ?k4 ?a6 ?l6 ?c6 ?k6 ?a7 ?l7 ?c7 ?k7 ?a1 ?l1 ?c1 ?k1 ?a8 ?l8 ?c8 ?k8 ?a14 ?l14 ?c14 ?k14 ?a19 ?l19 ?c19 ?k19 ?a15 ?l15 ?c15 ?k15 ?a16 ?l16 ?c16 ?k16 ?a20 ?l20 ?c20 ?k20 ?a21 ?l21 ?c21 ?k21 ?a25 ?l25 ?c25 ?k25 ?a27 ?l27 ?c27 ?k27 ?a28 ?l28 ?c28 ?k28 ?a24 ?l24 ?c24 ?k24 ?a26 ?l26 ?c26 ?k26 ?a29 ?l29 ?c29 ?k29 ?a38 ?l38 ?c38 ?k38 ?a39 ?l39 ?c39 ?k39 ?a40 ?l40 ?c40 ?k40 ?a41 ?l41 ?c41 ?k41 ?a42 ?l42 ?c42 ?k42 ?a31 ?l31 ?c31 ?k31 ?a32 ?l32 ?c32 ?k32 ?a22 ?l22 ?c22 ?k22 ?a23 ?l23 ?c23 ?k23 ?a35 ?l35 ?c35 ?k35 ?a34 ?l34 ?c34 ?k34 ?a36 ?l36 ?c36 ?k36 ?a37 ?l37 ?c37 ?k37 ?a44 ?l44 ?c44 ?k44 ?z_abs ?z_all ?z_bool ?z_enumerate ?z_int ?z_isinstance ?z_len ?z_list ?z_max ?z_min ?z_range ?z_sorted ?z_sum ?z_tuple ?g_InvalidTable ?g_InvalidCut ?g_InvalidCosts ?g_NotDecomposable ?x_InvalidCosts ?k_InvalidCosts ?b_InvalidCosts ?t_InvalidCosts ?x_InvalidCut ?k_InvalidCut ?b_InvalidCut ?t_InvalidCut ?x_InvalidTable ?k_InvalidTable ?b_InvalidTable ?t_InvalidTable ?x_NotDecomposable ?k_NotDecomposable ?b_NotDecomposable ?t_NotDecomposable
    (case a30 => k_is)
    (case l30 => k_is)
    (case c30 => k_is)
    (case k30 => k_is)
    (case a33 => k_is)
    (case l33 => k_is)
    (case c33 => k_is)
    (case k33 => k_is)
    (case a43 => k_is)
    (case l43 => k_is)
    (case c43 => k_is)
    (case k43 => k_is)
    (case a9 => k_is)
    (case l9 => k_is)
    (case c9 => k_is)
    (case k9 => k_is)
    (case a11 => k_is)
    (case l11 => k_is)
    (case c11 => k_is)
    (case k11 => k_is)
    (case a10 => k_is)
    (case l10 => k_is)
    (case c10 => k_is)
    (case k10 => k_is)
    (case a12 => k_is)
    (case l12 => k_is)
    (case c12 => k_is)
    (case k12 => k_is)
    (case a13 => k_is)
    (case l13 => k_is)
    (case c13 => k_is)
    (case k13 => k_is)
    (case a17 => k_is)
    (case l17 => k_is)
    (case c17 => k_is)
    (case k17 => k_is)
    (case a18 => k_is)
    (case l18 => k_is)
    (case c18 => k_is)
    (case k18 => k_is)
    (case a5 => k_is)
    (case l5 => k_is)
    (case c5 => k_is)
    (case k5 => k_is)
    (case a0 => k_is)
    (case l0 => k_is)
    (case c0 => k_is)
    (case k0 => k_is)
    (case a2 => k_is)
    (case l2 => k_is)
    (case c2 => k_is)
    (case k2 => k_is)
    (case a3 => k_is)
    (case l3 => k_is)
    (case c3 => k_is)
    (case k3 => k_is)
    (case a4 => k_is)
    (case l4 => k_is)
    (case c4 => k_is)
    (case k4 => k_is)
    (case a6 => k_is)
    (case l6 => k_is)
    (case c6 => k_is)
    (case k6 => k_is)
    (case a7 => k_is)
    (case l7 => k_is)
    (case c7 => k_is)
    (case k7 => k_is)
    (case a1 => k_is)
    (case l1 => k_is)
    (case c1 => k_is)
    (case k1 => k_is)
    (case a8 => k_is)
    (case l8 => k_is)
    (case c8 => k_is)
    (case k8 => k_is)
    (case a14 => k_is)
    (case l14 => k_is)
    (case c14 => k_is)
    (case k14 => k_is)
    (case a19 => k_is)
    (case l19 => k_is)
    (case c19 => k_is)
    (case k19 => k_is)
    (case a15 => k_is)
    (case l15 => k_is)
    (case c15 => k_is)
    (case k15 => k_is)
    (case a16 => k_is)
    (case l16 => k_is)
    (case c16 => k_is)
    (case k16 => k_is)
    (case a20 => k_is)
    (case l20 => k_is)
    (case c20 => k_is)
    (case k20 => k_is)
    (case a21 => k_is)
    (case l21 => k_is)
    (case c21 => k_is)
    (case k21 => k_is)
    (case a25 => k_is)
    (case l25 => k_is)
    (case c25 => k_is)
    (case k25 => k_is)
    (case a27 => k_is)
    (case l27 => k_is)
    (case c27 => k_is)
    (case k27 => k_is)
    (case a28 => k_is)
    (case l28 => k_is)
    (case c28 => k_is)
    (case k28 => k_is)
    (case a24 => k_is)
    (case l24 => k_is)
    (case c24 => k_is)
    (case k24 => k_is)
    (case a26 => k_is)
    (case l26 => k_is)
    (case c26 => k_is)
    (case k26 => k_is)
    (case a29 => k_is)
    (case l29 => k_is)
    (case c29 => k_is)
    (case k29 => k_is)
    (case a38 => k_is)
    (case l38 => k_is)
    (case c38 => k_is)
    (case k38 => k_is)
    (case a39 => k_is)
    (case l39 => k_is)
    (case c39 => k_is)
    (case k39 => k_is)
    (case a40 => k_is)
    (case l40 => k_is)
    (case c40 => k_is)
    (case k40 => k_is)
    (case a41 => k_is)
    (case l41 => k_is)
    (case c41 => k_is)
    (case k41 => k_is)
    (case a42 => k_is)
    (case l42 => k_is)
    (case c42 => k_is)
    (case k42 => k_is)
    (case a31 => k_is)
    (case l31 => k_is)
    (case c31 => k_is)
    (case k31 => k_is)
    (case a32 => k_is)
    (case l32 => k_is)
    (case c32 => k_is)
    (case k32 => k_is)
    (case a22 => k_is)
    (case l22 => k_is)
    (case c22 => k_is)
    (case k22 => k_is)
    (case a23 => k_is)
    (case l23 => k_is)
    (case c23 => k_is)
    (case k23 => k_is)
    (case a35 => k_is)
    (case l35 => k_is)
    (case c35 => k_is)
    (case k35 => k_is)
    (case a34 => k_is)
    (case l34 => k_is)
    (case c34 => k_is)
    (case k34 => k_is)
    (case a36 => k_is)
    (case l36 => k_is)
    (case c36 => k_is)
    (case k36 => k_is)
    (case a37 => k_is)
    (case l37 => k_is)
    (case c37 => k_is)
    (case k37 => k_is)
    (case a44 => k_is)
    (case l44 => k_is)
    (case c44 => k_is)
    (case k44 => k_is)
    (case z_abs => k_is)
    (case z_all => k_is)
    (case z_bool => k_is)
    (case z_enumerate => k_is)
    (case z_int => k_is)
    (case z_isinstance => k_is)
    (case z_len => k_is)
    (case z_list => k_is)
    (case z_max => k_is)
    (case z_min => k_is)
    (case z_range => k_is)
    (case z_sorted => k_is)
    (case z_sum => k_is)
    (case z_tuple => k_is)
    (case g_InvalidTable => k_is)
    (case g_InvalidCut => k_is)
    (case g_InvalidCosts => k_is)
    (case g_NotDecomposable => k_is)
    (case x_InvalidCosts => k_exc)
    (case k_InvalidCosts => k_is)
    (case b_InvalidCosts => k_is)
    (case t_InvalidCosts => k_is)
    (case x_InvalidCut => k_exc)
    (case k_InvalidCut => k_is)
    (case b_InvalidCut => k_is)
    (case t_InvalidCut => k_is)
    (case x_InvalidTable => k_exc)
    (case k_InvalidTable => k_is)
    (case b_InvalidTable => k_is)
    (case t_InvalidTable => k_is)
    (case x_NotDecomposable => k_exc)
    (case k_NotDecomposable => k_is)
    (case b_NotDecomposable => k_is)
    (case t_NotDecomposable => k_is)
