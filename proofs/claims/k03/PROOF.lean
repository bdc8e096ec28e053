import PyProof.Rows.All
import Wide.All
import OpenK.AllK
import Wide.FinOn
import HandS.ForMost
import HandS.Wide
import HandS.Gcd
import HandS.Flow
import HandS.IsInst
import HandS.FStr
import HandS.Zip
import HandS.Lambda
import HandS.Style
import PyProof.Rows.RuleB_floordiv
import KE.GoesEnum
import KE.GoesMore
import KE.IntTextLaws
import KE.BitLaws
import KE.SortKeyHeap
import HandS.Conv
import HandS.Nested
import HandS.SortKw
import HandS.Codes
import HandS.Words
import HandS.Head0
import HandS.Head1
import HandS.Head2
import HandS.Head3
import HandS.HeadHook4
import HandS.EndTab
import PySem.Challenge.RW_everylemma_k03_tables_undone_and_ranks
set_option Elab.async false
set_option linter.all false
set_option maxRecDepth 100000
set_option maxHeartbeats 0
/-! DBase: data as plain trees over the hand layer: what represents what, what stays, evaluation to data. -/
namespace E
open PySem PySem.Spec PyProof.Rows L2

inductive D where
  | non
  | bl (b : Bool)
  | int (i : Int)
  | str (s : Str)
  | lst (xs : List D)
  | tup (xs : List D)
  | obj (C : Addr) (ns : List Str) (xs : List D)
  | loc (a : Addr)

mutual
/-- v stands for d; no address of the tree is among M -/
inductive Rep (M : List Addr) (H : Hp) : V → D → Prop
  | non : Rep M H .non .non
  | bl (b : Bool) : Rep M H (.bl b) (.bl b)
  | int (i : Int) : Rep M H (.int i) (.int i)
  | str (x : Str) : Rep M H (.str x) (.str x)
  | lst {a : Addr} {vs : List V} {ds : List D} : a ∉ M → H a = some (.lst vs) → Reps M H vs ds → Rep M H (.ref a) (.lst ds)
  | tup {a : Addr} {vs : List V} {ds : List D} : a ∉ M → H a = some (.tup vs) → Reps M H vs ds → Rep M H (.ref a) (.tup ds)
  | obj {a C dx : Addr} {ns : List Str} {vs : List V} {ds : List D} : a ∉ M → H a = some (.ins C dx (ns.zip vs)) → ns.length = vs.length → Reps M H vs ds → Rep M H (.ref a) (.obj C ns ds)
  | loc (a : Addr) : Rep M H (.ref a) (.loc a)
inductive Reps (M : List Addr) (H : Hp) : List V → List D → Prop
  | nil : Reps M H [] []
  | cons {v : V} {vs : List V} {d : D} {ds : List D} : Rep M H v d → Reps M H vs ds → Reps M H (v :: vs) (d :: ds)
end

/-- all that is tracked outside M stays -/
def Ext (M : List Addr) (H H' : Hp) : Prop := ∀ b o, b ∉ M → H b = some o → H' b = some o
theorem Ext.refl (M : List Addr) (H : Hp) : Ext M H H := fun _ _ _ h => h
theorem Ext.trans {M : List Addr} {H H1 H2 : Hp} (a : Ext M H H1) (b : Ext M H1 H2) : Ext M H H2 := fun x o n h => b x o n (a x o n h)
theorem Ext.of {M : List Addr} {H H' : Hp} (s : Same H H') : Ext M H H' := fun b o _ h => s b o h
theorem Ext.sub {M M' : List Addr} {H H' : Hp} (e : Ext M H H') (h : ∀ b ∈ M, b ∈ M') : Ext M' H H' := fun b o n q => e b o (fun z => n (h b z)) q
theorem Same.new {H : Hp} {p : Addr} {o : HO} (h : H p = none) : Same H (upd H p o) := fun b u e => by
  rw [upd_ne (ne_of_none e h)]; exact e

mutual
theorem Rep.map {M M' : List Addr} {H H' : Hp} (f : ∀ a o, a ∉ M → H a = some o → a ∉ M' ∧ H' a = some o) : ∀ {d : D} {v : V}, Rep M H v d → Rep M' H' v d
  | .non, _, h => by cases h; exact .non
  | .bl b, _, h => by cases h; exact .bl b
  | .int i, _, h => by cases h; exact .int i
  | .str x, _, h => by cases h; exact .str x
  | .lst ds, _, h => by
    cases h with
    | lst n e r => exact .lst (f _ _ n e).1 (f _ _ n e).2 (Reps.map f r)
  | .tup ds, _, h => by
    cases h with
    | tup n e r => exact .tup (f _ _ n e).1 (f _ _ n e).2 (Reps.map f r)
  | .obj C ns ds, _, h => by
    cases h with
    | obj n e l r => exact .obj (f _ _ n e).1 (f _ _ n e).2 l (Reps.map f r)
  | .loc a, _, h => by cases h; exact .loc a
theorem Reps.map {M M' : List Addr} {H H' : Hp} (f : ∀ a o, a ∉ M → H a = some o → a ∉ M' ∧ H' a = some o) : ∀ {ds : List D} {vs : List V}, Reps M H vs ds → Reps M' H' vs ds
  | [], _, h => by cases h; exact .nil
  | d :: ds, _, h => by
    cases h with
    | cons r rs => exact .cons (Rep.map f r) (Reps.map f rs)
end
theorem Rep.ext {M : List Addr} {H H' : Hp} {v : V} {d : D} (h : Rep M H v d) (e : Ext M H H') : Rep M H' v d := h.map fun a o n q => ⟨n, e a o n q⟩
theorem Reps.ext {M : List Addr} {H H' : Hp} {vs : List V} {ds : List D} (h : Reps M H vs ds) (e : Ext M H H') : Reps M H' vs ds := h.map fun a o n q => ⟨n, e a o n q⟩
theorem Rep.less {M M' : List Addr} {H : Hp} {v : V} {d : D} (h : Rep M H v d) (s : ∀ b ∈ M', b ∈ M) : Rep M' H v d := h.map fun a o n q => ⟨fun z => n (s a z), q⟩
theorem Reps.less {M M' : List Addr} {H : Hp} {vs : List V} {ds : List D} (h : Reps M H vs ds) (s : ∀ b ∈ M', b ∈ M) : Reps M' H vs ds := h.map fun a o n q => ⟨fun z => n (s a z), q⟩
/-- a new address stands in no tree -/
theorem Rep.fresh {M : List Addr} {H : Hp} {v : V} {d : D} {l : Addr} (h : Rep M H v d) (hl : H l = none) : Rep (l :: M) H v d := h.map fun a o n q =>
  ⟨fun z => (List.mem_cons.mp z).elim (fun e => by rw [e, hl] at q; cases q) n, q⟩
theorem Reps.fresh {M : List Addr} {H : Hp} {vs : List V} {ds : List D} {l : Addr} (h : Reps M H vs ds) (hl : H l = none) : Reps (l :: M) H vs ds := h.map fun a o n q =>
  ⟨fun z => (List.mem_cons.mp z).elim (fun e => by rw [e, hl] at q; cases q) n, q⟩
theorem Reps.len {M : List Addr} {H : Hp} : ∀ {vs : List V} {ds : List D}, Reps M H vs ds → vs.length = ds.length
  | _, _, .nil => rfl
  | _, _, .cons _ t => congrArg (· + 1) t.len
theorem Reps.get {M : List Addr} {H : Hp} : ∀ {vs : List V} {ds : List D} {i : Nat} {d : D}, Reps M H vs ds → ds[i]? = some d → ∃ v, vs[i]? = some v ∧ Rep M H v d
  | _, _, _, _, .nil, e => by simp at e
  | _, _, 0, _, .cons r _, e => by simp at e; subst e; exact ⟨_, rfl, r⟩
  | _, _, i + 1, d, .cons _ t, e => by
    obtain ⟨v, h1, h2⟩ := Reps.get (i := i) (d := d) t (by simpa using e)
    exact ⟨v, by simpa using h1, h2⟩
theorem Reps.getV {M : List Addr} {H : Hp} : ∀ {vs : List V} {ds : List D} {i : Nat} {v : V}, Reps M H vs ds → vs[i]? = some v → ∃ d, ds[i]? = some d ∧ Rep M H v d
  | _, _, _, _, .nil, e => by simp at e
  | _, _, 0, _, .cons r _, e => by simp at e; subst e; exact ⟨_, rfl, r⟩
  | _, _, i + 1, v, .cons _ t, e => by
    obtain ⟨d, h1, h2⟩ := Reps.getV (i := i) (v := v) t (by simpa using e)
    exact ⟨d, by simpa using h1, h2⟩
theorem Reps.append {M : List Addr} {H : Hp} : ∀ {vs ws : List V} {ds es : List D}, Reps M H vs ds → Reps M H ws es → Reps M H (vs ++ ws) (ds ++ es)
  | _, _, _, _, .nil, s => s
  | _, _, _, _, .cons r t, s => .cons r (t.append s)
theorem Reps.set {M : List Addr} {H : Hp} {v : V} {d : D} (r : Rep M H v d) : ∀ {vs : List V} {ds : List D} (i : Nat), Reps M H vs ds → Reps M H (vs.set i v) (ds.set i d)
  | _, _, _, .nil => .nil
  | _, _, 0, .cons _ t => .cons r t
  | _, _, i + 1, .cons q t => .cons q (t.set r i)
theorem Reps.take {M : List Addr} {H : Hp} : ∀ {vs : List V} {ds : List D} (n : Nat), Reps M H vs ds → Reps M H (vs.take n) (ds.take n)
  | _, _, 0, _ => by simp; exact .nil
  | _, _, _ + 1, .nil => by simp; exact .nil
  | _, _, n + 1, .cons r t => .cons r (t.take n)
theorem Reps.drop {M : List Addr} {H : Hp} : ∀ {vs : List V} {ds : List D} (n : Nat), Reps M H vs ds → Reps M H (vs.drop n) (ds.drop n)
  | _, _, 0, r => r
  | _, _, _ + 1, .nil => .nil
  | _, _, n + 1, .cons _ t => t.drop n
theorem Reps.erase {M : List Addr} {H : Hp} : ∀ {vs : List V} {ds : List D} (i : Nat), Reps M H vs ds → Reps M H (vs.eraseIdx i) (ds.eraseIdx i)
  | _, _, _, .nil => .nil
  | _, _, 0, .cons _ t => t
  | _, _, i + 1, .cons q t => .cons q (t.erase i)
theorem reps_ints {M : List Addr} {H : Hp} : ∀ (ns : List Int), Reps M H (ns.map V.int) (ns.map D.int)
  | [] => .nil
  | n :: ns => .cons (.int n) (reps_ints ns)
theorem reps_intsV {M : List Addr} {H : Hp} : ∀ {ns : List Int} {vs : List V}, Reps M H vs (ns.map D.int) → vs = ns.map V.int
  | [], _, h => by cases h; rfl
  | n :: ns, _, h => by
    cases h with
    | cons r t => cases r; rw [reps_intsV t]; rfl
theorem reps_bls {M : List Addr} {H : Hp} : ∀ {bs : List Bool} {vs : List V}, Reps M H vs (bs.map D.bl) → vs = bs.map V.bl
  | [], _, h => by cases h; rfl
  | n :: ns, _, h => by
    cases h with
    | cons r t => cases r; rw [reps_bls t]; rfl
theorem reps_strs {M : List Addr} {H : Hp} : ∀ (ns : List Str), Reps M H (ns.map V.str) (ns.map D.str)
  | [] => .nil
  | n :: ns => .cons (.str n) (reps_strs ns)

/-! ### the state of a body -/
/-- what holds through a body: H0, W: the entry heap and what may change of it; m0: what no result may lead to; kp: the same for the loops around; jr: the list of draws; tb: tables of code objects -/
structure Ct where
  H0 : Hp
  W : List Addr
  m0 : List Addr
  jr : Option Addr
  tb : List (Addr × Str)
  M : List Addr
  own : List (Addr × List D)
  kp : List (Hp × List Addr)

/-- the law's list of draws -/
def JarAt (M : List Addr) (H : Hp) (j : Addr) : Prop := ∃ (sc : Addr) (ns : List Int) (a b c m : Int), H j = some (.lst [.ref sc, .int a, .int b, .int c, .int m]) ∧ sc ∉ M ∧ H sc = some (.lst (ns.map V.int)) ∧
  ns.length ≤ 63 ∧ 0 ≤ a ∧ 0 ≤ b ∧ 0 ≤ c ∧ 0 ≤ m ∧ m < 2147483647
theorem JarAt.same {M : List Addr} {H H' : Hp} {j : Addr} (h : JarAt M H j) (s : Same H H') : JarAt M H' j := by
  obtain ⟨sc, ns, a, b, c, m, e, n, q, r⟩ := h
  exact ⟨sc, ns, a, b, c, m, s _ _ e, n, s _ _ q, r⟩
theorem JarAt.ext {M : List Addr} {H H' : Hp} {j : Addr} (h : JarAt M H j) (s : Ext M H H') (e : H' j = H j) : JarAt M H' j := by
  obtain ⟨sc, ns, a, b, c, m, e1, n, q, r⟩ := h
  exact ⟨sc, ns, a, b, c, m, e.trans e1, n, s _ _ n q, r⟩
theorem JarAt.less {M M' : List Addr} {H : Hp} {j : Addr} (h : JarAt M H j) (s : ∀ b ∈ M', b ∈ M) : JarAt M' H j := by
  obtain ⟨sc, ns, a, b, c, m, e1, n, q, r⟩ := h
  exact ⟨sc, ns, a, b, c, m, e1, fun z => n (s _ z), q, r⟩
theorem JarAt.fresh {M : List Addr} {H : Hp} {j l : Addr} (h : JarAt M H j) (hl : H l = none) : JarAt (l :: M) H j := by
  obtain ⟨sc, ns, a, b, c, m, e1, n, q, r⟩ := h
  exact ⟨sc, ns, a, b, c, m, e1, fun z => (List.mem_cons.mp z).elim (fun e => by rw [e, hl] at q; cases q) n, q, r⟩

/-- a table of code objects, all of one name -/
def TabAt (M : List Addr) (H : Hp) (p : Addr × Str) : Prop := ∃ ps : Array Value, H p.1 = some (.tbl ps) ∧ TriplesOk ps.toList ∧ ∀ (pos : Pos) (cv : Value), codeAmong pos ps.toList = some cv → ∃ k, cv = .ref k ∧ k ∉ M ∧ H k = some (LamX.CodeO k p.2)
theorem TabAt.same {M : List Addr} {H H' : Hp} {p : Addr × Str} (h : TabAt M H p) (s : Same H H') : TabAt M H' p := by
  obtain ⟨ps, e, t, f⟩ := h
  exact ⟨ps, s _ _ e, t, fun pos cv hc => let ⟨k, a, b, d⟩ := f pos cv hc; ⟨k, a, b, s _ _ d⟩⟩
theorem TabAt.ext {M : List Addr} {H H' : Hp} {p : Addr × Str} (h : TabAt M H p) (s : Ext M H H') (e : H' p.1 = H p.1) : TabAt M H' p := by
  obtain ⟨ps, e1, t, f⟩ := h
  exact ⟨ps, e.trans e1, t, fun pos cv hc => let ⟨k, a, b, d⟩ := f pos cv hc; ⟨k, a, b, s _ _ b d⟩⟩
theorem TabAt.less {M M' : List Addr} {H : Hp} {p : Addr × Str} (h : TabAt M H p) (s : ∀ b ∈ M', b ∈ M) : TabAt M' H p := by
  obtain ⟨ps, e, t, f⟩ := h
  exact ⟨ps, e, t, fun pos cv hc => let ⟨k, a, b, d⟩ := f pos cv hc; ⟨k, a, fun z => b (s _ z), d⟩⟩
theorem TabAt.fresh {M : List Addr} {H : Hp} {p : Addr × Str} {l : Addr} (h : TabAt M H p) (hl : H l = none) : TabAt (l :: M) H p := by
  obtain ⟨ps, e, t, f⟩ := h
  exact ⟨ps, e, t, fun pos cv hc => let ⟨k, a, b, d⟩ := f pos cv hc; ⟨k, a, fun z => (List.mem_cons.mp z).elim (fun e => by rw [e, hl] at d; cases d) b, d⟩⟩
/-- what stands there is no code object -/
def Mut (H : Hp) (b : Addr) : Prop := ∀ q : Str, H b ≠ some (LamX.CodeO b q)

/-- a slot: data, or a list of one's own -/
abbrev Sl := Option (Sum D Addr)
def SlotOk (M : List Addr) (H : Hp) (δ : List Sl) (σ : L2.St) : Prop :=
  σ.length = δ.length ∧ ∀ i : Nat, (∀ d : D, δ[i]? = some (some (.inl d)) → ∃ v, σ[i]? = some (some v) ∧ Rep M H v d) ∧ (∀ l : Addr, δ[i]? = some (some (.inr l)) → σ[i]? = some (some (V.ref l)))
theorem SlotOk.ext {M : List Addr} {H H' : Hp} {δ : List Sl} {σ : L2.St} (h : SlotOk M H δ σ) (e : Ext M H H') : SlotOk M H' δ σ :=
  ⟨h.1, fun i => ⟨fun d q => let ⟨v, a, r⟩ := (h.2 i).1 d q; ⟨v, a, r.ext e⟩, (h.2 i).2⟩⟩
theorem SlotOk.fresh {M : List Addr} {H : Hp} {δ : List Sl} {σ : L2.St} {l : Addr} (h : SlotOk M H δ σ) (hl : H l = none) : SlotOk (l :: M) H δ σ :=
  ⟨h.1, fun i => ⟨fun d q => let ⟨v, a, r⟩ := (h.2 i).1 d q; ⟨v, a, r.fresh hl⟩, (h.2 i).2⟩⟩
theorem SlotOk.less {M M' : List Addr} {H : Hp} {δ : List Sl} {σ : L2.St} (h : SlotOk M H δ σ) (s : ∀ b ∈ M', b ∈ M) : SlotOk M' H δ σ :=
  ⟨h.1, fun i => ⟨fun d q => let ⟨v, a, r⟩ := (h.2 i).1 d q; ⟨v, a, r.less s⟩, (h.2 i).2⟩⟩
theorem SlotOk.set {M : List Addr} {H : Hp} {δ : List Sl} {σ : L2.St} (h : SlotOk M H δ σ) (i : Nat) {v : V} {s : Sl} (hd : ∀ d, s = some (.inl d) → Rep M H v d) (hl : ∀ l, s = some (.inr l) → v = .ref l) : SlotOk M H (δ.set i s) (σ.set i (some v)) := by
  refine ⟨by simpa using h.1, fun k => ?_⟩
  by_cases hk : i = k
  · subst hk
    by_cases hb : i < δ.length
    · have hs : i < σ.length := by rw [h.1]; exact hb
      rw [List.getElem?_set_self hb, List.getElem?_set_self hs]
      exact ⟨fun d e => ⟨v, rfl, hd d (Option.some.inj e)⟩, fun l e => by rw [hl l (Option.some.inj e)]⟩
    · have e1 : (δ.set i s)[i]? = none := List.getElem?_eq_none (by simpa using hb)
      rw [e1]
      exact ⟨(fun _ e => by cases e), (fun _ e => by cases e)⟩
  · rw [List.getElem?_set_ne hk, List.getElem?_set_ne hk]
    exact h.2 k

structure Sta (c : Ct) (δ : List Sl) (σ : L2.St) (H : Hp) : Prop where
  good : ∀ b ∈ c.M, H b ≠ none
  mm : ∀ b ∈ c.m0, b ∈ c.M
  wm : ∀ b ∈ c.W, b ∈ c.m0
  kw : ∀ q ∈ c.kp, ∀ b ∈ q.2, b ∈ c.M
  keep : Ext c.W c.H0 H
  kps : ∀ q ∈ c.kp, Ext q.2 q.1 H
  own : ∀ p ∈ c.own, p.1 ∈ c.M ∧ p.1 ∉ c.m0 ∧ c.H0 p.1 = none ∧ (∀ q ∈ c.kp, p.1 ∈ q.2 ∨ q.1 p.1 = none) ∧ ∃ vs, H p.1 = some (.lst vs) ∧ Reps c.M H vs p.2
  nd : (c.own.map (·.1)).Nodup
  jar : ∀ j, c.jr = some j → j ∈ c.m0 ∧ j ∈ c.W ∧ (∀ q ∈ c.kp, j ∈ q.2) ∧ JarAt c.M H j
  sl : SlotOk c.M H δ σ
  mt : ∀ b ∈ c.M, Mut H b
  tab : ∀ p ∈ c.tb, p.1 ∈ c.m0 ∧ p.1 ∈ c.W ∧ (∀ q ∈ c.kp, p.1 ∈ q.2) ∧ TabAt c.M H p

theorem Same.some {H H' : Hp} (s : Same H H') {b : Addr} (h : H b ≠ none) : H' b ≠ none := by
  cases q : H b with
  | none => exact absurd q h
  | some o => rw [s b o q]; exact fun z => nomatch z
theorem Mut.of {H H' : Hp} {b : Addr} (h : Mut H b) (n : H b ≠ none) (s : ∀ o, H b = some o → H' b = some o) : Mut H' b := fun q z => by
  cases y : H b with
  | none => exact n y
  | some o =>
    have := s o y
    rw [z] at this
    exact h q (by rw [y, ← Option.some.inj this])
theorem mut_lst {H : Hp} {b : Addr} {vs : List V} (h : H b = some (.lst vs)) : Mut H b := fun q z => by
  rw [h] at z; unfold LamX.CodeO at z; cases z
theorem mut_tbl {H : Hp} {b : Addr} {vs : Array Value} (h : H b = some (.tbl vs)) : Mut H b := fun q z => by
  rw [h] at z; unfold LamX.CodeO at z; cases z
theorem Sta.same {c : Ct} {δ : List Sl} {σ : L2.St} {H H' : Hp} (h : Sta c δ σ H) (s : Same H H') : Sta c δ σ H' :=
  ⟨fun b hb => Same.some s (h.good b hb), h.mm, h.wm, h.kw, h.keep.trans (Ext.of s), fun q hq => (h.kps q hq).trans (Ext.of s), fun p hp => let ⟨a, b, b', x, vs, e, r⟩ := h.own p hp; ⟨a, b, b', x, vs, s _ _ e, r.ext (Ext.of s)⟩, h.nd,
    fun j e => let ⟨a, b, x, q⟩ := h.jar j e; ⟨a, b, x, q.same s⟩, h.sl.ext (Ext.of s), fun b hb => (h.mt b hb).of (h.good b hb) (fun o q => s b o q), fun p hp => let ⟨a, b, x, q⟩ := h.tab p hp; ⟨a, b, x, q.same s⟩⟩
/-- other slots -/
theorem Sta.slots {c : Ct} {δ δ' : List Sl} {σ σ' : L2.St} {H : Hp} (h : Sta c δ σ H) (s : SlotOk c.M H δ' σ') : Sta c δ' σ' H := ⟨h.good, h.mm, h.wm, h.kw, h.keep, h.kps, h.own, h.nd, h.jar, s, h.mt, h.tab⟩
theorem none_of {W : List Addr} {H0 H : Hp} {l : Addr} (k : Ext W H0 H) (g : ∀ b ∈ W, H b ≠ none) (hl : H l = none) : H0 l = none := by
  cases z : H0 l with
  | none => rfl
  | some o =>
    by_cases hw : l ∈ W
    · exact absurd hl (g l hw)
    · have := k l o hw z
      rw [hl] at this; cases this
def Ct.push (c : Ct) (l : Addr) (ds : List D) : Ct := { c with M := l :: c.M, own := (l, ds) :: c.own }
/-- a new list of one's own -/
theorem Sta.mine {c : Ct} {δ : List Sl} {σ : L2.St} {H H' : Hp} {l : Addr} {vs : List V} {ds : List D} (h : Sta c δ σ H) (hl : H l = none) (e : Same H H') (hv : H' l = some (.lst vs)) (r : Reps (l :: c.M) H' vs ds) :
    Sta (c.push l ds) δ σ H' := by
  have hm : l ∉ c.M := fun z => h.good l z hl
  refine ⟨fun b hb => ?_, fun b hb => List.mem_cons_of_mem _ (h.mm b hb), h.wm, fun q hq b hb => List.mem_cons_of_mem _ (h.kw q hq b hb), h.keep.trans (Ext.of e), fun q hq => (h.kps q hq).trans (Ext.of e), fun p hp => ?_, ?_, fun j ej => ?_, ?_, fun b hb => ?_, fun p hp => ?_⟩
  · rcases List.mem_cons.mp hb with z | z
    · rw [z, hv]; exact fun z => nomatch z
    · exact Same.some e (h.good b z)
  · rcases List.mem_cons.mp hp with z | z
    · subst z
      exact ⟨List.mem_cons_self, fun z => hm (h.mm _ z), none_of h.keep (fun b hb => h.good b (h.mm b (h.wm b hb))) hl, fun q hq => .inr (none_of (h.kps q hq) (fun b hb => h.good b (h.kw q hq b hb)) hl), vs, hv, r⟩
    · obtain ⟨a, b, b', x, ws, e1, r1⟩ := h.own p z
      exact ⟨List.mem_cons_of_mem _ a, b, b', x, ws, e _ _ e1, (r1.fresh hl).ext (Ext.of e)⟩
  · refine List.nodup_cons.mpr ⟨fun z => ?_, h.nd⟩
    obtain ⟨p, hp, ep⟩ := List.mem_map.mp z
    exact hm (show l ∈ c.M from (show p.1 = l from ep) ▸ (h.own p hp).1)
  · obtain ⟨a, b, x, q⟩ := h.jar j ej
    exact ⟨a, b, x, (q.fresh hl).same e⟩
  · exact (h.sl.fresh hl).ext (Ext.of e)
  · rcases List.mem_cons.mp hb with z | z
    · rw [z]; exact mut_lst hv
    · exact (h.mt b z).of (h.good b z) (fun o q => e b o q)
  · obtain ⟨a, b, x, q⟩ := h.tab p hp
    exact ⟨a, b, x, (q.fresh hl).same e⟩
theorem Ext.upd {M : List Addr} {H : Hp} {l : Addr} {o : HO} (h : l ∈ M) : Ext M H (upd H l o) := fun b u n e => by
  rw [upd_ne (show b ≠ l from fun z => n (by rw [z]; exact h))]; exact e
/-- the first list of one's own is changed -/
theorem Sta.write {c : Ct} {δ : List Sl} {σ : L2.St} {H : Hp} {l : Addr} {vs : List V} {ds ds' : List D} {r : List (Addr × List D)} (h : Sta c δ σ H) (ho : c.own = (l, ds) :: r) (rv : Reps c.M H vs ds') :
    Sta { c with own := (l, ds') :: r } δ σ (upd H l (.lst vs)) := by
  have hm : (l, ds) ∈ c.own := by rw [ho]; exact List.mem_cons_self
  obtain ⟨a, b, b', x, ws, e, rw'⟩ := h.own _ hm
  have nw : l ∉ c.W := fun z => b (h.wm l z)
  have ex : Ext c.M H (upd H l (.lst vs)) := Ext.upd a
  have nd : ((l, ds) :: r).map (·.1) |>.Nodup := by rw [← ho]; exact h.nd
  refine ⟨fun b hb => ?_, h.mm, h.wm, h.kw, fun y o n q => ?_, fun q hq y o n hy => ?_, fun p hp => ?_, nd, fun j ej => ?_, h.sl.ext ex, fun b hb => ?_, fun p hp => ?_⟩
  · by_cases hb2 : b = l
    · rw [hb2, upd_same]; exact fun z => nomatch z
    · rw [upd_ne hb2]; exact h.good b hb
  · have hy : y ≠ l := fun z => by rw [z, b'] at q; cases q
    rw [upd_ne hy]; exact h.keep y o n q
  · have hy2 : y ≠ l := fun z => by
      subst z
      rcases x q hq with z | z
      · exact n z
      · rw [z] at hy; cases hy
    rw [upd_ne hy2]; exact h.kps q hq y o n hy
  · rcases List.mem_cons.mp hp with z | z
    · subst z
      exact ⟨a, b, b', x, vs, upd_same, rv.ext ex⟩
    · have hp2 : p ∈ c.own := by rw [ho]; exact List.mem_cons_of_mem _ z
      obtain ⟨a2, b2, b2', x2, ws2, e2, r2⟩ := h.own p hp2
      have hne : p.1 ≠ l := fun q => (List.nodup_cons.mp nd).1 (q ▸ List.mem_map_of_mem (f := (·.1)) z)
      exact ⟨a2, b2, b2', x2, ws2, by rw [upd_ne hne]; exact e2, r2.ext ex⟩
  · obtain ⟨a2, b2, x2, q2⟩ := h.jar j ej
    have hj : j ≠ l := fun z => b (z ▸ a2)
    exact ⟨a2, b2, x2, q2.ext ex (upd_ne hj)⟩
  · by_cases hb2 : b = l
    · rw [hb2]; exact mut_lst upd_same
    · exact (h.mt b hb).of (h.good b hb) (fun o q => by rw [upd_ne hb2]; exact q)
  · obtain ⟨a2, b2, x2, q2⟩ := h.tab p hp
    have hj : p.1 ≠ l := fun z => b (z ▸ a2)
    exact ⟨a2, b2, x2, q2.ext ex (upd_ne hj)⟩
/-- the lists of one's own in another order -/
theorem Sta.perm {c : Ct} {δ : List Sl} {σ : L2.St} {H : Hp} {own' : List (Addr × List D)} (h : Sta c δ σ H) (p : own'.Perm c.own) : Sta { c with own := own' } δ σ H :=
  ⟨h.good, h.mm, h.wm, h.kw, h.keep, h.kps, fun q hq => h.own q (p.mem_iff.mp hq), ((p.map (·.1)).nodup_iff).mpr h.nd, h.jar, h.sl, h.mt, h.tab⟩
/-- the watched objects are changed: the list of draws, the tables -/
theorem Sta.watched {c : Ct} {δ : List Sl} {σ : L2.St} {H H' : Hp} {W0 : List Addr} (h : Sta c δ σ H) (e : Ext W0 H H') (hW : ∀ b ∈ W0, c.jr = some b ∨ ∃ p ∈ c.tb, p.1 = b)
    (hj : ∀ j, c.jr = some j → JarAt c.M H' j) (ht : ∀ p ∈ c.tb, TabAt c.M H' p) : Sta c δ σ H' := by
  have inM : ∀ b ∈ W0, b ∈ c.m0 ∧ b ∈ c.W ∧ ∀ q ∈ c.kp, b ∈ q.2 := fun b hb => by
    rcases hW b hb with z | ⟨p, hp, z⟩
    · exact ⟨(h.jar b z).1, (h.jar b z).2.1, (h.jar b z).2.2.1⟩
    · subst z; exact ⟨(h.tab p hp).1, (h.tab p hp).2.1, (h.tab p hp).2.2.1⟩
  have ex : Ext c.M H H' := e.sub fun y hy => h.mm y (inM y hy).1
  have st : ∀ b ∈ c.M, (H' b ≠ none) ∧ Mut H' b := fun b hb => by
    by_cases hb0 : b ∈ W0
    · rcases hW b hb0 with z | ⟨p, hp, z⟩
      · obtain ⟨sc, ns, a1, a2, a3, a4, e1, _⟩ := hj b z
        exact ⟨by rw [e1]; exact (fun z => nomatch z), mut_lst e1⟩
      · subst z
        obtain ⟨ps, e1, _⟩ := ht p hp
        exact ⟨by rw [e1]; exact (fun z => nomatch z), mut_tbl e1⟩
    · refine ⟨?_, (h.mt b hb).of (h.good b hb) fun o q => e b o hb0 q⟩
      cases y : H b with
      | none => exact absurd y (h.good b hb)
      | some o => rw [e b o hb0 y]; exact fun z => nomatch z
  refine ⟨fun b hb => (st b hb).1, h.mm, h.wm, h.kw, h.keep.trans (e.sub fun y hy => (inM y hy).2.1), fun q hq => (h.kps q hq).trans (e.sub fun y hy => (inM y hy).2.2 q hq), fun p hp => ?_, h.nd,
    fun j ej => ⟨(h.jar j ej).1, (h.jar j ej).2.1, (h.jar j ej).2.2.1, hj j ej⟩, h.sl.ext ex, fun b hb => (st b hb).2, fun p hp => ⟨(h.tab p hp).1, (h.tab p hp).2.1, (h.tab p hp).2.2.1, ht p hp⟩⟩
  obtain ⟨a2, b2, b2', x2, ws2, e2, r2⟩ := h.own p hp
  exact ⟨a2, b2, b2', x2, ws2, e _ _ (fun z => b2 (inM _ z).1) e2, r2.ext ex⟩
/-- the list of draws is changed -/
theorem Sta.jarred {c : Ct} {δ : List Sl} {σ : L2.St} {H H' : Hp} {j : Addr} (h : Sta c δ σ H) (hj : c.jr = some j) (e : Ext [j] H H') (q : JarAt c.M H' j) : Sta c δ σ H' := by
  refine h.watched e (fun b hb => .inl (by rw [List.mem_singleton.mp hb]; exact hj)) (fun j2 ej => ?_) fun p hp => ?_
  · rw [← Option.some.inj (hj.symm.trans ej)]; exact q
  · obtain ⟨a, b, x, ps, e1, t, f⟩ := h.tab p hp
    have ex : Ext c.M H H' := e.sub fun y hy => by rw [List.mem_singleton.mp hy]; exact h.mm j (h.jar j hj).1
    have hne : p.1 ≠ j := fun z => by
      obtain ⟨sc, ns, a1, a2, a3, a4, e2, _⟩ := (h.jar j hj).2.2.2
      rw [z, e2] at e1; cases e1
    exact TabAt.ext ⟨ps, e1, t, f⟩ ex (by rw [e _ _ (by simpa using hne) e1, e1])
/-- a list of one's own becomes plain data -/
theorem Sta.freeze {c : Ct} {δ : List Sl} {σ : L2.St} {H : Hp} {l : Addr} {ds : List D} {r : List (Addr × List D)} {M' : List Addr} {i : Nat} (h : Sta c δ σ H) (ho : c.own = (l, ds) :: r) (hM : c.M = l :: M') (nl : l ∉ M')
    (hk : ∀ q ∈ c.kp, l ∉ q.2) (hi : δ[i]? = some (some (.inr l))) (hd : ∀ k, δ[k]? = some (some (.inr l)) → k = i) : Sta { c with own := r, M := M' } (δ.set i (some (.inl (.lst ds)))) σ H := by
  have hm : (l, ds) ∈ c.own := by rw [ho]; exact List.mem_cons_self
  obtain ⟨a, b, b', x, ws, e, rw'⟩ := h.own _ hm
  have sub : ∀ y ∈ M', y ∈ c.M := fun y hy => by rw [hM]; exact List.mem_cons_of_mem _ hy
  have back : ∀ y, y ∈ c.M → y ≠ l → y ∈ M' := fun y hy n => by rw [hM] at hy; exact (List.mem_cons.mp hy).resolve_left n
  have nd : ((l, ds) :: r).map (·.1) |>.Nodup := by rw [← ho]; exact h.nd
  refine ⟨fun b hb => h.good b (sub b hb), fun y hy => back y (h.mm y hy) (fun z => b (z ▸ hy)), h.wm, fun q hq y hy => back y (h.kw q hq y hy) (fun z => hk q hq (z ▸ hy)), h.keep, h.kps, fun p hp => ?_, (List.nodup_cons.mp nd).2, fun j ej => ?_, ?_, fun b hb => h.mt b (sub b hb), fun p hp => ?_⟩
  · have hp2 : p ∈ c.own := by rw [ho]; exact List.mem_cons_of_mem _ hp
    obtain ⟨a2, b2, b2', x2, ws2, e2, r2⟩ := h.own p hp2
    have hne : p.1 ≠ l := fun q => (List.nodup_cons.mp nd).1 (q ▸ List.mem_map_of_mem (f := (·.1)) hp)
    exact ⟨back _ a2 hne, b2, b2', x2, ws2, e2, r2.less sub⟩
  · obtain ⟨a2, b2, x2, q2⟩ := h.jar j ej
    exact ⟨a2, b2, x2, q2.less sub⟩
  · have s0 := h.sl.less sub
    have hσ : σ[i]? = some (some (.ref l)) := (s0.2 i).2 l hi
    refine ⟨by simpa using s0.1, fun k => ?_⟩
    by_cases hk : i = k
    · subst hk
      have hb : i < δ.length := (List.getElem?_eq_some_iff.mp hi).1
      rw [List.getElem?_set_self hb]
      refine ⟨fun d q => ?_, fun l q => by cases q⟩
      have : D.lst ds = d := by simpa using q
      subst this
      exact ⟨_, hσ, .lst nl e (rw'.less sub)⟩
    · rw [List.getElem?_set_ne hk]
      exact s0.2 k
  · obtain ⟨a2, b2, x2, q2⟩ := h.tab p hp
    exact ⟨a2, b2, x2, q2.less sub⟩
/-- the newest list of one's own forgotten -/
theorem Sta.pop {c : Ct} {δ : List Sl} {σ : L2.St} {H : Hp} {l : Addr} {ds : List D} (h : Sta (c.push l ds) δ σ H) (nl : l ∉ c.M) (hk : ∀ q ∈ c.kp, ∀ b ∈ q.2, b ∈ c.M) (hm : ∀ b ∈ c.m0, b ∈ c.M) (ho : ∀ p ∈ c.own, p.1 ∈ c.M) : Sta c δ σ H := by
  have sub : ∀ y ∈ c.M, y ∈ (c.push l ds).M := fun y hy => List.mem_cons_of_mem _ hy
  refine ⟨fun b hb => h.good b (sub b hb), hm, h.wm, hk, h.keep, h.kps, fun p hp => ?_, (List.nodup_cons.mp h.nd).2, fun j ej => ?_, h.sl.less sub, fun b hb => h.mt b (sub b hb), fun p hp => ?_⟩
  · obtain ⟨a2, b2, b2', x2, ws2, e2, r2⟩ := h.own p (List.mem_cons_of_mem _ hp)
    exact ⟨ho p hp, b2, b2', x2, ws2, e2, r2.less sub⟩
  · obtain ⟨a2, b2, x2, q2⟩ := h.jar j ej
    exact ⟨a2, b2, x2, q2.less sub⟩
  · obtain ⟨a2, b2, x2, q2⟩ := h.tab p hp
    exact ⟨a2, b2, x2, q2.less sub⟩
/-- what a loop around may change -/
def Ct.wl (c : Ct) : List Addr := c.own.map (·.1) ++ (c.jr.toList ++ c.tb.map (·.1))
def Ct.loop (c : Ct) (H1 : Hp) : Ct := { c with kp := (H1, c.wl) :: c.kp }
theorem Sta.wlM {c : Ct} {δ : List Sl} {σ : L2.St} {H : Hp} (h : Sta c δ σ H) : ∀ b ∈ c.wl, b ∈ c.M := fun b hb => by
  rcases List.mem_append.mp hb with z | z
  · obtain ⟨p, hp, e⟩ := List.mem_map.mp z
    exact (show p.1 = b from e) ▸ (h.own p hp).1
  · rcases List.mem_append.mp z with z | z
    · exact h.mm b (h.jar b (by simpa using z)).1
    · obtain ⟨p, hp, e⟩ := List.mem_map.mp z
      exact (show p.1 = b from e) ▸ h.mm _ (h.tab p hp).1
theorem Sta.loop {c : Ct} {δ : List Sl} {σ : L2.St} {H : Hp} (h : Sta c δ σ H) : Sta (c.loop H) δ σ H := by
  refine ⟨h.good, h.mm, h.wm, fun q hq => ?_, h.keep, fun q hq => ?_, fun p hp => ?_, h.nd, fun j ej => ?_, h.sl, h.mt, fun p hp => ?_⟩
  · rcases List.mem_cons.mp hq with z | z
    · subst z; exact h.wlM
    · exact h.kw q z
  · rcases List.mem_cons.mp hq with z | z
    · subst z; exact Ext.refl _ _
    · exact h.kps q z
  · obtain ⟨a, b, b', x, y⟩ := h.own p hp
    refine ⟨a, b, b', fun q hq => ?_, y⟩
    rcases List.mem_cons.mp hq with z | z
    · subst z; exact .inl (List.mem_append_left _ (List.mem_map_of_mem (f := (·.1)) hp))
    · exact x q z
  · obtain ⟨a, b, x, y⟩ := h.jar j ej
    refine ⟨a, b, fun q hq => ?_, y⟩
    rcases List.mem_cons.mp hq with z | z
    · subst z
      have ej' : c.jr = some j := ej
      refine List.mem_append_right _ (List.mem_append_left _ ?_)
      rw [ej']; simp
    · exact x q z
  · obtain ⟨a, b, x, y⟩ := h.tab p hp
    refine ⟨a, b, fun q hq => ?_, y⟩
    rcases List.mem_cons.mp hq with z | z
    · subst z
      exact List.mem_append_right _ (List.mem_append_right _ (List.mem_map_of_mem (f := (·.1)) hp))
    · exact x q z
theorem Sta.unloop {c : Ct} {δ : List Sl} {σ : L2.St} {H : Hp} {q : Hp × List Addr} {kp : List (Hp × List Addr)} (h : Sta c δ σ H) (e : c.kp = q :: kp) : Sta { c with kp := kp } δ σ H := by
  have sub : ∀ x ∈ kp, x ∈ c.kp := fun x hx => by rw [e]; exact List.mem_cons_of_mem _ hx
  exact ⟨h.good, h.mm, h.wm, fun x hx => h.kw x (sub x hx), h.keep, fun x hx => h.kps x (sub x hx), fun p hp => let ⟨a, b, b', x, y⟩ := h.own p hp; ⟨a, b, b', fun q hq => x q (sub q hq), y⟩, h.nd,
    fun j ej => let ⟨a, b, x, y⟩ := h.jar j ej; ⟨a, b, fun q hq => x q (sub q hq), y⟩, h.sl, h.mt, fun p hp => let ⟨a, b, x, y⟩ := h.tab p hp; ⟨a, b, fun q hq => x q (sub q hq), y⟩⟩
end E
/-! DEv: what an expression's reading evaluates to, as data. -/
namespace E
open PySem PySem.Spec PyProof.Rows L2

/-- readable: data, or the list of one's own as it stands -/
def RdO (c : Ct) (H : Hp) (v : V) (d : D) : Prop := Rep c.M H v d ∨ ∃ l ds, v = .ref l ∧ d = .lst ds ∧ (l, ds) ∈ c.own
theorem RdO.ext {c : Ct} {H H' : Hp} {v : V} {d : D} (h : RdO c H v d) (e : Ext c.M H H') : RdO c H' v d := h.elim (fun r => .inl (r.ext e)) .inr

section
variable {c : Ct} {δ : List Sl}
def Ev (c : Ct) (t : TE) (δ : List Sl) (P : D → Prop) : Prop := ∀ σ H (Q : VK), Sta c δ σ H → (∀ v H' d, Sta c δ σ H' → Ext c.M H H' → Rep c.M H' v d → P d → Q v H') → t σ H Q
def EvR (c : Ct) (t : TE) (δ : List Sl) (P : D → Prop) : Prop := ∀ σ H (Q : VK), Sta c δ σ H → (∀ v H' d, Sta c δ σ H' → Ext c.M H H' → RdO c H' v d → P d → Q v H') → t σ H Q
def EvT (c : Ct) (t : TT) (δ : List Sl) (P : Bool → Prop) : Prop := ∀ σ H (Q : Bool → Hp → Prop), Sta c δ σ H → (∀ b H', Sta c δ σ H' → Ext c.M H H' → P b → Q b H') → t σ H Q
def EvA (c : Ct) (t : TA) (δ : List Sl) (P : List D → Prop) : Prop := ∀ σ H (Q : List V → Hp → Prop), Sta c δ σ H → (∀ vs H' ds, Sta c δ σ H' → Ext c.M H H' → Reps c.M H' vs ds → P ds → Q vs H') → t σ H Q
/-- a new list (its items do not lead to it) -/
def EvN (c : Ct) (t : TE) (δ : List Sl) (P : List D → Prop) : Prop := ∀ σ H (Q : VK), Sta c δ σ H → (∀ l H' ds, Sta c δ σ H' → Sta (c.push l ds) δ σ H' → l ∉ c.M → Ext c.M H H' → P ds → Q (.ref l) H') → t σ H Q

theorem Ev.r {t : TE} {P : D → Prop} (h : Ev c t δ P) : EvR c t δ P := fun σ H Q s q => h σ H Q s fun v H' d a b r p => q v H' d a b (.inl r) p
theorem Ev.mono {t : TE} {P P' : D → Prop} (h : Ev c t δ P) (w : ∀ d, P d → P' d) : Ev c t δ P' := fun σ H Q s q => h σ H Q s fun v H' d a b r p => q v H' d a b r (w d p)
theorem EvR.mono {t : TE} {P P' : D → Prop} (h : EvR c t δ P) (w : ∀ d, P d → P' d) : EvR c t δ P' := fun σ H Q s q => h σ H Q s fun v H' d a b r p => q v H' d a b r (w d p)
theorem EvT.mono {t : TT} {P P' : Bool → Prop} (h : EvT c t δ P) (w : ∀ d, P d → P' d) : EvT c t δ P' := fun σ H Q s q => h σ H Q s fun v H' a b p => q v H' a b (w v p)
theorem EvA.mono {t : TA} {P P' : List D → Prop} (h : EvA c t δ P) (w : ∀ d, P d → P' d) : EvA c t δ P' := fun σ H Q s q => h σ H Q s fun v H' d a b r p => q v H' d a b r (w d p)
theorem EvN.mono {t : TE} {P P' : List D → Prop} (h : EvN c t δ P) (w : ∀ d, P d → P' d) : EvN c t δ P' := fun σ H Q s q => h σ H Q s fun l H' ds a b n e p => q l H' ds a b n e (w ds p)
theorem Ev.is {t : TE} {d d' : D} (h : Ev c t δ (· = d)) (e : d = d') : Ev c t δ (· = d') := by rw [← e]; exact h
theorem EvR.is {t : TE} {d d' : D} (h : EvR c t δ (· = d)) (e : d = d') : EvR c t δ (· = d') := by rw [← e]; exact h
theorem EvT.is {t : TT} {d d' : Bool} (h : EvT c t δ (· = d)) (e : d = d') : EvT c t δ (· = d') := by rw [← e]; exact h
theorem EvN.is {t : TE} {d d' : List D} (h : EvN c t δ (· = d)) (e : d = d') : EvN c t δ (· = d') := by rw [← e]; exact h
/-- a new list as data -/
theorem EvN.ev {t : TE} {P : List D → Prop} (h : EvN c t δ P) : Ev c t δ (fun d => ∃ ds, d = .lst ds ∧ P ds) := fun σ H Q s q => h σ H Q s fun l H' ds a b n e p => by
  obtain ⟨_, _, _, _, vs, hl, r⟩ := b.own (l, ds) List.mem_cons_self
  exact q _ H' _ a e (.lst n hl (r.less fun y hy => List.mem_cons_of_mem _ hy)) ⟨ds, rfl, p⟩
theorem EvN.evE {t : TE} {ds : List D} (h : EvN c t δ (· = ds)) : Ev c t δ (· = .lst ds) := h.ev.mono fun d ⟨es, e, p⟩ => by rw [e, p]

/-! ### names, constants -/
theorem ev_var {i : Nat} {d : D} (h : δ[i]? = some (some (.inl d))) : Ev c (tVar i) δ (· = d) := fun σ H Q s q => by
  obtain ⟨v, e, r⟩ := (s.sl.2 i).1 d h
  exact ⟨v, e, q v H d s (Ext.refl _ _) r rfl⟩
theorem evr_own {i : Nat} {l : Addr} {ds : List D} (h : δ[i]? = some (some (.inr l))) (ho : (l, ds) ∈ c.own) : EvR c (tVar i) δ (· = .lst ds) := fun σ H Q s q =>
  ⟨.ref l, (s.sl.2 i).2 l h, q _ H _ s (Ext.refl _ _) (.inr ⟨l, ds, rfl, rfl, ho⟩) rfl⟩
theorem ev_int {i : Int} : Ev c (tC (.int i)) δ (· = .int i) := fun σ H Q s q => q _ H _ s (Ext.refl _ _) (.int i) rfl
theorem ev_bl {i : Bool} : Ev c (tC (.bl i)) δ (· = .bl i) := fun σ H Q s q => q _ H _ s (Ext.refl _ _) (.bl i) rfl
theorem ev_non : Ev c (tC .non) δ (· = .non) := fun σ H Q s q => q _ H _ s (Ext.refl _ _) .non rfl
theorem ev_str {x : Str} : Ev c (tC (.str x)) δ (· = .str x) := fun σ H Q s q => q _ H _ s (Ext.refl _ _) (.str x) rfl

/-! ### operations of two values -/
def RV (c : Ct) (r : R2) (d1 d2 : D) (P : D → Prop) : Prop := ∀ (δ : List Sl) (σ : L2.St) (H : Hp) (Q : VK) (x y : V), Sta c δ σ H → RdO c H x d1 → RdO c H y d2 → (∀ v H' d, Same H H' → Rep c.M H' v d → P d → Q v H') → r x y H Q
theorem ev_opR {r : R2} {ta tb : TE} {P1 P2 P : D → Prop} (h1 : EvR c ta δ P1) (h2 : EvR c tb δ P2) (h : ∀ d1 d2, P1 d1 → P2 d2 → RV c r d1 d2 P) : Ev c (tOp r ta tb) δ P := fun σ H Q s q =>
  h1 σ H _ s fun x H1 d1 s1 e1 r1 p1 => h2 σ H1 _ s1 fun y H2 d2 s2 e2 r2 p2 => h d1 d2 p1 p2 δ σ H2 Q x y s2 (r1.ext e2) r2 fun v H3 d e3 r3 p3 => q v H3 d (s2.same e3) ((e1.trans e2).trans (Ext.of e3)) r3 p3
theorem ev_op {r : R2} {ta tb : TE} {d1 d2 : D} {P : D → Prop} (h1 : EvR c ta δ (· = d1)) (h2 : EvR c tb δ (· = d2)) (h : RV c r d1 d2 P) : Ev c (tOp r ta tb) δ P := ev_opR h1 h2 fun _ _ e1 e2 => by rw [e1, e2]; exact h
theorem rdo_int {H : Hp} {x : V} {i : Int} (h : RdO c H x (.int i)) : x = .int i := by
  rcases h with h | ⟨_, _, _, e, _⟩
  · cases h; rfl
  · cases e
theorem rdo_str {H : Hp} {x : V} {i : Str} (h : RdO c H x (.str i)) : x = .str i := by
  rcases h with h | ⟨_, _, _, e, _⟩
  · cases h; rfl
  · cases e
theorem rdo_bl {H : Hp} {x : V} {i : Bool} (h : RdO c H x (.bl i)) : x = .bl i := by
  rcases h with h | ⟨_, _, _, e, _⟩
  · cases h; rfl
  · cases e
theorem rdo_non {H : Hp} {x : V} (h : RdO c H x .non) : x = .non := by
  rcases h with h | ⟨_, _, _, e, _⟩
  · cases h; rfl
  · cases e
theorem rdo_lst {σ : L2.St} {H : Hp} {x : V} {ds : List D} (s : Sta c δ σ H) (h : RdO c H x (.lst ds)) : ∃ a vs, x = .ref a ∧ H a = some (.lst vs) ∧ Reps c.M H vs ds := by
  rcases h with h | ⟨l, es, e1, e2, ho⟩
  · cases h with
    | lst n e r => exact ⟨_, _, rfl, e, r⟩
  · cases e2
    obtain ⟨_, _, _, _, vs, e, r⟩ := s.own _ ho
    exact ⟨l, vs, e1, e, r⟩
theorem rdo_tup {H : Hp} {x : V} {ds : List D} (h : RdO c H x (.tup ds)) : ∃ a vs, x = .ref a ∧ a ∉ c.M ∧ H a = some (.tup vs) ∧ Reps c.M H vs ds := by
  rcases h with h | ⟨_, _, _, e, _⟩
  · cases h with
    | tup n e r => exact ⟨_, _, rfl, n, e, r⟩
  · cases e
theorem rv_I0 {f : Int → Int → Int} {i j : Int} : RV c (rI0 fun i j => .int (f i j)) (.int i) (.int j) (· = .int (f i j)) := fun δ σ H Q x y s hx hy q => ⟨i, j, rdo_int hx, rdo_int hy, q _ H _ (Same.refl H) (.int _) rfl⟩
theorem rv_B0 {f : Int → Int → Bool} {i j : Int} : RV c (rI0 fun i j => .bl (f i j)) (.int i) (.int j) (· = .bl (f i j)) := fun δ σ H Q x y s hx hy q => ⟨i, j, rdo_int hx, rdo_int hy, q _ H _ (Same.refl H) (.bl _) rfl⟩
theorem rv_I {C : Int → Int → Prop} {f : Int → Int → Int} {i j : Int} (hc : C i j) : RV c (rI C fun i j => .int (f i j)) (.int i) (.int j) (· = .int (f i j)) := fun δ σ H Q x y s hx hy q => ⟨i, j, rdo_int hx, rdo_int hy, hc, q _ H _ (Same.refl H) (.int _) rfl⟩
def sc : D → Option V
  | .non => some .non
  | .bl b => some (.bl b)
  | .int i => some (.int i)
  | .str x => some (.str x)
  | _ => none
theorem rdo_sc {H : Hp} {x v : V} {d : D} (h : RdO c H x d) (e : sc d = some v) : x = v := by
  cases d with
  | non => cases e; exact rdo_non h
  | bl _ => cases e; exact rdo_bl h
  | int _ => cases e; exact rdo_int h
  | str _ => cases e; exact rdo_str h
  | lst _ => cases e
  | tup _ => cases e
  | obj _ _ _ => cases e
  | loc _ => cases e
theorem rv_eqI {i j : Int} : RV c rEq (.int i) (.int j) (· = .bl (decide (i = j))) := fun δ σ H Q x y s hx hy q => by
  cases rdo_int hx; cases rdo_int hy
  have e : decide (V.int i = V.int j) = decide (i = j) := decide_eq_decide.mpr ⟨fun z => V.int.inj z, fun z => by rw [z]⟩
  exact ⟨rfl, q _ H _ (Same.refl H) (by rw [e]; exact .bl _) rfl⟩
theorem rv_neI {i j : Int} : RV c rNe (.int i) (.int j) (· = .bl (!decide (i = j))) := fun δ σ H Q x y s hx hy q => by
  cases rdo_int hx; cases rdo_int hy
  have e : decide (V.int i = V.int j) = decide (i = j) := decide_eq_decide.mpr ⟨fun z => V.int.inj z, fun z => by rw [z]⟩
  exact ⟨rfl, q _ H _ (Same.refl H) (by rw [e]; exact .bl _) rfl⟩
theorem rv_eqS {i j : Str} : RV c rEq (.str i) (.str j) (· = .bl (decide (i = j))) := fun δ σ H Q x y s hx hy q => by
  cases rdo_str hx; cases rdo_str hy
  have e : decide (V.str i = V.str j) = decide (i = j) := decide_eq_decide.mpr ⟨fun z => V.str.inj z, fun z => by rw [z]⟩
  exact ⟨rfl, q _ H _ (Same.refl H) (by rw [e]; exact .bl _) rfl⟩
theorem rv_eqB {i j : Bool} : RV c rEq (.bl i) (.bl j) (· = .bl (decide (i = j))) := fun δ σ H Q x y s hx hy q => by
  cases rdo_bl hx; cases rdo_bl hy
  have e : decide (V.bl i = V.bl j) = decide (i = j) := decide_eq_decide.mpr ⟨fun z => V.bl.inj z, fun z => by rw [z]⟩
  exact ⟨rfl, q _ H _ (Same.refl H) (by rw [e]; exact .bl _) rfl⟩
theorem rv_neB {i j : Bool} : RV c rNe (.bl i) (.bl j) (· = .bl (!decide (i = j))) := fun δ σ H Q x y s hx hy q => by
  cases rdo_bl hx; cases rdo_bl hy
  have e : decide (V.bl i = V.bl j) = decide (i = j) := decide_eq_decide.mpr ⟨fun z => V.bl.inj z, fun z => by rw [z]⟩
  exact ⟨rfl, q _ H _ (Same.refl H) (by rw [e]; exact .bl _) rfl⟩
def nonD : D → Bool
  | .non => true
  | _ => false
/-- x is None, is not None -/
theorem ev_isN {ta : TE} {d : D} (h : EvR c ta δ (· = d)) : Ev c (tIsN ta) δ (· = .bl (nonD d)) := fun σ H Q s q => h σ H _ s fun x H1 d1 s1 e1 r1 p1 => by
  cases p1
  have e : decide (x = V.non) = (nonD d) := by
    rcases r1 with r | ⟨_, _, rfl, rfl, _⟩
    · cases r <;> rfl
    · rfl
  rw [e]
  exact q _ H1 _ s1 e1 (.bl _) rfl
theorem ev_notN {ta : TE} {d : D} (h : EvR c ta δ (· = d)) : Ev c (tNotN ta) δ (· = .bl (!nonD d)) := fun σ H Q s q => h σ H _ s fun x H1 d1 s1 e1 r1 p1 => by
  cases p1
  have e : (!decide (x = V.non)) = (!nonD d) := by
    rcases r1 with r | ⟨_, _, rfl, rfl, _⟩
    · cases r <;> rfl
    · rfl
  rw [e]
  exact q _ H1 _ s1 e1 (.bl _) rfl
theorem ev_un {f : Int → Int} {ta : TE} {i : Int} (h : EvR c ta δ (· = .int i)) : Ev c (tUn (rU fun i => .int (f i)) ta) δ (· = .int (f i)) := fun σ H Q s q => h σ H _ s fun x H1 d1 s1 e1 r1 p1 => by
  cases p1
  exact ⟨i, rdo_int r1, q _ H1 _ s1 e1 (.int _) rfl⟩

/-! ### items -/
theorem atI_reps {M : List Addr} {H : Hp} {vs : List V} {ds : List D} {i : Int} {d : D} (r : Reps M H vs ds) (h : atI ds i = some d) : ∃ v, atI vs i = some v ∧ Rep M H v d := by
  unfold atI at h ⊢
  rw [r.len]
  cases e : ixN ds.length i with
  | none => rw [e] at h; cases h
  | some j =>
    rw [e] at h
    exact r.get (show ds[j]? = some d from h)
theorem rv_ixL {K : PySem.W.Frag} {ds : List D} {i : Int} {d : D} (h : atI ds i = some d) : RV c (rIxL K) (.lst ds) (.int i) (· = d) := fun δ σ H Q x y s hx hy q => by
  obtain ⟨a, vs, rfl, e, r⟩ := rdo_lst s hx
  obtain ⟨v, hv, rv⟩ := atI_reps r h
  exact ⟨a, vs, i, v, rfl, rdo_int hy, SqL.of e, hv, q v H d (Same.refl H) rv rfl⟩
theorem rv_ixT {K : PySem.W.Frag} {ds : List D} {i : Int} {d : D} (h : atI ds i = some d) : RV c (rIxT K) (.tup ds) (.int i) (· = d) := fun δ σ H Q x y s hx hy q => by
  obtain ⟨a, vs, rfl, _, e, r⟩ := rdo_tup hx
  obtain ⟨v, hv, rv⟩ := atI_reps r h
  exact ⟨a, vs, i, v, rfl, rdo_int hy, SqT.of e, hv, q v H d (Same.refl H) rv rfl⟩
theorem RV.left {r r' : R2} {d1 d2 : D} {P : D → Prop} (h : RV c r d1 d2 P) : RV c (fun x y H Q => r x y H Q ∨ r' x y H Q) d1 d2 P := fun δ σ H Q x y s hx hy q => .inl (h δ σ H Q x y s hx hy q)
theorem RV.right {r r' : R2} {d1 d2 : D} {P : D → Prop} (h : RV c r' d1 d2 P) : RV c (fun x y H Q => r x y H Q ∨ r' x y H Q) d1 d2 P := fun δ σ H Q x y s hx hy q => .inr (h δ σ H Q x y s hx hy q)
/-- an item of a sequence, list or tuple -/
def seqD : D → Option (List D)
  | .lst ds => some ds
  | .tup ds => some ds
  | _ => none
theorem rv_ix {K : PySem.W.Frag} {s : D} {ds : List D} {i : Int} {d : D} (hs : seqD s = some ds) (h : atI ds i = some d) : RV c (rIx K) s (.int i) (· = d) := by
  cases s with
  | lst xs => cases hs; exact (rv_ixL h).left
  | tup xs => cases hs; exact RV.right (rv_ixT h).left
  | _ => cases hs

/-! ### tests -/
theorem et_test {t : TE} {b : Bool} (h : EvR c t δ (· = .bl b)) : EvT c (tTest t) δ (· = b) := fun σ H Q s q => h σ H _ s fun x H1 d1 s1 e1 r1 p1 => by
  cases p1
  exact ⟨b, rdo_bl r1, q b H1 s1 e1 rfl⟩
theorem et_testP {t : TE} {P : Bool → Prop} (h : EvR c t δ (fun d => ∃ b, d = .bl b ∧ P b)) : EvT c (tTest t) δ P := fun σ H Q s q => h σ H _ s fun x H1 d1 s1 e1 r1 p1 => by
  obtain ⟨b, rfl, p⟩ := p1
  exact ⟨b, rdo_bl r1, q b H1 s1 e1 p⟩
theorem et_B {t : TE} {b : Bool} (h : EvR c t δ (· = .bl b)) : EvT c (tB t) δ (· = b) := et_test h
theorem et_and {t u : TT} {P P2 : Bool → Prop} (h1 : EvT c t δ P) (h2 : P true → EvT c u δ P2) (h : ∀ b, P b → b = false → P2 false) : EvT c (tAnd t u) δ P2 := fun σ H Q s q => h1 σ H _ s fun b H1 s1 e1 p => by
  cases b with
  | true => exact iteT (h2 p σ H1 Q s1 fun b2 H2 s2 e2 p2 => q b2 H2 s2 (e1.trans e2) p2)
  | false => exact iteF (q false H1 s1 e1 (h _ p rfl))
theorem et_or {t u : TT} {P P2 : Bool → Prop} (h1 : EvT c t δ P) (h2 : P false → EvT c u δ P2) (h : ∀ b, P b → b = true → P2 true) : EvT c (tOr t u) δ P2 := fun σ H Q s q => h1 σ H _ s fun b H1 s1 e1 p => by
  cases b with
  | false => exact iteF (h2 p σ H1 Q s1 fun b2 H2 s2 e2 p2 => q b2 H2 s2 (e1.trans e2) p2)
  | true => exact iteT (q true H1 s1 e1 (h _ p rfl))
/-- by values -/
theorem et_andE {t u : TT} {a b : Bool} (h1 : EvT c t δ (· = a)) (h2 : a = true → EvT c u δ (· = b)) : EvT c (tAnd t u) δ (· = (a && b)) :=
  et_and h1 (fun e => (h2 e.symm).is (by rw [← e]; rfl)) fun x e f => by rw [← e, f]; rfl
theorem et_orE {t u : TT} {a b : Bool} (h1 : EvT c t δ (· = a)) (h2 : a = false → EvT c u δ (· = b)) : EvT c (tOr t u) δ (· = (a || b)) :=
  et_or h1 (fun e => (h2 e.symm).is (by rw [← e]; rfl)) fun x e f => by rw [← e, f]; rfl
theorem et_not {t : TT} {a : Bool} (h : EvT c t δ (· = a)) : EvT c (tNot t) δ (· = !a) := fun σ H Q s q => h σ H _ s fun b H1 s1 e1 p => q _ H1 s1 e1 (by rw [p])
/-- a value's truth -/
def truD : D → Option Bool
  | .non => some false
  | .bl b => some b
  | .int i => some (i != 0)
  | .lst ds => some (!ds.isEmpty)
  | .tup ds => some (!ds.isEmpty)
  | _ => none
theorem et_truth {K : PySem.W.Frag} {ta : TE} {d : D} {b : Bool} (h : EvR c ta δ (· = d)) (e : truD d = some b) : EvT c (fun σ H Q => ta σ H fun x H' => ∃ k, TruV K x H' k ∧ Q k H') δ (· = b) := fun σ H Q s q => h σ H _ s fun x H1 d1 s1 e1 r1 p1 => by
  cases p1
  refine ⟨b, ?_, q b H1 s1 e1 rfl⟩
  cases d with
  | non => cases rdo_non r1; cases e; exact rfl
  | bl k => cases rdo_bl r1; cases e; exact rfl
  | int i => cases rdo_int r1; cases e; exact rfl
  | str x => cases e
  | lst ds =>
    obtain ⟨a, vs, rfl, ea, r⟩ := rdo_lst s1 r1
    cases e
    exact .inl ⟨vs, SqL.of ea, by cases r <;> rfl⟩
  | tup ds =>
    obtain ⟨a, vs, rfl, _, ea, r⟩ := rdo_tup r1
    cases e
    exact .inr (.inl ⟨vs, SqT.of ea, by cases r <;> rfl⟩)
  | obj _ _ _ => cases e
  | loc _ => cases e
/-- and, or, not of truth values, as values -/
theorem ev_andV {ta tb : TE} {a b : Bool} (h1 : EvR c ta δ (· = .bl a)) (h2 : a = true → Ev c tb δ (· = .bl b)) : Ev c (tAndV ta tb) δ (· = .bl (a && b)) := fun σ H Q s q => h1 σ H _ s fun x H1 d1 s1 e1 r1 p1 => by
  cases p1
  refine ⟨a, rdo_bl r1, ?_⟩
  cases a with
  | true => exact iteT (h2 rfl σ H1 Q s1 fun v H2 d s2 e2 r2 p2 => q v H2 d s2 (e1.trans e2) r2 p2)
  | false => exact iteF (q _ H1 _ s1 e1 (.bl _) rfl)
theorem ev_orV {ta tb : TE} {a b : Bool} (h1 : EvR c ta δ (· = .bl a)) (h2 : a = false → Ev c tb δ (· = .bl b)) : Ev c (tOrV ta tb) δ (· = .bl (a || b)) := fun σ H Q s q => h1 σ H _ s fun x H1 d1 s1 e1 r1 p1 => by
  cases p1
  refine ⟨a, rdo_bl r1, ?_⟩
  cases a with
  | false => exact iteF (h2 rfl σ H1 Q s1 fun v H2 d s2 e2 r2 p2 => q v H2 d s2 (e1.trans e2) r2 p2)
  | true => exact iteT (q _ H1 _ s1 e1 (.bl _) rfl)
theorem ev_notV {ta : TE} {a : Bool} (h : EvR c ta δ (· = .bl a)) : Ev c (tNotV ta) δ (· = .bl !a) := fun σ H Q s q => h σ H _ s fun x H1 d1 s1 e1 r1 p1 => by
  cases p1
  exact ⟨a, rdo_bl r1, q _ H1 _ s1 e1 (.bl _) rfl⟩
/-- a if t else b -/
theorem ev_if {t : TT} {ta tb : TE} {PB : Bool → Prop} {P : D → Prop} (h : EvT c t δ PB) (h1 : PB true → Ev c ta δ P) (h2 : PB false → Ev c tb δ P) : Ev c (tIf t ta tb) δ P := fun σ H Q s q => h σ H _ s fun b H1 s1 e1 p => by
  cases b with
  | true => exact iteT (h1 p σ H1 Q s1 fun v H2 d s2 e2 r2 p2 => q v H2 d s2 (e1.trans e2) r2 p2)
  | false => exact iteF (h2 p σ H1 Q s1 fun v H2 d s2 e2 r2 p2 => q v H2 d s2 (e1.trans e2) r2 p2)
theorem evr_if {t : TT} {ta tb : TE} {PB : Bool → Prop} {P : D → Prop} (h : EvT c t δ PB) (h1 : PB true → EvR c ta δ P) (h2 : PB false → EvR c tb δ P) : EvR c (tIf t ta tb) δ P := fun σ H Q s q => h σ H _ s fun b H1 s1 e1 p => by
  cases b with
  | true => exact iteT (h1 p σ H1 Q s1 fun v H2 d s2 e2 r2 p2 => q v H2 d s2 (e1.trans e2) r2 p2)
  | false => exact iteF (h2 p σ H1 Q s1 fun v H2 d s2 e2 r2 p2 => q v H2 d s2 (e1.trans e2) r2 p2)
theorem ev_ifE {t : TT} {ta tb : TE} {b : Bool} {d1 d2 : D} (h : EvT c t δ (· = b)) (h1 : b = true → Ev c ta δ (· = d1)) (h2 : b = false → Ev c tb δ (· = d2)) : Ev c (tIf t ta tb) δ (· = if b then d1 else d2) :=
  ev_if h (fun e => (h1 e.symm).is (by rw [← e]; rfl)) fun e => (h2 e.symm).is (by rw [← e]; rfl)

/-! ### argument lists, displays -/
theorem ea_nil : EvA c tNil δ (· = []) := fun σ H Q s q => q [] H [] s (Ext.refl _ _) .nil rfl
theorem ea_consR {ta : TE} {tr : TA} {P1 : D → Prop} {P2 P : List D → Prop} (h1 : Ev c ta δ P1) (h2 : EvA c tr δ P2) (h : ∀ d ds, P1 d → P2 ds → P (d :: ds)) : EvA c (tCons ta tr) δ P := fun σ H Q s q =>
  h1 σ H _ s fun x H1 d1 s1 e1 r1 p1 => h2 σ H1 _ s1 fun xs H2 ds s2 e2 r2 p2 => q _ H2 _ s2 (e1.trans e2) (.cons (r1.ext e2) r2) (h _ _ p1 p2)
theorem ea_cons {ta : TE} {tr : TA} {d : D} {ds : List D} (h1 : Ev c ta δ (· = d)) (h2 : EvA c tr δ (· = ds)) : EvA c (tCons ta tr) δ (· = d :: ds) := ea_consR h1 h2 fun _ _ e1 e2 => by rw [e1, e2]
theorem ev_tupR {ta : TA} {P : List D → Prop} (h : EvA c ta δ P) (hz : ∀ ds, P ds → ds.length ≤ 100000) : Ev c (tTup ta) δ (fun d => ∃ ds, d = .tup ds ∧ P ds) := fun σ H Q s q => h σ H _ s fun vs H1 ds s1 e1 r1 p1 =>
  ⟨by rw [r1.len]; exact Nat.le_trans (hz _ p1) (by decide), fun p hp => q _ _ _ (s1.same (Same.new hp)) (e1.trans (Ext.of (Same.new hp))) (.tup (fun z => s1.good p z hp) upd_same (r1.ext (Ext.of (Same.new hp)))) ⟨ds, rfl, p1⟩⟩
theorem ev_tup {ta : TA} {ds : List D} (h : EvA c ta δ (· = ds)) (hz : ds.length ≤ 100000 := by first | decide | omega | (simp; done)) : Ev c (tTup ta) δ (· = .tup ds) := (ev_tupR h fun es e => by rw [e]; exact hz).mono fun d ⟨es, e, p⟩ => by rw [e, p]
theorem en_lstR {ta : TA} {P : List D → Prop} (h : EvA c ta δ P) (hz : ∀ ds, P ds → ds.length ≤ 100000) : EvN c (tLst ta) δ P := fun σ H Q s q => h σ H _ s fun vs H1 ds s1 e1 r1 p1 =>
  ⟨by rw [r1.len]; exact Nat.le_trans (hz _ p1) (by decide), fun p hp => q p _ ds (s1.same (Same.new hp)) (s1.mine hp (Same.new hp) upd_same ((r1.fresh hp).ext (Ext.of (Same.new hp)))) (fun z => s1.good p z hp) (e1.trans (Ext.of (Same.new hp))) p1⟩
theorem en_lst {ta : TA} {ds : List D} (h : EvA c ta δ (· = ds)) (hz : ds.length ≤ 100000 := by first | decide | omega | (simp; done)) : EvN c (tLst ta) δ (· = ds) := en_lstR h fun es e => by rw [e]; exact hz
end
end E
/-! DSt: calls, statements, iterations over data. -/
namespace E
open PySem PySem.Spec PyProof.Rows L2

section
variable {c : Ct} {δ : List Sl} {Dn : Ends}
/-! ### calls of one's own defs -/
/-- a def on data: R args wanted -/
def spP (R : List D → (D → Prop) → Prop) : Sp := fun vs H Q _ => ∃ M ds P, (∀ b ∈ M, H b ≠ none ∧ Mut H b) ∧ Reps M H vs ds ∧ R ds P ∧ ∀ v H' d, Same H H' → Rep M H' v d → P d → Q v H'
/-- a def that draws: the list of draws first -/
def spJ (R : List D → (D → Prop) → Prop) : Sp := fun vs H Q _ => ∃ M ds P j ws, vs = .ref j :: ws ∧ j ∈ M ∧ (∀ b ∈ M, H b ≠ none ∧ Mut H b) ∧ JarAt M H j ∧ Reps M H ws ds ∧ R ds P ∧ ∀ v H' d, Ext [j] H H' → JarAt M H' j → Rep M H' v d → P d → Q v H'
/-- a def that writes tables of code objects -/
def spT (T : List (Addr × Str)) (R : List D → (D → Prop) → Prop) : Sp := fun vs H Q _ => ∃ M ds P, (∀ b ∈ M, H b ≠ none ∧ Mut H b) ∧ (∀ p ∈ T, p.1 ∈ M ∧ TabAt M H p) ∧ Reps M H vs ds ∧ R ds P ∧
  ∀ v H' d, Ext (T.map (·.1)) H H' → (∀ p ∈ T, TabAt M H' p) → Rep M H' v d → P d → Q v H'
/-- a def that draws and writes tables -/
def spJT (T : List (Addr × Str)) (R : List D → (D → Prop) → Prop) : Sp := fun vs H Q _ => ∃ M ds P j ws, vs = .ref j :: ws ∧ j ∈ M ∧ (∀ b ∈ M, H b ≠ none ∧ Mut H b) ∧ JarAt M H j ∧ (∀ p ∈ T, p.1 ∈ M ∧ TabAt M H p) ∧ Reps M H ws ds ∧ R ds P ∧
  ∀ v H' d, Ext (j :: T.map (·.1)) H H' → JarAt M H' j → (∀ p ∈ T, TabAt M H' p) → Rep M H' v d → P d → Q v H'
theorem ev_callR {R : List D → (D → Prop) → Prop} {E : XK} {ta : TA} {P1 : List D → Prop} {P : D → Prop} (h : EvA c ta δ P1) (hR : ∀ ds, P1 ds → R ds P) : Ev c (tCall (spP R) [] E ta) δ P := fun σ H Q s q => h σ H _ s fun vs H1 ds s1 e1 r1 p1 => by
  show spP R (vs ++ []) H1 Q E
  rw [List.append_nil]
  exact ⟨c.M, ds, P, fun b hb => ⟨s1.good b hb, s1.mt b hb⟩, r1, hR ds p1, fun v H' d e r p => q v H' d (s1.same e) (e1.trans (Ext.of e)) r p⟩
theorem ev_call {R : List D → (D → Prop) → Prop} {E : XK} {ta : TA} {ds : List D} {P : D → Prop} (h : EvA c ta δ (· = ds)) (hR : R ds P) : Ev c (tCall (spP R) [] E ta) δ P := ev_callR h fun _ e => by rw [e]; exact hR
theorem ev_callJ {R : List D → (D → Prop) → Prop} {E : XK} {i : Nat} {ta : TA} {P1 : List D → Prop} {P : D → Prop} {j : Addr} (hj : δ[i]? = some (some (.inr j))) (hc : c.jr = some j) (h : EvA c ta δ P1) (hR : ∀ ds, P1 ds → R ds P) :
    Ev c (tCall (spJ R) [] E (tCons (tVar i) ta)) δ P := fun σ H Q s q => by
  refine ⟨.ref j, (s.sl.2 i).2 j hj, h σ H _ s fun vs H1 ds s1 e1 r1 p1 => ?_⟩
  show spJ R (.ref j :: vs ++ []) H1 Q E
  rw [List.append_nil]
  obtain ⟨a, b, x, y⟩ := s1.jar j hc
  refine ⟨c.M, ds, P, j, vs, rfl, s1.mm j a, fun b hb => ⟨s1.good b hb, s1.mt b hb⟩, y, r1, hR ds p1, fun v H' d e z r p => q v H' d (s1.jarred hc e z) (e1.trans (e.sub fun w hw => by rw [List.mem_singleton.mp hw]; exact s1.mm j a)) r p⟩

theorem ev_callT {T : List (Addr × Str)} {R : List D → (D → Prop) → Prop} {E : XK} {ta : TA} {P1 : List D → Prop} {P : D → Prop} (hT : c.tb = T) (h : EvA c ta δ P1) (hR : ∀ ds, P1 ds → R ds P) : Ev c (tCall (spT T R) [] E ta) δ P := fun σ H Q s q => h σ H _ s fun vs H1 ds s1 e1 r1 p1 => by
  show spT T R (vs ++ []) H1 Q E
  rw [List.append_nil]
  subst hT
  refine ⟨c.M, ds, P, fun b hb => ⟨s1.good b hb, s1.mt b hb⟩, fun p hp => ⟨s1.mm _ (s1.tab p hp).1, (s1.tab p hp).2.2.2⟩, r1, hR ds p1, fun v H' d e z r p => ?_⟩
  refine q v H' d (s1.watched e (fun b hb => .inr (List.mem_map.mp hb)) (fun j ej => ?_) z) (e1.trans (e.sub fun b hb => ?_)) r p
  · obtain ⟨a, b, x, y⟩ := s1.jar j ej
    obtain ⟨sc, ns, a1, a2, a3, a4, e2, _⟩ := id y
    refine y.ext (e.sub fun b hb => ?_) ((e j _ (fun hm => ?_) e2).trans e2.symm)
    · obtain ⟨p, hp, ep⟩ := List.mem_map.mp hb
      exact (show p.1 = b from ep) ▸ s1.mm _ (s1.tab p hp).1
    · obtain ⟨p, hp, ep⟩ := List.mem_map.mp hm
      obtain ⟨ps, e3, _⟩ := (s1.tab p hp).2.2.2
      rw [show p.1 = j from ep, e2] at e3; cases e3
  · obtain ⟨p, hp, ep⟩ := List.mem_map.mp hb
    exact (show p.1 = b from ep) ▸ s1.mm _ (s1.tab p hp).1
theorem ev_callJT {T : List (Addr × Str)} {R : List D → (D → Prop) → Prop} {E : XK} {i : Nat} {ta : TA} {P1 : List D → Prop} {P : D → Prop} {j : Addr} (hT : c.tb = T) (hj : δ[i]? = some (some (.inr j))) (hc : c.jr = some j) (h : EvA c ta δ P1) (hR : ∀ ds, P1 ds → R ds P) :
    Ev c (tCall (spJT T R) [] E (tCons (tVar i) ta)) δ P := fun σ H Q s q => by
  refine ⟨.ref j, (s.sl.2 i).2 j hj, h σ H _ s fun vs H1 ds s1 e1 r1 p1 => ?_⟩
  show spJT T R (.ref j :: vs ++ []) H1 Q E
  rw [List.append_nil]
  subst hT
  obtain ⟨a, b, x, y⟩ := s1.jar j hc
  have inM : ∀ b ∈ j :: c.tb.map (·.1), b ∈ c.M := fun b hb => by
    rcases List.mem_cons.mp hb with z | z
    · rw [z]; exact s1.mm j a
    · obtain ⟨p, hp, ep⟩ := List.mem_map.mp z
      exact (show p.1 = b from ep) ▸ s1.mm _ (s1.tab p hp).1
  refine ⟨c.M, ds, P, j, vs, rfl, s1.mm j a, fun b hb => ⟨s1.good b hb, s1.mt b hb⟩, y, fun p hp => ⟨s1.mm _ (s1.tab p hp).1, (s1.tab p hp).2.2.2⟩, r1, hR ds p1, fun v H' d e z z2 r p => ?_⟩
  refine q v H' d (s1.watched e (fun b hb => ?_) (fun j2 ej => by rw [← Option.some.inj (hc.symm.trans ej)]; exact z) z2) (e1.trans (e.sub inM)) r p
  rcases List.mem_cons.mp hb with z | z
  · exact .inl (by rw [z]; exact hc)
  · exact .inr (List.mem_map.mp z)

/-! ### built-ins on one, two values -/
def RC (c : Ct) (r : List V → Hp → VK → Prop) (ds : List D) (P : D → Prop) : Prop := ∀ (δ : List Sl) (σ : L2.St) (H : Hp) (Q : VK) (vs : List V), Sta c δ σ H → Paired (RdO c H) vs ds → (∀ v H' d, Same H H' → Rep c.M H' v d → P d → Q v H') → r vs H Q
theorem ev_cb1 {r : List V → Hp → VK → Prop} {ta : TE} {P1 P : D → Prop} (h : EvR c ta δ P1) (hr : ∀ d, P1 d → RC c r [d] P) : Ev c (tCB r (tCons ta tNil)) δ P := fun σ H Q s q => h σ H _ s fun v H1 d s1 e1 r1 p1 =>
  hr d p1 δ σ H1 Q [v] s1 (.cons r1 .nil) fun v H' d e r p => q v H' d (s1.same e) (e1.trans (Ext.of e)) r p
theorem ev_cb {r : List V → Hp → VK → Prop} {ta : TE} {d1 : D} {P : D → Prop} (h : EvR c ta δ (· = d1)) (hr : RC c r [d1] P) : Ev c (tCB r (tCons ta tNil)) δ P := ev_cb1 h fun _ e => by rw [e]; exact hr
theorem ev_cb2 {r : List V → Hp → VK → Prop} {ta tb : TE} {d1 d2 : D} {P : D → Prop} (h : EvR c ta δ (· = d1)) (h2 : EvR c tb δ (· = d2)) (hr : RC c r [d1, d2] P) : Ev c (tCB r (tCons ta (tCons tb tNil))) δ P := fun σ H Q s q => h σ H _ s fun v H1 e s1 e1 r1 p1 =>
  h2 σ H1 _ s1 fun w H2 f s2 e2 r2 p2 => by
    cases p1; cases p2
    exact hr δ σ H2 Q [v, w] s2 (.cons (r1.ext e2) (.cons r2 .nil)) fun v H' d e r p => q v H' d (s2.same e) ((e1.trans e2).trans (Ext.of e)) r p
theorem rc_len {K : PySem.W.Frag} {d : D} {ds : List D} (h : seqD d = some ds) : RC c (fun xs H Q => ∃ p ys, xs = [.ref p] ∧ (SqL K H p ys ∨ SqT K H p ys) ∧ Q (.int ys.length) H) [d] (· = .int ds.length) := fun δ σ H Q vs s hp q => by
  cases hp with
  | cons r t =>
    cases t
    cases d with
    | lst xs =>
      cases h
      obtain ⟨a, vs, rfl, e, r⟩ := rdo_lst s r
      exact ⟨a, vs, rfl, .inl (SqL.of e), q _ H _ (Same.refl H) (.int _) (by rw [r.len])⟩
    | tup xs =>
      cases h
      obtain ⟨a, vs, rfl, _, e, r⟩ := rdo_tup r
      exact ⟨a, vs, rfl, .inr (SqT.of e), q _ H _ (Same.refl H) (.int _) (by rw [r.len])⟩
    | _ => cases h
theorem rc_lenS {z : Str} (h : z.length ≤ 100000) : RC c (fun xs H Q => ∃ z, xs = [.str z] ∧ z.length ≤ sizeLine ∧ Q (.int z.length) H) [.str z] (· = .int z.length) := fun δ σ H Q vs s hp q => by
  cases hp with
  | cons r t =>
    cases t
    exact ⟨z, by rw [rdo_str r], Nat.le_trans h (by decide), q _ H _ (Same.refl H) (.int _) rfl⟩
/-- tuple(xs): a new tuple of a list, the tuple itself -/
theorem rc_tuple {K : PySem.W.Frag} {d : D} {ds : List D} (h : seqD d = some ds) : RC c (fun xs H Q => ∃ p ys, xs = [.ref p] ∧ ((SqL K H p ys ∧ ∀ l, H l = none → Q (.ref l) (upd H l (.tup ys))) ∨ (SqT K H p ys ∧ Q (.ref p) H))) [d] (· = .tup ds) := fun δ σ H Q vs s hp q => by
  cases hp with
  | cons r t =>
    cases t
    cases d with
    | lst xs =>
      cases h
      obtain ⟨a, vs, rfl, e, r⟩ := rdo_lst s r
      refine ⟨a, vs, rfl, .inl ⟨SqL.of e, fun l hl => q _ _ _ (Same.new hl) (.tup (fun z => s.good l z hl) upd_same (r.ext (Ext.of (Same.new hl)))) rfl⟩⟩
    | tup xs =>
      cases h
      obtain ⟨a, vs, rfl, n, e, r⟩ := rdo_tup r
      exact ⟨a, vs, rfl, .inr ⟨SqT.of e, q _ H _ (Same.refl H) (.tup n e r) rfl⟩⟩
    | _ => cases h
/-- list(xs): a new list -/
theorem en_list {K : PySem.W.Frag} {ta : TE} {d : D} {ds : List D} (h : EvR c ta δ (· = d)) (hs : seqD d = some ds) :
    EvN c (tCB (fun xs H Q => ∃ p ys, xs = [.ref p] ∧ (SqL K H p ys ∨ SqT K H p ys) ∧ ∀ l, H l = none → Q (.ref l) (upd H l (.lst ys))) (tCons ta tNil)) δ (· = ds) := fun σ H Q s q => h σ H _ s fun v H1 e s1 e1 r1 p1 => by
  cases p1
  have fin : ∀ (a : Addr) (vs : List V), Reps c.M H1 vs ds → ∀ l, H1 l = none → Q (.ref l) (upd H1 l (.lst vs)) := fun a vs r l hl =>
    q l _ ds (s1.same (Same.new hl)) (s1.mine hl (Same.new hl) upd_same ((r.fresh hl).ext (Ext.of (Same.new hl)))) (fun z => s1.good l z hl) (e1.trans (Ext.of (Same.new hl))) rfl
  cases d with
  | lst xs =>
    cases hs
    obtain ⟨a, vs, rfl, e, r⟩ := rdo_lst s1 r1
    exact ⟨a, vs, rfl, .inl (SqL.of e), fin a vs r⟩
  | tup xs =>
    cases hs
    obtain ⟨a, vs, rfl, _, e, r⟩ := rdo_tup r1
    exact ⟨a, vs, rfl, .inr (SqT.of e), fin a vs r⟩
  | _ => cases hs

/-! ### statements -/
def Sd (c : Ct) (t : TS) (δ : List Sl) (Dn : Ends) : Prop := ∀ σ H, Sta c δ σ H → t Dn σ H
def Nx (c : Ct) (δ : List Sl) (N : L2.St → Hp → Prop) : Prop := ∀ σ H, Sta c δ σ H → N σ H
def Rt (c : Ct) (Q : VK) (P : D → Prop) : Prop := ∀ v H' d, Ext c.W c.H0 H' → (∀ j, c.jr = some j → JarAt c.m0 H' j) → (∀ p ∈ c.tb, TabAt c.m0 H' p) → Rep c.m0 H' v d → P d → Q v H'
theorem sd_seq {t u : TS} (h : Sd c t δ { Dn with nx := u Dn }) : Sd c (tSeq t u) δ Dn := h
theorem sd_next (h : Nx c δ Dn.nx) : Sd c tNext δ Dn := h
theorem sd_asgR {te : TE} {i : Nat} {P : D → Prop} (h : Ev c te δ P) (k : ∀ d, P d → Nx c (δ.set i (some (.inl d))) Dn.nx) : Sd c (tAsg te (gName i)) δ Dn := fun σ H s => h σ H _ s fun v H1 d s1 e1 r1 p1 =>
  k d p1 _ H1 (s1.slots (s1.sl.set i (fun d' e => by cases e; exact r1) fun l e => by cases e))
theorem sd_asg {te : TE} {i : Nat} {d : D} (h : Ev c te δ (· = d)) (k : Nx c (δ.set i (some (.inl d))) Dn.nx) : Sd c (tAsg te (gName i)) δ Dn := sd_asgR h fun _ e => by rw [e]; exact k
/-- a new list of one's own to a name -/
theorem sd_asgN {te : TE} {i : Nat} {P : List D → Prop} (h : EvN c te δ P) (k : ∀ l ds, P ds → l ∉ c.M → Nx (c.push l ds) (δ.set i (some (.inr l))) Dn.nx) : Sd c (tAsg te (gName i)) δ Dn := fun σ H s => h σ H _ s fun l H1 ds s0 s1 n e1 p1 =>
  k l ds p1 n _ H1 (s1.slots (s1.sl.set i (fun d' e => by cases e) fun l e => by cases e; rfl))
theorem sd_retR {te : TE} {P P' : D → Prop} (h : EvR c te δ P) (hr : Rt c Dn.rt P') (w : ∀ d, P d → P' d) : Sd c (tRet te) δ Dn := fun σ H s => h σ H _ s fun v H1 d s1 e1 r1 p1 => by
  refine hr v H1 d s1.keep (fun j ej => (s1.jar j ej).2.2.2.less s1.mm) (fun p hp => (s1.tab p hp).2.2.2.less s1.mm) ?_ (w d p1)
  rcases r1 with r | ⟨l, ds, rfl, rfl, ho⟩
  · exact r.less s1.mm
  · obtain ⟨_, n, _, _, vs, hl, r⟩ := s1.own _ ho
    exact .lst n hl (r.less s1.mm)
theorem sd_ret {te : TE} {d : D} {P' : D → Prop} (h : EvR c te δ (· = d)) (hr : Rt c Dn.rt P') (w : P' d) : Sd c (tRet te) δ Dn := sd_retR h hr fun _ e => by rw [e]; exact w
theorem sd_if {t : TT} {a b : TS} {PB : Bool → Prop} (h : EvT c t δ PB) (h1 : PB true → Sd c a δ Dn) (h2 : PB false → Sd c b δ Dn) : Sd c (tIfS t a b) δ Dn := fun σ H s => h σ H _ s fun k H1 s1 e1 p => by
  cases k with
  | true => exact iteT (h1 p σ H1 s1)
  | false => exact iteF (h2 p σ H1 s1)
theorem sd_ifE {t : TT} {a b : TS} {k : Bool} (h : EvT c t δ (· = k)) (h1 : k = true → Sd c a δ Dn) (h2 : k = false → Sd c b δ Dn) : Sd c (tIfS t a b) δ Dn := sd_if h (fun e => h1 e.symm) fun e => h2 e.symm
/-- an if without else, ahead of more -/
theorem sd_when {t : TT} {a u : TS} {k : Bool} (h : EvT c t δ (· = k)) (h1 : k = true → Sd c a δ { Dn with nx := u Dn }) (h2 : k = false → Sd c u δ Dn) : Sd c (tSeq (tIfS t a tNext) u) δ Dn := sd_ifE (Dn := { Dn with nx := u Dn }) h h1 h2
theorem sd_par {ta : TA} {i j : Nat} {P : List D → Prop} (h : EvA c ta δ P) (k : ∀ ds, P ds → ∃ d1 d2, ds = [d1, d2] ∧ Nx c ((δ.set i (some (.inl d1))).set j (some (.inl d2))) Dn.nx) : Sd c (tPar i j ta) δ Dn := fun σ H s => h σ H _ s fun vs H1 ds s1 e1 r1 p1 => by
  obtain ⟨d1, d2, rfl, k⟩ := k ds p1
  cases r1 with
  | cons a t =>
    cases t with
    | cons b t =>
      cases t
      exact ⟨_, _, rfl, k _ H1 (s1.slots ((s1.sl.set i (fun d' e => by cases e; exact a) fun l e => by cases e).set j (fun d' e => by cases e; exact b) fun l e => by cases e))⟩
/-- list.append on the newest list of one's own -/
theorem sd_app {K : PySem.W.Frag} {te : TE} {i : Nat} {l : Addr} {ds : List D} {r : List (Addr × List D)} {P : D → Prop} (ho : c.own = (l, ds) :: r) (hi : δ[i]? = some (some (.inr l))) (h : Ev c te δ P) (hz : ds.length < 100000)
    (k : ∀ d, P d → Nx { c with own := (l, ds ++ [d]) :: r } δ Dn.nx) : Sd c (tDrop (tBM K "list" rAppend (tVar i) (tCons te tNil))) δ Dn := fun σ H s => by
  have hm : (l, ds) ∈ c.own := by rw [ho]; exact List.mem_cons_self
  obtain ⟨_, _, _, _, vs0, e0, r0⟩ := s.own _ hm
  refine ⟨.ref l, (s.sl.2 i).2 l hi, .inl ⟨rfl, vs0, .inl (.inl e0)⟩, h σ H _ s fun v H1 d s1 e1 r1 p1 => ?_⟩
  obtain ⟨_, _, _, _, vs1, e2, r2⟩ := s1.own _ hm
  exact ⟨l, vs1, v, rfl, rfl, e2, by rw [r2.len]; exact Nat.lt_of_lt_of_le hz (by decide), k d p1 σ _ (s1.write ho (r2.append (.cons r1 .nil)))⟩
/-- xs[j] = e on the newest list of one's own -/
theorem sd_setL {te ti : TE} {i : Nat} {l : Addr} {ds : List D} {r : List (Addr × List D)} {P : D → Prop} {z : Int} {j : Nat} (ho : c.own = (l, ds) :: r) (h : Ev c te δ P) (hi : δ[i]? = some (some (.inr l))) (hx : ∀ d, P d → Ev c ti δ (· = .int z)) (hj : ixN ds.length z = some j)
    (k : ∀ d, P d → Nx { c with own := (l, ds.set j d) :: r } δ Dn.nx) : Sd c (tAsg te (gSub (tVar i) ti rSetL)) δ Dn := fun σ H s => h σ H _ s fun v H1 d s1 e1 r1 p1 => by
  have hm : (l, ds) ∈ c.own := by rw [ho]; exact List.mem_cons_self
  refine ⟨.ref l, (s1.sl.2 i).2 l hi, hx d p1 σ H1 _ s1 fun w H2 d2 s2 e2 r2 p2 => ?_⟩
  cases p2
  cases r2
  obtain ⟨_, _, _, _, vs1, e3, r3⟩ := s2.own _ hm
  exact ⟨l, vs1, z, j, rfl, rfl, e3, by rw [r3.len]; exact hj, k d p1 σ _ (s2.write ho (r3.set (r1.ext e2) j))⟩

/-! ### targets -/
def EvG (g : TG) (js : List Nat) (δ : List Sl) (d : D) (δ' : List Sl) : Prop := ∀ (c : Ct) (σ : L2.St) (H : Hp) (x : V) (Q : L2.St → Hp → Prop), Sta c δ σ H → Rep c.M H x d →
  (∀ σ', Sta c δ' σ' H → σ'.length = σ.length → (∀ i, i ∉ js → σ'[i]? = σ[i]?) → Q σ' H) → g x σ H Q
theorem eg_name {j : Nat} {d : D} : EvG (gName j) [j] δ d (δ.set j (some (.inl d))) := fun c σ H x Q s r q =>
  q _ (s.slots (s.sl.set j (fun d' e => by cases e; exact r) fun l e => by cases e)) (by simp) fun i hi => List.getElem?_set_ne fun e => hi (by simp [e])
theorem eg_tup2 {K : PySem.W.Frag} {g1 g2 : TG} {js ks : List Nat} {δ1 δ2 : List Sl} {d1 d2 : D} (h1 : EvG g1 js δ d1 δ1) (h2 : EvG g2 ks δ1 d2 δ2) : EvG (gTup K 2 (gCons g1 (gCons g2 gNil))) (js ++ ks) δ (.tup [d1, d2]) δ2 := fun c σ H x Q s r q => by
  cases r with
  | tup n e r =>
    cases r with
    | cons a t =>
      cases t with
      | cons b t =>
        cases t
        refine ⟨_, _, rfl, SqT.of e, rfl, _, _, rfl, h1 c σ H _ _ s a fun σ1 s1 l1 k1 => ⟨_, _, rfl, h2 c σ1 H _ _ s1 b fun σ2 s2 l2 k2 => ⟨rfl, q σ2 s2 (l2.trans l1) fun i hi => ?_⟩⟩⟩
        rw [k2 i fun z => hi (List.mem_append_right _ z), k1 i fun z => hi (List.mem_append_left _ z)]
theorem sd_unp {te : TE} {g : TG} {js : List Nat} {P : D → Prop} (h : Ev c te δ P) (k : ∀ d, P d → ∃ δ', EvG g js δ d δ' ∧ Nx c δ' Dn.nx) : Sd c (tAsg te g) δ Dn := fun σ H s => h σ H _ s fun v H1 d s1 e1 r1 p1 => by
  obtain ⟨δ', hg, k⟩ := k d p1
  exact hg c σ H1 v _ s1 r1 fun σ' s' _ _ => k σ' H1 s'

/-! ### what is walked -/
/-- J walks its, as long as what stood at H1 outside M stands; the items lead to none of M' -/
def SrcR (c : Ct) (H1 : Hp) (J : It) (its : List D) : Prop := ∀ H M', Ext c.M H1 H → (∀ b ∈ M', H b ≠ none) → (∀ b ∈ M', b ∈ c.M ∨ H1 b = none) →
  (∀ i, i < its.length → J.go i H ∧ ∀ x H', J.yld i H x H' → Same H H' ∧ ∃ d, its[i]? = some d ∧ Rep M' H' x d) ∧ J.stop its.length H
def SrcO (c : Ct) (H1 : Hp) (J : It) (its : List D) : Prop := ∀ H M', Ext c.M H1 H → (∀ b ∈ M', H b ≠ none) → (∀ b ∈ M', b ∈ c.M ∨ H1 b = none) → (∀ p ∈ c.own, ∃ vs, H p.1 = some (.lst vs) ∧ Reps M' H vs p.2) →
  (∀ i, i < its.length → J.go i H ∧ ∀ x H', J.yld i H x H' → Same H H' ∧ ∃ d, its[i]? = some d ∧ Rep M' H' x d) ∧ J.stop its.length H
/-- a tree of H1 in a later heap, leading to nothing that is newer -/
theorem Reps.later {M M' : List Addr} {H1 H : Hp} {vs : List V} {ds : List D} (r : Reps M H1 vs ds) (e : Ext M H1 H) (n : ∀ b ∈ M', b ∈ M ∨ H1 b = none) : Reps M' H vs ds := by
  refine r.map fun a o na ea => ⟨fun z => ?_, e a o na ea⟩
  rcases n a z with y | y
  · exact na y
  · rw [y] at ea; cases ea
def EvI (c : Ct) (wi : TI) (δ : List Sl) (P : List D → Prop) : Prop := ∀ σ H (R : It → Hp → Prop), Sta c δ σ H → (∀ J H1 its, Sta c δ σ H1 → Ext c.M H H1 → SrcR c H1 J its → P its → R J H1) → wi σ H R
def EvIO (c : Ct) (wi : TI) (δ : List Sl) (P : List D → Prop) : Prop := ∀ σ H (R : It → Hp → Prop), Sta c δ σ H → (∀ J H1 its, Sta c δ σ H1 → Ext c.M H H1 → SrcO c H1 J its → P its → R J H1) → wi σ H R
theorem EvI.o {wi : TI} {P : List D → Prop} (h : EvI c wi δ P) : EvIO c wi δ P := fun σ H R s q => h σ H R s fun J H1 its s1 e1 r p => q J H1 its s1 e1 (fun H M' e g n _ => r H M' e g n) p
theorem rep_of {M : List Addr} {H : Hp} {vs : List V} {ds : List D} {i : Nat} {x : V} (r : Reps M H vs ds) (hx : vs[i]? = some x) (hi : i < ds.length) : ∃ d, ds[i]? = some d ∧ Rep M H x d := r.getV hx
theorem sql_inj {K : PySem.W.Frag} {H : Hp} {a : Addr} {vs : List V} {i : Nat} {x : V} (e : H a = some (.lst vs)) (h : ∀ xs, SqL K H a xs → xs[i]? = some x) : vs[i]? = some x := h vs (SqL.of e)
theorem ei_listR {K : PySem.W.Frag} {tl : TE} {P : List D → Prop} (h : Ev c tl δ (fun d => ∃ ds, d = .lst ds ∧ P ds)) : EvI c (iList K tl) δ P := fun σ H R s q => h σ H _ s fun v H1 d s1 e1 r1 p1 => by
  obtain ⟨ds, rfl, p⟩ := p1
  cases r1 with
  | lst n e r =>
    refine ⟨_, rfl, ⟨_, SqL.of e⟩, q _ H1 ds s1 e1 (fun H2 M2 e2 g2 n2 => ?_) p⟩
    have e3 := e2 _ _ n e
    have r3 := r.later e2 n2
    refine ⟨fun i hi => ⟨?_, fun x H' y => ?_⟩, ⟨_, SqL.of e3, by rw [r3.len]; exact Nat.le_refl _⟩⟩
    · obtain ⟨v, hv, _⟩ := r3.get (List.getElem?_eq_getElem hi)
      exact ⟨_, v, SqL.of e3, hv⟩
    · obtain ⟨rfl, hx⟩ := y
      exact ⟨Same.refl _, rep_of r3 (hx _ (SqL.of e3)) hi⟩
theorem ei_list {K : PySem.W.Frag} {tl : TE} {ds : List D} (h : Ev c tl δ (· = .lst ds)) : EvI c (iList K tl) δ (· = ds) := ei_listR (h.mono fun d e => ⟨ds, e, rfl⟩)
theorem ei_tupR {K : PySem.W.Frag} {tl : TE} {P : List D → Prop} (h : Ev c tl δ (fun d => ∃ ds, d = .tup ds ∧ P ds)) : EvI c (iTup K tl) δ P := fun σ H R s q => h σ H _ s fun v H1 d s1 e1 r1 p1 => by
  obtain ⟨ds, rfl, p⟩ := p1
  cases r1 with
  | tup n e r =>
    refine ⟨_, rfl, ⟨_, SqT.of e⟩, q _ H1 ds s1 e1 (fun H2 M2 e2 g2 n2 => ?_) p⟩
    have e3 := e2 _ _ n e
    have r3 := r.later e2 n2
    refine ⟨fun i hi => ⟨?_, fun x H' y => ?_⟩, ⟨_, SqT.of e3, by rw [r3.len]; exact Nat.le_refl _⟩⟩
    · obtain ⟨v, hv, _⟩ := r3.get (List.getElem?_eq_getElem hi)
      exact ⟨_, v, SqT.of e3, hv⟩
    · obtain ⟨rfl, hx⟩ := y
      exact ⟨Same.refl _, rep_of r3 (hx _ (SqT.of e3)) hi⟩
theorem ei_tup {K : PySem.W.Frag} {tl : TE} {ds : List D} (h : Ev c tl δ (· = .tup ds)) : EvI c (iTup K tl) δ (· = ds) := ei_tupR (h.mono fun d e => ⟨ds, e, rfl⟩)
/-- a list of one's own, walked by a comprehension -/
theorem ei_own {K : PySem.W.Frag} {i : Nat} {l : Addr} {ds : List D} (hi : δ[i]? = some (some (.inr l))) (ho : (l, ds) ∈ c.own) : EvIO c (iList K (tVar i)) δ (· = ds) := fun σ H R s q => by
  obtain ⟨_, _, _, _, vs, e, r⟩ := s.own _ ho
  refine ⟨.ref l, (s.sl.2 i).2 l hi, l, rfl, ⟨vs, SqL.of e⟩, q _ H ds s (Ext.refl _ _) (fun H2 M2 e2 g2 n2 o2 => ?_) rfl⟩
  obtain ⟨vs2, e3, r3⟩ := o2 _ ho
  refine ⟨fun i hi => ⟨?_, fun x H' y => ?_⟩, ⟨_, SqL.of e3, by rw [r3.len]; exact Nat.le_refl _⟩⟩
  · obtain ⟨v, hv, _⟩ := r3.get (List.getElem?_eq_getElem hi)
    exact ⟨_, v, SqL.of e3, hv⟩
  · obtain ⟨rfl, hx⟩ := y
    exact ⟨Same.refl _, rep_of r3 (hx _ (SqL.of e3)) hi⟩
def ranD (lo : Int) (n : Nat) : List D := (List.range n).map fun i => D.int (lo + (i : Nat))
theorem ranD_len (lo : Int) (n : Nat) : (ranD lo n).length = n := by simp [ranD]
theorem ranD_get {lo : Int} {n i : Nat} (h : i < n) : (ranD lo n)[i]? = some (.int (lo + (i : Nat))) := by simp [ranD, h]
theorem src_ran (c : Ct) (H1 : Hp) (lo : Int) (n : Nat) : SrcR c H1 (Itr lo n) (ranD lo n) := fun H M' e g _ => by
  refine ⟨fun i hi => ?_, by rw [ranD_len]; exact Nat.le_refl n⟩
  rw [ranD_len] at hi
  refine ⟨hi, fun x H' y => ?_⟩
  obtain ⟨rfl, rfl⟩ := y
  exact ⟨Same.refl _, _, ranD_get hi, .int _⟩
theorem ei_rng1 {ta : TA} {n : Int} (h : EvA c ta δ (· = [.int n])) (h1 : -(2 ^ 62) ≤ n := by omega) (h2 : n < 2 ^ 62 := by omega) : EvI c (iRng1 ta) δ (· = ranD 0 n.toNat) := fun σ H R s q => h σ H _ s fun vs H1 ds s1 e1 r1 p1 => by
  subst p1
  cases r1 with
  | cons a t =>
    cases t; cases a
    exact ⟨n, rfl, h1, h2, q _ H1 _ s1 e1 (src_ran c H1 0 n.toNat) rfl⟩
theorem ei_rng2 {ta : TA} {m n : Int} (h : EvA c ta δ (· = [.int m, .int n])) (h1 : -(2 ^ 62) ≤ m ∧ m < 2 ^ 62 ∧ -(2 ^ 62) ≤ n ∧ n < 2 ^ 62 := by omega) : EvI c (iRng2 ta) δ (· = ranD m (n - m).toNat) := fun σ H R s q => h σ H _ s fun vs H1 ds s1 e1 r1 p1 => by
  subst p1
  cases r1 with
  | cons a t =>
    cases a
    cases t with
    | cons b t =>
      cases t; cases b
      exact ⟨m, n, rfl, h1, q _ H1 _ s1 e1 (src_ran c H1 m (n - m).toNat) rfl⟩
end
end E
/-! DLoop: comprehensions, for, while over data. -/
namespace E
open PySem PySem.Spec PyProof.Rows L2

def wipeD (δ : List Sl) : List Nat → List Sl
  | [] => δ
  | v :: vs => (wipeD δ vs).set v none
theorem SlotOk.setN {M : List Addr} {H : Hp} {δ : List Sl} {σ : L2.St} (h : SlotOk M H δ σ) (i : Nat) (o : Option V) : SlotOk M H (δ.set i none) (σ.set i o) := by
  refine ⟨by simpa using h.1, fun k => ?_⟩
  by_cases hk : i = k
  · subst hk
    by_cases hb : i < δ.length
    · rw [List.getElem?_set_self hb]
      exact ⟨(fun d e => by cases e), (fun l e => by cases e)⟩
    · have e1 : (δ.set i none)[i]? = none := List.getElem?_eq_none (by simpa using hb)
      rw [e1]
      exact ⟨(fun _ e => by cases e), (fun _ e => by cases e)⟩
  · rw [List.getElem?_set_ne hk, List.getElem?_set_ne hk]
    exact h.2 k
theorem SlotOk.wipe {M : List Addr} {H : Hp} {δ : List Sl} {σ : L2.St} (h : SlotOk M H δ σ) : ∀ vs, SlotOk M H (wipeD δ vs) (wipe σ vs)
  | [] => h
  | v :: vs => (SlotOk.wipe h vs).setN v none
theorem wipe_get (σ : L2.St) (i : Nat) : ∀ vs : List Nat, (wipe σ vs)[i]? = if i ∈ vs then (if i < σ.length then some none else none) else σ[i]?
  | [] => by simp [wipe]
  | v :: vs => by
    show ((wipe σ vs).set v none)[i]? = _
    by_cases hv : v = i
    · subst hv
      rw [if_pos List.mem_cons_self]
      by_cases hl : v < σ.length
      · rw [List.getElem?_set_self (by rw [wipe_length]; exact hl), if_pos hl]
      · rw [List.getElem?_eq_none (by rw [List.length_set, wipe_length]; omega), if_neg hl]
    · rw [List.getElem?_set_ne hv, wipe_get σ i vs]
      by_cases hm : i ∈ vs
      · rw [if_pos hm, if_pos (List.mem_cons_of_mem _ hm)]
      · rw [if_neg hm, if_neg fun z => (List.mem_cons.mp z).elim (fun e => hv e.symm) hm]
theorem wipe_back {σ σ2 : L2.St} {vs js : List Nat} (hl : σ2.length = (wipe σ vs).length) (h : ∀ i, i ∉ js → σ2[i]? = (wipe σ vs)[i]?) (hs : ∀ i ∈ js, i ∈ vs) : wipe σ2 vs = wipe σ vs := by
  rw [wipe_length] at hl
  refine List.ext_getElem? fun i => ?_
  rw [wipe_get, wipe_get, hl]
  by_cases hm : i ∈ vs
  · rw [if_pos hm, if_pos hm]
  · rw [if_neg hm, if_neg hm, h i (fun z => hm (hs i z)), wipe_get, if_neg hm]

inductive All2 {α β : Type} (R : α → β → Prop) : List α → List β → Prop
  | nil : All2 R [] []
  | cons {a : α} {b : β} {l : List α} {m : List β} : R a b → All2 R l m → All2 R (a :: l) (b :: m)
theorem All2.append {α β : Type} {R : α → β → Prop} : ∀ {l : List α} {m : List β} {l' : List α} {m' : List β}, All2 R l m → All2 R l' m' → All2 R (l ++ l') (m ++ m')
  | _, _, _, _, .nil, h => h
  | _, _, _, _, .cons r t, h => .cons r (t.append h)
theorem All2.len {α β : Type} {R : α → β → Prop} : ∀ {l : List α} {m : List β}, All2 R l m → l.length = m.length
  | _, _, .nil => rfl
  | _, _, .cons _ t => congrArg (· + 1) t.len
theorem All2.map {α β : Type} {f : α → β} : ∀ {l : List α} {m : List β}, All2 (fun a b => b = f a) l m → m = l.map f
  | _, _, .nil => rfl
  | _, _, .cons r t => by rw [r, t.map]; rfl
theorem All2.imp {α β : Type} {R S : α → β → Prop} (h : ∀ a b, R a b → S a b) : ∀ {l : List α} {m : List β}, All2 R l m → All2 S l m
  | _, _, .nil => .nil
  | _, _, .cons r t => .cons (h _ _ r) (t.imp h)
theorem All2.get {α β : Type} {R : α → β → Prop} : ∀ {l : List α} {m : List β} {i : Nat} {a : α}, All2 R l m → l[i]? = some a → ∃ b, m[i]? = some b ∧ R a b
  | _, _, _, _, .nil, e => by simp at e
  | _, _, 0, _, .cons r _, e => by simp at e; subst e; exact ⟨_, rfl, r⟩
  | _, _, i + 1, a, .cons _ t, e => by
    obtain ⟨b, h1, h2⟩ := All2.get (i := i) (a := a) t (by simpa using e)
    exact ⟨b, by simpa using h1, h2⟩

theorem take_filter {α : Type} (f : α → Bool) {l : List α} {i : Nat} {a : α} (h : l[i]? = some a) : (l.take (i + 1)).filter f = (l.take i).filter f ++ (if f a then [a] else []) := by
  rw [List.take_add_one, h, List.filter_append]
  cases e : f a <;> simp [e]

section
variable {c : Ct} {δ : List Sl} {Dn : Ends}
/-- [e for g in wi if tt], the items told by a list xs of any kind: R says what e yields at an item -/
theorem en_lcX {α : Type} {wi : TI} {g : TG} {tt : TT} {te : TE} {vs : List Nat} (i : α → D) {PX : List α → Prop} (f : α → Bool) (R : α → D → Prop) (hi : EvIO c wi δ (fun its => ∃ xs, its = xs.map i ∧ PX xs)) (hz : ∀ xs, PX xs → xs.length ≤ 100000)
    (hb : ∀ l acc xs x, PX xs → x ∈ xs → ∃ js δ', EvG g js (wipeD δ vs) (i x) δ' ∧ (∀ k ∈ js, k ∈ vs) ∧ EvT (c.push l acc) tt δ' (· = f x) ∧ (f x = true → Ev (c.push l acc) te δ' (R x))) :
    EvN c (tLc wi g tt te vs) δ (fun es => ∃ xs, PX xs ∧ All2 R (xs.filter f) es) := fun σ H Q s q => hi σ H _ s fun J H1 its s1 e1 src pp => by
  obtain ⟨xs, rfl, p⟩ := pp
  intro Dl hD
  have hz := hz xs p
  have hlen : (xs.map i).length = xs.length := List.length_map _
  have nD : Dl ∉ c.M := fun z => s1.good Dl z hD
  have sN : Same H1 (upd H1 Dl (.lst [])) := Same.new hD
  have st0 : Sta (c.push Dl []) δ σ (upd H1 Dl (.lst [])) := s1.mine hD sN upd_same .nil
  refine ⟨fun k m H2 => m = xs.length - k ∧ k ≤ xs.length ∧ Ext c.M H1 H2 ∧ ∃ es, All2 R ((xs.take k).filter f) es ∧ Sta (c.push Dl es) δ σ H2, ⟨xs.length, rfl, Nat.zero_le _, Ext.of sN, [], by simp; exact .nil, st0⟩, ?_⟩
  rintro k m H2 ⟨rfl, hk, ex, es, ha, st⟩
  have pop : ∀ {es : List D} {H2 : Hp}, Sta (c.push Dl es) δ σ H2 → Sta c δ σ H2 := fun st => st.pop nD s1.kw s1.mm fun p hp => (s1.own p hp).1
  have own2 : ∀ p ∈ c.own, ∃ vs, H2 p.1 = some (.lst vs) ∧ Reps (c.push Dl es).M H2 vs p.2 := fun p hp => by
    obtain ⟨_, _, _, _, vs, e, r⟩ := st.own p (List.mem_cons_of_mem _ hp)
    exact ⟨vs, e, r⟩
  obtain ⟨go, stop⟩ := src H2 (c.push Dl es).M ex st.good (fun b hb => (List.mem_cons.mp hb).elim (fun z => .inr (z ▸ hD)) .inl) own2
  by_cases hlt : k < xs.length
  · obtain ⟨go1, go2⟩ := go k (by rw [hlen]; exact hlt)
    refine .inr ⟨go1, fun H3 => ∃ es, Ext c.M H1 H3 ∧ All2 R ((xs.take (k + 1)).filter f) es ∧ Sta (c.push Dl es) δ σ H3, fun H3 ⟨es3, ex3, ha3, st3⟩ => ⟨xs.length - (k + 1), by omega, rfl, hlt, ex3, es3, ha3, st3⟩, fun v H3 y => ?_⟩
    obtain ⟨sm, d, hd, rd⟩ := go2 v H3 y
    have hx : xs[k]? = some xs[k] := List.getElem?_eq_getElem hlt
    have ed : d = i xs[k] := by
      rw [List.getElem?_map, hx] at hd
      exact (Option.some.inj hd).symm
    subst ed
    have st3 : Sta (c.push Dl es) δ σ H3 := st.same sm
    obtain ⟨js, δ', hg, hjs, ht, he⟩ := hb Dl es xs xs[k] p (List.getElem_mem hlt)
    have stw : Sta (c.push Dl es) (wipeD δ vs) (wipe σ vs) H3 := st3.slots (st3.sl.wipe vs)
    refine hg (c.push Dl es) (wipe σ vs) H3 v _ stw rd fun σ2 s2 l2 k2 => ⟨wipe_back l2 k2 hjs, ht σ2 H3 _ s2 fun b H4 s4 e4 eb => ?_⟩
    have exM : ∀ {Ha Hb : Hp}, Ext (c.push Dl es).M Ha Hb → Ext c.M H1 Ha → Ext c.M H1 Hb := fun {Ha Hb} e k b o nb hb => by
      have nb2 : b ∉ (c.push Dl es).M := fun z => (List.mem_cons.mp z).elim (fun y => by rw [y, hD] at hb; cases hb) nb
      exact e b o nb2 (k b o nb hb)
    have ex3 : Ext c.M H1 H3 := ex.trans (Ext.of sm)
    cases b with
    | false =>
      refine iteF ⟨es, exM e4 ex3, ?_, s4.slots (st3.sl.ext e4)⟩
      rw [take_filter f hx, ← eb]
      simpa using ha
    | true =>
      refine iteT (he eb.symm σ2 H4 _ s4 fun y H5 dy s5 e5 ry py => ?_)
      have st5 : Sta (c.push Dl es) δ σ H5 := s5.slots (st3.sl.ext (e4.trans e5))
      obtain ⟨_, _, _, _, acc, eacc, racc⟩ := st5.own (Dl, es) List.mem_cons_self
      have hle : es.length ≤ 100000 := by
        rw [← ha.len]
        refine Nat.le_trans (List.length_filter_le _ _) ?_
        rw [List.length_take]; omega
      refine ⟨acc, eacc, by rw [racc.len]; exact Nat.lt_of_le_of_lt hle (by decide), es ++ [dy], ?_, ?_, st5.write rfl (racc.append (.cons ry .nil))⟩
      · intro b o nb hb
        have hne : b ≠ Dl := fun z => by rw [z, hD] at hb; cases hb
        rw [upd_ne hne]
        exact exM e5 (exM e4 ex3) b o nb hb
      · rw [take_filter f hx, ← eb]
        exact ha.append (.cons py .nil)
  · have ei : k = xs.length := by omega
    subst ei
    rw [hlen] at stop
    refine .inl ⟨stop, q Dl H2 es (pop st) st nD (e1.trans ex) ⟨xs, p, ?_⟩⟩
    rw [List.take_length] at ha
    exact ha
theorem et_yes : EvT c tYes δ (· = true) := fun σ H Q s q => q true H s (Ext.refl _ _) rfl
/-- a test, what it yields told by functions -/
theorem en_lcF {α : Type} {wi : TI} {g : TG} {tt : TT} {te : TE} {vs : List Nat} (xs : List α) (i : α → D) (f : α → Bool) (h : α → D) (hi : EvIO c wi δ (· = xs.map i)) (hz : xs.length ≤ 100000)
    (hb : ∀ l acc x, x ∈ xs → ∃ js δ', EvG g js (wipeD δ vs) (i x) δ' ∧ (∀ k ∈ js, k ∈ vs) ∧ EvT (c.push l acc) tt δ' (· = f x) ∧ (f x = true → Ev (c.push l acc) te δ' (· = h x))) : EvN c (tLc wi g tt te vs) δ (· = (xs.filter f).map h) :=
  (en_lcX (PX := (· = xs)) i f (fun x e => e = h x) (fun σ H Q s q => hi σ H Q s fun J H1 its a b e p => q J H1 its a b e ⟨xs, p, rfl⟩) (fun ys e => by rw [e]; exact hz) fun l acc ys x e hx => by subst e; exact hb l acc x hx).mono fun es ⟨ys, e, ha⟩ => by
    subst e; exact ha.map
/-- no test -/
theorem en_lcM {α : Type} {wi : TI} {g : TG} {te : TE} {vs : List Nat} (xs : List α) (i h : α → D) (hi : EvIO c wi δ (· = xs.map i)) (hz : xs.length ≤ 100000)
    (hb : ∀ l acc x, x ∈ xs → ∃ js δ', EvG g js (wipeD δ vs) (i x) δ' ∧ (∀ k ∈ js, k ∈ vs) ∧ Ev (c.push l acc) te δ' (· = h x)) : EvN c (tLc wi g tYes te vs) δ (· = xs.map h) :=
  (en_lcF xs i (fun _ => true) h hi hz fun l acc x hx => let ⟨js, δ', a, b, e⟩ := hb l acc x hx; ⟨js, δ', a, b, et_yes, fun _ => e⟩).mono fun es e => by
    rw [e, List.filter_eq_self.mpr fun _ _ => rfl]
/-- no test, what it yields told by a relation -/
theorem en_lcR {α : Type} {wi : TI} {g : TG} {te : TE} {vs : List Nat} (i : α → D) {PX : List α → Prop} (R : α → D → Prop) (hi : EvIO c wi δ (fun its => ∃ xs, its = xs.map i ∧ PX xs)) (hz : ∀ xs, PX xs → xs.length ≤ 100000)
    (hb : ∀ l acc xs x, PX xs → x ∈ xs → ∃ js δ', EvG g js (wipeD δ vs) (i x) δ' ∧ (∀ k ∈ js, k ∈ vs) ∧ Ev (c.push l acc) te δ' (R x)) : EvN c (tLc wi g tYes te vs) δ (fun es => ∃ xs, PX xs ∧ All2 R xs es) :=
  (en_lcX i (fun _ => true) R hi hz fun l acc xs x p hx => let ⟨js, δ', a, b, e⟩ := hb l acc xs x p hx; ⟨js, δ', a, b, et_yes, fun _ => e⟩).mono fun es ⟨xs, p, ha⟩ => ⟨xs, p, by
    rw [List.filter_eq_self.mpr fun _ _ => rfl] at ha; exact ha⟩

/-- an int of a natural number -/
def nD (k : Nat) : D := .int (k : Int)
theorem ran_nD (n : Nat) : ranD 0 n = (List.range n).map nD := by
  unfold ranD nD
  exact List.map_congr_left fun k _ => by rw [Int.zero_add]
/-- range(n), n not below 0 -/
theorem ei_rng {ta : TA} {n : Nat} (h : EvA c ta δ (· = [.int (n : Int)])) (hn : n ≤ 100000) : EvI c (iRng1 ta) δ (· = (List.range n).map nD) := fun σ H R s q => ei_rng1 h (by omega) (by omega) σ H R s fun J H1 its a b e p => q J H1 its a b e (by rw [p, ← ran_nD]; rfl)
/-- [e for x in range(n)] -/
theorem en_ran {ta : TA} {g : TG} {te : TE} {vs : List Nat} {n : Nat} (f : Nat → D) (h : EvA c ta δ (· = [.int (n : Int)])) (hn : n ≤ 100000)
    (hb : ∀ l acc k, k < n → ∃ js δ', EvG g js (wipeD δ vs) (nD k) δ' ∧ (∀ k ∈ js, k ∈ vs) ∧ Ev (c.push l acc) te δ' (· = f k)) : EvN c (tLc (iRng1 ta) g tYes te vs) δ (· = (List.range n).map f) :=
  en_lcM (List.range n) nD f (EvI.o (ei_rng h hn)) (by simpa using hn) fun l acc k hk => hb l acc k (List.mem_range.mp hk)
/-- [e for x in xs] -/
theorem en_lst' {α : Type} {K : PySem.W.Frag} {tl : TE} {g : TG} {te : TE} {vs : List Nat} (xs : List α) (i f : α → D) (h : Ev c tl δ (· = .lst (xs.map i))) (hn : xs.length ≤ 100000)
    (hb : ∀ l acc x, x ∈ xs → ∃ js δ', EvG g js (wipeD δ vs) (i x) δ' ∧ (∀ k ∈ js, k ∈ vs) ∧ Ev (c.push l acc) te δ' (· = f x)) : EvN c (tLc (iList K tl) g tYes te vs) δ (· = xs.map f) :=
  en_lcM xs i f (EvI.o (ei_list h)) hn hb
theorem en_tup' {α : Type} {K : PySem.W.Frag} {tl : TE} {g : TG} {te : TE} {vs : List Nat} (xs : List α) (i f : α → D) (h : Ev c tl δ (· = .tup (xs.map i))) (hn : xs.length ≤ 100000)
    (hb : ∀ l acc x, x ∈ xs → ∃ js δ', EvG g js (wipeD δ vs) (i x) δ' ∧ (∀ k ∈ js, k ∈ vs) ∧ Ev (c.push l acc) te δ' (· = f x)) : EvN c (tLc (iTup K tl) g tYes te vs) δ (· = xs.map f) :=
  en_lcM xs i f (EvI.o (ei_tup h)) hn hb

/-! ### for, while -/
def NxI (I : Ct → List Sl → Prop) : L2.St → Hp → Prop := fun σ H => ∃ c δ, I c δ ∧ Sta c δ σ H
/-- a for: I by the heap at its start and the turn -/
theorem sd_for {wi : TI} {g : TG} {tb : TS} {its : List D} (hi : EvI c wi δ (· = its)) (I : Hp → Nat → Ct → List Sl → Prop) (h0 : ∀ H1, I H1 0 (c.loop H1) δ)
    (hk : ∀ H1 i c1 δ1, I H1 i c1 δ1 → c1.kp = (H1, c.wl) :: c.kp ∧ (∀ b ∈ c1.M, b ∈ c.M ∨ H1 b = none))
    (hs : ∀ H1 i d c1 δ1, its[i]? = some d → I H1 i c1 δ1 → ∃ js δ2, EvG g js δ1 d δ2 ∧ Sd c1 tb δ2 { Dn with nx := NxI (I H1 (i + 1)), ct := NxI (I H1 (i + 1)), bk := Dn.nx })
    (hd : ∀ H1 c1 δ1, I H1 its.length c1 δ1 → Nx { c1 with kp := c.kp } δ1 Dn.nx) : Sd c (tFor wi g tb) δ Dn := fun σ H s => hi σ H _ s fun J H1 its' s1 e1 src p => by
  subst p
  refine ⟨fun i m σ H => m = its'.length - i ∧ i ≤ its'.length ∧ ∃ c1 δ1, I H1 i c1 δ1 ∧ Sta c1 δ1 σ H, ⟨its'.length, rfl, Nat.zero_le _, c.loop H1, δ, h0 H1, s1.loop⟩, ?_⟩
  rintro i m σ2 H2 ⟨rfl, hi2, c1, δ1, hI, st⟩
  obtain ⟨k1, k2⟩ := hk H1 i c1 δ1 hI
  have ex : Ext c.M H1 H2 := (st.kps (H1, c.wl) (by rw [k1]; exact List.mem_cons_self)).sub s1.wlM
  obtain ⟨go, stop⟩ := src H2 c1.M ex st.good k2
  by_cases hlt : i < its'.length
  · obtain ⟨go1, go2⟩ := go i hlt
    refine .inr ⟨go1, NxI (I H1 (i + 1)), fun σ3 H3 ⟨c3, δ3, i3, s3⟩ => ⟨its'.length - (i + 1), by omega, rfl, hlt, c3, δ3, i3, s3⟩, fun x H3 y => ?_⟩
    obtain ⟨sm, d, hdd, rd⟩ := go2 x H3 y
    obtain ⟨js, δ2, hg, hb⟩ := hs H1 i d c1 δ1 hdd hI
    exact hg c1 σ2 H3 x _ (st.same sm) rd fun σ4 s4 _ _ => hb σ4 H3 s4
  · have ei : i = its'.length := by omega
    subst ei
    exact .inl ⟨stop, hd H1 c1 δ1 hI σ2 H2 (st.unloop k1)⟩
theorem sd_while {tt : TT} {tb : TS} (I : Nat → Ct → List Sl → Prop) (m0 : Nat) (h0 : I m0 c δ)
    (hs : ∀ m c1 δ1, I m c1 δ1 → ∃ P : Bool → Prop, EvT c1 tt δ1 P ∧ (P true → Sd c1 tb δ1 { Dn with nx := NxI (fun c2 δ2 => ∃ m', m' < m ∧ I m' c2 δ2), ct := NxI (fun c2 δ2 => ∃ m', m' < m ∧ I m' c2 δ2), bk := Dn.nx }) ∧ (P false → Nx c1 δ1 Dn.nx)) : Sd c (tWhile tt tb) δ Dn := fun σ H s => by
  refine ⟨fun m σ H => ∃ c1 δ1, I m c1 δ1 ∧ Sta c1 δ1 σ H, ⟨m0, c, δ, h0, s⟩, ?_⟩
  rintro m σ1 H1 ⟨c1, δ1, hI, st⟩
  obtain ⟨P, ht, hT, hF⟩ := hs m c1 δ1 hI
  refine ht σ1 H1 _ st fun b H2 s2 _ pb => ?_
  cases b with
  | true => exact iteT ⟨_, fun σ' H' ⟨c2, δ2, ⟨m', lt, i2⟩, s3⟩ => ⟨m', lt, c2, δ2, i2, s3⟩, hT pb σ1 H2 s2⟩
  | false => exact iteF (hF pb σ1 H2 s2)

/-! ### a def's body -/
theorem start_slots {M : List Addr} {H : Hp} {vs : List V} {ds : List D} (r : Reps M H vs ds) (N : List Str) : SlotOk M H (ds.map (fun d => some (.inl d)) ++ List.replicate (N.length - ds.length) none) (L2.start N vs) := by
  refine ⟨by simp [L2.start, r.len], fun i => ?_⟩
  by_cases hi : i < ds.length
  · have hv : i < vs.length := by rw [r.len]; exact hi
    obtain ⟨v, e, rv⟩ := r.get (List.getElem?_eq_getElem hi)
    have e1 : (L2.start N vs)[i]? = some (some v) := by
      unfold L2.start
      rw [List.getElem?_append_left (by simpa using hv), List.getElem?_map, e]; rfl
    have e2 : (ds.map (fun d => (some (.inl d) : Sl)) ++ List.replicate (N.length - ds.length) none)[i]? = some (some (.inl ds[i])) := by
      rw [List.getElem?_append_left (by simpa using hi), List.getElem?_map, List.getElem?_eq_getElem hi]; rfl
    rw [e1, e2]
    exact ⟨(fun d q => by cases q; exact ⟨v, rfl, rv⟩), (fun l q => by cases q)⟩
  · have e2 : ∀ x, (ds.map (fun d => (some (.inl d) : Sl)) ++ List.replicate (N.length - ds.length) none)[i]? ≠ some (some x) := fun x => by
      rw [List.getElem?_append_right (by simpa using hi), List.getElem?_replicate]
      split <;> intro z <;> cases z
    exact ⟨(fun d q => absurd q (e2 _)), (fun l q => absurd q (e2 _))⟩
/-- the state at a pure def's entry -/
theorem body_P {R : List D → (D → Prop) → Prop} {t : TS} {N : List Str} {vs : List V} {H : Hp} {Q : VK} {E : XK} (h : spP R vs H Q E)
    (k : ∀ M ds P, R ds P → Rt ⟨H, [], M, none, [], M, [], []⟩ Q P → Sd ⟨H, [], M, none, [], M, [], []⟩ t (ds.map (fun d => some (.inl d)) ++ List.replicate (N.length - ds.length) none) { nx := fun _ H' => Q .non H', rt := Q }) :
    t { nx := fun _ H' => Q .non H', rt := Q } (L2.start N vs) H := by
  obtain ⟨M, ds, P, g, r, hR, q⟩ := h
  refine k M ds P hR (fun v H' d e _ _ rv p => q v H' d (fun b o hb => e b o (by simp) hb) rv p) _ H ⟨fun b hb => (g b hb).1, fun _ hb => hb, (fun b hb => by simp at hb), (fun q hq => by simp at hq), Ext.refl _ _, (fun q hq => by simp at hq), (fun p hp => by simp at hp), List.nodup_nil, (fun j ej => by cases ej), start_slots r N, fun b hb => (g b hb).2, fun p hp => by cases hp⟩
theorem start_jar {M : List Addr} {H : Hp} {ws : List V} {ds : List D} {j : Addr} (r : Reps M H ws ds) (N : List Str) (hN : 0 < N.length) : SlotOk M H (some (.inr j) :: ds.map (fun d => some (.inl d)) ++ List.replicate (N.length - (ds.length + 1)) none) (L2.start N (.ref j :: ws)) := by
  have e : L2.start N (.ref j :: ws) = some (.ref j) :: L2.start (N.drop 1) ws := by
    unfold L2.start
    simp only [List.map_cons, List.cons_append, List.length_cons, List.length_drop]
    rw [show N.length - (ws.length + 1) = N.length - 1 - ws.length by omega]
  have e2 : N.length - (ds.length + 1) = (N.drop 1).length - ds.length := by simp; omega
  rw [e, e2]
  have s := start_slots r (N.drop 1)
  refine ⟨by simpa using s.1, fun i => ?_⟩
  cases i with
  | zero => exact ⟨(fun d q => by cases q), (fun l q => by cases q; rfl)⟩
  | succ i => exact s.2 i
theorem body_J {R : List D → (D → Prop) → Prop} {t : TS} {N : List Str} {vs : List V} {H : Hp} {Q : VK} {E : XK} (h : spJ R vs H Q E) (hN : 0 < N.length)
    (k : ∀ M ds P j, R ds P → Rt ⟨H, [j], M, some j, [], M, [], []⟩ Q P → Sd ⟨H, [j], M, some j, [], M, [], []⟩ t (some (.inr j) :: ds.map (fun d => some (.inl d)) ++ List.replicate (N.length - (ds.length + 1)) none) { nx := fun _ H' => Q .non H', rt := Q }) :
    t { nx := fun _ H' => Q .non H', rt := Q } (L2.start N vs) H := by
  obtain ⟨M, ds, P, j, ws, rfl, hj, g, jar, r, hR, q⟩ := h
  refine k M ds P j hR (fun v H' d e ja _ rv p => q v H' d e (ja j rfl) rv p) _ H ⟨fun b hb => (g b hb).1, fun _ hb => hb, (fun b hb => by rw [List.mem_singleton.mp hb]; exact hj), (fun q hq => by simp at hq), Ext.refl _ _, (fun q hq => by simp at hq), (fun p hp => by simp at hp), List.nodup_nil, fun j2 ej => ?_, start_jar r N hN, fun b hb => (g b hb).2, fun p hp => by cases hp⟩
  · cases ej
    exact ⟨hj, List.mem_singleton.mpr rfl, (fun q hq => by simp at hq), jar⟩
theorem body_T {T : List (Addr × Str)} {R : List D → (D → Prop) → Prop} {t : TS} {N : List Str} {vs : List V} {H : Hp} {Q : VK} {E : XK} (h : spT T R vs H Q E)
    (k : ∀ M ds P, R ds P → Rt ⟨H, T.map (·.1), M, none, T, M, [], []⟩ Q P → Sd ⟨H, T.map (·.1), M, none, T, M, [], []⟩ t (ds.map (fun d => some (.inl d)) ++ List.replicate (N.length - ds.length) none) { nx := fun _ H' => Q .non H', rt := Q }) :
    t { nx := fun _ H' => Q .non H', rt := Q } (L2.start N vs) H := by
  obtain ⟨M, ds, P, g, ht, r, hR, q⟩ := h
  refine k M ds P hR (fun v H' d e _ z rv p => q v H' d e z rv p) _ H ⟨fun b hb => (g b hb).1, fun _ hb => hb, fun b hb => ?_, (fun q hq => by simp at hq), Ext.refl _ _, (fun q hq => by simp at hq), (fun p hp => by simp at hp), List.nodup_nil, (fun j ej => by cases ej), start_slots r N, fun b hb => (g b hb).2, fun p hp => ⟨(ht p hp).1, List.mem_map_of_mem (f := (·.1)) hp, (fun q hq => by simp at hq), (ht p hp).2⟩⟩
  obtain ⟨p, hp, ep⟩ := List.mem_map.mp hb
  exact (show p.1 = b from ep) ▸ (ht p hp).1
theorem body_JT {T : List (Addr × Str)} {R : List D → (D → Prop) → Prop} {t : TS} {N : List Str} {vs : List V} {H : Hp} {Q : VK} {E : XK} (h : spJT T R vs H Q E) (hN : 0 < N.length)
    (k : ∀ M ds P j, R ds P → Rt ⟨H, j :: T.map (·.1), M, some j, T, M, [], []⟩ Q P → Sd ⟨H, j :: T.map (·.1), M, some j, T, M, [], []⟩ t (some (.inr j) :: ds.map (fun d => some (.inl d)) ++ List.replicate (N.length - (ds.length + 1)) none) { nx := fun _ H' => Q .non H', rt := Q }) :
    t { nx := fun _ H' => Q .non H', rt := Q } (L2.start N vs) H := by
  obtain ⟨M, ds, P, j, ws, rfl, hj, g, jar, ht, r, hR, q⟩ := h
  refine k M ds P j hR (fun v H' d e ja z rv p => q v H' d e (ja j rfl) z rv p) _ H ⟨fun b hb => (g b hb).1, fun _ hb => hb, fun b hb => ?_, (fun q hq => by simp at hq), Ext.refl _ _, (fun q hq => by simp at hq), (fun p hp => by simp at hp), List.nodup_nil, fun j2 ej => ?_, start_jar r N hN, fun b hb => (g b hb).2,
    fun p hp => ⟨(ht p hp).1, List.mem_cons_of_mem _ (List.mem_map_of_mem (f := (·.1)) hp), (fun q hq => by simp at hq), (ht p hp).2⟩⟩
  · rcases List.mem_cons.mp hb with z | z
    · rw [z]; exact hj
    · obtain ⟨p, hp, ep⟩ := List.mem_map.mp z
      exact (show p.1 = b from ep) ▸ (ht p hp).1
  · cases ej
    exact ⟨hj, List.mem_cons_self, (fun q hq => by simp at hq), jar⟩
end
end E
/-! DFn: a def by its name: where it stands, what it promises. -/
namespace E
open PySem PySem.Spec PyProof.Rows L2

/-- the def st stands at the module's name x -/
structure Has (K : PySem.W.Frag) (mg : Str → Option Value) (x : Str) (st : Stmt) (ps : List Str) : Prop where
  ex : ∃ f fd, Fun K x x st f fd ∧ mg x = some (.ref f) ∧ Binds K fd ps []
/-- the module's name x can be called and keeps the promise sp -/
structure Cal (P : Program) (w : World) (K : PySem.W.Frag) (mg : Str → Option Value) (base : Heap) (x : Str) (k : Nat) (ps : List Str) (sp : Sp) : Prop where
  ex : ∃ f fd, FnOk P w K mg base CX0 k f fd ps sp ∧ mg x = some (.ref f) ∧ PySem.W.keepIn K (.ref f) = true ∧ Binds K fd ps []
theorem pe_cal {X : Cx} {x : Str} {k : Nat} {ps : List Str} {sp : Sp} {t : TA} {e : Expr} {es : List Expr} {p pos : Pos} (C : Cal X.prog X.w X.K X.mg X.base x k ps sp) (hr : Room k X.A) (hg : Gl X x) (ha : PA X (e :: es) t)
    (hdb : (x == ("__debug__" : Str)) = false := by decide) (he : starEach (e :: es) X.env = (false, eval e X.env) :: starEach es X.env := by rfl) (hpl : (backTo pos (starEach es X.env)).any (·.1) = false := by rfl) :
    PE X (.Call (.Name x p) (e :: es) [] pos) (tCall sp [] E0 t) := by
  obtain ⟨f, fd, F, hm, kp, b⟩ := C.ex
  exact pe_call F hr hg hm kp b .nil pass0 ha (hdb := hdb) (he := he) (hpl := hpl)
section
variable {P : Program} {w : World} {K : PySem.W.Frag} {mg : Str → Option Value} {base : Heap}
theorem mkP {x : Str} {st : Stmt} {N ps : List Str} {k : Nat} {R : List D → (D → Prop) → Prop} (h : Has K mg x st ps) (S : FnScope N ps (defScope st)) (hl : ∀ ds P, R ds P → ds.length = ps.length)
    (hb : ∀ (cdv : Value) (A : Around) (outer : List Env) (s : Shared) (H : Hp) (Q : VK) (E : XK) (f : Addr), Room k (A.deeper (envOfC x (defScope st) s.heap.objs.size f cdv)) →
      ∃ t, PSs (cxOf CX0 P w K mg base N x (defScope st) f cdv A outer s H E).nox (defBody st) t ∧
        ∀ M ds P', R ds P' → Rt ⟨H, [], M, none, [], M, [], []⟩ Q P' → Sd ⟨H, [], M, none, [], M, [], []⟩ t (ds.map (fun d => some (.inl d)) ++ List.replicate (N.length - ds.length) none) { nx := fun _ H' => Q .non H', rt := Q }) :
    Cal P w K mg base x (k + 1) ps (spP R) := by
  obtain ⟨f, fd, F, hm, b⟩ := h.ex
  refine ⟨f, fd, F.ok S (fun vs H Q E h => ?_) (fun cdv A outer s H vs Q E hr h => ?_), hm, F.kp, b⟩
  · obtain ⟨M, ds, P', _, r, hR, _⟩ := h
    rw [r.len]; exact hl ds P' hR
  · obtain ⟨t, d, q⟩ := hb cdv A outer s H Q E f hr
    exact ⟨t, d, body_P h q⟩
theorem mkJ {x : Str} {st : Stmt} {N ps : List Str} {k : Nat} {R : List D → (D → Prop) → Prop} (h : Has K mg x st ps) (S : FnScope N ps (defScope st)) (hl : ∀ ds P, R ds P → ds.length + 1 = ps.length) (hN : 0 < N.length)
    (hb : ∀ (cdv : Value) (A : Around) (outer : List Env) (s : Shared) (H : Hp) (Q : VK) (E : XK) (f : Addr), Room k (A.deeper (envOfC x (defScope st) s.heap.objs.size f cdv)) →
      ∃ t, PSs (cxOf CX0 P w K mg base N x (defScope st) f cdv A outer s H E).nox (defBody st) t ∧
        ∀ M ds P' j, R ds P' → Rt ⟨H, [j], M, some j, [], M, [], []⟩ Q P' → Sd ⟨H, [j], M, some j, [], M, [], []⟩ t (some (.inr j) :: ds.map (fun d => some (.inl d)) ++ List.replicate (N.length - (ds.length + 1)) none) { nx := fun _ H' => Q .non H', rt := Q }) :
    Cal P w K mg base x (k + 1) ps (spJ R) := by
  obtain ⟨f, fd, F, hm, b⟩ := h.ex
  refine ⟨f, fd, F.ok S (fun vs H Q E h => ?_) (fun cdv A outer s H vs Q E hr h => ?_), hm, F.kp, b⟩
  · obtain ⟨M, ds, P', j, ws, rfl, _, _, _, r, hR, _⟩ := h
    rw [List.length_cons, r.len]; exact hl ds P' hR
  · obtain ⟨t, d, q⟩ := hb cdv A outer s H Q E f hr
    exact ⟨t, d, body_J h hN q⟩
theorem mkT {T : List (Addr × Str)} {x : Str} {st : Stmt} {N ps : List Str} {k : Nat} {R : List D → (D → Prop) → Prop} (h : Has K mg x st ps) (S : FnScope N ps (defScope st)) (hl : ∀ ds P, R ds P → ds.length = ps.length)
    (hb : ∀ (cdv : Value) (A : Around) (outer : List Env) (s : Shared) (H : Hp) (Q : VK) (E : XK) (f : Addr), Room k (A.deeper (envOfC x (defScope st) s.heap.objs.size f cdv)) →
      ∃ t, PSs (cxOf CX0 P w K mg base N x (defScope st) f cdv A outer s H E).nox (defBody st) t ∧
        ∀ M ds P', R ds P' → Rt ⟨H, T.map (·.1), M, none, T, M, [], []⟩ Q P' → Sd ⟨H, T.map (·.1), M, none, T, M, [], []⟩ t (ds.map (fun d => some (.inl d)) ++ List.replicate (N.length - ds.length) none) { nx := fun _ H' => Q .non H', rt := Q }) :
    Cal P w K mg base x (k + 1) ps (spT T R) := by
  obtain ⟨f, fd, F, hm, b⟩ := h.ex
  refine ⟨f, fd, F.ok S (fun vs H Q E h => ?_) (fun cdv A outer s H vs Q E hr h => ?_), hm, F.kp, b⟩
  · obtain ⟨M, ds, P', _, _, r, hR, _⟩ := h
    rw [r.len]; exact hl ds P' hR
  · obtain ⟨t, d, q⟩ := hb cdv A outer s H Q E f hr
    exact ⟨t, d, body_T h q⟩
theorem mkJT {T : List (Addr × Str)} {x : Str} {st : Stmt} {N ps : List Str} {k : Nat} {R : List D → (D → Prop) → Prop} (h : Has K mg x st ps) (S : FnScope N ps (defScope st)) (hl : ∀ ds P, R ds P → ds.length + 1 = ps.length) (hN : 0 < N.length)
    (hb : ∀ (cdv : Value) (A : Around) (outer : List Env) (s : Shared) (H : Hp) (Q : VK) (E : XK) (f : Addr), Room k (A.deeper (envOfC x (defScope st) s.heap.objs.size f cdv)) →
      ∃ t, PSs (cxOf CX0 P w K mg base N x (defScope st) f cdv A outer s H E).nox (defBody st) t ∧
        ∀ M ds P' j, R ds P' → Rt ⟨H, j :: T.map (·.1), M, some j, T, M, [], []⟩ Q P' → Sd ⟨H, j :: T.map (·.1), M, some j, T, M, [], []⟩ t (some (.inr j) :: ds.map (fun d => some (.inl d)) ++ List.replicate (N.length - (ds.length + 1)) none) { nx := fun _ H' => Q .non H', rt := Q }) :
    Cal P w K mg base x (k + 1) ps (spJT T R) := by
  obtain ⟨f, fd, F, hm, b⟩ := h.ex
  refine ⟨f, fd, F.ok S (fun vs H Q E h => ?_) (fun cdv A outer s H vs Q E hr h => ?_), hm, F.kp, b⟩
  · obtain ⟨M, ds, P', j, ws, rfl, _, _, _, _, r, hR, _⟩ := h
    rw [List.length_cons, r.len]; exact hl ds P' hR
  · obtain ⟨t, d, q⟩ := hb cdv A outer s H Q E f hr
    exact ⟨t, d, body_JT h hN q⟩
end
/-- built-in names that the module does not bind -/
structure Bi (mg : Str → Option Value) : Prop where
  len : mg "len" = none
  tuple : mg "tuple" = none
  list : mg "list" = none
  range : mg "range" = none
  int : mg "int" = none
  str : mg "str" = none
  bool : mg "bool" = none
  dict : mg "dict" = none
  abs : mg "abs" = none
  min : mg "min" = none
  sum : mg "sum" = none
  all : mg "all" = none
  zip : mg "zip" = none
  enumerate : mg "enumerate" = none
  sorted : mg "sorted" = none
  isinstance : mg "isinstance" = none
  gcd : mg "gcd" = some (.builtin "math.gcd")
  lcm : mg "lcm" = some (.builtin "math.lcm")
end E
/-! DOps: short names of the readings that the printed derivations use; some rules more. -/
namespace E
open PySem PySem.Spec PyProof.Rows L2
abbrev rAddI : R2 := rI0 fun i j => .int (i + j)
abbrev rSubI : R2 := rI0 fun i j => .int (i - j)
/-- factors of together less than 2 ^ 26 bits -/
def CMulI (i j : Int) : Prop := i.natAbs.log2 + j.natAbs.log2 < 100000000
abbrev rMulI : R2 := rI CMulI fun i j => .int (i * j)
abbrev rModI : R2 := rI (fun _ j => j ≠ 0) fun i j => .int (i.fmod j)
abbrev rDivI : R2 := rI (fun _ j => j ≠ 0) fun i j => .int (i.fdiv j)
abbrev rAndI : R2 := rI0 fun i j => .int (Builtin.bitAnd i j)
abbrev rShrI : R2 := rI (fun _ j => 0 ≤ j) fun i j => .int (i / 2 ^ j.toNat)
abbrev rPowI : R2 := rI CPow fun i j => .int (i ^ j.toNat)
abbrev rNegI : V → Hp → VK → Prop := rU fun i => .int (-i)
abbrev rLtI : R2 := rI0 fun i j => .bl (decide (i < j))
abbrev rLeI : R2 := rI0 fun i j => .bl (decide (i ≤ j))
abbrev rGtI : R2 := rI0 fun i j => .bl (decide (j < i))
abbrev rGeI : R2 := rI0 fun i j => .bl (decide (j ≤ i))
abbrev rAddS : R2 := fun x y H Q => ∃ i j, x = .str i ∧ y = .str j ∧ i.length + j.length ≤ sizeLine ∧ Q (.str (i ++ j)) H
abbrev tTru (K : PySem.W.Frag) (ta : TE) : TT := fun σ H Q => ta σ H fun x H' => ∃ k, TruV K x H' k ∧ Q k H'
abbrev rLenT : List V → Hp → VK → Prop := fun xs H Q => ∃ z, xs = [.str z] ∧ z.length ≤ sizeLine ∧ Q (.int z.length) H
abbrev rLenQ (K : PySem.W.Frag) : List V → Hp → VK → Prop := fun xs H Q => ∃ p ys, xs = [.ref p] ∧ (SqL K H p ys ∨ SqT K H p ys) ∧ Q (.int ys.length) H
abbrev rListQ (K : PySem.W.Frag) : List V → Hp → VK → Prop := fun xs H Q => ∃ p ys, xs = [.ref p] ∧ (SqL K H p ys ∨ SqT K H p ys) ∧ ∀ l, H l = none → Q (.ref l) (upd H l (.lst ys))
abbrev rTupQ (K : PySem.W.Frag) : List V → Hp → VK → Prop := fun xs H Q => ∃ p ys, xs = [.ref p] ∧ ((SqL K H p ys ∧ ∀ l, H l = none → Q (.ref l) (upd H l (.tup ys))) ∨ (SqT K H p ys ∧ Q (.ref p) H))
abbrev rIntS : List V → Hp → VK → Prop := fun xs H Q => ∃ a n, xs = [.str a] ∧ PySem.intText? a = some n ∧ a.length ≤ 640 ∧ Q (.int n) H
abbrev rInt1 : List V → Hp → VK → Prop := fun xs H Q => (∃ i, xs = [.int i] ∧ Q (.int i) H) ∨ ∃ k, xs = [.bl k] ∧ Q (.int (if k then 1 else 0)) H
abbrev rStrI : List V → Hp → VK → Prop := fun xs H Q => ∃ i, xs = [.int i] ∧ i.natAbs.log2 < 1920 ∧ Q (.str (toString i)) H
abbrev rAbs : List V → Hp → VK → Prop := fun xs H Q => ∃ i, xs = [.int i] ∧ Q (.int (if i < 0 then -i else i)) H
abbrev rMin2 : List V → Hp → VK → Prop := fun xs H Q => ∃ i j, xs = [.int i, .int j] ∧ Q (.int (if j < i then j else i)) H
abbrev rSplit : V → List V → Hp → VK → Prop := fun x xs H Q => ∃ a b, x = .str a ∧ xs = [.str b] ∧ (b.length == 0) = false ∧ a.length + 2 ≤ sizeLine ∧ rNewStrs (Txt.split a b) H Q
abbrev rStarts : V → List V → Hp → VK → Prop := fun x xs H Q => ∃ a b, x = .str a ∧ xs = [.str b] ∧ Q (.bl (Txt.startswith a b)) H
abbrev rIsDigit : V → List V → Hp → VK → Prop := fun x xs H Q => ∃ a, x = .str a ∧ xs = [] ∧ True ∧ Q (.bl (Txt.isdigit a)) H
abbrev tJoin (ts : List TE) : TE := fun σ H Q => tJs ts Str.empty σ H fun out H1 => Q (.str out) H1

section
variable {X : Cx}
theorem bits_le (x : Int) : Builtin.Int.intBits x ≤ x.natAbs.log2 + 1 := by
  rw [Builtin.Int.intBits]
  by_cases h : x = 0 <;> simp [h]
theorem CMulI.ok {i j : Int} (h : CMulI i j) : IntMulOk i j := fun z => by
  have bi := bits_le i; have bj := bits_le j
  have hs : i.natAbs.log2 + j.natAbs.log2 < 100000000 := h
  have lim : bitsLine = 134217728 := by decide
  have big := of_decide_eq_true (show decide _ = true from (Bool.and_eq_true_iff.mp z).2)
  rw [lim] at big
  omega
theorem op_mulI : OpR X (binaryOp .Mult) rMulI := opI fun _ _ _ _ _ _ _ hc q => mul_int q (CMulI.ok hc)

/-- what // of numbers of any size asks of where one stands -/
structure Far (X : Cx) : Prop where
  seer : X.base.NoSeer
  tree : X.prog.given.tree = none
  st : ∃ env l, X.stack = env :: l ∧ env.scope.isGenerator = false ∧ env.scope.isCoroutine = false ∧ env.builtins = builtinsNs ∧ env.globals = mainGlobals
  room : Room 40 X.A
theorem Far.at {pins : List (Addr × Obj)} {σ : L2.St} {H : Hp} {s : Shared} (F : Far X) (I : Inv X pins σ H s) : PySem.PylongRoom (model X.prog X.w) X.A s := by
  obtain ⟨env, l, e, g, co, b, gl⟩ := F.st
  have fr : X.A.frames = some (env :: l) := I.ok.frames.trans (by rw [e])
  have hd := F.room.dp
  exact PySem.PylongRoom.of I.nolimit (show X.A.depth + 100 < recursionLimit by omega) (PySem.SeerAt.of (F.seer.keeps I.bk) F.tree fr g co b gl)
theorem op_divI (F : Far X) : OpR X (binaryOp .FloorDiv) rDivI := by
  intro pins s σ H x y v u Q I rx ry h
  obtain ⟨i, j, rfl, rfl, hj, q⟩ := h
  obtain ⟨t, rfl⟩ := rx
  obtain ⟨t', rfl⟩ := ry
  exact floordiv_int hj ⟨.int _, H, I.tok _, ⟨_, rfl⟩, q⟩ (.inr (F.at I))
end
end E
/-! DZip: zip and enumerate over lists and tuples in any mix. -/
namespace E
open PySem PySem.Spec PyProof.Rows L2

/-- a list (k) or a tuple that is read -/
def SqK (K : PySem.W.Frag) (H : Hp) (k : Bool) (a : Addr) (xs : List V) : Prop := if k then SqL K H a xs else SqT K H a xs
/-- the iterator at it, over a, ahead of item i -/
def ItK (k : Bool) (h : Heap) (it a : Addr) (i : Nat) : Prop := if k then h.IsListIter it a i else h.IsTupleIter it a i
def ObK (k : Bool) (h : Heap) (a : Addr) (its : Array Value) : Prop := if k then h.IsList a its else h.IsTuple a its
theorem ItK.move {k : Bool} {h h' : Heap} {it a : Addr} {i : Nat} (x : ItK k h it a i) (f : ∀ o, h.get? it = some o → h'.get? it = some o) : ItK k h' it a i := by
  cases k
  · exact Heap.IsTupleIter.at x f
  · exact Heap.IsListIter.at x f
theorem ItK.there {k : Bool} {h : Heap} {it a : Addr} {i : Nat} (x : ItK k h it a i) : ∃ o, h.get? it = some o ∧ ∀ v, o.data ≠ .cell v := by
  cases k
  · obtain ⟨o, e, _, d⟩ := (show h.IsTupleIter it a i from x)
    exact ⟨o, e, fun v q => by rw [d] at q; cases q⟩
  · obtain ⟨o, e, _, d⟩ := (show h.IsListIter it a i from x)
    exact ⟨o, e, fun v q => by rw [d] at q; cases q⟩
section
variable {X : Cx} {pins : List (Addr × Obj)} {σ : L2.St} {H : Hp} {s : Shared} {k : Bool} {a : Addr} {xs : List V}
theorem sqk_obj (I : Inv X pins σ H s) (q : SqK X.K H k a xs) : ∃ its : Array Value, Vals xs its.toList ∧ ObK k s.heap a its ∧ a < s.heap.objs.size := by
  cases k
  · obtain ⟨its, r, p, _⟩ := I.tuple (show SqT X.K H a xs from q)
    obtain ⟨o, ho, _⟩ := id p
    exact ⟨its.toArray, by simpa using r, p, Heap.lt_size ho⟩
  · obtain ⟨its, r, p, _⟩ := I.list (show SqL X.K H a xs from q)
    exact ⟨its.toArray, by simpa using r, p.isList, p.lt⟩
theorem sqk_inj {ys : List V} (I : Inv X pins σ H s) (q : SqK X.K H k a xs) (q' : SqK X.K H k a ys) : xs = ys := by
  cases k
  · exact I.tuple_inj q q'
  · exact I.list_inj q q'
end
/-- what an iterator over such a thing draws -/
theorem drawsK {prog : Program} {w : World} {A : Around} (hh : A.handled = none) (k : Bool) (it a : Addr) (ne : a ≠ it) (its : Array Value) :
    Draws prog w A it [it, a] its.size (fun i v => its[i]? = some v) (fun i h => ItK k h it a i ∧ ObK k h a its) := by
  cases k
  · exact Draws.tuple hh it a ne its
  · exact Draws.list hh it a ne its
theorem beginsK (k : Bool) (a : Addr) (its : Array Value) : ∃ o : Obj, Begins (.ref a) o (fun h => ObK k h a its) ∧ ∀ (h : Heap) (b : Addr), h.get? b = some o → ItK k h b a 0 := by
  cases k
  · exact ⟨_, begins_tuple a its, fun h b e => ⟨_, e, rfl, rfl⟩⟩
  · exact ⟨_, begins_list a its, fun h b e => ⟨_, e, rfl, rfl⟩⟩

/-! ### zip -/
def ItZ (K : PySem.W.Frag) (k1 k2 : Bool) (a b : Addr) : It where
  go := fun i H => ∃ (xs ys : List V) (x y : V), SqK K H k1 a xs ∧ SqK K H k2 b ys ∧ xs[i]? = some x ∧ ys[i]? = some y
  yld := fun i H v H' => ∃ T x y, v = .ref T ∧ H T = none ∧ H' = upd H T (.tup [x, y]) ∧ (∀ xs, SqK K H k1 a xs → xs[i]? = some x) ∧ ∀ ys, SqK K H k2 b ys → ys[i]? = some y
  stop := fun i H => ∃ xs ys : List V, SqK K H k1 a xs ∧ SqK K H k2 b ys ∧ i ≤ xs.length ∧ i ≤ ys.length ∧ (i = xs.length ∨ i = ys.length)
/-- the addresses of a zip's own five objects -/
structure Five (z TI TO i1 i2 a b : Addr) : Prop where
  s1 : ZipSep2 z TI TO i1 i2 [i1, a] [i2, b]
  a1 : a ≠ i1
  b2 : b ≠ i2
  az : a ≠ z ∧ b ≠ z
theorem five_new {N a b : Nat} (ha : a < N) (hb : b < N) : Five (N + 4) (N + 2) (N + 3) N (N + 1) a b := by
  have e := zip_sep2 (N := N) (fp1 := [a]) (fp2 := [b]) (fun x hx => by rw [List.mem_singleton.mp hx]; exact ha) (fun x hx => by rw [List.mem_singleton.mp hx]; exact hb)
  exact ⟨e, Nat.ne_of_lt ha, (show (b : Nat) ≠ N + 1 by omega), (show (a : Nat) ≠ N + 4 by omega), (show (b : Nat) ≠ N + 4 by omega)⟩
theorem in5 {b z TI TO i1 i2 : Addr} (h : b ∈ [z, TI, TO, i1, i2]) : b = z ∨ b = TI ∨ b = TO ∨ b = i1 ∨ b = i2 := by simpa using h
theorem turn_Z {P : Program} {w : World} {K : PySem.W.Frag} {elts : List Expr} {kk : Nat} {tpos : Pos} {k1 k2 : Bool} {a b z TI TO i1 i2 : Addr} (F : Five z TI TO i1 i2 a b) :
    Turn P w K (.Tuple elts kk tpos) (ItZ K k1 k2 a b) [z, TI, TO, i1, i2] z (fun i h => IsZip h z TI TO .none ∧ IsTupOf2 h TI (.ref i1) (.ref i2) ∧ (∃ x y, IsTupOf2 h TO x y) ∧ ItK k1 h i1 a i ∧ ItK k2 h i2 b i) where
  mem := List.mem_cons_self
  obj := fun i h ⟨hz, hI, ⟨x, y, hO⟩, h1, h2⟩ c hc => by
    rcases in5 hc with rfl | rfl | rfl | rfl | rfl
    · exact ⟨_, hz, fun v q => nomatch q⟩
    · exact ⟨_, hI, fun v q => nomatch q⟩
    · exact ⟨_, hO, fun v q => nomatch q⟩
    · exact h1.there
    · exact h2.there
  keep := fun i h h' ⟨hz, hI, ⟨x, y, hO⟩, h1, h2⟩ kp => ⟨kp z (by simp) _ hz, kp TI (by simp) _ hI, ⟨x, y, kp TO (by simp) _ hO⟩, h1.move (kp i1 (by simp)), h2.move (kp i2 (by simp))⟩
  item := by
    intro X eP ew eK hc i pins s σ H E I hf st ⟨xs, ys, x, y, qx, qy, ex, ey⟩
    subst eP ew eK
    obtain ⟨hz, hI, ⟨x0, y0, hO⟩, h1, h2⟩ := st
    obtain ⟨ia, ra, oa, _⟩ := sqk_obj I qx
    obtain ⟨ib, rb, ob, _⟩ := sqk_obj I qy
    obtain ⟨u, hu, ru⟩ := ra.get ex
    obtain ⟨u', hu', ru'⟩ := rb.get ey
    have la : i < ia.size := by simpa using (List.getElem?_eq_some_iff.mp hu).1
    have lb : i < ib.size := by simpa using (List.getElem?_eq_some_iff.mp hu').1
    have hzl := Heap.lt_size hz
    have hnd : X.A.in1.handled = none := I.ok.hd hc
    refine wpAny_pyNext_zipD2_item F.s1 (drawsK hnd k1 i1 a F.a1 ia) (drawsK hnd k2 i2 b F.b2 ib) hz hI hO ⟨h1, oa⟩ ⟨h2, ob⟩ la lb fun v1 v2 h' tk p1 p2 hz' hO' s1' s2' hT hs kp => ?_
    have e1 : v1 = u := by
      have : ia[i]? = some u := by simpa using hu
      exact Option.some.inj (p1.symm.trans this)
    have e2 : v2 = u' := by
      have : ib[i]? = some u' := by simpa using hu'
      exact Option.some.inj (p2.symm.trans this)
    subst e1 e2
    refine ⟨_, rfl, wpAny_letOwnedTupleGo_zip (s := { s with heap := h', toks := tk }) hz' fun h'' hz'' sb => ?_⟩
    have nT : s.heap.objs.size ≠ z := Nat.ne_of_gt hzl
    have gT := (sb.2 _ nT).trans hT
    have ok : ObjOk X.prog X.w (upd H s.heap.objs.size (.tup [x, y])) h'' s.heap.objs.size (.tup [x, y]) := ⟨(show 2 ≤ sizeLine by decide), [v1, v2], .cons ru (.cons ru' .nil), ⟨_, gT, rfl, 0, rfl⟩⟩
    have I' : Inv X pins σ (upd H s.heap.objs.size (.tup [x, y])) { s with heap := h'', toks := tk } := I.turnedNew (ch := [z, TI, TO, i1, i2]) (fun c o hb q => by
      simp only [List.mem_cons, List.not_mem_nil, or_false, not_or] at hb
      exact (sb.2 c hb.1).trans (kp c o hb.1 hb.2.2.1 hb.2.2.2.1 hb.2.2.2.2 q)) hf (Nat.le_refl _) ok
    refine ⟨.ref s.heap.objs.size, _, I', rfl, ⟨_, x, y, rfl, I.hok.fresh (Nat.le_refl _), rfl, fun l hl => by rw [sqk_inj I hl qx]; exact ex, fun l hl => by rw [sqk_inj I hl qy]; exact ey⟩, ⟨hz'', ?_, ⟨v1, v2, ?_⟩, ?_, ?_⟩, fun c hm => ?_⟩
    · exact (sb.2 _ F.s1.TIz).trans (kp _ _ F.s1.TIz F.s1.TITO F.s1.TIi1 F.s1.TIi2 hI)
    · exact (sb.2 _ F.s1.TOz).trans hO'
    · exact s1'.1.move fun o q => (sb.2 _ (Ne.symm F.s1.zi1)).trans q
    · exact s2'.1.move fun o q => (sb.2 _ (Ne.symm F.s1.zi2)).trans q
    · have lt : c < s.heap.objs.size := by
        rcases in5 hm with rfl | rfl | rfl | rfl | rfl
        · exact hzl
        · exact Heap.lt_size hI
        · exact Heap.lt_size hO
        · exact let ⟨_, e, _⟩ := h1.there; Heap.lt_size e
        · exact let ⟨_, e, _⟩ := h2.there; Heap.lt_size e
      rw [upd_ne (Nat.ne_of_lt lt)]; exact (hf c hm).1
  done := by
    intro X eP ew eK hc i pins s σ H E I hf st ⟨xs, ys, qx, qy, l1, l2, hend⟩
    subst eP ew eK
    obtain ⟨hz, hI, ⟨x0, y0, hO⟩, h1, h2⟩ := st
    obtain ⟨ia, ra, oa, _⟩ := sqk_obj I qx
    obtain ⟨ib, rb, ob, _⟩ := sqk_obj I qy
    have na : xs.length = ia.size := by simpa using ra.length
    have nb : ys.length = ib.size := by simpa using rb.length
    have hnd : X.A.in1.handled = none := I.ok.hd hc
    refine wpAny_pyNext_zipD2_end F.s1 (drawsK hnd k1 i1 a F.a1 ia) (drawsK hnd k2 i2 b F.b2 ib) hz hI hO ⟨h1, oa⟩ ⟨h2, ob⟩ (by omega) (by omega) (by omega) fun h' tk kp => ⟨rfl, I.turnedL (ch := [z, TI, TO, i1, i2]) (fun c o hb q => by
      simp only [List.mem_cons, List.not_mem_nil, or_false, not_or] at hb
      exact kp c o hb.1 hb.2.2.1 hb.2.2.2.1 hb.2.2.2.2 q) hf⟩
  self := fun A i s Q E st h => wpAny_pyIter_zip st.1 h
def iZipS (K : PySem.W.Frag) (ta : TA) : TI := fun σ H R => ta σ H fun vs H1 => ∃ a b k1 k2 xs ys, vs = [.ref a, .ref b] ∧ SqK K H1 k1 a xs ∧ SqK K H1 k2 b ys ∧ R (ItZ K k1 k2 a b) H1
theorem pi_zipS {X : Cx} {e e2 : Expr} {ta : TA} {p pos tpos : Pos} {elts : List Expr} {kk : Nat} (hg : Gl X "zip") (hm : X.mg "zip" = none) (ha : PA X [e, e2] ta)
    (hs : starEach [e, e2] X.env = (false, eval e X.env) :: starEach [e2] X.env := by rfl) (hpl : (backTo pos (starEach [e2] X.env)).any (·.1) = false := by rfl) : PI X (.Tuple elts kk tpos) (.Call (.Name "zip" p) [e, e2] [] pos) (iZipS X.K ta) := ⟨fun pins s σ H R I h => by
  refine Call_ (ld_blt I hg hm PyProof.Rows.boot_zip (PyProof.Rows.callWith_type1 (thn (ha.run pos pins s σ H _ I h) fun us s1 hu => ?_) hs hpl))
  obtain ⟨vs, H1, I1, rv, a, b, k1, k2, xs, ys, rfl, qx, qy, hR⟩ := hu
  obtain ⟨u1, u2, rfl, r1, r2⟩ := Vals.two rv
  cases r1; cases r2
  obtain ⟨ia, ra, oa, la⟩ := sqk_obj I1 qx
  obtain ⟨ib, rb, ob, lb⟩ := sqk_obj I1 qy
  obtain ⟨o1, B1, b1⟩ := beginsK k1 a ia
  obtain ⟨o2, B2, b2⟩ := beginsK k2 b ib
  refine zip_begins2 B1 B2 oa ob fun h' hz hI hO g1 g2 hsz kp => wpAny_pyIter_zip hz ⟨_, [s1.heap.objs.size + 4, s1.heap.objs.size + 2, s1.heap.objs.size + 3, s1.heap.objs.size, s1.heap.objs.size + 1], _, _, H1, rfl, I1.kept (t' := s1.toks) kp, turn_Z (five_new la lb), ⟨hz, hI, ⟨_, _, hO⟩, b1 _ _ g1, b2 _ _ g2⟩, fun c hm => ?_, hR⟩
  have le : s1.heap.objs.size ≤ c := by
    rcases in5 hm with q | q | q | q | q <;> rw [q] <;> omega
  exact I1.fpOk le (I1.hok.fresh le)⟩

/-! ### enumerate -/
def ItE (K : PySem.W.Frag) (k : Bool) (a : Addr) : It where
  go := fun i H => ∃ (xs : List V) (x : V), SqK K H k a xs ∧ xs[i]? = some x
  yld := fun i H v H' => ∃ T x, v = .ref T ∧ H T = none ∧ H' = upd H T (.tup [.int (i : Nat), x]) ∧ ∀ xs, SqK K H k a xs → xs[i]? = some x
  stop := fun i H => ∃ xs : List V, SqK K H k a xs ∧ i = xs.length
theorem turn_E {P : Program} {w : World} {K : PySem.W.Frag} {elts : List Expr} {kk : Nat} {tpos : Pos} {k : Bool} {a e it : Addr} (ne : e ≠ it) (ae : a ≠ e) (ai : a ≠ it) :
    Turn P w K (.Tuple elts kk tpos) (ItE K k a) [e, it] e (fun i h => (∃ old, IsEnum h e it ((i : Nat) : Int) old) ∧ ItK k h it a i) where
  mem := List.mem_cons_self
  obj := fun i h ⟨⟨old, he⟩, hi⟩ c hc => by
    rcases (show c = e ∨ c = it by simpa using hc) with rfl | rfl
    · exact ⟨_, he, fun v q => nomatch q⟩
    · exact hi.there
  keep := fun i h h' ⟨⟨old, he⟩, hi⟩ kp => ⟨⟨old, kp e (by simp) _ he⟩, hi.move (kp it (by simp))⟩
  item := by
    intro X eP ew eK hc i pins s σ H E I hf ⟨⟨old, he⟩, hit⟩ ⟨xs, x, qx, ex⟩
    subst eP ew eK
    obtain ⟨ia, ra, oa, _⟩ := sqk_obj I qx
    obtain ⟨u, hu, ru⟩ := ra.get ex
    have la : i < ia.size := by simpa using (List.getElem?_eq_some_iff.mp hu).1
    have hel := Heap.lt_size he
    have hnd : X.A.in1.handled = none := I.ok.hd hc
    refine wpAny_pyNext_enum_itemC (drawsK hnd k it a ai ia) he ⟨hit, oa⟩ la ne (fun z => by rcases (show e = it ∨ e = a by simpa using z) with q | q; exact ne q; exact ae q.symm) fun v h' tk p1 ho st' hT hs kp => ?_
    have e1 : v = u := by
      have : ia[i]? = some u := by simpa using hu
      exact Option.some.inj (p1.symm.trans this)
    subst e1
    refine ⟨_, rfl, wpAny_letOwnedTupleGo_enum (s := { s with heap := h', toks := tk + 1 }) ho fun h'' he'' sb => ?_⟩
    have nT : s.heap.objs.size ≠ e := Nat.ne_of_gt hel
    have gT := (sb.2 _ nT).trans hT
    have ok : ObjOk X.prog X.w (upd H s.heap.objs.size (.tup [.int (i : Nat), x])) h'' s.heap.objs.size (.tup [.int (i : Nat), x]) := ⟨(show 2 ≤ sizeLine by decide), [.int i tk, v], .cons ⟨tk, rfl⟩ (.cons ru .nil), ⟨_, gT, rfl, 0, rfl⟩⟩
    have I' : Inv X pins σ (upd H s.heap.objs.size (.tup [.int (i : Nat), x])) { s with heap := h'', toks := tk + 1 } := I.turnedNew (ch := [e, it]) (fun c o hb q => by
      simp only [List.mem_cons, List.not_mem_nil, or_false, not_or] at hb
      exact (sb.2 c hb.1).trans (kp c o hb.1 hb.2 q)) hf (Nat.le_refl _) ok
    refine ⟨.ref s.heap.objs.size, _, I', rfl, ⟨_, x, rfl, I.hok.fresh (Nat.le_refl _), rfl, fun l hl => by rw [sqk_inj I hl qx]; exact ex⟩, ⟨⟨v, he''⟩, st'.1.move fun o q => (sb.2 _ (Ne.symm ne)).trans q⟩, fun c hm => ?_⟩
    have lt : c < s.heap.objs.size := by
      rcases (show c = e ∨ c = it by simpa using hm) with rfl | rfl
      · exact hel
      · exact let ⟨_, q, _⟩ := hit.there; Heap.lt_size q
    rw [upd_ne (Nat.ne_of_lt lt)]; exact (hf c hm).1
  done := by
    intro X eP ew eK hc i pins s σ H E I hf ⟨⟨old, he⟩, hit⟩ ⟨xs, qx, el⟩
    subst eP ew eK
    obtain ⟨ia, ra, oa, _⟩ := sqk_obj I qx
    have na : xs.length = ia.size := by simpa using ra.length
    have hnd : X.A.in1.handled = none := I.ok.hd hc
    have st : ItK k s.heap it a ia.size := by rw [← na, ← el]; exact hit
    obtain ⟨f0, f1, f2, f3, f4, f5⟩ := hf it (by simp)
    exact wpAny_pyNext_enum_endD (drawsK hnd k it a ai ia) he ⟨st, oa⟩ fun h' hx => ⟨rfl, I.turned (t' := s.toks) (fun b o nb q => hx b o nb q) f0 f1 f3 f4 f5⟩
  self := fun A i s Q E st h => let ⟨⟨_, he⟩, _⟩ := st; wpAny_pyIter_enum he h
theorem enum_made {v : Value} {o : Obj} {G : Heap → Prop} (B : Begins v o G) : Meets (Builtin.«enumerate.__new__» ⟨[.type "enumerate", v], []⟩) (fun _ R s => G s.heap ∧ R (.ok (.ret (.ref (s.heap.push o).objs.size)))
    { s with heap := (s.heap.push o).push { cls := .type "enumerate", data := .fields #[.none, .bool false, .ref s.heap.objs.size, rawInt 0, .none, .none] } }) := .of_wp fun prog w A R s hh => by
  rcases s with ⟨hp, gn, dr, tk, os⟩
  rcases hh with ⟨h1, h⟩
  have sub := sub_enumerate
  have bg : ∀ {A' : Around} {E : Value → Shared → Prop} {Q : Value → Shared → Prop}, Q (.ref hp.objs.size) ⟨hp.push o, gn, dr, tk, os⟩ → wpAny (model prog w) A' (pyIter v) Q E ⟨hp, gn, dr, tk, os⟩ := fun q => B.iter prog w _ _ _ _ h1 q
  wp_walk using bg
  refine wpAny_stack_any fun st => wpAny_pure ?_
  split
  next c _ _ _ _ _ => cases (c == Value.type "enumerate") <;> (wp_walk using bg; exact ⟨_, rfl, h⟩)
  next => wp_walk using bg; exact ⟨_, rfl, h⟩
theorem enum_call {prog : Program} {w : World} {A : Around} {Er : Value → Shared → Prop} {s : Shared} {v : Value} {o : Obj} {G : Heap → Prop} {Q : Value → Shared → Prop} (B : Begins v o G) (h1 : G s.heap)
    (h : ∀ h', IsEnum h' (s.heap.objs.size + 1) s.heap.objs.size 0 .none → h'.get? s.heap.objs.size = some o → (∀ b u, s.heap.get? b = some u → h'.get? b = some u) → Q (.ref (s.heap.objs.size + 1)) { s with heap := h' }) :
    wpAny (model prog w) A (call (.type "enumerate") [v]) Q Er s := by
  have hz : (s.heap.push o).objs.size = s.heap.objs.size + 1 := Heap.size_push ..
  refine callType_new F.called_enumerate (by decide) (F.typeCall_enumerate_1 _) (F.newCall_enumerate_1 _) (fun obj => F.args_object_init_2 obj _) F.entry_enumerate_new (enum_made B) ⟨h1, ?_⟩
  have g := Heap.get?_push_size (s.heap.push o) (o := { cls := .type "enumerate", data := .fields #[.none, .bool false, .ref s.heap.objs.size, rawInt 0, .none, .none] }) rfl
  rw [hz] at g
  refine ⟨⟨_, by rw [hz]; exact g, rfl⟩, ?_⟩
  rw [hz]
  exact h _ g (Heap.get?_push_of_some _ (Heap.get?_push_size _ B.free)) fun b u x => Heap.get?_push_of_some _ (Heap.get?_push_of_some _ x)
def iEnumS (K : PySem.W.Frag) (ta : TA) : TI := fun σ H R => ta σ H fun vs H1 => ∃ a k xs, vs = [.ref a] ∧ SqK K H1 k a xs ∧ R (ItE K k a) H1
theorem pi_enumS {X : Cx} {e : Expr} {ta : TA} {p pos tpos : Pos} {elts : List Expr} {kk : Nat} (hg : Gl X "enumerate") (hm : X.mg "enumerate" = none) (ha : PA X [e] ta) (hs : starEach [e] X.env = [(false, eval e X.env)] := by rfl) :
    PI X (.Tuple elts kk tpos) (.Call (.Name "enumerate" p) [e] [] pos) (iEnumS X.K ta) := ⟨fun pins s σ H R I h => by
  refine Call_ (ld_blt I hg hm boot_enumerate (PyProof.Rows.callWith_type1 (thn (ha.run pos pins s σ H _ I h) fun us s1 hu => ?_) hs rfl))
  obtain ⟨vs, H1, I1, rv, a, k, xs, rfl, qx, hR⟩ := hu
  obtain ⟨u1, rfl, r1⟩ := Vals.one rv
  cases r1
  obtain ⟨ia, ra, oa, la⟩ := sqk_obj I1 qx
  obtain ⟨o1, B1, b1⟩ := beginsK k a ia
  refine enum_call B1 oa fun h' he g1 kp => wpAny_pyIter_enum he ⟨_, [s1.heap.objs.size + 1, s1.heap.objs.size], _, _, H1, rfl, I1.kept (t' := s1.toks) kp, turn_E (Nat.succ_ne_self _) (Nat.ne_of_lt (Nat.lt_succ_of_lt la)) (Nat.ne_of_lt la), ⟨⟨.none, he⟩, b1 _ _ g1⟩, fun c hm => ?_, hR⟩
  have le : s1.heap.objs.size ≤ c := by
    rcases (show c = s1.heap.objs.size + 1 ∨ c = s1.heap.objs.size by simpa using hm) with q | q <;> rw [q] <;> omega
  exact I1.fpOk le (I1.hok.fresh le)⟩

/-! ### the same over data -/
section
variable {c : Ct} {δ : List Sl}
theorem sqk_of {K : PySem.W.Frag} {M : List Addr} {H : Hp} {v : V} {d : D} {ds : List D} (r : Rep M H v d) (h : seqD d = some ds) : ∃ a k vs, v = .ref a ∧ a ∉ M ∧ (H a = some (.lst vs) ∧ k = true ∨ H a = some (.tup vs) ∧ k = false) ∧ Reps M H vs ds := by
  cases r with
  | lst n e r => cases h; exact ⟨_, true, _, rfl, n, .inl ⟨e, rfl⟩, r⟩
  | tup n e r => cases h; exact ⟨_, false, _, rfl, n, .inr ⟨e, rfl⟩, r⟩
  | _ => cases h
theorem sqk_at {K : PySem.W.Frag} {H : Hp} {a : Addr} {k : Bool} {vs : List V} (h : H a = some (.lst vs) ∧ k = true ∨ H a = some (.tup vs) ∧ k = false) : SqK K H k a vs := by
  rcases h with ⟨e, rfl⟩ | ⟨e, rfl⟩
  · exact SqL.of e
  · exact SqT.of e
theorem sqk_ext {M : List Addr} {H H' : Hp} {a : Addr} {k : Bool} {vs : List V} (h : H a = some (.lst vs) ∧ k = true ∨ H a = some (.tup vs) ∧ k = false) (n : a ∉ M) (e : Ext M H H') : H' a = some (.lst vs) ∧ k = true ∨ H' a = some (.tup vs) ∧ k = false := by
  rcases h with ⟨q, z⟩ | ⟨q, z⟩
  · exact .inl ⟨e _ _ n q, z⟩
  · exact .inr ⟨e _ _ n q, z⟩
def pairD (p : D × D) : D := .tup [p.1, p.2]
theorem zip_get {xs ys : List D} {i : Nat} {x y : D} (hx : xs[i]? = some x) (hy : ys[i]? = some y) : ((xs.zip ys).map pairD)[i]? = some (pairD (x, y)) := by
  rw [List.getElem?_map, (List.getElem?_zip_eq_some (z := (x, y))).mpr ⟨hx, hy⟩]; rfl
theorem src_zip {K : PySem.W.Frag} {c : Ct} {H1 : Hp} {a b : Addr} {k1 k2 : Bool} {vs ws : List V} {xs ys : List D} (ha : H1 a = some (.lst vs) ∧ k1 = true ∨ H1 a = some (.tup vs) ∧ k1 = false) (hb : H1 b = some (.lst ws) ∧ k2 = true ∨ H1 b = some (.tup ws) ∧ k2 = false)
    (na : a ∉ c.M) (nb : b ∉ c.M) (ra : Reps c.M H1 vs xs) (rb : Reps c.M H1 ws ys) : SrcR c H1 (ItZ K k1 k2 a b) ((xs.zip ys).map pairD) := fun H M' e g n => by
  have ha' := sqk_at (K := K) (sqk_ext ha na e)
  have hb' := sqk_at (K := K) (sqk_ext hb nb e)
  have ra' := ra.later e n
  have rb' := rb.later e n
  have la := ra'.len; have lb := rb'.len
  have lz : ((xs.zip ys).map pairD).length = min xs.length ys.length := by simp
  refine ⟨fun i hi => ?_, ⟨vs, ws, ha', hb', by omega, by omega, by omega⟩⟩
  rw [lz] at hi
  have hx : xs[i]? = some xs[i] := List.getElem?_eq_getElem (by omega)
  have hy : ys[i]? = some ys[i] := List.getElem?_eq_getElem (by omega)
  obtain ⟨v, hv, rv⟩ := ra'.get hx
  obtain ⟨w, hw, rw'⟩ := rb'.get hy
  refine ⟨⟨vs, ws, v, w, ha', hb', hv, hw⟩, fun x H' y => ?_⟩
  obtain ⟨T, x1, y1, rfl, hT, rfl, f1, f2⟩ := y
  have e1 : x1 = v := Option.some.inj ((f1 _ ha').symm.trans hv)
  have e2 : y1 = w := Option.some.inj ((f2 _ hb').symm.trans hw)
  subst e1 e2
  have ex := Ext.of (M := M') (Same.new (o := .tup [x1, y1]) hT)
  exact ⟨Same.new hT, _, zip_get hx hy, .tup (fun z => g T z hT) upd_same (.cons (rv.ext ex) (.cons (rw'.ext ex) .nil))⟩
/-- zip of two things of data, lists or tuples -/
theorem ei_zip {K : PySem.W.Frag} {ta : TA} {d1 d2 : D} {xs ys : List D} (h : EvA c ta δ (· = [d1, d2])) (h1 : seqD d1 = some xs) (h2 : seqD d2 = some ys) : EvI c (iZipS K ta) δ (· = (xs.zip ys).map pairD) := fun σ H R s q => h σ H _ s fun us H1 ds s1 e1 r1 p1 => by
  subst p1
  cases r1 with
  | cons r1 t =>
    cases t with
    | cons r2 t =>
      cases t
      obtain ⟨a, k1, vs, rfl, na, ha, ra⟩ := sqk_of (K := K) r1 h1
      obtain ⟨b, k2, ws, rfl, nb, hb, rb⟩ := sqk_of (K := K) r2 h2
      exact ⟨a, b, k1, k2, vs, ws, rfl, sqk_at ha, sqk_at hb, q _ H1 _ s1 e1 (src_zip ha hb na nb ra rb) rfl⟩
def enumD : Nat → List D → List D
  | _, [] => []
  | n, d :: ds => .tup [.int (n : Int), d] :: enumD (n + 1) ds
theorem enumD_len : ∀ (ds : List D) (n : Nat), (enumD n ds).length = ds.length
  | [], _ => rfl
  | _ :: ds, n => congrArg (· + 1) (enumD_len ds (n + 1))
theorem enumD_get : ∀ {ds : List D} {n i : Nat} {d : D}, ds[i]? = some d → (enumD n ds)[i]? = some (.tup [.int ((n + i : Nat) : Int), d])
  | [], _, _, _, h => by simp at h
  | x :: ds, n, 0, d, h => by simp at h; subst h; rfl
  | x :: ds, n, i + 1, d, h => by
    have := enumD_get (ds := ds) (n := n + 1) (i := i) (d := d) (by simpa using h)
    rw [show n + 1 + i = n + (i + 1) by omega] at this
    exact this
theorem ei_enum {K : PySem.W.Frag} {ta : TA} {d1 : D} {xs : List D} (h : EvA c ta δ (· = [d1])) (h1 : seqD d1 = some xs) : EvI c (iEnumS K ta) δ (· = enumD 0 xs) := fun σ H R s q => h σ H _ s fun us H1 ds s1 e1 r1 p1 => by
  subst p1
  cases r1 with
  | cons r1 t =>
    cases t
    obtain ⟨a, k, vs, rfl, na, ha, ra⟩ := sqk_of (K := K) r1 h1
    refine ⟨a, k, vs, rfl, sqk_at ha, q _ H1 _ s1 e1 (fun H2 M' e g n => ?_) rfl⟩
    have ha' := sqk_at (K := K) (sqk_ext ha na e)
    have ra' := ra.later e n
    have la := ra'.len
    rw [enumD_len]
    refine ⟨fun i hi => ?_, vs, ha', la.symm⟩
    have hx : xs[i]? = some xs[i] := List.getElem?_eq_getElem hi
    obtain ⟨v, hv, rv⟩ := ra'.get hx
    refine ⟨⟨vs, v, ha', hv⟩, fun x H' y => ?_⟩
    obtain ⟨T, x1, rfl, hT, rfl, f1⟩ := y
    have e1 : x1 = v := Option.some.inj ((f1 _ ha').symm.trans hv)
    subst e1
    have ex := Ext.of (M := M') (Same.new (o := .tup [.int (i : Nat), x1]) hT)
    have gi := enumD_get (n := 0) hx
    rw [Nat.zero_add] at gi
    exact ⟨Same.new hT, _, gi, .tup (fun z => g T z hT) upd_same (.cons (.int _) (.cons (rv.ext ex) .nil))⟩
end
/-! ### a list or a tuple -/
def iSeq (K : PySem.W.Frag) (tl : TE) : TI := fun σ H R => iList K tl σ H R ∨ iTup K tl σ H R
theorem pi_seq {X : Cx} {tg l : Expr} {tl : TE} (hl : PE X l tl) : PI X tg l (iSeq X.K tl) := ⟨fun pins s σ H R I h => h.elim ((pi_list hl).run pins s σ H R I) ((pi_tup hl).run pins s σ H R I)⟩
theorem ei_seq {c : Ct} {δ : List Sl} {K : PySem.W.Frag} {tl : TE} {d : D} {ds : List D} (h : Ev c tl δ (· = d)) (hs : seqD d = some ds) : EvI c (iSeq K tl) δ (· = ds) := fun σ H R s q => by
  cases d with
  | lst xs => cases hs; exact .inl (ei_list h σ H R s q)
  | tup xs => cases hs; exact .inr (ei_tup h σ H R s q)
  | _ => cases hs
end E
/-! DNum: the fields as numbers: fractions, and integers modulo a prime up to 97; how they are written as data. -/
namespace E
open PySem L2

class Fld (α : Type) extends Zero α, One α, Add α, Mul α, Neg α, Inv α where
  addC : ∀ a b : α, a + b = b + a
  addA : ∀ a b c : α, a + b + c = a + (b + c)
  add0 : ∀ a : α, a + 0 = a
  addN : ∀ a : α, a + -a = 0
  mulC : ∀ a b : α, a * b = b * a
  mulA : ∀ a b c : α, a * b * c = a * (b * c)
  mul1 : ∀ a : α, a * 1 = a
  mulD : ∀ a b c : α, a * (b + c) = a * b + a * c
  mulI : ∀ a : α, a ≠ 0 → a * a⁻¹ = 1
  ne01 : (1 : α) ≠ 0
section
variable {α : Type} [Fld α]
open Fld
theorem zadd (a : α) : 0 + a = a := by rw [addC, add0]
theorem nadd (a : α) : -a + a = 0 := by rw [addC, addN]
theorem omul (a : α) : 1 * a = a := by rw [mulC, mul1]
theorem Dmul (a b c : α) : (a + b) * c = a * c + b * c := by rw [mulC, mulD, mulC c a, mulC c b]
theorem add_cancel {a b c : α} (h : a + b = a + c) : b = c := by
  have e : -a + (a + b) = -a + (a + c) := by rw [h]
  rw [← addA, ← addA, nadd, zadd, zadd] at e
  exact e
theorem mul0 (a : α) : a * 0 = 0 := add_cancel (a := a * 0) (by rw [← mulD, add0, add0])
theorem zmul (a : α) : 0 * a = 0 := by rw [mulC, mul0]
theorem neg_eq {a b : α} (h : a + b = 0) : b = -a := add_cancel (a := a) (by rw [h, addN])
theorem negneg (a : α) : - -a = a := (neg_eq (nadd a)).symm
theorem mulN (a b : α) : a * -b = -(a * b) := neg_eq (by rw [← mulD, addN, mul0])
theorem Nmul (a b : α) : -a * b = -(a * b) := by rw [mulC, mulN, mulC]
theorem negadd (a b : α) : -(a + b) = -a + -b := (neg_eq (by rw [addA, addC b, addA, nadd, add0, addN])).symm
theorem neg0 : -(0 : α) = 0 := (neg_eq (add0 0)).symm
theorem mulI' {a : α} (h : a ≠ 0) : a⁻¹ * a = 1 := by rw [mulC, mulI a h]
theorem inv_ne {a : α} (h : a ≠ 0) : a⁻¹ ≠ 0 := fun e => ne01 (α := α) (by rw [← mulI a h, e, mul0])
theorem mul_ne {a b : α} (ha : a ≠ 0) (hb : b ≠ 0) : a * b ≠ 0 := fun e => hb (by
  have : a⁻¹ * (a * b) = 0 := by rw [e, mul0]
  rwa [← mulA, mulI' ha, omul] at this)
end

/-! ### fractions -/
instance : Fld Rat where
  addC := Rat.add_comm
  addA := Rat.add_assoc
  add0 := Rat.add_zero
  addN := fun a => by rw [Rat.add_comm]; exact Rat.neg_add_cancel a
  mulC := Rat.mul_comm
  mulA := Rat.mul_assoc
  mul1 := Rat.mul_one
  mulD := Rat.mul_add
  mulI := Rat.mul_inv_cancel
  ne01 := by decide

/-! ### integers modulo a prime -/
def primes : List Int := [2, 3, 5, 7, 11, 13, 17, 19, 23, 29, 31, 37, 41, 43, 47, 53, 59, 61, 67, 71, 73, 79, 83, 89, 97]
/-- the loop of the inverse, told by the power that is left -/
def invL (p : Int) : Nat → Int → Int → Nat → Int
  | 0, done, _, _ => done
  | f + 1, done, power, left => if left = 0 then done else invL p f (if left % 2 = 1 then (done * power) % p else done) ((power * power) % p) (left / 2)
def invF (k p : Int) : Int := invL p 8 1 k (p - 2).toNat
theorem inv_all : (primes.all fun p => (List.range p.toNat).all fun k => (k == 0) || (decide ((k : Int) * invF k p % p = 1) && decide (0 ≤ invF k p) && decide (invF k p < p))) = true := by decide +kernel
theorem inv_ok {p k : Int} (hp : p ∈ primes) (h0 : 0 < k) (h1 : k < p) : k * invF k p % p = 1 ∧ 0 ≤ invF k p ∧ invF k p < p := by
  have a := List.all_eq_true.mp (List.all_eq_true.mp inv_all p hp) k.toNat (List.mem_range.mpr (by omega))
  have e : ((k.toNat : Nat) : Int) = k := by omega
  rw [e] at a
  have n0 : (k.toNat == 0) = false := by simp; omega
  rw [n0, Bool.false_or, Bool.and_eq_true, Bool.and_eq_true] at a
  exact ⟨of_decide_eq_true a.1.1, of_decide_eq_true a.1.2, of_decide_eq_true a.2⟩
theorem prime_pos {p : Int} (h : p ∈ primes) : 2 ≤ p ∧ p ≤ 97 := by
  have : (primes.all fun p => decide (2 ≤ p) && decide (p ≤ 97)) = true := by decide
  have q := List.all_eq_true.mp this p h
  rw [Bool.and_eq_true] at q
  exact ⟨of_decide_eq_true q.1, of_decide_eq_true q.2⟩
theorem mulmod (a b p : Int) : a * (b % p) % p = a * b % p := by
  rw [Int.mul_emod a (b % p), Int.emod_emod, ← Int.mul_emod]
def Zp (p : Int) (_ : p ∈ primes) : Type := { x : Int // 0 ≤ x ∧ x < p }
section
variable {p : Int} {hp : p ∈ primes}
def Zp.mk (hp : p ∈ primes) (x : Int) : Zp p hp := ⟨x % p, Int.emod_nonneg _ (by have := prime_pos hp; omega), Int.emod_lt_of_pos _ (by have := prime_pos hp; omega)⟩
theorem Zp.ext {a b : Zp p hp} (h : a.1 = b.1) : a = b := Subtype.ext h
theorem Zp.mod (a : Zp p hp) : a.1 % p = a.1 := Int.emod_eq_of_lt a.2.1 a.2.2
theorem Zp.mk_eq {x y : Int} (h : x % p = y % p) : Zp.mk hp x = Zp.mk hp y := Zp.ext h
theorem Zp.mk_self (a : Zp p hp) : Zp.mk hp a.1 = a := Zp.ext a.mod
theorem Zp.mk_val (x : Int) : (Zp.mk hp x).1 = x % p := rfl
instance : DecidableEq (Zp p hp) := inferInstanceAs (DecidableEq { x : Int // 0 ≤ x ∧ x < p })
instance : Fld (Zp p hp) where
  zero := Zp.mk hp 0
  one := Zp.mk hp 1
  add a b := Zp.mk hp (a.1 + b.1)
  mul a b := Zp.mk hp (a.1 * b.1)
  neg a := Zp.mk hp (-a.1)
  inv a := if a.1 = 0 then a else Zp.mk hp (invF a.1 p)
  addC a b := Zp.mk_eq (by rw [Int.add_comm])
  addA a b c := Zp.mk_eq (by show ((a.1 + b.1) % p + c.1) % p = (a.1 + (b.1 + c.1) % p) % p; rw [Int.emod_add_emod, Int.add_emod_emod, Int.add_assoc])
  add0 a := Zp.ext (by show (a.1 + 0 % p) % p = a.1; rw [Int.zero_emod, Int.add_zero, a.mod])
  addN a := Zp.ext (by show (a.1 + -a.1 % p) % p = 0 % p; rw [Int.add_emod_emod, Int.add_right_neg])
  mulC a b := Zp.mk_eq (by rw [Int.mul_comm])
  mulA a b c := Zp.mk_eq (by show ((a.1 * b.1) % p * c.1) % p = (a.1 * ((b.1 * c.1) % p)) % p; rw [Int.mul_comm (a.1 * b.1 % p), mulmod, mulmod, Int.mul_comm c.1, Int.mul_assoc])
  mul1 a := Zp.ext (by show (a.1 * (1 % p)) % p = a.1; rw [mulmod, Int.mul_one, a.mod])
  mulD a b c := Zp.mk_eq (by show (a.1 * ((b.1 + c.1) % p)) % p = ((a.1 * b.1) % p + (a.1 * c.1) % p) % p; rw [mulmod, Int.emod_add_emod, Int.add_emod_emod, Int.mul_add])
  mulI a h := Zp.ext (by
    have h0 : a.1 ≠ 0 := fun e => h (Zp.ext (by rw [e]; exact (Int.zero_emod p).symm))
    have q := inv_ok hp (k := a.1) (by have := a.2.1; omega) a.2.2
    show (a.1 * (if a.1 = 0 then a else Zp.mk hp (invF a.1 p)).1) % p = 1 % p
    rw [if_neg h0]
    show (a.1 * (invF a.1 p % p)) % p = 1 % p
    rw [mulmod, q.1]
    have := prime_pos hp
    exact (Int.emod_eq_of_lt (by omega) (by omega)).symm)
  ne01 h := by
    have e : (1 : Int) % p = 0 % p := congrArg Subtype.val h
    have := prime_pos hp
    rw [Int.zero_emod, Int.emod_eq_of_lt (by omega) (by omega)] at e
    omega
theorem Zp.zero_val : (0 : Zp p hp).1 = 0 := Int.zero_emod p
theorem Zp.one_val : (1 : Zp p hp).1 = 1 := Int.emod_eq_of_lt (by omega) (by have := prime_pos hp; omega)
theorem Zp.add_val (a b : Zp p hp) : (a + b).1 = (a.1 + b.1) % p := rfl
theorem Zp.mul_val (a b : Zp p hp) : (a * b).1 = (a.1 * b.1) % p := rfl
theorem Zp.neg_val (a : Zp p hp) : (-a).1 = (-a.1) % p := rfl
theorem Zp.inv_val (a : Zp p hp) (h : a.1 ≠ 0) : (a⁻¹).1 = invF a.1 p := by
  show (if a.1 = 0 then a else Zp.mk hp (invF a.1 p)).1 = _
  rw [if_neg h]
  have q := inv_ok hp (k := a.1) (by have := a.2.1; omega) a.2.2
  exact Int.emod_eq_of_lt q.2.1 q.2.2
end

/-! ### a field, its numbers as data -/
inductive Fm where
  | q
  | z (p : Int) (h : p ∈ primes)
def Fm.p : Fm → Int
  | .q => 0
  | .z p _ => p
def Fm.α : Fm → Type
  | .q => Rat
  | .z p h => Zp p h
instance (F : Fm) : DecidableEq F.α := match F with
  | .q => inferInstanceAs (DecidableEq Rat)
  | .z p h => inferInstanceAs (DecidableEq (Zp p h))
instance (F : Fm) : Fld F.α := match F with
  | .q => inferInstanceAs (Fld Rat)
  | .z p h => inferInstanceAs (Fld (Zp p h))
def encQ (x : Rat) : D := .tup [.int x.num, .int (x.den : Nat)]
def Fm.enc : (F : Fm) → F.α → D
  | .q, x => encQ x
  | .z _ _, x => .int x.1
/-- fewer than n bits above and below -/
def Fm.sm : (F : Fm) → Nat → F.α → Prop
  | .q, n, (x : Rat) => x.num.natAbs < 2 ^ n ∧ x.den < 2 ^ n
  | .z _ _, _, _ => True
theorem Fm.enc_inj {F : Fm} {x y : F.α} (h : F.enc x = F.enc y) : x = y := by
  cases F with
  | q =>
    have h' : encQ x = encQ y := h
    unfold encQ at h'
    injection h' with h1
    injection h1 with h2 h3
    injection h3 with h4 _
    injection h2 with h5
    injection h4 with h6
    exact Rat.ext h5 (Int.ofNat.inj h6)
  | z p hp =>
    have h' : D.int x.1 = D.int y.1 := h
    injection h' with h1
    exact Zp.ext (hp := hp) h1
def Fm.row (F : Fm) (r : List F.α) : D := .tup (r.map F.enc)
def Fm.rowL (F : Fm) (r : List F.α) : D := .lst (r.map F.enc)
end E
/-! DLin: rows, spans, swept rows and that a span has just one list of them. -/
namespace E
section
variable {α : Type} [Fld α]
open Fld
def g (r : List α) (i : Nat) : α := r.getD i 0
theorem g_lt {r : List α} {i : Nat} (h : i < r.length) : g r i = r[i] := by unfold g; rw [List.getD_eq_getElem?_getD, List.getElem?_eq_getElem h]; rfl
theorem g_ge {r : List α} {i : Nat} (h : r.length ≤ i) : g r i = 0 := by unfold g; rw [List.getD_eq_getElem?_getD, List.getElem?_eq_none h]; rfl
theorem g_some {r : List α} {i : Nat} {x : α} (h : r[i]? = some x) : g r i = x := by unfold g; rw [List.getD_eq_getElem?_getD, h]; rfl
theorem g_ext {r s : List α} {n : Nat} (hr : r.length = n) (hs : s.length = n) (h : ∀ i, i < n → g r i = g s i) : r = s := by
  refine List.ext_getElem (hr.trans hs.symm) fun i h1 h2 => ?_
  have := h i (by omega)
  rwa [g_lt h1, g_lt h2] at this
theorem g_map {β : Type} {f : β → α} {xs : List β} {i : Nat} (h : i < xs.length) : g (xs.map f) i = f xs[i] := by
  rw [g_lt (by simpa using h), List.getElem_map]
theorem g_range {f : Nat → α} {n i : Nat} (h : i < n) : g ((List.range n).map f) i = f i := by
  rw [g_map (by simpa using h), List.getElem_range]

/-- sums of multiples of rows -/
def lin : List α → List (List α) → Nat → α
  | c :: cs, r :: rs, i => c * g r i + lin cs rs i
  | _, _, _ => 0
theorem lin_nil (rs : List (List α)) (i : Nat) : lin [] rs i = 0 := by cases rs <;> rfl
theorem lin_nil' (cs : List α) (i : Nat) : lin cs ([] : List (List α)) i = 0 := by cases cs <;> rfl
theorem lin_zero_of : ∀ {cs : List α} {rs : List (List α)} {i : Nat}, (∀ (j : Nat) c r, cs[j]? = some c → rs[j]? = some r → c * g r i = 0) → lin cs rs i = 0
  | [], rs, i, _ => lin_nil rs i
  | c :: cs, [], i, _ => rfl
  | c :: cs, r :: rs, i, h => by
    show c * g r i + lin cs rs i = 0
    rw [h 0 c r rfl rfl, lin_zero_of (cs := cs) (rs := rs) fun j c r h1 h2 => h (j + 1) c r (by simpa using h1) (by simpa using h2), add0]
theorem lin_at : ∀ {cs : List α} {rs : List (List α)} {i k : Nat} {r : List α}, cs.length = rs.length → rs[k]? = some r → g r i = 1 → (∀ (j : Nat) s, rs[j]? = some s → j ≠ k → g s i = 0) → lin cs rs i = g cs k
  | c :: cs, s :: rs, i, 0, r, hl, hr, h1, h0 => by
    have : s = r := by simpa using hr
    subst this
    show c * g s i + lin cs rs i = c
    rw [h1, mul1, lin_zero_of fun j c t _ ht => by rw [h0 (j + 1) t (by simpa using ht) (by omega), mul0], add0]
  | c :: cs, s :: rs, i, k + 1, r, hl, hr, h1, h0 => by
    show c * g s i + lin cs rs i = g cs k
    rw [h0 0 s rfl (by omega), mul0, zadd]
    exact lin_at (by simpa using hl) (by simpa using hr) h1 fun j t ht hj => h0 (j + 1) t (by simpa using ht) (by omega)
  | [], _ :: _, _, _, _, hl, _, _, _ => by simp at hl
  | _, [], _, _, _, _, hr, _, _ => by simp at hr
def addL (cs ds : List α) : List α := List.zipWith (· + ·) cs ds
theorem lin_add : ∀ {cs ds : List α} {rs : List (List α)} {i : Nat}, cs.length = ds.length → lin (addL cs ds) rs i = lin cs rs i + lin ds rs i
  | [], [], rs, i, _ => by show lin [] rs i = _; rw [lin_nil, add0]
  | c :: cs, d :: ds, [], i, _ => by rw [lin_nil', lin_nil', lin_nil', add0]
  | c :: cs, d :: ds, r :: rs, i, h => by
    show (c + d) * g r i + lin (addL cs ds) rs i = (c * g r i + lin cs rs i) + (d * g r i + lin ds rs i)
    rw [lin_add (by simpa using h), Dmul, addA, addA, ← addA (d * g r i), addC (d * g r i) (lin cs rs i), addA]
  | [], _ :: _, _, _, h => by simp at h
  | _ :: _, [], _, _, h => by simp at h
theorem lin_smul : ∀ {cs : List α} {rs : List (List α)} {i : Nat} (a : α), lin (cs.map (a * ·)) rs i = a * lin cs rs i
  | [], rs, i, a => by show lin [] rs i = _; rw [lin_nil, mul0]
  | c :: cs, [], i, a => by rw [lin_nil', lin_nil', mul0]
  | c :: cs, r :: rs, i, a => by
    show a * c * g r i + lin (cs.map (a * ·)) rs i = a * (c * g r i + lin cs rs i)
    rw [lin_smul a, mulD, mulA]

/-- v lies in the span of the rows -/
def Sp (rs : List (List α)) (v : Nat → α) : Prop := ∃ cs : List α, cs.length = rs.length ∧ ∀ i, v i = lin cs rs i
theorem sp_zero (rs : List (List α)) : Sp rs (fun _ => 0) := ⟨rs.map fun _ => 0, by simp, fun i => (lin_zero_of fun j c r hc _ => by
  rw [List.getElem?_map] at hc
  cases e : rs[j]? with
  | none => rw [e] at hc; cases hc
  | some x => rw [e] at hc; cases hc; exact zmul _).symm⟩
theorem sp_add {rs : List (List α)} {v w : Nat → α} (h : Sp rs v) (k : Sp rs w) : Sp rs (fun i => v i + w i) := by
  obtain ⟨cs, h1, h2⟩ := h
  obtain ⟨ds, k1, k2⟩ := k
  exact ⟨addL cs ds, by simp [addL, h1, k1], fun i => by show v i + w i = _; rw [lin_add (h1.trans k1.symm), h2, k2]⟩
theorem sp_smul {rs : List (List α)} {v : Nat → α} (a : α) (h : Sp rs v) : Sp rs (fun i => a * v i) := by
  obtain ⟨cs, h1, h2⟩ := h
  exact ⟨cs.map (a * ·), by simpa using h1, fun i => by show a * v i = _; rw [lin_smul, h2]⟩
theorem sp_neg {rs : List (List α)} {v : Nat → α} (h : Sp rs v) : Sp rs (fun i => -(v i)) := by
  have := sp_smul (-(1 : α)) h
  refine this.elim fun cs ⟨h1, h2⟩ => ⟨cs, h1, fun i => ?_⟩
  rw [← h2 i]; show -(v i) = -(1 : α) * v i; rw [Nmul, omul]
theorem sp_of {rs : List (List α)} {v w : Nat → α} (h : Sp rs v) (e : ∀ i, w i = v i) : Sp rs w := h.elim fun cs ⟨h1, h2⟩ => ⟨cs, h1, fun i => (e i).trans (h2 i)⟩
theorem sp_cons {rs : List (List α)} {v : Nat → α} (r : List α) (h : Sp rs v) : Sp (r :: rs) v := h.elim fun cs ⟨h1, h2⟩ => ⟨0 :: cs, by simpa using h1, fun i => by
  show v i = 0 * g r i + lin cs rs i
  rw [zmul, zadd, h2]⟩
theorem sp_head (r : List α) (rs : List (List α)) : Sp (r :: rs) (g r) := (sp_zero rs).elim fun cs ⟨h1, h2⟩ => ⟨1 :: cs, by simpa using h1, fun i => by
  show g r i = 1 * g r i + lin cs rs i
  rw [← h2 i, add0, omul]⟩
theorem sp_mem {r : List α} : ∀ {rs : List (List α)}, r ∈ rs → Sp rs (g r)
  | s :: rs, h => by
    rcases List.mem_cons.mp h with e | e
    · subst e; exact sp_head _ _
    · exact sp_cons _ (sp_mem e)
theorem sp_trans : ∀ {rs ts : List (List α)} {v : Nat → α}, (∀ r ∈ rs, Sp ts (g r)) → Sp rs v → Sp ts v
  | [], ts, v, _, ⟨cs, _, h2⟩ => sp_of (sp_zero ts) fun i => by rw [h2, lin_nil']
  | r :: rs, ts, v, h, ⟨[], h1, _⟩ => by simp at h1
  | r :: rs, ts, v, h, ⟨c :: cs, h1, h2⟩ => sp_of (sp_add (sp_smul c (h r List.mem_cons_self)) (sp_trans (rs := rs) (fun s hs => h s (List.mem_cons_of_mem _ hs)) ⟨cs, by simpa using h1, fun i => rfl⟩)) h2
/-- two lists of rows with one span -/
def SameSp (rs ts : List (List α)) : Prop := (∀ r ∈ rs, Sp ts (g r)) ∧ ∀ t ∈ ts, Sp rs (g t)
theorem SameSp.refl (rs : List (List α)) : SameSp rs rs := ⟨fun _ h => sp_mem h, fun _ h => sp_mem h⟩
theorem SameSp.symm {rs ts : List (List α)} (h : SameSp rs ts) : SameSp ts rs := ⟨h.2, h.1⟩
theorem SameSp.trans {rs ts us : List (List α)} (h : SameSp rs ts) (k : SameSp ts us) : SameSp rs us := ⟨fun r hr => sp_trans k.1 (h.1 r hr), fun u hu => sp_trans h.2 (k.2 u hu)⟩

/-! ### swept rows -/
structure Sw (n : Nat) (S : List (List α)) (ls : List Nat) : Prop where
  len : S.length = ls.length
  wid : ∀ r ∈ S, r.length = n
  lt : ∀ l ∈ ls, l < n
  one : ∀ (k : Nat) r l, S[k]? = some r → ls[k]? = some l → g r l = 1
  off : ∀ (k j : Nat) r l, S[k]? = some r → ls[j]? = some l → k ≠ j → g r l = 0
  pre : ∀ (k : Nat) r l i, S[k]? = some r → ls[k]? = some l → i < l → g r i = 0
  up : ls.Pairwise (· < ·)
theorem get_of {β γ : Type} {S : List β} {ls : List γ} (h : S.length = ls.length) {k : Nat} {l : γ} (hl : ls[k]? = some l) : ∃ r, S[k]? = some r := by
  have := (List.getElem?_eq_some_iff.mp hl).1
  exact ⟨_, List.getElem?_eq_getElem (by omega)⟩
theorem Sw.coef {n : Nat} {S : List (List α)} {ls : List Nat} (w : Sw n S ls) {cs : List α} {v : Nat → α} (hc : cs.length = S.length) (hv : ∀ i, v i = lin cs S i) {k l : Nat} (hl : ls[k]? = some l) : v l = g cs k := by
  obtain ⟨r, hr⟩ := get_of w.len hl
  rw [hv]
  exact lin_at hc hr (w.one k r l hr hl) fun j s hs hj => w.off j k s l hs hl hj
theorem Sw.zero {n : Nat} {S : List (List α)} {ls : List Nat} (w : Sw n S ls) {v : Nat → α} (h : Sp S v) (hz : ∀ l ∈ ls, v l = 0) (i : Nat) : v i = 0 := by
  obtain ⟨cs, hc, hv⟩ := h
  rw [hv]
  refine lin_zero_of fun j c r hj hr => ?_
  obtain ⟨l, hl⟩ := get_of w.len.symm hr
  have e := w.coef hc hv hl
  rw [hz l (List.mem_of_getElem? hl), g_some hj] at e
  rw [← e, zmul]
theorem Sw.leads {n : Nat} {S T : List (List α)} {ls ms : List Nat} (w : Sw n S ls) (x : Sw n T ms) (h : ∀ t ∈ T, Sp S (g t)) {m : Nat} (hm : m ∈ ms) : m ∈ ls := by
  obtain ⟨k, hk⟩ := List.getElem?_of_mem hm
  obtain ⟨t, ht⟩ := get_of x.len hk
  have e1 := x.one k t m ht hk
  obtain ⟨cs, hc, hv⟩ := h t (List.mem_of_getElem? ht)
  refine Classical.byContradiction fun hn => ne01 (α := α) ?_
  rw [← e1, hv]
  refine lin_zero_of fun j c r hj hr => ?_
  obtain ⟨l, hl⟩ := get_of w.len.symm hr
  have e := w.coef hc hv hl
  rw [g_some hj] at e
  have hne : l ≠ m := fun z => hn (z ▸ List.mem_of_getElem? hl)
  rcases Nat.lt_or_gt_of_ne hne with q | q
  · rw [← e, x.pre k t m l ht hk q, zmul]
  · rw [w.pre j r l m hr hl q, mul0]
theorem sorted_eq : ∀ {l m : List Nat}, l.Pairwise (· < ·) → m.Pairwise (· < ·) → (∀ x, x ∈ l ↔ x ∈ m) → l = m
  | [], [], _, _, _ => rfl
  | [], y :: m, _, _, h => by have := (h y).mpr List.mem_cons_self; simp at this
  | x :: l, [], _, _, h => by have := (h x).mp List.mem_cons_self; simp at this
  | x :: l, y :: m, hl, hm, h => by
    have ⟨a1, a2⟩ := List.pairwise_cons.mp hl
    have ⟨b1, b2⟩ := List.pairwise_cons.mp hm
    have e : x = y := by
      rcases List.mem_cons.mp ((h x).mp List.mem_cons_self) with q | q
      · exact q
      · rcases List.mem_cons.mp ((h y).mpr List.mem_cons_self) with q2 | q2
        · exact q2.symm
        · have := b1 x q; have := a1 y q2; omega
    subst e
    rw [sorted_eq a2 b2 fun z => ⟨fun hz => ?_, fun hz => ?_⟩]
    · rcases List.mem_cons.mp ((h z).mp (List.mem_cons_of_mem _ hz)) with q | q
      · have := a1 z hz; omega
      · exact q
    · rcases List.mem_cons.mp ((h z).mpr (List.mem_cons_of_mem _ hz)) with q | q
      · have := b1 z hz; omega
      · exact q
/-- a span has one list of swept rows -/
theorem Sw.uniq {n : Nat} {S T : List (List α)} {ls ms : List Nat} (w : Sw n S ls) (x : Sw n T ms) (h : SameSp S T) : S = T ∧ ls = ms := by
  have el : ls = ms := sorted_eq w.up x.up fun z => ⟨fun hz => x.leads w h.1 hz, fun hz => w.leads x h.2 hz⟩
  subst el
  refine ⟨List.ext_getElem? fun k => ?_, rfl⟩
  by_cases hk : k < ls.length
  · have hl : ls[k]? = some ls[k] := List.getElem?_eq_getElem hk
    obtain ⟨s, hs⟩ := get_of w.len hl
    obtain ⟨t, ht⟩ := get_of x.len hl
    rw [hs, ht]
    congr 1
    refine g_ext (w.wid s (List.mem_of_getElem? hs)) (x.wid t (List.mem_of_getElem? ht)) fun i _ => ?_
    have sp : Sp S (fun i => g s i + -(g t i)) := sp_add (sp_mem (List.mem_of_getElem? hs)) (sp_neg (h.2 t (List.mem_of_getElem? ht)))
    have z := w.zero sp (fun l hl' => ?_) i
    · have := neg_eq z
      have q : g s i + -(g t i) + g t i = 0 + g t i := by rw [z]
      rw [addA, nadd, add0, zadd] at q
      exact q
    · obtain ⟨j, hj⟩ := List.getElem?_of_mem hl'
      show g s l + -(g t l) = 0
      by_cases e : k = j
      · subst e
        rw [w.one k s l hs hj, x.one k t l ht hj, addN]
      · rw [w.off k j s l hs hj e, x.off k j t l ht hj e, neg0, add0]
  · rw [List.getElem?_eq_none (by have := w.len; omega), List.getElem?_eq_none (by have := x.len; omega)]
end
end E
/-! DMore: built-ins, texts, slices over data. -/
namespace E
open PySem PySem.Spec PyProof.Rows L2
section
variable {c : Ct} {δ : List Sl} {Dn : Ends}
/-- the built-in type of a datum -/
def tyD : D → String
  | .non => "NoneType"
  | .bl _ => "bool"
  | .int _ => "int"
  | .str _ => "str"
  | .lst _ => "list"
  | .tup _ => "tuple"
  | .obj _ _ _ => "object"
  | .loc _ => "object"
def plainD : D → Bool
  | .obj _ _ _ => false
  | .loc _ => false
  | _ => true
theorem ev_isi {K : PySem.W.Frag} {ta : TE} {d : D} {n : String} {b : Bool} (h : EvR c ta δ (· = d)) (hp : plainD d = true) (hb : kitB (tyD d) n = some b) : Ev c (tCB (rIsi K) (tCons ta (tCons (tC (.ty n)) tNil))) δ (· = .bl b) := fun σ H Q s q => h σ H _ s fun v H1 e s1 e1 r1 p1 => by
  subst p1
  refine ⟨v, .ty n, .type (tyD e), .type n, b, rfl, .ty n, ?_, kit_ty hb, q _ H1 _ s1 e1 (.bl _) rfl⟩
  cases e with
  | non => cases rdo_non r1; exact .base .non
  | bl x => cases rdo_bl r1; exact .base (.bl x)
  | int x => cases rdo_int r1; exact .base (.int x)
  | str x => cases rdo_str r1; exact .base (.str x)
  | lst x => obtain ⟨a, vs, rfl, e, _⟩ := rdo_lst s1 r1; exact .base (.lst e)
  | tup x => obtain ⟨a, vs, rfl, _, e, _⟩ := rdo_tup r1; exact .base (.tup e)
  | obj _ _ _ => cases hp
  | loc _ => cases hp
/-- one scalar in, one out -/
theorem rc_int1 {i : Int} : RC c rInt1 [.int i] (· = .int i) := fun δ σ H Q vs s hp q => by
  cases hp with
  | cons r t => cases t; cases rdo_int r; exact .inl ⟨i, rfl, q _ H _ (Same.refl H) (.int _) rfl⟩
theorem rc_intB {b : Bool} : RC c rInt1 [.bl b] (· = .int (if b then 1 else 0)) := fun δ σ H Q vs s hp q => by
  cases hp with
  | cons r t => cases t; cases rdo_bl r; exact .inr ⟨b, rfl, q _ H _ (Same.refl H) (.int _) rfl⟩
theorem rc_abs {i : Int} : RC c rAbs [.int i] (· = .int (if i < 0 then -i else i)) := fun δ σ H Q vs s hp q => by
  cases hp with
  | cons r t => cases t; cases rdo_int r; exact ⟨i, rfl, q _ H _ (Same.refl H) (.int _) rfl⟩
theorem rc_min {i j : Int} : RC c rMin2 [.int i, .int j] (· = .int (if j < i then j else i)) := fun δ σ H Q vs s hp q => by
  cases hp with
  | cons r t =>
    cases t with
    | cons r2 t => cases t; cases rdo_int r; cases rdo_int r2; exact ⟨i, j, rfl, q _ H _ (Same.refl H) (.int _) rfl⟩
theorem rc_gcd {i j : Int} : RC c rGcd [.int i, .int j] (· = .int ((Nat.gcd i.natAbs j.natAbs : Nat) : Int)) := fun δ σ H Q vs s hp q => by
  cases hp with
  | cons r t =>
    cases t with
    | cons r2 t => cases t; cases rdo_int r; cases rdo_int r2; exact ⟨i, j, rfl, q _ H _ (Same.refl H) (.int _) rfl⟩
theorem rc_strI {i : Int} (h : i.natAbs.log2 < 1920) : RC c rStrI [.int i] (· = .str (toString i)) := fun δ σ H Q vs s hp q => by
  cases hp with
  | cons r t => cases t; cases rdo_int r; exact ⟨i, rfl, h, q _ H _ (Same.refl H) (.str _) rfl⟩
theorem rc_intS {x : Str} {n : Int} (h : PySem.intText? x = some n) (hl : x.length ≤ 640) : RC c rIntS [.str x] (· = .int n) := fun δ σ H Q vs s hp q => by
  cases hp with
  | cons r t => cases t; cases rdo_str r; exact ⟨x, n, rfl, h, hl, q _ H _ (Same.refl H) (.int _) rfl⟩
theorem rc_sum {K : PySem.W.Frag} {ns : List Int} : RC c (rSum K) [.lst (ns.map D.int)] (· = .int ns.sum) := fun δ σ H Q vs s hp q => by
  cases hp with
  | cons r t =>
    cases t
    obtain ⟨a, us, rfl, e, rr⟩ := rdo_lst s r
    have := reps_intsV rr
    subst this
    exact ⟨a, ns, rfl, SqL.of e, q _ H _ (Same.refl H) (.int _) rfl⟩
theorem rc_all {K : PySem.W.Frag} {bs : List Bool} : RC c (rAll K) [.lst (bs.map D.bl)] (· = .bl (bs.all id)) := fun δ σ H Q vs s hp q => by
  cases hp with
  | cons r t =>
    cases t
    obtain ⟨a, us, rfl, e, rr⟩ := rdo_lst s r
    have := reps_bls rr
    subst this
    exact ⟨a, bs, rfl, SqL.of e, q _ H _ (Same.refl H) (.bl _) rfl⟩
/-! ### texts -/
theorem ev_starts {ta tb : TE} {x y : Str} (h : EvR c ta δ (· = .str x)) (h2 : EvR c tb δ (· = .str y)) : Ev c (tM1 rStarts ta tb) δ (· = .bl (Txt.startswith x y)) := fun σ H Q s q => h σ H _ s fun v H1 e s1 e1 r1 p1 => by
  subst p1; cases rdo_str r1
  exact ⟨⟨x, rfl⟩, h2 σ H1 _ s1 fun w H2 f s2 e2 r2 p2 => by subst p2; cases rdo_str r2; exact ⟨x, y, rfl, rfl, q _ H2 _ s2 (e1.trans e2) (.bl _) rfl⟩⟩
theorem ev_isdigit {ta : TE} {x : Str} (h : EvR c ta δ (· = .str x)) : Ev c (tM0 rIsDigit ta) δ (· = .bl (Txt.isdigit x)) := fun σ H Q s q => h σ H _ s fun v H1 e s1 e1 r1 p1 => by
  subst p1; cases rdo_str r1
  exact ⟨⟨x, rfl⟩, x, rfl, rfl, trivial, q _ H1 _ s1 e1 (.bl _) rfl⟩
theorem en_split {ta tb : TE} {x y : Str} (h : EvR c ta δ (· = .str x)) (h2 : EvR c tb δ (· = .str y)) (hy : (y.length == 0) = false) (hx : x.length ≤ 100000) : EvN c (tM1 rSplit ta tb) δ (· = (Txt.split x y).map D.str) := fun σ H Q s q => h σ H _ s fun v H1 e s1 e1 r1 p1 => by
  subst p1; cases rdo_str r1
  refine ⟨⟨x, rfl⟩, h2 σ H1 _ s1 fun w H2 f s2 e2 r2 p2 => ?_⟩
  subst p2; cases rdo_str r2
  refine ⟨x, y, rfl, rfl, hy, Nat.le_trans (Nat.add_le_add_right hx 2) (by decide), fun p hp => ?_⟩
  have sm := Same.new (o := .lst ((Txt.split x y).map V.str)) hp
  exact q p _ _ (s2.same sm) (s2.mine hp sm upd_same (reps_strs _)) (fun z => s2.good p z hp) ((e1.trans e2).trans (Ext.of sm)) rfl
theorem ev_slS {te : TE} {tl th : TO} {x : Str} {lo hi : Option Int} (h : EvR c te δ (· = .str x)) (hl : ∀ σ H (Q : Option Int → Hp → Prop), Sta c δ σ H → (∀ H', Sta c δ σ H' → Ext c.M H H' → Q lo H') → tl σ H Q)
    (hh : ∀ σ H (Q : Option Int → Hp → Prop), Sta c δ σ H → (∀ H', Sta c δ σ H' → Ext c.M H H' → Q hi H') → th σ H Q) (hz : x.length ≤ 100000) : Ev c (tSl rSlS te tl th) δ (· = .str (cutS x lo hi)) := fun σ H Q s q => h σ H _ s fun v H1 e s1 e1 r1 p1 => by
  subst p1; cases rdo_str r1
  exact hl σ H1 _ s1 fun H2 s2 e2 => hh σ H2 _ s2 fun H3 s3 e3 => ⟨x, rfl, Nat.le_trans hz (by decide), q _ H3 _ s3 ((e1.trans e2).trans e3) (.str _) rfl⟩
def EvP (c : Ct) (t : TO) (δ : List Sl) (o : Option Int) : Prop := ∀ σ H (Q : Option Int → Hp → Prop), Sta c δ σ H → (∀ H', Sta c δ σ H' → Ext c.M H H' → Q o H') → t σ H Q
theorem ep_no : EvP c tNoPart δ none := fun σ H Q s q => q H s (Ext.refl _ _)
theorem ep_some {te : TE} {i : Int} (h : EvR c te δ (· = .int i)) : EvP c (tPart te) δ (some i) := fun σ H Q s q => h σ H _ s fun v H1 e s1 e1 r1 p1 => by
  subst p1; exact ⟨i, rdo_int r1, q H1 s1 e1⟩
def cutD (xs : List D) (lo hi : Option Int) : List D := (xs.drop (HT.sIx xs.length 0 lo)).take (HT.sIx xs.length xs.length hi - HT.sIx xs.length 0 lo)
theorem reps_cut {M : List Addr} {H : Hp} {vs : List V} {ds : List D} (r : Reps M H vs ds) (lo hi : Option Int) : Reps M H (cutV vs lo hi) (cutD ds lo hi) := by
  unfold cutV cutD
  rw [r.len]
  exact (r.drop _).take _
/-- xs[lo:hi], a new list -/
theorem en_slL {K : PySem.W.Frag} {te : TE} {tl th : TO} {xs : List D} {lo hi : Option Int} (h : EvR c te δ (· = .lst xs)) (hl : EvP c tl δ lo) (hh : EvP c th δ hi) : EvN c (tSl (rSlL K) te tl th) δ (· = cutD xs lo hi) := fun σ H Q s q => h σ H _ s fun v H1 e s1 e1 r1 p1 => by
  subst p1
  refine hl σ H1 _ s1 fun H2 s2 e2 => hh σ H2 _ s2 fun H3 s3 e3 => ?_
  obtain ⟨a, vs, rfl, ea, r⟩ := rdo_lst s3 (r1.ext (e2.trans e3))
  refine ⟨a, vs, rfl, SqL.of ea, fun p hp => ?_⟩
  have sm := Same.new (o := .lst (cutV vs lo hi)) hp
  exact q p _ _ (s3.same sm) (s3.mine hp sm upd_same (((reps_cut r lo hi).fresh hp).ext (Ext.of sm))) (fun z => s3.good p z hp) (((e1.trans e2).trans e3).trans (Ext.of sm)) rfl
/-- t[lo:hi] of a tuple, not the whole of it -/
theorem ev_slT {K : PySem.W.Frag} {te : TE} {tl th : TO} {xs : List D} {lo hi : Option Int} (h : EvR c te δ (· = .tup xs)) (hl : EvP c tl δ lo) (hh : EvP c th δ hi) (hn : ¬ (HT.sIx xs.length 0 lo = 0 ∧ HT.sIx xs.length xs.length hi = xs.length)) : Ev c (tSl (rSlT K) te tl th) δ (· = .tup (cutD xs lo hi)) := fun σ H Q s q => h σ H _ s fun v H1 e s1 e1 r1 p1 => by
  subst p1
  refine hl σ H1 _ s1 fun H2 s2 e2 => hh σ H2 _ s2 fun H3 s3 e3 => ?_
  obtain ⟨a, vs, rfl, na, ea, r⟩ := rdo_tup (r1.ext (e2.trans e3))
  refine ⟨a, vs, rfl, SqT.of ea, by rw [r.len]; exact hn, fun p hp => ?_⟩
  have sm := Same.new (o := .tup (cutV vs lo hi)) hp
  exact q _ _ _ (s3.same sm) (((e1.trans e2).trans e3).trans (Ext.of sm)) (.tup (fun z => s3.good p z hp) upd_same ((reps_cut r lo hi).ext (Ext.of sm))) rfl
/-- xs + ys of lists: a new list -/
theorem en_cat {ta tb : TE} {xs ys : List D} (h : EvR c ta δ (· = .lst xs)) (h2 : EvR c tb δ (· = .lst ys)) (hz : xs.length + ys.length ≤ 100000) : EvN c (tOp rCat ta tb) δ (· = xs ++ ys) := fun σ H Q s q => h σ H _ s fun v H1 e s1 e1 r1 p1 => h2 σ H1 _ s1 fun w H2 f s2 e2 r2 p2 => by
  subst p1 p2
  obtain ⟨a, vs, rfl, ea, ra⟩ := rdo_lst s2 (r1.ext e2)
  obtain ⟨b, ws, rfl, eb, rb⟩ := rdo_lst s2 r2
  refine ⟨a, b, vs, ws, rfl, rfl, ea, eb, by rw [ra.len, rb.len]; exact Nat.le_trans hz (by decide), fun p hp => ?_⟩
  have sm := Same.new (o := .lst (vs ++ ws)) hp
  exact q p _ _ (s2.same sm) (s2.mine hp sm upd_same (((ra.append rb).fresh hp).ext (Ext.of sm))) (fun z => s2.good p z hp) ((e1.trans e2).trans (Ext.of sm)) rfl
/-- t + u of tuples -/
theorem ev_catT {K : PySem.W.Frag} {ta tb : TE} {xs ys : List D} (h : EvR c ta δ (· = .tup xs)) (h2 : EvR c tb δ (· = .tup ys)) (hx : xs ≠ []) (hy : ys ≠ []) (hz : xs.length + ys.length ≤ 100000) : Ev c (tOp (rCatT K) ta tb) δ (· = .tup (xs ++ ys)) := fun σ H Q s q => h σ H _ s fun v H1 e s1 e1 r1 p1 => h2 σ H1 _ s1 fun w H2 f s2 e2 r2 p2 => by
  subst p1 p2
  obtain ⟨a, vs, rfl, na, ea, ra⟩ := rdo_tup (r1.ext e2)
  obtain ⟨b, ws, rfl, nb, eb, rb⟩ := rdo_tup r2
  have la := ra.len; have lb := rb.len
  refine ⟨a, b, vs, ws, rfl, rfl, SqT.of ea, SqT.of eb, fun z => hx (by rw [z] at la; exact List.eq_nil_of_length_eq_zero la.symm), by rw [la, lb]; exact Nat.le_trans hz (by decide), fun z => absurd (by rw [z] at lb; exact List.eq_nil_of_length_eq_zero lb.symm) hy, fun _ p hp => ?_⟩
  have sm := Same.new (o := .tup (vs ++ ws)) hp
  exact q _ _ _ (s2.same sm) ((e1.trans e2).trans (Ext.of sm)) (.tup (fun z => s2.good p z hp) upd_same ((ra.append rb).ext (Ext.of sm))) rfl
/-! ### == of nested data -/
mutual
def py : D → PyData
  | .non => .none
  | .bl b => .bool b
  | .int i => .int i
  | .str x => .str x
  | .lst ds => .list (pys ds)
  | .tup ds => .tuple (pys ds)
  | .obj _ _ _ => .none
  | .loc _ => .none
def pys : List D → List PyData
  | [] => []
  | d :: ds => py d :: pys ds
def noObj : D → Bool
  | .lst ds => noObjs ds
  | .tup ds => noObjs ds
  | .obj _ _ _ => false
  | .loc _ => false
  | _ => true
def noObjs : List D → Bool
  | [] => true
  | d :: ds => noObj d && noObjs ds
end
mutual
theorem dp_of {K : PySem.W.Frag} {M : List Addr} {H : Hp} : ∀ {d : D} {v : V}, Rep M H v d → noObj d = true → Dp K H v (py d)
  | .non, _, h, _ => by cases h; exact .non
  | .bl b, _, h, _ => by cases h; exact .bl b
  | .int i, _, h, _ => by cases h; exact .int i
  | .str x, _, h, _ => by cases h; exact .str x
  | .lst ds, _, h, n => by
    cases h with
    | lst _ e r => exact .lst (SqL.of e) (dps_of r n)
  | .tup ds, _, h, n => by
    cases h with
    | tup _ e r => exact .tup (SqT.of e) (dps_of r n)
  | .obj C ns ds, _, h, n => by cases n
  | .loc _, _, h, n => by cases n
theorem dps_of {K : PySem.W.Frag} {M : List Addr} {H : Hp} : ∀ {ds : List D} {vs : List V}, Reps M H vs ds → noObjs ds = true → DpAll K H vs (pys ds)
  | [], _, h, _ => by cases h; exact .nil
  | d :: ds, _, h, n => by
    have n2 := Bool.and_eq_true_iff.mp (show (noObj d && noObjs ds) = true from n)
    cases h with
    | cons r rs => exact .cons (dp_of r n2.1) (dps_of rs n2.2)
end
theorem rdo_dp {K : PySem.W.Frag} {σ : L2.St} {H : Hp} {v : V} {d : D} (s : Sta c δ σ H) (h : RdO c H v d) (n : noObj d = true) : Dp K H v (py d) := by
  rcases h with h | ⟨l, ds, rfl, rfl, ho⟩
  · exact dp_of h n
  · obtain ⟨_, _, _, _, vs, e, r⟩ := s.own _ ho
    exact .lst (SqL.of e) (dps_of r n)
/-- data that may be compared -/
def okD (d : D) : Bool := noObj d && SeqAt.shaped (py d)
theorem rv_eqD {K : PySem.W.Frag} {d1 d2 : D} (h1 : okD d1 = true) (h2 : okD d2 = true) : RV c (rEqD K) d1 d2 (· = .bl (PyData.eqv (py d1) (py d2))) := fun δ σ H Q x y s hx hy q => by
  have a := Bool.and_eq_true_iff.mp h1; have b := Bool.and_eq_true_iff.mp h2
  exact ⟨_, _, rdo_dp s hx a.1, rdo_dp s hy b.1, a.2, b.2, q _ H _ (Same.refl H) (.bl _) rfl⟩
theorem rv_neD {K : PySem.W.Frag} {d1 d2 : D} (h1 : okD d1 = true) (h2 : okD d2 = true) : RV c (rNeD K) d1 d2 (· = .bl (!PyData.eqv (py d1) (py d2))) := fun δ σ H Q x y s hx hy q => by
  have a := Bool.and_eq_true_iff.mp h1; have b := Bool.and_eq_true_iff.mp h2
  exact ⟨_, _, rdo_dp s hx a.1, rdo_dp s hy b.1, a.2, b.2, q _ H _ (Same.refl H) (.bl _) rfl⟩
end
end E
/-! DText: integers and fractions as texts. -/
namespace E
open PySem PySem.Spec PyProof.Rows L2 TL
/-- str(v) -/
def sI (v : Int) : Str := Str.ofString (toString v)
theorem tl_sI (n : Nat) : tl (sI n) = numL n := tl_num n
theorem tl_sI_neg {v : Int} (h : v < 0) : tl (sI v) = 45 :: numL v.natAbs := by
  unfold sI
  rw [PyProof.Rows.toString_neg h, tl_ofString, String.toList_append, List.map_append]
  have e : (0 : Int) - v = ((v.natAbs : Nat) : Int) := by omega
  have q : List.map Char.toNat (toString (0 - v)).toList = numL v.natAbs := by rw [e, ← tl_ofString, tl_num]
  rw [q]
  rfl
theorem tl_sI_pos {v : Int} (h : 0 ≤ v) : tl (sI v) = numL v.natAbs := by
  have e : v = ((v.natAbs : Nat) : Int) := by omega
  rw [e, tl_sI]; rfl
theorem numL_head : ∀ {n : Nat}, 0 < n → ∃ c r, numL n = c :: r ∧ c ≠ 48 := by
  intro n
  induction n using Nat.strongRecOn with
  | ind n ih =>
    intro h
    by_cases hn : n < 10
    · exact ⟨48 + n, [], numL_lt hn, by omega⟩
    · obtain ⟨c, r, e, hc⟩ := ih (n / 10) (by omega) (by omega)
      exact ⟨c, r ++ [48 + n % 10], by rw [numL_step (by omega), e]; rfl, hc⟩
theorem numL_zero : numL 0 = [48] := numL_lt (by decide)
theorem starts1 (x y : Str) (s : Nat) (hy : tl y = [s]) : Txt.startswith x y = (decide ((tl x).head? = some s)) := by
  unfold Txt.startswith
  have ly : y.length = 1 := by rw [len_tl, hy]; rfl
  rw [PySem.StrLaws.subAt_eq, ly, Nat.zero_add, len_tl]
  show (decide (1 ≤ (tl x).length) && (((tl x).drop 0).take 1 == tl y)) = _
  rw [hy]
  cases e : tl x with
  | nil => rfl
  | cons c r =>
    show (decide (1 ≤ r.length + 1) && ([c] == [s])) = decide (some c = some s)
    by_cases h : c = s
    · subst h; simp
    · simp [h]
theorem isdigit_num {x : Str} {n : Nat} (h : tl x = numL n) : Txt.isdigit x = true := by
  unfold Txt.isdigit
  have h1 : x.length > 0 := by
    rw [len_tl, h]
    have := numL_ne n
    cases e : numL n with
    | nil => exact absurd e this
    | cons c r => simp
  have h2 : x.cps.all Unicode.isDigit = true := by
    rw [← Array.all_toList]
    show (tl x).all Unicode.isDigit = true
    rw [h]
    refine List.all_eq_true.mpr fun c hc => ?_
    have q := numL_digits n c hc
    have all : ∀ c : Nat, c < 58 → 48 ≤ c → Unicode.isDigit c = true := by decide
    exact all c (by omega) q.1
  rw [h2, Bool.and_true]
  exact decide_eq_true h1
/-- small enough to be written -/
def smI (v : Int) : Prop := v.natAbs < 10 ^ 500
theorem smI_len {v : Int} (h : smI v) : (sI v).length ≤ 501 := by
  rw [len_tl]
  by_cases hv : v < 0
  · rw [tl_sI_neg hv, List.length_cons]
    exact Nat.succ_le_succ (numL_len (by decide) h)
  · rw [tl_sI_pos (by omega)]
    exact Nat.le_succ_of_le (numL_len (by decide) h)
theorem smI_log {v : Int} (h : smI v) : v.natAbs.log2 < 1920 := by
  have h2 : v.natAbs < 2 ^ 1920 := Nat.lt_of_lt_of_le h (by decide +kernel)
  by_cases h0 : v.natAbs = 0
  · rw [h0]; decide
  · exact (Nat.log2_lt h0).mpr h2
theorem int_sI {v : Int} (h : smI v) : PySem.intText? (sI v) = some v := by
  have hl := smI_len h
  by_cases hv : v < 0
  · rw [intText_neg (tl_sI_neg hv) (numL_digits _) (numL_ne _) (by omega), numL_val]
    congr 1; omega
  · have e := tl_sI_pos (v := v) (by omega)
    have e' : (sI v).cps.toList = numL v.natAbs := e
    rw [intText_digits (by rw [e']; exact numL_digits _) (by rw [e']; exact numL_ne _) (by omega), e', numL_val]
    congr 1; omega
theorem slash_free (v : Int) : (47 : Nat) ∉ tl (sI v) := by
  by_cases hv : v < 0
  · rw [tl_sI_neg hv]
    intro h
    rcases List.mem_cons.mp h with e | e
    · cases e
    · exact numL_free (by decide) e
  · rw [tl_sI_pos (by omega)]
    exact numL_free (by decide)
def slash : Str := Str.ofString "/"
theorem tl_slash : tl slash = [47] := by unfold slash; rw [tl_ofString]; rfl
theorem split_one (v : Int) : Txt.split (sI v) slash = [sI v] := map_tl_inj (by
  rw [split_spl _ _ (by rw [tl_slash]; simp) (kind_ok (by decide +kernel)), tl_slash, spl_last1 (slash_free v)]; rfl)
theorem split_two (a b : Int) : Txt.split (sI a ++ slash ++ sI b) slash = [sI a, sI b] := map_tl_inj (by
  rw [split_spl _ _ (by rw [tl_slash]; simp) (kind_ok (by decide +kernel)), tl_append, tl_append, tl_slash, List.append_assoc]
  rw [show tl (sI a) ++ ([47] ++ tl (sI b)) = tl (sI a) ++ ((47 :: []) ++ tl (sI b)) from rfl, spl_part1 (slash_free a), spl_last1 (slash_free b)]
  rfl)
end E
/-! DSeq: a statement with the rest of its block behind it. -/
namespace E
open PySem PySem.Spec PyProof.Rows L2
variable {c : Ct} {δ : List Sl} {Dn : Ends}
theorem ss_asgR {te : TE} {u : TS} {i : Nat} {P : D → Prop} (h : Ev c te δ P) (k : ∀ d, P d → Sd c u (δ.set i (some (.inl d))) Dn) : Sd c (tSeq (tAsg te (gName i)) u) δ Dn :=
  sd_seq (sd_asgR (Dn := { Dn with nx := u Dn }) h k)
theorem ss_asg {te : TE} {u : TS} {i : Nat} {d : D} (h : Ev c te δ (· = d)) (k : Sd c u (δ.set i (some (.inl d))) Dn) : Sd c (tSeq (tAsg te (gName i)) u) δ Dn :=
  sd_seq (sd_asg (Dn := { Dn with nx := u Dn }) h k)
theorem ss_asgN {te : TE} {u : TS} {i : Nat} {P : List D → Prop} (h : EvN c te δ P) (k : ∀ l ds, P ds → l ∉ c.M → Sd (c.push l ds) u (δ.set i (some (.inr l))) Dn) : Sd c (tSeq (tAsg te (gName i)) u) δ Dn :=
  sd_seq (sd_asgN (Dn := { Dn with nx := u Dn }) h k)
theorem ss_par {ta : TA} {u : TS} {i j : Nat} {d1 d2 : D} (h : EvA c ta δ (· = [d1, d2])) (k : Sd c u ((δ.set i (some (.inl d1))).set j (some (.inl d2))) Dn) : Sd c (tSeq (tPar i j ta) u) δ Dn :=
  sd_seq (sd_par (Dn := { Dn with nx := u Dn }) h fun ds e => ⟨d1, d2, e, k⟩)
theorem ss_unp {te : TE} {u : TS} {g : TG} {js : List Nat} {δ' : List Sl} {d : D} (h : Ev c te δ (· = d)) (hg : EvG g js δ d δ') (k : Sd c u δ' Dn) : Sd c (tSeq (tAsg te g) u) δ Dn :=
  sd_seq (sd_unp (Dn := { Dn with nx := u Dn }) h fun d' e => ⟨δ', by rw [e]; exact hg, k⟩)
theorem ss_app {K : PySem.W.Frag} {te : TE} {u : TS} {i : Nat} {l : Addr} {ds : List D} {r : List (Addr × List D)} {P : D → Prop} (ho : c.own = (l, ds) :: r) (hi : δ[i]? = some (some (.inr l))) (h : Ev c te δ P) (hz : ds.length < 100000)
    (k : ∀ d, P d → Sd { c with own := (l, ds ++ [d]) :: r } u δ Dn) : Sd c (tSeq (tDrop (tBM K "list" rAppend (tVar i) (tCons te tNil))) u) δ Dn :=
  sd_seq (sd_app (Dn := { Dn with nx := u Dn }) ho hi h hz k)
theorem ss_setL {te ti : TE} {u : TS} {i : Nat} {l : Addr} {ds : List D} {r : List (Addr × List D)} {P : D → Prop} {z : Int} {j : Nat} (ho : c.own = (l, ds) :: r) (h : Ev c te δ P) (hi : δ[i]? = some (some (.inr l))) (hx : ∀ d, P d → Ev c ti δ (· = .int z)) (hj : ixN ds.length z = some j)
    (k : ∀ d, P d → Sd { c with own := (l, ds.set j d) :: r } u δ Dn) : Sd c (tSeq (tAsg te (gSub (tVar i) ti rSetL)) u) δ Dn :=
  sd_seq (sd_setL (Dn := { Dn with nx := u Dn }) ho h hi hx hj k)
theorem ss_for {wi : TI} {g : TG} {tb u : TS} {its : List D} (hi : EvI c wi δ (· = its)) (I : Hp → Nat → Ct → List Sl → Prop) (h0 : ∀ H1, I H1 0 (c.loop H1) δ)
    (hk : ∀ H1 i c1 δ1, I H1 i c1 δ1 → c1.kp = (H1, c.wl) :: c.kp ∧ (∀ b ∈ c1.M, b ∈ c.M ∨ H1 b = none))
    (hs : ∀ H1 i d c1 δ1, its[i]? = some d → I H1 i c1 δ1 → ∃ js δ2, EvG g js δ1 d δ2 ∧ Sd c1 tb δ2 { Dn with nx := NxI (I H1 (i + 1)), ct := NxI (I H1 (i + 1)), bk := u Dn })
    (hd : ∀ H1 c1 δ1, I H1 its.length c1 δ1 → Sd { c1 with kp := c.kp } u δ1 Dn) : Sd c (tSeq (tFor wi g tb) u) δ Dn :=
  sd_seq (sd_for (Dn := { Dn with nx := u Dn }) hi I h0 hk hs hd)
theorem ss_while {tt : TT} {tb u : TS} (I : Nat → Ct → List Sl → Prop) (m0 : Nat) (h0 : I m0 c δ)
    (hs : ∀ m c1 δ1, I m c1 δ1 → ∃ P : Bool → Prop, EvT c1 tt δ1 P ∧ (P true → Sd c1 tb δ1 { Dn with nx := NxI (fun c2 δ2 => ∃ m', m' < m ∧ I m' c2 δ2), ct := NxI (fun c2 δ2 => ∃ m', m' < m ∧ I m' c2 δ2), bk := u Dn }) ∧ (P false → Sd c1 u δ1 Dn)) : Sd c (tSeq (tWhile tt tb) u) δ Dn :=
  sd_seq (sd_while (Dn := { Dn with nx := u Dn }) I m0 h0 hs)
theorem ss_if {t : TT} {a b u : TS} {k : Bool} (h : EvT c t δ (· = k)) (h1 : k = true → Sd c a δ { Dn with nx := u Dn }) (h2 : k = false → Sd c b δ { Dn with nx := u Dn }) : Sd c (tSeq (tIfS t a b) u) δ Dn := sd_ifE (Dn := { Dn with nx := u Dn }) h h1 h2
/-- the end of a block within a block: what stands behind it -/
theorem sd_nx {u : TS} {w : L2.St → Hp → Prop} (k : Sd c u δ Dn) (e : w = u Dn) : Nx c δ w := by rw [e]; exact k
/-- the end of a loop's body -/
theorem nx_I {I : Ct → List Sl → Prop} (h : I c δ) : Nx c δ (NxI I) := fun σ H s => ⟨c, δ, h, s⟩
end E
/-! DMix: three at once; cuts of texts; writings of numbers. -/
namespace E
open PySem PySem.Spec PyProof.Rows L2 TL
variable {c : Ct} {δ : List Sl} {Dn : Ends}
theorem ss_par3 {ta : TA} {u : TS} {i j l : Nat} {d1 d2 d3 : D} (h : EvA c ta δ (· = [d1, d2, d3])) (k : Sd c u (((δ.set i (some (.inl d1))).set j (some (.inl d2))).set l (some (.inl d3))) Dn) : Sd c (tSeq (tPar3 i j l ta) u) δ Dn := fun σ H s => h σ H _ s fun vs H1 ds s1 e1 r1 p1 => by
  subst p1
  cases r1 with
  | cons a t => cases t with
    | cons b t => cases t with
      | cons e t => cases t with
        | nil =>
          refine ⟨_, _, _, rfl, k _ H1 (s1.slots ?_)⟩
          exact ((s1.sl.set i (fun d q => by cases q; exact a) (fun l q => by cases q)).set j (fun d q => by cases q; exact b) (fun l q => by cases q)).set l (fun d q => by cases q; exact e) (fun l q => by cases q)
theorem sd_par2 {ta : TA} {i j : Nat} {d1 d2 : D} (h : EvA c ta δ (· = [d1, d2])) (k : Nx c ((δ.set i (some (.inl d1))).set j (some (.inl d2))) Dn.nx) : Sd c (tPar i j ta) δ Dn :=
  sd_par h fun ds e => ⟨d1, d2, e, k⟩
theorem tl_cut1 (x : Str) : tl (cutS x (some 1) none) = (tl x).drop 1 := by
  show ((x.cps.toList.drop (HT.sIx x.length 0 (some 1))).take (HT.sIx x.length x.length none - HT.sIx x.length 0 (some 1))) = (tl x).drop 1
  have e1 : HT.sIx x.length 0 (some 1) = min 1 x.length := HT.sIx_nat _ _ 1
  rw [e1, HT.sIx_none]
  have hl : x.length = (tl x).length := len_tl x
  show ((tl x).drop (min 1 x.length)).take (x.length - min 1 x.length) = (tl x).drop 1
  rw [hl]
  cases tl x with
  | nil => rfl
  | cons c r => simp [Nat.min_eq_left]
theorem num_small {n : Nat} (h : n < 10 ^ 500) {x : Str} (hx : tl x = numL n) : x.length ≤ 500 := by
  rw [len_tl, hx]; exact numL_len (by decide) h
theorem sI_zero : sI 0 = Str.ofString "0" := rfl
theorem sI_ne {v : Int} (h : v ≠ 0) : sI v ≠ Str.ofString "0" := fun e => by
  have e1 : tl (sI v) = tl (sI 0) := by rw [e, sI_zero]
  rw [tl_sI_pos (v := 0) (by decide)] at e1
  by_cases hv : v < 0
  · rw [tl_sI_neg hv] at e1
    have : (45 : Nat) ∈ numL (0 : Int).natAbs := by rw [← e1]; exact List.mem_cons_self
    exact numL_free (by decide) this
  · rw [tl_sI_pos (by omega)] at e1
    have := numL_inj e1
    omega
theorem numL_head0 (n : Nat) : (numL n).head? = some 48 ↔ n = 0 := by
  by_cases h : n = 0
  · subst h; rw [numL_zero]; simp
  · obtain ⟨c, r, e, hc⟩ := numL_head (Nat.pos_of_ne_zero h)
    rw [e]; simp [hc, h]
theorem numL_head45 (n : Nat) : (numL n).head? ≠ some 45 := fun h => by
  cases e : numL n with
  | nil => rw [e] at h; cases h
  | cons c r =>
    rw [e] at h
    have : c = 45 := by simpa using h
    exact numL_free (s := 45) (n := n) (by decide) (by rw [e, this]; exact List.mem_cons_self)
theorem neg_head (v : Int) : ((tl (sI v)).head? = some 45) ↔ v < 0 := by
  by_cases h : v < 0
  · rw [tl_sI_neg h]; simp [h]
  · rw [tl_sI_pos (by omega)]
    exact ⟨fun e => absurd e (numL_head45 _), fun e => absurd e h⟩
theorem starts_neg (v : Int) : Txt.startswith (sI v) (Str.ofString "-") = decide (v < 0) := by
  rw [starts1 _ _ 45 (by rw [tl_ofString]; rfl)]
  exact decide_eq_decide.mpr (neg_head v)
theorem starts_zero {x : Str} {n : Nat} (h : tl x = numL n) : Txt.startswith x (Str.ofString "0") = decide (n = 0) := by
  rw [starts1 _ _ 48 (by rw [tl_ofString]; rfl), h]
  exact decide_eq_decide.mpr (numL_head0 n)

theorem ev_ifT {t : TT} {ta tb : TE} {P : D → Prop} (h : EvT c t δ (· = true)) (h1 : Ev c ta δ P) : Ev c (tIf t ta tb) δ P := ev_if h (fun _ => h1) fun e => by cases e
theorem ev_ifF {t : TT} {ta tb : TE} {P : D → Prop} (h : EvT c t δ (· = false)) (h1 : Ev c tb δ P) : Ev c (tIf t ta tb) δ P := ev_if h (fun e => by cases e) fun _ => h1
theorem sd_yes {t : TT} {a u : TS} (h : EvT c t δ (· = true)) (h1 : Sd c a δ { Dn with nx := u Dn }) : Sd c (tSeq (tIfS t a tNext) u) δ Dn := sd_when h (fun _ => h1) fun e => by cases e
theorem sd_no {t : TT} {a u : TS} (h : EvT c t δ (· = false)) (h1 : Sd c u δ Dn) : Sd c (tSeq (tIfS t a tNext) u) δ Dn := sd_when h (fun e => by cases e) fun _ => h1
/-- the ways a number of the field is written -/
inductive Writ : (F : Fm) → D → F.α → Prop
  | zi (p : Int) (h : p ∈ primes) (v : Int) : Writ (.z p h) (.int v) (Zp.mk h v)
  | zs (p : Int) (h : p ∈ primes) (v : Int) : smI v → Writ (.z p h) (.str (sI v)) (Zp.mk h v)
  | qi (v : Int) : Writ .q (.int v) (v : Rat)
  | qs (v : Int) : smI v → Writ .q (.str (sI v)) (v : Rat)
  | qt (a b : Int) : b ≠ 0 → Writ .q (.tup [.int a, .int b]) (Rat.divInt a b)
  | qx (a b : Int) : 0 < b → smI a → smI b → Writ .q (.str (sI a ++ slash ++ sI b)) (Rat.divInt a b)
theorem encQ_int (v : Int) : encQ (v : Rat) = .tup [.int v, .int 1] := by
  unfold encQ
  rw [Rat.num_intCast, Rat.den_intCast]; rfl
theorem enc_mk {p : Int} (h : p ∈ primes) (v : Int) : (Fm.z p h).enc (Zp.mk h v) = .int (v.fmod p) := by
  show D.int (v % p) = .int (v.fmod p)
  rw [Int.fmod_eq_emod_of_nonneg _ (by have := prime_pos h; omega)]
end E
/-! DSort: sorted(range(n), key=lambda at: xs[at]). -/
namespace E
open PySem PySem.Spec PyProof.Rows L2 PySem.W PySem.Calls
section
variable {prog : Program} {w : World} {A : Around} {E : Value → Shared → Prop} {s : Shared}
theorem items_each {acc : Array Value} {n : Nat} (h : ItemsOf (fun i v => ∃ t, v = Value.int (0 + (i : Int) * 1) t) acc n) : EachIs (fun v (i : Nat) => ∃ t, v = Value.int (i : Int) t) acc.toList (List.range n) := by
  have go : ∀ (l : List Value) (m : Nat), (∀ j v, l[j]? = some v → ∃ t, v = Value.int (0 + ((m + j : Nat) : Int) * 1) t) → EachIs (fun v (i : Nat) => ∃ t, v = Value.int (i : Int) t) l ((List.range l.length).map (m + ·)) := by
    intro l
    induction l with
    | nil => intro m _; exact .nil
    | cons v r ih =>
      intro m hv
      rw [List.length_cons, List.range_succ_eq_map, List.map_cons, List.map_map]
      refine .cons ?_ ?_
      · obtain ⟨t, e⟩ := hv 0 v rfl
        exact ⟨t, by rw [e]; congr 1; omega⟩
      · have := ih (m + 1) fun j v hj => by
          obtain ⟨t, e⟩ := hv (j + 1) v (by simpa using hj)
          exact ⟨t, by rw [e]; congr 1; omega⟩
        have e2 : ((m + ·) ∘ Nat.succ) = fun x : Nat => m + 1 + x := by funext x; simp; omega
        rw [e2]; exact this
  have h2 := go acc.toList 0 fun j v hj => by
    rw [Nat.zero_add]
    exact h.2 j v (by rw [← hj, Array.getElem?_toList])
  have e3 : (List.range acc.toList.length).map (0 + ·) = List.range n := by
    rw [Array.length_toList, h.1]
    have : (fun x : Nat => 0 + x) = id := by funext x; simp
    rw [this, List.map_id]
  rw [e3] at h2; exact h2
theorem sortedRange {r f : Addr} {n : Nat} {t u v : Tok} {Q : Value → Shared → Prop} (k : Nat → Int) (hh : A.handled = none) (hr : IsRange s.heap r 0 (n : Int) 1 t u v) (hn : n ≤ 2 ^ 24) (hu : A.units + 3 < cLine)
    (turn : ∀ (i : Nat) (t0 : Tok), i < n → ∀ (h : Heap) (tk : Nat), (∀ b o, s.heap.get? b = some o → h.get? b = some o) →
      wpAny (model prog w) A.in1.in1 (call (.ref f) [.int (i : Int) t0]) (KeyPure (.int (k i)) { s with heap := h, toks := tk }) (fun _ _ => False) { s with heap := h, toks := tk })
    (h : ∀ (out : List Value) (c : Nat) (h1 h' : Heap) (tk : Nat) (a : Addr), (∀ b o, s.heap.get? b = some o → h1.get? b = some o) → a = h1.objs.size → (∀ b o, h1.get? b = some o → h'.get? b = some o) → h'.get? a = some (seqObj "list" (List.toArray out) c) →
      EachIs (fun v (i : Nat) => ∃ t, v = Value.int (i : Int) t) out ((List.range n).mergeSort fun i j => decide (k i ≤ k j)) → Q (.ref a) { s with heap := h', toks := tk }) :
    wpAny (model prog w) A (call (.builtin "sorted") [.ref r] [(Str.ofString "key", .ref f)]) Q E s := by
  refine call_function_entry_kw kind_sorted plain_sorted entry_sorted (ksk_s1 _ _) ?_
  unfold Builtin.«sorted»
  refine wpAny_bind (m := checkCount "sorted" 1 1 _) (wpAny_pure ?_)
  refine wpAny_bind (collect_range (A := A.in1) (n := n) hh hr (small_one (by omega) (by omega) (by omega) (by omega)) (by rw [rangeSize_nat]; omega) hn fun h1 tk1 acc hk hi => ?_)
  have each := items_each hi
  have lenA : acc.toList.length = n := by rw [Array.length_toList]; exact hi.1
  have hz : acc.toList.length ≤ sizeLine := by rw [lenA, sizeLine_eq]; omega
  refine wpAny_bind (wpAny_newList ?_ hz)
  refine wpAny_bind (wpAny_holding (wpAny_call_entry_kw slot_list_sort ⟨_, Heap.get?_push_size _ rfl, rfl⟩ entry_list_sort ?body (ksk_l1 _ _)))
  show wpAny (model prog w) A.in1.in1 (Builtin.«list.sort» ⟨[.ref h1.objs.size], [(Str.ofString "key", .ref f)]⟩) _ _ _
  rw [ksk_t1]
  have old : ∀ b o, s.heap.get? b = some o → (h1.push (seqObj "list" acc.toList.toArray 0)).get? b = some o := fun b o e => Heap.get?_push_of_some _ (hk b o e)
  have ne1 : ∀ b o, h1.get? b = some o → b ≠ h1.objs.size := fun b o e => Nat.ne_of_lt (Heap.lt_size e)
  have ne : ∀ b o, s.heap.get? b = some o → b ≠ h1.objs.size := fun b o e => ne1 b o (hk b o e)
  refine keyH_tree (kz := (List.range n).map fun i => PyData.int (k i)) (s := { s with heap := h1.push (seqObj "list" acc.toList.toArray 0), toks := tk1 }) (n := 0) (Heap.get?_push_size _ rfl) (by rw [List.length_map, List.length_range]; exact lenA.symm) hz (AllAlike.of fun _ _ => rfl) (Sortable.others fun _ => ⟨(fun z => nomatch z), fun _ z => nomatch z⟩)
    (bound_map (A := A.in1.in1) fun i _ => by show A.units + 1 + 1 + 0 < cLine; omega) (keyH_turns (k := fun i => PyData.int (k i)) each fun v i hv hi h tk kp => ?_) fun h' tk out c kp hD ko => ⟨.none, rfl, ?_⟩
  · obtain ⟨t0, rfl⟩ := hv
    exact turn i t0 (List.mem_range.mp hi) h tk fun b o e => kp b o (ne b o e) (old b o e)
  · have q := keyedOut_each (rev := false) (fun i : Nat => PyData.int (k i)) ko each
    rw [dataLe_int] at q
    refine wpAny_pure ⟨_, rfl, h out c h1 h' tk _ hk rfl (fun b o e => kp b o (ne1 b o e) (Heap.get?_push_of_some _ e)) hD q⟩
end
section
variable {X : Cx} {pins : List (Addr × Obj)} {σ : L2.St} {H : Hp} {s : Shared}
/-- a name's value, the state as it was -/
theorem load_at {i : Nat} {x : Str} {v : V} {pos : Pos} {R : Value → Shared → Prop} {xe : Value → Shared → Prop} (I : Inv X pins σ H s) (hN : X.N[i]? = some x) (e : σ[i]? = some (some v)) (hv : Vis X.env.scope x) (hd : (x == ("__debug__" : Str)) = false) (hcd : (x == ("__classdict__" : Str)) = false)
    (h : ∀ u, L2.RelV v u → R u s) : wpAny (model X.prog X.w) X.A (eval (.Name x pos) X.env) R xe s := by
  obtain ⟨m, hn, hl⟩ := I.loc
  obtain ⟨u, r, l⟩ := hl i x v hN e hv
  rcases l with ⟨hk, hm⟩ | ⟨hk, c, hc, hcell⟩
  · exact wpAny_Name (wpAny_loadName_local I.ok.kind hk hn hm (h u r)) hd
  · rcases hk with hk | hk
    · exact wpAny_Name (wpAny_loadName_cell I.ok.kind hk hc hcell (h u r)) hd
    · exact wpAny_Name (wpAny_loadName_free I.ok.kind hk hc hcell (h u r) hcd) hd
/-- the lambda's words, as a function made here -/
def lamF (q : Str) (params : Arguments) (scope : Scope) (cl : List (Str × Addr)) (k : Addr) : NdefX.NF := ⟨"<lambda>", q, params, [], scope, cl, k⟩
/-- a call of lambda at: xs[at] -/
theorem lam_turn {scope : Scope} {params : Arguments} {a x : Str} {N : List Str} {i : Nat} {f k l : Addr} {pm ctv : Value} {ns : List Int} {p1 p2 p3 : Pos} {j : Nat} {t0 : Tok} {kk : Nat}
    (I : Inv X pins σ H s) (S : NdefX.NScope N [a] [x] scope) (hr : Room (kk + 3) X.A) (hfr : ∀ y ∈ scope.names, y.2 = .free → X.env.scope.names.lookup y.1 = some .cell ∨ X.env.scope.names.lookup y.1 = some .free)
    (hN : X.N[i]? = some x) (hx : (x, NameKind.free) ∈ scope.names) (hv : σ[i]? = some (some (.ref l))) (hl : SqL X.K H l (ns.map V.int))
    (hf : s.heap.get? f = some (PySem.W.kla_obj "<lambda>" (X.env.qual ++ "<lambda>") params (.Subscript (.Name x p1) (.Name a p2) p3) scope (cloFrom X.env.cells scope.names []) pm k ctv)) (hk : H k = some (LamX.CodeO k (X.env.qual ++ "<lambda>")))
    (hb : ∀ (q : Str) (cl : List (Str × Addr)) (pm cv ctv u : Value), bindArgs (PySem.W.kla_fn "<lambda>" q params (.Subscript (.Name x p1) (.Name a p2) p3) scope cl pm cv ctv) ⟨[u], []⟩ = pure [(a, u)])
    (hj : j < ns.length) (hda : (a == ("__debug__" : Str)) = false) (hdx : (x == ("__debug__" : Str)) = false) (hcx : (x == ("__classdict__" : Str)) = false) (hca : (a == ("__classdict__" : Str)) = false) (h : Heap) (tk : Nat) (kp : ∀ b o, s.heap.get? b = some o → h.get? b = some o) :
    wpAny (model X.prog X.w) X.A.in1.in1 (call (.ref f) [.int (j : Int) t0]) (KeyPure (.int ns[j]) { s with heap := h, toks := tk }) (fun _ _ => False) { s with heap := h, toks := tk } := by
  have I1 : Inv X pins σ H { s with heap := h, toks := tk } := I.kept kp
  have r1 : Room (kk + 1) X.A.in1.in1 := (Room.in1 (k := kk + 1) (Room.in1 (k := kk + 2) hr))
  have lim := I1.nolimit
  have C := NdefX.cells_of I1 (NdefX.Caps.made (X := X) (fr := [x]) (js := [i]) I.ok hfr (fun y hy => by rw [List.mem_singleton.mp hy]; exact hx) (by simp [hN]))
  have ew : [i].map (NdefX.slotAt σ) = [some (V.ref l)] := by
    show [NdefX.slotAt σ i] = _
    rw [NdefX.slotAt_of hv]
  rw [ew] at C
  refine wpAny_call ?_
  refine PySem.W.kla_callFunE r1.depth (kp _ _ hf) rfl S.co S.gen rfl ((NdefX.codeO_at I1.hok hk)) ?_
  rw [hb]
  refine wpAny_pure (wpAny_newFunctionEnv S.nocell (fun y hy => ?_) (fun h₁ hns hsb => ⟨lim.fresh _ hsb, ?_⟩) S.kind)
  · have : y = (a, .int (j : Int) t0) := by simpa using hy
    subst this
    exact S.par a (by simp)
  have kp1 : ∀ b o, h.get? b = some o → h₁.get? b = some o := fun b o e => hsb.extBut b o (Nat.ne_of_lt (Heap.lt_size e)) (Heap.get?_push_of_some _ e)
  show codeAny _ _ (.expr (.Subscript (.Name x p1) (.Name a p2) p3) (NdefX.envF (lamF (X.env.qual ++ "<lambda>") params scope (cloFrom X.env.cells scope.names []) k) f h.objs.size)) _ _
  have J : Inv (NdefX.ncx CX0 X.prog X.w X.K X.mg X.base N (lamF (X.env.qual ++ "<lambda>") params scope (cloFrom X.env.cells scope.names []) k) f X.A.in1.in1 X.stack { s with heap := h, toks := tk } H E0) [] (NdefX.startF N [V.int (j : Int)] [some (.ref l)]) H
      { s with heap := h₁, toks := tk + [(a, Value.int (j : Int) t0)].length } :=
    NdefX.inv_startN (ps := [a]) (us := [.int (j : Int) t0]) S r1.hd (I1.env0.in1.in1) rfl (.cons ⟨t0, rfl⟩ .nil) C hns kp1
  have n0 : N[0]? = some a := by
    have q := congrArg (fun l : List Str => l[0]?) S.pre
    simpa using q
  have n1 : N[1]? = some x := by
    have q := congrArg (fun l : List Str => l[1]?) S.pre
    simpa using q
  refine PySem.W.kla_codeExpr (wpAny_Subscript_Name (T := "list") slot_list_getitem.lookup ?_)
  refine load_at (i := 1) (v := .ref l) J n1 rfl (.inr (.inr (S.frk x (by simp)))) hdx hcx fun u1 ru1 => ?_
  obtain rfl : u1 = Value.ref l := ru1
  refine load_at (i := 0) (v := .int (j : Int)) J n0 rfl (.inl (S.par a (by simp))) hda (by assumption) fun u2 ru2 => ?_
  obtain ⟨t2, rfl⟩ : ∃ t, u2 = .int (j : Int) t := ru2
  obtain ⟨its, rv, pl, hz⟩ := J.list hl
  obtain ⟨w1, ew, rw'⟩ := rv.get (i := j) (x := V.int ns[j]) (by rw [List.getElem?_map, List.getElem?_eq_getElem hj]; rfl)
  obtain ⟨t3, rfl⟩ : ∃ t, w1 = .int ns[j] t := rw'
  have hjl : j < 2 ^ 63 := by
    rw [List.length_map, sizeLine_eq] at hz; omega
  refine ⟨pl.isList.typeIs, wpAny_getItem_list pl.isList (by omega) (by omega) (by simpa using ew) ?_⟩
  exact ⟨h₁, _, rfl, kp1, .int _ _⟩
/-- the lambda of the text is made: of its table alone is written -/
theorem lam_make {M : List Addr} {c P : Addr} {params : Arguments} {body : Expr} {scope : Scope} {pos : Pos} {xe R : Value → Shared → Prop}
    (I : Inv X pins σ H s) (TB : LamX.TabB X.base X.mg c P) (hcode : X.env.code = .ref c) (hT : TabAt M H (P, X.env.qual ++ "<lambda>")) (hM : ∀ b ∈ M, H b ≠ none) (hdef : defaultsOf params X.env = ([], []))
    (hfree : ∀ y ∈ scope.names, y.2 = .free → ∃ c, X.env.cells.lookup y.1 = some c)
    (h : ∀ (f k : Addr) (pm ctv : Value) (H1 : Hp) (s' : Shared), Inv X pins σ H1 s' → Ext [P] H H1 → TabAt M H1 (P, X.env.qual ++ "<lambda>") →
      s'.heap.get? f = some (PySem.W.kla_obj "<lambda>" (X.env.qual ++ "<lambda>") params body scope (cloFrom X.env.cells scope.names []) pm k ctv) → H1 k = some (LamX.CodeO k (X.env.qual ++ "<lambda>")) →
      (∀ b o, b ≠ P → s.heap.get? b = some o → s'.heap.get? b = some o) → R (.ref f) s') :
    wpAny (model X.prog X.w) X.A (eval (.Lambda params body scope pos) X.env) R xe s := by
  obtain ⟨ps, hP, tri, all⟩ := hT
  have atP : s.heap.get? P = some { cls := .none, data := .fields ps } := I.hok P _ hP
  have blt : s.heap.BuiltinsAt X.mg P := TB.bm.keeps I.bk
  refine PySem.W.kla_eval hdef ?_
  cases found : codeAmong pos ps.toList with
  | some cv =>
    obtain ⟨k, rfl, nk, hk⟩ := all pos cv found
    refine PySem.W.kla_makeFunctionHit (mg := X.mg) (c := c) (P := P) (ps := ps) (closure_ok hfree) I.ok.glob (I.mod.glob.keeps I.bk) hcode (TB.code.keeps I.bk) atP tri found blt fun ctv h2 tk up hsz => ?_
    exact h h2.objs.size k ((X.mg "__name__").getD .none) ctv H _ (I.kept fun b o e => Heap.get?_push_of_some _ (up b o e)) (Ext.refl _ _) ⟨ps, hP, tri, all⟩ (Heap.get?_push_size _ rfl) hk
      fun b o _ e => Heap.get?_push_of_some _ (up b o e)
  | none =>
    refine PySem.W.kla_makeFunction (mg := X.mg) (c := c) (P := P) (ps := ps) (closure_ok hfree) I.ok.glob (I.mod.glob.keeps I.bk) hcode (TB.code.keeps I.bk) atP tri found TB.gP blt fun k ctv h2 tk up hge hlt rec tb => ?_
    obtain ⟨k0, oc, vs, t, ek, hoc, hd, hv⟩ := rec
    obtain rfl : k = k0 := Value.ref.inj ek
    have fresh : H k = none := I.hok.fresh hge
    have J := LamX.inv_table (t' := tk) (more := #[rawInt pos.line, rawInt pos.col, .ref k]) (h' := h2.push (PySem.W.kla_obj "<lambda>" (X.env.qual ++ "<lambda>") params body scope (cloFrom X.env.cells scope.names []) ((X.mg "__name__").getD .none) k ctv)) I hP
      (fun b o n e => Heap.get?_push_of_some _ (up b o n e)) (Heap.get?_push_of_some _ tb) hge ⟨oc, vs, t, Heap.get?_push_of_some _ hoc, hd, hv⟩
    have hPk : P ≠ k := fun z => by rw [z, fresh] at hP; cases hP
    have keep : ∀ b o, b ≠ P → H b = some o → (upd (upd H P (.tbl (ps ++ #[rawInt pos.line, rawInt pos.col, .ref k]))) k (LamX.CodeO k (X.env.qual ++ "<lambda>"))) b = some o := fun b o n e => by
      rw [upd_ne (ne_of_none e fresh), upd_ne n]; exact e
    refine h h2.objs.size k ((X.mg "__name__").getD .none) ctv _ _ J (fun b o n e => keep b o (by simpa using n) e) ⟨ps ++ #[rawInt pos.line, rawInt pos.col, .ref k], by rw [upd_ne hPk]; exact upd_same, ?_, fun p2 cv hcv => ?_⟩ (Heap.get?_push_size _ rfl) upd_same
      fun b o n e => Heap.get?_push_of_some _ (up b o n e)
    · rw [Array.toList_append]; exact PySem.TriplesOk_snoc _ _ _ _ tri
    · rw [Array.toList_append] at hcv
      rcases LamX.among_app _ tri hcv with z | z
      · obtain ⟨k1, e1, n1, e2⟩ := all p2 cv z
        exact ⟨k1, e1, n1, keep k1 _ (fun q => by rw [q, hP] at e2; unfold LamX.CodeO at e2; cases e2) e2⟩
      · exact ⟨k, z, fun q => hM k q fresh, upd_same⟩
def idxBy (ns : List Int) : List Nat := (List.range ns.length).mergeSort fun i j => decide (ns.getD i 0 ≤ ns.getD j 0)
/-- sorted(range(..), key=lambda at: xs[at]), xs the list in slot i -/
def tSortLam (K : PySem.W.Frag) (q : Addr × Str) (te : L2.St → Hp → (Int → Int → Hp → Prop) → Prop) (i : Nat) : TE := fun σ H Q => te σ H fun lo hi H1 => ∃ M l ns, TabAt M H1 q ∧ (∀ b ∈ M, H1 b ≠ none) ∧ σ[i]? = some (some (.ref l)) ∧ l ≠ q.1 ∧ H1 l = some (.lst (ns.map V.int)) ∧ lo = 0 ∧ hi = (ns.length : Int) ∧ ns.length ≤ 100000 ∧
  ∀ H2 a, Ext [q.1] H1 H2 → TabAt M H2 q → H2 a = none → Q (.ref a) (upd H2 a (.lst ((idxBy ns).map fun j => V.int (j : Nat))))
theorem pe_sortLam {c P : Addr} {params : Arguments} {scope : Scope} {a x : Str} {N : List Str} {i kk : Nat} {e : Expr} {te : L2.St → Hp → (Int → Int → Hp → Prop) → Prop} {p p1 p2 p3 lpos kpos pos : Pos}
    (hc : X.calm = true) (TB : LamX.TabB X.base X.mg c P) (hcode : X.env.code = .ref c) (hg : Gl X "sorted") (hmg : X.mg "sorted" = none) (he : PRg X e te) (hdef : defaultsOf params X.env = ([], []))
    (S : NdefX.NScope N [a] [x] scope) (hr : Room (kk + 3) X.A) (hfr : ∀ y ∈ scope.names, y.2 = .free → X.env.scope.names.lookup y.1 = some .cell ∨ X.env.scope.names.lookup y.1 = some .free)
    (hN : X.N[i]? = some x) (hx : (x, NameKind.free) ∈ scope.names)
    (hb : ∀ (q : Str) (cl : List (Str × Addr)) (pm cv ctv u : Value), bindArgs (PySem.W.kla_fn "<lambda>" q params (.Subscript (.Name x p1) (.Name a p2) p3) scope cl pm cv ctv) ⟨[u], []⟩ = pure [(a, u)])
    (hda : (a == ("__debug__" : Str)) = false := by decide) (hdx : (x == ("__debug__" : Str)) = false := by decide) (hcx : (x == ("__classdict__" : Str)) = false := by decide) (hca : (a == ("__classdict__" : Str)) = false := by decide)
    (na : starEach [e] X.env = (false, eval e X.env) :: starEach [] X.env := by rfl) (na2 : backTo pos (starEach [e] X.env) = (false, eval e X.env) :: backTo pos (starEach [] X.env) := by rfl) (hpl : (backTo pos (starEach [e] X.env)).any (·.1) = false := by rfl) :
    PE X (.Call (.Name "sorted" p) [e] [⟨some "key", .Lambda params (.Subscript (.Name x p1) (.Name a p2) p3) scope lpos, kpos⟩] pos) (tSortLam X.K (P, X.env.qual ++ "<lambda>") te i) := by
  refine ⟨fun pins s σ H Q I h => ?_⟩
  refine wpAny_Call_Name_kw (ld_blt I hg hmg (by rfl) ?_ (by decide) (by decide))
  refine PyProof.Rows.callWith_kw ?_ na2 hpl (by rfl) (by rfl)
  refine args_cons (thn (he pins s σ H _ I h) fun z s1 ⟨r, lo, hi, t, u, v, H1, ez, hrg, I1, M, l, ns, hT, hM, hv, hlP, hl, e1, e2, hz, q⟩ => args_nil ?_) na
  subst ez e1 e2
  show wpAny _ _ (evalAll ((do let v ← eval (.Lambda params (.Subscript (.Name x p1) (.Name a p2) p3) scope lpos) X.env; standAt pos; pure v) :: [])) _ _ s1
  have hfree : ∀ y ∈ scope.names, y.2 = .free → ∃ c, X.env.cells.lookup y.1 = some c := fun y hy e => (hfr y hy e).elim (fun z => I.ok.has _ (.inl z)) fun z => I.ok.has _ (.inr z)
  refine wpAny_evalAll_cons (wpAny_bind (lam_make I1 TB hcode hT hM hdef hfree fun f k pm ctv H2 s2 I2 ex T2 hf hk up => wpAny_bind (wpAny_standAt (wpAny_pure (wpAny_evalAll_nil ?_)))))
  obtain ⟨ps, hP, _⟩ := id hT
  have hPo : s1.heap.get? P = some { cls := .none, data := .fields ps } := I1.hok P _ hP
  have hrP : r ≠ P := fun z => by
    subst z
    have := hrg
    unfold IsRange at this
    rw [hPo] at this
    cases this
  have hrg2 : IsRange s2.heap r 0 (ns.length : Int) 1 t u v := up r _ hrP hrg
  have hl2 : SqL X.K H2 l (ns.map V.int) := SqL.of (ex l _ (by simpa using hlP) hl)
  have hu := hr.un
  show wpAny _ _ (call (.builtin "sorted") [.ref r] [(Str.ofString "key", .ref f)]) _ _ s2
  refine sortedRange (k := fun i => ns.getD i 0) (n := ns.length) (I2.ok.hd hc) hrg2 (by omega) (by omega) (fun j t0 hj h tk kp => ?_) fun out cc h1 h' tk a' k1 ea k2 ho each => ?_
  · have : ns.getD j 0 = ns[j] := by rw [List.getD_eq_getElem?_getD, List.getElem?_eq_getElem hj]; rfl
    rw [this]
    exact lam_turn I2 S hr hfr hN hx hv hl2 hf hk hb hj hda hdx hcx hca h tk kp
  · subst ea
    have I3 : Inv X pins σ H2 { s2 with heap := h1, toks := tk } := I2.kept k1
    have vals : Vals ((idxBy ns).map fun j => V.int (j : Nat)) out := by
      clear ho
      unfold idxBy
      generalize (List.range ns.length).mergeSort (fun i j => decide (ns.getD i 0 ≤ ns.getD j 0)) = L at each
      induction each with
      | nil => exact .nil
      | cons r _ ih => exact .cons r ih
    have lenI : ((idxBy ns).map fun j => V.int (j : Nat)).length ≤ sizeLine := by
      rw [List.length_map, idxBy, List.length_mergeSort, List.length_range, sizeLine_eq]; omega
    have I4 : Inv X pins σ (upd H2 h1.objs.size (.lst ((idxBy ns).map fun j => V.int (j : Nat)))) { s2 with heap := h', toks := tk } :=
      I3.laid k2 (Nat.le_refl _) (show ObjOk X.prog X.w _ _ _ (.lst _) from ⟨lenI, out, cc, vals, ho⟩)
    exact ⟨.ref h1.objs.size, _, I4, rfl, q H2 _ ex T2 (I3.hok.fresh (Nat.le_refl _))⟩
end
end E
/-! DRul: more rules: loops over lists of one's own, freezing, pop, lcm, the sort by a lambda. -/
namespace E
open PySem PySem.Spec PyProof.Rows L2
section
variable {X : Cx}
def CLcm (a : Int) : Prop := a.natAbs < 2 ^ 13000
abbrev rLcm : List V → Hp → VK → Prop := fun vs H Q => ∃ a b : Int, vs = [.int a, .int b] ∧ CLcm a ∧ CLcm b ∧ Q (.int ((Nat.lcm a.natAbs b.natAbs : Nat) : Int)) H
theorem log_lt {n k : Nat} (h : n < 2 ^ k) (hk : 0 < k) : n.log2 < k := by
  by_cases h0 : n = 0
  · subst h0; simpa using hk
  · exact (Nat.log2_lt h0).mpr h
theorem lcm_le (a b : Nat) : Nat.lcm a b ≤ a * b := by
  unfold Nat.lcm
  exact Nat.div_le_self _ _
theorem cr_lcm : CallR X (.builtin "math.lcm") rLcm := by
  intro pins s σ H vs us Q I r h
  obtain ⟨a, b, rfl, ha, hb, q⟩ := h
  obtain ⟨t, u, rfl⟩ := Vals.int2 r
  have e1 : Nat.lcm 1 a.natAbs = a.natAbs := Nat.lcm_one_left _
  have l1 : (max 1 a.natAbs).log2 < 13000 := log_lt (Nat.max_lt.mpr ⟨Nat.one_lt_two_pow (by decide), ha⟩) (by decide)
  have l2 : (max a.natAbs b.natAbs).log2 < 13000 := log_lt (Nat.max_lt.mpr ⟨ha, hb⟩) (by decide)
  have l3 : ((((Nat.lcm 1 a.natAbs).lcm b.natAbs : Nat) : Int)).natAbs.log2 < bitsLine := by
    rw [e1, Int.natAbs_natCast]
    have h1 : a.natAbs.lcm b.natAbs < 2 ^ 26000 := by
      refine Nat.lt_of_le_of_lt (lcm_le _ _) ?_
      rw [show 26000 = 13000 + 13000 from rfl, Nat.pow_add]
      exact Nat.mul_lt_mul'' ha hb
    exact Nat.lt_of_lt_of_le (log_lt h1 (by decide)) (by decide)
  have g := PySem.W.mg_run_lcm a t b u (by omega) (by omega) l3
  rw [e1] at g
  exact call_function_meets PySem.W.MGF.kind_lcm PySem.W.MGF.plain_lcm PySem.W.MGF.entry_lcm (PySem.W.MGF.args_lcm _ _) g.meets ⟨.int _, H, I.tok _, ⟨_, rfl⟩, q⟩
end
variable {c : Ct} {δ : List Sl} {Dn : Ends}
theorem rc_lcm {i j : Int} (h1 : CLcm i) (h2 : CLcm j) : RC c rLcm [.int i, .int j] (· = .int ((Nat.lcm i.natAbs j.natAbs : Nat) : Int)) := fun δ σ H Q vs s hp q => by
  cases hp with
  | cons r t =>
    cases t with
    | cons r2 t =>
      cases t
      cases rdo_int r
      cases rdo_int r2
      exact ⟨i, j, rfl, h1, h2, q _ H _ (Same.refl H) (.int _) rfl⟩
theorem nx_Is {I : Ct → List Sl → Prop} (h : ∀ σ H, Sta c δ σ H → I c δ) : Nx c δ (NxI I) := fun σ H s => ⟨c, δ, h σ H s, s⟩
/-- a loop whose source may be a list of one's own -/
theorem sd_forO {wi : TI} {g : TG} {tb : TS} {its : List D} (hi : EvIO c wi δ (· = its)) (I : Hp → Nat → Ct → List Sl → Prop) (h0 : ∀ H1, I H1 0 (c.loop H1) δ)
    (hk : ∀ H1 i c1 δ1, I H1 i c1 δ1 → c1.kp = (H1, c.wl) :: c.kp ∧ (∀ b ∈ c1.M, b ∈ c.M ∨ H1 b = none) ∧ ∀ p ∈ c.own, p ∈ c1.own)
    (hs : ∀ H1 i d c1 δ1, its[i]? = some d → I H1 i c1 δ1 → ∃ js δ2, EvG g js δ1 d δ2 ∧ Sd c1 tb δ2 { Dn with nx := NxI (I H1 (i + 1)), ct := NxI (I H1 (i + 1)), bk := Dn.nx })
    (hd : ∀ H1 c1 δ1, I H1 its.length c1 δ1 → Nx { c1 with kp := c.kp } δ1 Dn.nx) : Sd c (tFor wi g tb) δ Dn := fun σ H s => hi σ H _ s fun J H1 its' s1 e1 src p => by
  subst p
  refine ⟨fun i m σ H => m = its'.length - i ∧ i ≤ its'.length ∧ ∃ c1 δ1, I H1 i c1 δ1 ∧ Sta c1 δ1 σ H, ⟨its'.length, rfl, Nat.zero_le _, c.loop H1, δ, h0 H1, s1.loop⟩, ?_⟩
  rintro i m σ2 H2 ⟨rfl, hi2, c1, δ1, hI, st⟩
  obtain ⟨k1, k2, k3⟩ := hk H1 i c1 δ1 hI
  have ex : Ext c.M H1 H2 := (st.kps (H1, c.wl) (by rw [k1]; exact List.mem_cons_self)).sub s1.wlM
  obtain ⟨go, stop⟩ := src H2 c1.M ex st.good k2 fun p hp => let ⟨_, _, _, _, vs, e, r⟩ := st.own p (k3 p hp); ⟨vs, e, r⟩
  by_cases hlt : i < its'.length
  · obtain ⟨go1, go2⟩ := go i hlt
    refine .inr ⟨go1, NxI (I H1 (i + 1)), fun σ3 H3 ⟨c3, δ3, i3, s3⟩ => ⟨its'.length - (i + 1), by omega, rfl, hlt, c3, δ3, i3, s3⟩, fun x H3 y => ?_⟩
    obtain ⟨sm, d, hdd, rd⟩ := go2 x H3 y
    obtain ⟨js, δ2, hg, hb⟩ := hs H1 i d c1 δ1 hdd hI
    exact hg c1 σ2 H3 x _ (st.same sm) rd fun σ4 s4 _ _ => hb σ4 H3 s4
  · have ei : i = its'.length := by omega
    subst ei
    exact .inl ⟨stop, hd H1 c1 δ1 hI σ2 H2 (st.unloop k1)⟩
theorem ss_forO {wi : TI} {g : TG} {tb u : TS} {its : List D} (hi : EvIO c wi δ (· = its)) (I : Hp → Nat → Ct → List Sl → Prop) (h0 : ∀ H1, I H1 0 (c.loop H1) δ)
    (hk : ∀ H1 i c1 δ1, I H1 i c1 δ1 → c1.kp = (H1, c.wl) :: c.kp ∧ (∀ b ∈ c1.M, b ∈ c.M ∨ H1 b = none) ∧ ∀ p ∈ c.own, p ∈ c1.own)
    (hs : ∀ H1 i d c1 δ1, its[i]? = some d → I H1 i c1 δ1 → ∃ js δ2, EvG g js δ1 d δ2 ∧ Sd c1 tb δ2 { Dn with nx := NxI (I H1 (i + 1)), ct := NxI (I H1 (i + 1)), bk := u Dn })
    (hd : ∀ H1 c1 δ1, I H1 its.length c1 δ1 → Sd { c1 with kp := c.kp } u δ1 Dn) : Sd c (tSeq (tFor wi g tb) u) δ Dn :=
  sd_seq (sd_forO (Dn := { Dn with nx := u Dn }) hi I h0 hk hs hd)
/-- zip of a list of one's own and a list -/
theorem ei_zipO {K : PySem.W.Frag} {tb : TE} {i : Nat} {l : Addr} {xs ys : List D} {d2 : D} (hi : δ[i]? = some (some (.inr l))) (ho : (l, xs) ∈ c.own) (h : Ev c tb δ (· = d2)) (h2 : seqD d2 = some ys) :
    EvIO c (iZipS K (tCons (tVar i) (tCons tb tNil))) δ (· = (xs.zip ys).map pairD) := fun σ H R s q => by
  refine ⟨.ref l, (s.sl.2 i).2 l hi, h σ H _ s fun v H1 d s1 e1 r1 p1 => ?_⟩
  subst p1
  obtain ⟨b, k2, ws, rfl, nb, hb, rb⟩ := sqk_of (K := K) r1 h2
  obtain ⟨_, _, _, _, vs0, e0, _⟩ := s1.own _ ho
  refine ⟨l, b, true, k2, vs0, ws, rfl, sqk_at (.inl ⟨e0, rfl⟩), sqk_at hb, q _ H1 _ s1 e1 (fun H2 M2 e2 g2 n2 o2 => ?_) rfl⟩
  obtain ⟨vs, e3, ra'⟩ := o2 _ ho
  have ha' := sqk_at (K := K) (k := true) (.inl ⟨e3, rfl⟩)
  have hb' := sqk_at (K := K) (sqk_ext hb nb e2)
  have rb' := rb.later e2 n2
  have la := ra'.len; have lb := rb'.len
  have la : vs.length = xs.length := la
  have lz : ((xs.zip ys).map pairD).length = min xs.length ys.length := by simp
  refine ⟨fun i hi => ?_, ⟨vs, ws, ha', hb', by omega, by omega, by omega⟩⟩
  rw [lz] at hi
  have hx : xs[i]? = some xs[i] := List.getElem?_eq_getElem (by omega)
  have hy : ys[i]? = some ys[i] := List.getElem?_eq_getElem (by omega)
  obtain ⟨v, hv, rv⟩ := ra'.get hx
  obtain ⟨w, hw, rw'⟩ := rb'.get hy
  refine ⟨⟨vs, ws, v, w, ha', hb', hv, hw⟩, fun x H' y => ?_⟩
  obtain ⟨T, x1, y1, rfl, hT, rfl, f1, f2⟩ := y
  have e1 : x1 = v := Option.some.inj ((f1 _ ha').symm.trans hv)
  have e2 : y1 = w := Option.some.inj ((f2 _ hb').symm.trans hw)
  subst e1 e2
  have ex := Ext.of (M := M2) (Same.new (o := .tup [x1, y1]) hT)
  exact ⟨Same.new hT, _, zip_get hx hy, .tup (fun z => g2 T z hT) upd_same (.cons (rv.ext ex) (.cons (rw'.ext ex) .nil))⟩
/-- lists of one's own that are no longer told -/
theorem Sta.drop {σ : L2.St} {H : Hp} {own' : List (Addr × List D)} (h : Sta c δ σ H) (p : own'.Sublist c.own) : Sta { c with own := own' } δ σ H :=
  ⟨h.good, h.mm, h.wm, h.kw, h.keep, h.kps, fun q hq => h.own q (p.subset hq), (p.map (·.1)).nodup h.nd, h.jar, h.sl, h.mt, h.tab⟩
theorem nx_drop {N : L2.St → Hp → Prop} {own' : List (Addr × List D)} (p : own'.Sublist c.own) (h : Nx { c with own := own' } δ N) : Nx c δ N := fun σ H s => h σ H (s.drop p)
theorem sd_drop {t : TS} {own' : List (Addr × List D)} (p : own'.Sublist c.own) (h : Sd { c with own := own' } t δ Dn) : Sd c t δ Dn := fun σ H s => h σ H (s.drop p)
theorem sd_perm {t : TS} {own' : List (Addr × List D)} (p : own'.Perm c.own) (h : Sd { c with own := own' } t δ Dn) : Sd c t δ Dn := fun σ H s => h σ H (s.perm p)
theorem nx_perm {N : L2.St → Hp → Prop} {own' : List (Addr × List D)} (p : own'.Perm c.own) (h : Nx { c with own := own' } δ N) : Nx c δ N := fun σ H s => h σ H (s.perm p)
/-- a list of one's own becomes data, wherever it stands in M -/
theorem Sta.frz {σ : L2.St} {H : Hp} {l : Addr} {ds : List D} {r : List (Addr × List D)} {i : Nat} (h : Sta c δ σ H) (ho : c.own = (l, ds) :: r) 
    (hk : ∀ q ∈ c.kp, l ∉ q.2) (hi : δ[i]? = some (some (.inr l))) : Sta { c with own := r, M := c.M.filter (· ≠ l) } (δ.set i (some (.inl (.lst ds)))) σ H := by
  have hm : (l, ds) ∈ c.own := by rw [ho]; exact List.mem_cons_self
  obtain ⟨a, b, b', x, ws, e, rw'⟩ := h.own _ hm
  have sub : ∀ y ∈ c.M.filter (· ≠ l), y ∈ c.M := fun y hy => (List.mem_filter.mp hy).1
  have nl : l ∉ c.M.filter (· ≠ l) := fun z => by simpa using (List.mem_filter.mp z).2
  have back : ∀ y, y ∈ c.M → y ≠ l → y ∈ c.M.filter (· ≠ l) := fun y hy n => List.mem_filter.mpr ⟨hy, by simpa using n⟩
  have nd : ((l, ds) :: r).map (·.1) |>.Nodup := by rw [← ho]; exact h.nd
  refine ⟨fun b hb => h.good b (sub b hb), fun y hy => back y (h.mm y hy) (fun z => b (z ▸ hy)), h.wm, fun q hq y hy => back y (h.kw q hq y hy) (fun z => hk q hq (z ▸ hy)), h.keep, h.kps, fun p hp => ?_, (List.nodup_cons.mp nd).2, fun j ej => ?_, ?_, fun b hb => h.mt b (sub b hb), fun p hp => ?_⟩
  · have hp2 : p ∈ c.own := by rw [ho]; exact List.mem_cons_of_mem _ hp
    obtain ⟨a2, b2, b2', x2, ws2, e2, r2⟩ := h.own p hp2
    have hne : p.1 ≠ l := fun q => (List.nodup_cons.mp nd).1 (q ▸ List.mem_map_of_mem (f := (·.1)) hp)
    exact ⟨back _ a2 hne, b2, b2', x2, ws2, e2, r2.less sub⟩
  · obtain ⟨a2, b2, x2, q2⟩ := h.jar j ej
    exact ⟨a2, b2, x2, q2.less sub⟩
  · have s0 := h.sl.less sub
    have hσ : σ[i]? = some (some (.ref l)) := (s0.2 i).2 l hi
    refine ⟨by simpa using s0.1, fun k => ?_⟩
    by_cases hk : i = k
    · subst hk
      have hb : i < δ.length := (List.getElem?_eq_some_iff.mp hi).1
      rw [List.getElem?_set_self hb]
      refine ⟨fun d q => ?_, fun l q => by cases q⟩
      have : D.lst ds = d := by simpa using q
      subst this
      exact ⟨_, hσ, .lst nl e (rw'.less sub)⟩
    · rw [List.getElem?_set_ne hk]
      exact s0.2 k
  · obtain ⟨a2, b2, x2, q2⟩ := h.tab p hp
    exact ⟨a2, b2, x2, q2.less sub⟩
theorem sd_frz {t : TS} {l : Addr} {ds : List D} {r : List (Addr × List D)} {i : Nat} (ho : c.own = (l, ds) :: r) (hk : ∀ q ∈ c.kp, l ∉ q.2) (hi : δ[i]? = some (some (.inr l)))
    (h : Sd { c with own := r, M := c.M.filter (· ≠ l) } t (δ.set i (some (.inl (.lst ds)))) Dn) : Sd c t δ Dn := fun σ H s => h σ H (s.frz ho hk hi)
theorem nx_frz {N : L2.St → Hp → Prop} {l : Addr} {ds : List D} {r : List (Addr × List D)} {i : Nat} (ho : c.own = (l, ds) :: r) (hk : ∀ q ∈ c.kp, l ∉ q.2) (hi : δ[i]? = some (some (.inr l)))
    (h : Nx { c with own := r, M := c.M.filter (· ≠ l) } (δ.set i (some (.inl (.lst ds)))) N) : Nx c δ N := fun σ H s => h σ H (s.frz ho hk hi)
theorem Sta.frzP {σ : L2.St} {H : Hp} {l : Addr} {ds : List D} {r : List (Addr × List D)} {M' : List Addr} {i : Nat} (h : Sta c δ σ H) (ho : c.own = (l, ds) :: r) (hM : c.M = l :: M') (nl : l ∉ M')
    (hk : ∀ q ∈ c.kp, l ∉ q.2) (hi : δ[i]? = some (some (.inr l))) : Sta { c with own := r, M := M' } (δ.set i (some (.inl (.lst ds)))) σ H := by
  have k := h.frz ho hk hi
  have e : c.M.filter (· ≠ l) = M' := by
    rw [hM, List.filter_cons_of_neg (by simp)]
    exact List.filter_eq_self.mpr fun a ha => by
      have : a ≠ l := fun z => nl (z ▸ ha)
      simpa using this
  rw [e] at k
  exact k
theorem sd_frzP {t : TS} {l : Addr} {ds : List D} {r : List (Addr × List D)} {M' : List Addr} {i : Nat} (ho : c.own = (l, ds) :: r) (hM : c.M = l :: M') (nl : l ∉ M') (hk : ∀ q ∈ c.kp, l ∉ q.2) (hi : δ[i]? = some (some (.inr l)))
    (h : Sd { c with own := r, M := M' } t (δ.set i (some (.inl (.lst ds)))) Dn) : Sd c t δ Dn := fun σ H s => h σ H (s.frzP ho hM nl hk hi)
theorem nx_frzP {N : L2.St → Hp → Prop} {l : Addr} {ds : List D} {r : List (Addr × List D)} {M' : List Addr} {i : Nat} (ho : c.own = (l, ds) :: r) (hM : c.M = l :: M') (nl : l ∉ M') (hk : ∀ q ∈ c.kp, l ∉ q.2) (hi : δ[i]? = some (some (.inr l)))
    (h : Nx { c with own := r, M := M' } (δ.set i (some (.inl (.lst ds)))) N) : Nx c δ N := fun σ H s => h σ H (s.frzP ho hM nl hk hi)
theorem sd_nx0 {u : TS} {w : L2.St → Hp → Prop} (e : w = u Dn) (k : Sd c u δ Dn) : Nx c δ w := by rw [e]; exact k
theorem sd_brk (h : Nx c δ Dn.bk) : Sd c tBreak δ Dn := h
theorem nx_unloop {N : L2.St → Hp → Prop} {q : Hp × List Addr} {kp : List (Hp × List Addr)} (e : c.kp = q :: kp) (h : Nx { c with kp := kp } δ N) : Nx c δ N := fun σ H s => h σ H (s.unloop e)
theorem ss_asgN2 {te : TE} {u : TS} {i : Nat} {P : List D → Prop} (h : EvN c te δ P) (k : ∀ l ds, P ds → l ∉ c.M → (∀ q ∈ c.kp, l ∉ q.2) → Sd (c.push l ds) u (δ.set i (some (.inr l))) Dn) : Sd c (tSeq (tAsg te (gName i)) u) δ Dn :=
  fun σ H s => h σ H _ s fun l H1 ds s0 s1 n e1 p1 => k l ds p1 n (fun q hq z => n (s0.kw q hq l z)) _ H1 (s1.slots (s1.sl.set i (fun d' e => by cases e) fun l e => by cases e; rfl))
/-- x = xs.pop(e), xs the newest list of one's own -/
theorem sd_pop {K : PySem.W.Frag} {te : TE} {i j : Nat} {l : Addr} {ds : List D} {r : List (Addr × List D)} {z : Int} {k : Nat} {d : D} (ho : c.own = (l, ds) :: r) (hi : δ[i]? = some (some (.inr l))) (h : Ev c te δ (· = .int z))
    (hz : -(2 ^ 63) ≤ z ∧ z < 2 ^ 63) (hk : seqIndex? z ds.length = some k) (hd : ds[k]? = some d)
    (q : Nx { c with own := (l, ds.eraseIdx k) :: r } (δ.set j (some (.inl d))) Dn.nx) : Sd c (tAsg (tBM K "list" rPopAt (tVar i) (tCons te tNil)) (gName j)) δ Dn := fun σ H s => by
  have hm : (l, ds) ∈ c.own := by rw [ho]; exact List.mem_cons_self
  obtain ⟨_, _, _, _, vs0, e0, r0⟩ := s.own _ hm
  refine ⟨.ref l, (s.sl.2 i).2 l hi, .inl ⟨rfl, vs0, .inl (.inl e0)⟩, h σ H _ s fun v H1 d1 s1 e1 r1 p1 => ?_⟩
  subst p1
  cases r1
  obtain ⟨a, _, _, _, vs1, e2, r2⟩ := s1.own _ hm
  obtain ⟨y, hy, ry⟩ := r2.get hd
  refine ⟨l, vs1, z, k, y, rfl, rfl, e2, hz.1, hz.2, by rw [r2.len]; exact hk, hy, ?_⟩
  have s2 := s1.write ho (r2.erase k)
  exact q _ _ (s2.slots (s2.sl.set j (fun d' e => by cases e; exact ry.ext (Ext.upd a)) fun l e => by cases e))
theorem ss_pop {K : PySem.W.Frag} {te : TE} {u : TS} {i j : Nat} {l : Addr} {ds : List D} {r : List (Addr × List D)} {z : Int} {k : Nat} {d : D} (ho : c.own = (l, ds) :: r) (hi : δ[i]? = some (some (.inr l))) (h : Ev c te δ (· = .int z))
    (hz : -(2 ^ 63) ≤ z ∧ z < 2 ^ 63) (hk : seqIndex? z ds.length = some k) (hd : ds[k]? = some d)
    (q : Sd { c with own := (l, ds.eraseIdx k) :: r } u (δ.set j (some (.inl d))) Dn) : Sd c (tSeq (tAsg (tBM K "list" rPopAt (tVar i) (tCons te tNil)) (gName j)) u) δ Dn :=
  sd_seq (sd_pop (Dn := { Dn with nx := u Dn }) ho hi h hz hk hd q)
/-- sorted(range(len(xs)), key=lambda at: xs[at]) -/
theorem en_sortLam {K : PySem.W.Frag} {p : Addr × Str} {ta : TE} {i : Nat} {ns : List Int} (hp : c.tb = [p]) (hi : δ[i]? = some (some (.inl (.lst (ns.map D.int))))) (h : EvR c ta δ (· = .int (ns.length : Int))) (hz : ns.length ≤ 100000) :
    EvN c (tSortLam K p (tRg1 ta) i) δ (· = (idxBy ns).map nD) := fun σ H Q s q => h σ H _ s fun v H1 d s1 e1 r1 p1 => by
  subst p1
  cases rdo_int r1
  obtain ⟨v, hv, rv⟩ := (s1.sl.2 i).1 _ hi
  have pm : p ∈ c.tb := by rw [hp]; exact List.mem_cons_self
  obtain ⟨t0, tW, tk, tT⟩ := s1.tab p pm
  cases rv with
  | @lst l vs ds nl el rl =>
    have evs := reps_intsV rl
    subst evs
    refine ⟨_, rfl, c.M, l, ns, tT, s1.good, hv, fun z => nl (z ▸ s1.mm _ t0), el, rfl, rfl, hz, fun H2 a ex T2 hn => ?_⟩
    have s2 : Sta c δ σ H2 := s1.watched (W0 := [p.1]) ex (fun b hb => .inr ⟨p, pm, (List.mem_singleton.mp hb).symm⟩) (fun j ej => ?_) fun p2 hp2 => by
      rw [hp] at hp2
      rw [List.mem_singleton.mp hp2]; exact T2
    · have exM : Ext c.M H1 H2 := ex.sub fun b hb => by rw [List.mem_singleton.mp hb]; exact s1.mm _ t0
      refine q a _ _ (s2.same (Same.new hn)) (s2.mine hn (Same.new hn) upd_same ?_) (fun z => s2.good a z hn) ((e1.trans exM).trans (Ext.of (Same.new hn))) rfl
      have : ((idxBy ns).map fun j => V.int (j : Nat)) = ((idxBy ns).map fun j : Nat => (j : Int)).map V.int := by simp
      rw [this]
      have e2 : (idxBy ns).map nD = ((idxBy ns).map fun j : Nat => (j : Int)).map D.int := by simp [nD]
      rw [e2]
      exact reps_ints _
    · obtain ⟨a1, b1, x1, y1⟩ := s1.jar j ej
      obtain ⟨sc, nn, z1, z2, z3, z4, e4, _⟩ := id y1
      obtain ⟨ps, e5, _⟩ := tT
      have hne : j ≠ p.1 := fun z => by rw [z, e5] at e4; cases e4
      exact y1.ext (ex.sub fun b hb => by rw [List.mem_singleton.mp hb]; exact s1.mm _ t0) ((ex j _ (by simpa using hne) e4).trans e4.symm)
end E
/-! DSwp: the plain law of sweeping: kept rows, their leads, what is left of a row. -/
namespace E
section
variable {α : Type} [Fld α]
open Fld
/-- kept rows with their leads, in any order -/
structure Ks (n : Nat) (S : List (List α)) (ls : List Nat) : Prop where
  len : S.length = ls.length
  wid : ∀ r ∈ S, r.length = n
  lt : ∀ l ∈ ls, l < n
  nz : ∀ (k : Nat) r l, S[k]? = some r → ls[k]? = some l → g r l ≠ 0
  off : ∀ (k j : Nat) r l, S[k]? = some r → ls[j]? = some l → k ≠ j → g r l = 0
  pre : ∀ (k : Nat) r l i, S[k]? = some r → ls[k]? = some l → i < l → g r i = 0
theorem Ks.nil (n : Nat) : Ks n ([] : List (List α)) [] := ⟨rfl, by simp, by simp, by simp, by simp, by simp⟩
/-- v' is a v and b o, zero at l -/
structure Less (v o : List α) (l : Nat) (v' : List α) : Prop where
  ex : ∃ a b : α, a ≠ 0 ∧ ∀ i, g v' i = a * g v i + b * g o i
  z : g v' l = 0
/-- a row between: a multiple of the row told, and something of the span -/
def Rem (S : List (List α)) (t v : List α) : Prop := ∃ a : α, a ≠ 0 ∧ ∃ w, Sp S w ∧ ∀ i, g v i = a * g t i + w i
theorem Rem.self (S : List (List α)) (t : List α) : Rem S t t := ⟨1, ne01, _, sp_zero S, fun i => by rw [omul, add0]⟩
theorem Rem.less {S : List (List α)} {t v o v' : List α} {l : Nat} (h : Rem S t v) (ho : o ∈ S) (k : Less v o l v') : Rem S t v' := by
  obtain ⟨a, ha, w, hw, e⟩ := h
  obtain ⟨a', b, ha', e'⟩ := k.ex
  refine ⟨a' * a, mul_ne ha' ha, _, sp_add (sp_smul a' hw) (sp_smul b (sp_mem ho)), fun i => ?_⟩
  rw [e', e, mulD, mulA, addA]
theorem Rem.scale {S : List (List α)} {t v v' : List α} {a : α} (h : Rem S t v) (ha : a ≠ 0) (e' : ∀ i, g v' i = a * g v i) : Rem S t v' := by
  obtain ⟨b, hb, w, hw, e⟩ := h
  exact ⟨a * b, mul_ne ha hb, _, sp_smul a hw, fun i => by rw [e', e, mulD, mulA]⟩
theorem Rem.left {S : List (List α)} {t v : List α} (h : Rem S t v) : Sp (v :: S) (g t) := by
  obtain ⟨a, ha, w, hw, e⟩ := h
  refine sp_of (sp_add (sp_smul a⁻¹ (sp_head v S)) (sp_cons v (sp_smul a⁻¹ (sp_neg hw)))) fun i => ?_
  show g t i = a⁻¹ * g v i + a⁻¹ * -(w i)
  rw [← mulD, e, addA, addN, add0, ← mulA, mulC a⁻¹ a, mulI a ha, omul]
theorem Rem.right {S : List (List α)} {t v : List α} (h : Rem S t v) : Sp (t :: S) (g v) := by
  obtain ⟨a, ha, w, hw, e⟩ := h
  exact sp_of (sp_add (sp_smul a (sp_head t S)) (sp_cons t hw)) e
/-- the span of some rows and one more -/
theorem sp_sub {rs ts : List (List α)} {v : Nat → α} (h : Sp rs v) (k : ∀ r ∈ rs, r ∈ ts) : Sp ts v := sp_trans (fun r hr => sp_mem (k r hr)) h
theorem Rem.same {S R : List (List α)} {t v : List α} (h : Rem S t v) (hS : SameSp S R) : SameSp (v :: S) (t :: R) := by
  refine ⟨fun r hr => ?_, fun r hr => ?_⟩
  · rcases List.mem_cons.mp hr with e | e
    · subst e
      refine sp_trans (fun x hx => ?_) h.right
      rcases List.mem_cons.mp hx with e | e
      · subst e; exact sp_head _ _
      · exact sp_cons _ (hS.1 x e)
    · exact sp_cons _ (hS.1 r e)
  · rcases List.mem_cons.mp hr with e | e
    · subst e; exact h.left
    · exact sp_cons _ (hS.2 r e)
theorem sameSp_perm {rs ts : List (List α)} (h : ∀ r, r ∈ rs ↔ r ∈ ts) : SameSp rs ts := ⟨fun r hr => sp_mem ((h r).mp hr), fun r hr => sp_mem ((h r).mpr hr)⟩
/-- nothing is left of the row -/
theorem Rem.none {S R : List (List α)} {t v : List α} (h : Rem S t v) (hS : SameSp S R) (hz : ∀ i, g v i = 0) : SameSp S (t :: R) := by
  have k := h.same hS
  refine ⟨fun r hr => sp_cons _ (hS.1 r hr), fun r hr => sp_trans (fun x hx => ?_) (k.2 r hr)⟩
  rcases List.mem_cons.mp hx with e | e
  · subst e; exact sp_of (sp_zero S) hz
  · exact sp_mem e
/-- a row that is zero at all leads is kept -/
theorem Ks.add {n : Nat} {S S' : List (List α)} {ls : List Nat} {v : List α} {l : Nat} (w : Ks n S ls) (hv : v.length = n) (hz : ∀ m ∈ ls, g v m = 0) (hl : l < n) (hnz : g v l ≠ 0) (hp : ∀ i, i < l → g v i = 0)
    (hlen : S'.length = S.length) (hw : ∀ r ∈ S', r.length = n) (hS : ∀ (k : Nat) r r', S[k]? = some r → S'[k]? = some r' → Less r v l r') : Ks n (S' ++ [v]) (ls ++ [l]) ∧ SameSp (S' ++ [v]) (v :: S) := by
  have lsl : l ∉ ls := fun h => hnz (hz l h)
  have back : ∀ {k : Nat} {r' : List α}, S'[k]? = some r' → ∃ r, S[k]? = some r ∧ Less r v l r' := fun {k r'} h => by
    have hk : k < S'.length := (List.getElem?_eq_some_iff.mp h).1
    have e := List.getElem?_eq_getElem (l := S) (i := k) (by omega)
    exact ⟨_, e, hS k _ r' e h⟩
  have top : ∀ {k : Nat} {r' : List α}, (S' ++ [v])[k]? = some r' → (k < S.length ∧ S'[k]? = some r') ∨ (k = S.length ∧ r' = v) := fun {k r'} h => by
    by_cases hk : k < S'.length
    · rw [List.getElem?_append_left hk] at h; exact .inl ⟨by omega, h⟩
    · rw [List.getElem?_append_right (by omega)] at h
      have hk2 : k - S'.length = 0 := by
        have := (List.getElem?_eq_some_iff.mp h).1
        simp at this; omega
      rw [hk2] at h
      exact .inr ⟨by omega, by simpa using h.symm⟩
  have topl : ∀ {k m : Nat}, (ls ++ [l])[k]? = some m → (k < S.length ∧ ls[k]? = some m) ∨ (k = S.length ∧ m = l) := fun {k m} h => by
    by_cases hk : k < ls.length
    · rw [List.getElem?_append_left hk] at h; exact .inl ⟨by rw [w.len]; exact hk, h⟩
    · rw [List.getElem?_append_right (by omega)] at h
      have hk2 : k - ls.length = 0 := by
        have := (List.getElem?_eq_some_iff.mp h).1
        simp at this; omega
      rw [hk2] at h
      exact .inr ⟨by rw [w.len]; omega, by simpa using h.symm⟩
  refine ⟨⟨by simp [hlen, w.len], fun r hr => ?_, fun m hm => ?_, fun k r m hr hm => ?_, fun k j r m hr hm hkj => ?_, fun k r m i hr hm hi => ?_⟩, fun r hr => ?_, fun r hr => ?_⟩
  · rcases List.mem_append.mp hr with e | e
    · exact hw r e
    · rw [List.mem_singleton.mp e]; exact hv
  · rcases List.mem_append.mp hm with e | e
    · exact w.lt m e
    · rw [List.mem_singleton.mp e]; exact hl
  · rcases top hr with ⟨hk, hr⟩ | ⟨hk, rfl⟩
    · rcases topl hm with ⟨_, hm⟩ | ⟨h, _⟩
      · obtain ⟨r0, e0, L⟩ := back hr
        obtain ⟨a, b, ha, e⟩ := L.ex
        rw [e, hz m (List.mem_of_getElem? hm), mul0, add0]
        exact mul_ne ha (w.nz k r0 m e0 hm)
      · omega
    · rcases topl hm with ⟨h, _⟩ | ⟨_, rfl⟩
      · omega
      · exact hnz
  · rcases topl hm with ⟨hj, hm⟩ | ⟨hj, rfl⟩
    · have hvm := hz m (List.mem_of_getElem? hm)
      rcases top hr with ⟨hk, hr⟩ | ⟨hk, rfl⟩
      · obtain ⟨r0, e0, L⟩ := back hr
        obtain ⟨a, b, ha, e⟩ := L.ex
        rw [e, hvm, mul0, add0, w.off k j r0 m e0 hm hkj, mul0]
      · exact hvm
    · rcases top hr with ⟨hk, hr⟩ | ⟨hk, rfl⟩
      · obtain ⟨r0, e0, L⟩ := back hr
        exact L.z
      · omega
  · rcases top hr with ⟨hk, hr⟩ | ⟨hk, rfl⟩
    · rcases topl hm with ⟨_, hm⟩ | ⟨h, _⟩
      · obtain ⟨r0, e0, L⟩ := back hr
        obtain ⟨a, b, ha, e⟩ := L.ex
        have p0 := w.pre k r0 m
        rw [e, p0 i e0 hm hi, mul0, zadd]
        by_cases hlm : l < m
        · have hb : b = 0 := by
            have z := L.z
            rw [e, p0 l e0 hm hlm, mul0, zadd] at z
            rcases Classical.em (b = 0) with hb | hb
            · exact hb
            · exact absurd z (mul_ne hb hnz)
          rw [hb, zmul]
        · have hne : m ≠ l := fun q => lsl (q ▸ List.mem_of_getElem? hm)
          rw [hp i (by omega), mul0]
      · omega
    · rcases topl hm with ⟨h, _⟩ | ⟨_, rfl⟩
      · omega
      · exact hp i hi
  · rcases List.mem_append.mp hr with e | e
    · obtain ⟨k, hk⟩ := List.mem_iff_getElem?.mp e
      obtain ⟨r0, e0, L⟩ := back hk
      obtain ⟨a, b, ha, e⟩ := L.ex
      exact sp_of (sp_add (sp_smul a (sp_cons v (sp_mem (List.mem_of_getElem? e0)))) (sp_smul b (sp_head v S))) e
    · rw [List.mem_singleton.mp e]; exact sp_head _ _
  · rcases List.mem_cons.mp hr with e | e
    · subst e; exact sp_mem (by simp)
    · obtain ⟨k, hk⟩ := List.mem_iff_getElem?.mp e
      have hk2 : k < S'.length := by rw [hlen]; exact (List.getElem?_eq_some_iff.mp hk).1
      have e1 := List.getElem?_eq_getElem (l := S') (i := k) hk2
      obtain ⟨a, b, ha, e⟩ := (hS k r _ hk e1).ex
      refine sp_of (sp_add (sp_smul a⁻¹ (sp_mem (rs := S' ++ [v]) (r := S'[k]) (by simp))) (sp_smul a⁻¹ (sp_neg (sp_smul b (sp_mem (rs := S' ++ [v]) (r := v) (by simp)))))) fun i => ?_
      show g r i = a⁻¹ * g S'[k] i + a⁻¹ * -(b * g v i)
      rw [← mulD, e, addA, addN, add0, ← mulA, mulC a⁻¹ a, mulI a ha, omul]
/-- all places below n stand in n different ones -/
theorem pigeon : ∀ {n : Nat} {ls : List Nat}, ls.Nodup → (∀ l ∈ ls, l < n) → ls.length = n → ∀ x, x < n → x ∈ ls
  | 0, _, _, _, _ => by omega
  | n + 1, ls, nd, lt, len => fun x hx => by
    have hn : n ∈ ls := by
      apply Classical.byContradiction
      intro hn
      have lt' : ∀ l ∈ ls, l < n := fun l hl => by
        have := lt l hl
        have : l ≠ n := fun e => hn (e ▸ hl)
        omega
      obtain ⟨a, r, rfl⟩ : ∃ a r, ls = a :: r := by
        cases ls with
        | nil => simp at len
        | cons a r => exact ⟨a, r, rfl⟩
      have := pigeon (n := n) (ls := r) (List.nodup_cons.mp nd).2 (fun l hl => lt' l (List.mem_cons_of_mem _ hl)) (by simpa using len) a (lt' a List.mem_cons_self)
      exact (List.nodup_cons.mp nd).1 this
    by_cases hxn : x = n
    · rw [hxn]; exact hn
    · have nd' : (ls.erase n).Nodup := nd.erase n
      have := pigeon (n := n) (ls := ls.erase n) nd' (fun l hl => by
        have h1 := lt l (List.mem_of_mem_erase hl)
        have : l ≠ n := fun e => by
          subst e
          exact (List.Nodup.mem_erase_iff nd).mp hl |>.1 rfl
        omega) (by rw [List.length_erase_of_mem hn, len]; rfl) x (by omega)
      exact List.mem_of_mem_erase this
theorem Ks.nd {n : Nat} {S : List (List α)} {ls : List Nat} (w : Ks n S ls) : ls.Nodup := by
  refine List.pairwise_iff_getElem.mpr fun i j hi hj hij e => ?_
  have h1 := List.getElem?_eq_getElem (l := ls) (i := j) hj
  have h0 := List.getElem?_eq_getElem (l := ls) (i := i) hi
  have h2 := List.getElem?_eq_getElem (l := S) (i := i) (by rw [w.len]; omega)
  exact w.nz i _ _ h2 (h0.trans (by rw [e])) (w.off i j _ _ h2 h1 (by omega))
theorem nodup_at {l : List Nat} (nd : l.Nodup) {i j k : Nat} (hi : l[i]? = some k) (hj : l[j]? = some k) : i = j := by
  obtain ⟨h1, e1⟩ := List.getElem?_eq_some_iff.mp hi
  obtain ⟨h2, e2⟩ := List.getElem?_eq_some_iff.mp hj
  have p := List.pairwise_iff_getElem.mp nd
  rcases Nat.lt_trichotomy i j with h | h | h
  · exact absurd (e1.trans e2.symm) (p i j h1 h2 h)
  · exact h
  · exact absurd (e2.trans e1.symm) (p j i h2 h1 h)
theorem nodup_len {n : Nat} {ls : List Nat} (nd : ls.Nodup) (lt : ∀ l ∈ ls, l < n) : ls.length ≤ n := by
  apply Classical.byContradiction
  intro h
  have h : n < ls.length := by omega
  have q := pigeon (nd.sublist (List.take_sublist n ls)) (fun l hl => lt l (List.mem_of_mem_take hl)) (by simp; omega) ls[n] (lt _ (List.getElem_mem h))
  obtain ⟨j, hj⟩ := List.mem_iff_getElem?.mp q
  have hjn : j < n := by
    have := (List.getElem?_eq_some_iff.mp hj).1
    simp at this; omega
  rw [List.getElem?_take_of_lt hjn] at hj
  have := nodup_at nd hj (List.getElem?_eq_getElem h)
  omega
theorem Ks.le {n : Nat} {S : List (List α)} {ls : List Nat} (w : Ks n S ls) : S.length ≤ n := by rw [w.len]; exact nodup_len w.nd w.lt
/-- a combination of kept rows, its values at the leads -/
theorem Ks.all {n : Nat} {S : List (List α)} {ls : List Nat} (w : Ks n S ls) (hn : S.length = n) {t : List α} (ht : t.length = n) : Sp S (g t) := by
  have full := pigeon w.nd w.lt (by rw [← w.len]; exact hn)
  refine ⟨(List.range S.length).map fun k => g t (ls.getD k 0) * (g (S.getD k []) (ls.getD k 0))⁻¹, by simp, fun i => ?_⟩
  by_cases hi : i < n
  · obtain ⟨k, hk⟩ := List.mem_iff_getElem?.mp (full i hi)
    have hkl : k < S.length := by rw [w.len]; exact (List.getElem?_eq_some_iff.mp hk).1
    have hs := List.getElem?_eq_getElem (l := S) (i := k) hkl
    have gen : ∀ (cs : List α) (rs : List (List α)) (m : Nat) (c : α) (r : List α), cs.length = rs.length → cs[m]? = some c → rs[m]? = some r → (∀ (j : Nat) s, rs[j]? = some s → j ≠ m → g s i = 0) → lin cs rs i = c * g r i := by
      intro cs
      induction cs with
      | nil => intro rs m c r _ h; simp at h
      | cons c0 cs ih =>
        intro rs m c r hl hc hr ho
        cases rs with
        | nil => simp at hl
        | cons r0 rs =>
          cases m with
          | zero =>
            simp at hc hr
            subst hc hr
            have : lin cs rs i = 0 := lin_zero_of fun j c s hj hs => by rw [ho (j + 1) s (by simpa using hs) (by omega), mul0]
            show c0 * g r0 i + lin cs rs i = _
            rw [this, add0]
          | succ m =>
            show c0 * g r0 i + lin cs rs i = _
            rw [ho 0 r0 rfl (by omega), mul0, zadd]
            exact ih rs m c r (by simpa using hl) (by simpa using hc) (by simpa using hr) fun j s hj hn => ho (j + 1) s (by simpa using hj) (by omega)
    have e1 : ls.getD k 0 = i := by rw [List.getD_eq_getElem?_getD, hk]; rfl
    have e2 : S.getD k [] = S[k] := by rw [List.getD_eq_getElem?_getD, hs]; rfl
    rw [gen _ S k (g t (ls.getD k 0) * (g (S.getD k []) (ls.getD k 0))⁻¹) S[k] (by simp) (by rw [List.getElem?_map, List.getElem?_range hkl]; rfl) hs fun j s hj hn => w.off j k s i hj hk hn]
    rw [e1, e2, mulA, mulC (g S[k] i)⁻¹, mulI _ (w.nz k _ i hs hk), mul1]
  · rw [g_ge (by omega)]
    refine (lin_zero_of fun j c r hj hr => ?_).symm
    rw [g_ge (by rw [w.wid r (List.mem_of_getElem? hr)]; omega), mul0]
/-- the end: the kept rows in the order of their leads, each with one at its lead -/
theorem Ks.swept {n : Nat} {S : List (List α)} {ls : List Nat} (w : Ks n S ls) {ord : List Nat} {T : List (List α)} (hp : ord.Perm (List.range S.length)) (hs : (ord.map fun k => ls.getD k 0).Pairwise (· < ·))
    (hT : T.length = ord.length) (hTw : ∀ t ∈ T, t.length = n) (hv : ∀ (j k : Nat) t, ord[j]? = some k → T[j]? = some t → ∀ i, g t i = (g (S.getD k []) (ls.getD k 0))⁻¹ * g (S.getD k []) i) :
    Sw n T (ord.map fun k => ls.getD k 0) ∧ SameSp T S := by
  have kin : ∀ {j k : Nat}, ord[j]? = some k → ∃ r l, S[k]? = some r ∧ ls[k]? = some l ∧ S.getD k [] = r ∧ ls.getD k 0 = l := fun {j k} h => by
    have : k < S.length := List.mem_range.mp (hp.mem_iff.mp (List.mem_of_getElem? h))
    have e1 := List.getElem?_eq_getElem (l := S) (i := k) this
    have e2 := List.getElem?_eq_getElem (l := ls) (i := k) (by rw [← w.len]; exact this)
    exact ⟨_, _, e1, e2, by rw [List.getD_eq_getElem?_getD, e1]; rfl, by rw [List.getD_eq_getElem?_getD, e2]; rfl⟩
  have nd : ord.Nodup := hp.nodup_iff.mpr List.nodup_range
  have at_ : ∀ {j : Nat} {m : Nat}, (ord.map fun k => ls.getD k 0)[j]? = some m → ∃ k, ord[j]? = some k ∧ ls.getD k 0 = m := fun {j m} h => by
    rw [List.getElem?_map] at h
    cases e : ord[j]? with
    | none => rw [e] at h; cases h
    | some k => rw [e] at h; exact ⟨k, rfl, Option.some.inj h⟩
  refine ⟨⟨by simp [hT], hTw, fun l hl => ?_, fun j t l ht hl => ?_, fun j1 j2 t l ht hl hne => ?_, fun j t l i ht hl hi => ?_, hs⟩, fun t ht => ?_, fun r hr => ?_⟩
  · obtain ⟨k, hk, e⟩ := List.mem_map.mp hl
    obtain ⟨j, hj⟩ := List.mem_iff_getElem?.mp hk
    obtain ⟨r, l', a, b, c, d⟩ := kin hj
    rw [← e, d]; exact w.lt l' (List.mem_of_getElem? b)
  · obtain ⟨k, hk, e⟩ := at_ hl
    obtain ⟨r, l', a, b, c, d⟩ := kin hk
    rw [hv j k t hk ht, c, d]
    have : l = l' := by rw [← e, d]
    rw [this, mulC, mulI _ (w.nz k r l' a b)]
  · obtain ⟨k2, hk2, e2⟩ := at_ hl
    obtain ⟨r2, l2, a2, b2, c2, d2⟩ := kin hk2
    have hj1 : j1 < ord.length := by rw [← hT]; exact (List.getElem?_eq_some_iff.mp ht).1
    have hk1 := List.getElem?_eq_getElem (l := ord) (i := j1) hj1
    obtain ⟨r1, l1, a1, b1, c1, d1⟩ := kin hk1
    have hkk : ord[j1] ≠ k2 := fun q => hne (nodup_at nd hk1 (by rw [hk2, q]))
    rw [hv j1 _ t hk1 ht, c1, ← e2, d2, w.off _ k2 r1 l2 a1 b2 hkk, mul0]
  · obtain ⟨k, hk, e⟩ := at_ hl
    obtain ⟨r, l', a, b, c, d⟩ := kin hk
    rw [hv j k t hk ht, c, w.pre k r l' i a b (by rw [← d, e]; exact hi), mul0]
  · obtain ⟨j, hj⟩ := List.mem_iff_getElem?.mp ht
    have hj1 : j < ord.length := by rw [← hT]; exact (List.getElem?_eq_some_iff.mp hj).1
    have hk := List.getElem?_eq_getElem (l := ord) (i := j) hj1
    obtain ⟨r, l', a, b, c, d⟩ := kin hk
    refine sp_of (sp_smul (g r l')⁻¹ (sp_mem (List.mem_of_getElem? a))) fun i => ?_
    rw [hv j _ t hk hj, c, d]
  · obtain ⟨k, hk⟩ := List.mem_iff_getElem?.mp hr
    have hkm : k ∈ ord := hp.mem_iff.mpr (List.mem_range.mpr (List.getElem?_eq_some_iff.mp hk).1)
    obtain ⟨j, hj⟩ := List.mem_iff_getElem?.mp hkm
    obtain ⟨r', l', a, b, c, d⟩ := kin hj
    have hjT : j < T.length := by rw [hT]; exact (List.getElem?_eq_some_iff.mp hj).1
    have ht := List.getElem?_eq_getElem (l := T) (i := j) hjT
    have er : r = r' := Option.some.inj (hk.symm.trans a)
    refine sp_of (sp_smul (g r' l') (sp_mem (List.mem_of_getElem? ht))) fun i => ?_
    show g r i = g r' l' * g T[j] i
    rw [hv j k _ hj ht, c, d, ← mulA, mulI _ (w.nz k r' l' a b), omul, er]
end
end E
/-! DInt: rows of whole numbers, common denominators, first places. -/
namespace E
open PySem PySem.Spec PyProof.Rows L2
def rowI (r : List Int) : D := .lst (r.map D.int)
def rowQ (r : List Rat) : D := .tup (r.map encQ)
def encZ {p : Int} {h : p ∈ primes} (x : Zp p h) : D := .int x.1
def rowZ {p : Int} {h : p ∈ primes} (r : List (Zp p h)) : D := .tup (r.map encZ)
def rowZL {p : Int} {h : p ∈ primes} (r : List (Zp p h)) : D := .lst (r.map encZ)
def ir (r : List Int) : List Rat := r.map (Int.cast : Int → Rat)
theorem g_ir (r : List Int) (i : Nat) : g (ir r) i = ((r.getD i 0 : Int) : Rat) := by
  unfold g ir
  rw [List.getD_eq_getElem?_getD, List.getD_eq_getElem?_getD, List.getElem?_map]
  cases r[i]? <;> rfl
theorem ir_len (r : List Int) : (ir r).length = r.length := List.length_map _
theorem cast_eq0 {a : Int} : ((a : Rat) = 0) ↔ a = 0 := ⟨fun h => by
  have := congrArg Rat.num h
  simpa using this, fun h => by rw [h]; rfl⟩
theorem getD_map {β γ : Type} (f : β → γ) (r : List β) (i : Nat) (d : β) (e : γ) (h : f d = e) : (r.map f).getD i e = f (r.getD i d) := by
  rw [List.getD_eq_getElem?_getD, List.getD_eq_getElem?_getD, List.getElem?_map]
  cases r[i]? with
  | none => exact h.symm
  | some x => rfl
theorem get_getD {β : Type} {r : List β} {i : Nat} (h : i < r.length) (d : β) : r[i]? = some (r.getD i d) := by
  rw [List.getD_eq_getElem?_getD, List.getElem?_eq_getElem h]; rfl
theorem mem_getD {β : Type} {r : List β} {i : Nat} (h : i < r.length) (d : β) : r.getD i d ∈ r := List.mem_of_getElem? (get_getD h d)
/-- fewer than b bits -/
def Bt (b : Nat) (x : Int) : Prop := x.natAbs < 2 ^ b
theorem Bt.mono {a b : Nat} {x : Int} (h : Bt a x) (k : a ≤ b) : Bt b x := Nat.lt_of_lt_of_le h (Nat.pow_le_pow_right (by decide) k)
theorem Bt.log {b : Nat} {x : Int} (h : Bt b x) : x.natAbs.log2 ≤ b := by
  by_cases h0 : x.natAbs = 0
  · rw [h0]; simp
  · exact Nat.le_of_lt ((Nat.log2_lt h0).mpr h)
theorem Bt.mul {a b : Nat} {x y : Int} (h : Bt a x) (k : Bt b y) : Bt (a + b) (x * y) := by
  show (x * y).natAbs < _
  rw [Int.natAbs_mul, Nat.pow_add]
  exact Nat.mul_lt_mul'' h k
theorem Bt.sub {a : Nat} {x y : Int} (h : Bt a x) (k : Bt a y) : Bt (a + 1) (x - y) := by
  show (x - y).natAbs < _
  have h : x.natAbs < 2 ^ a := h
  have k : y.natAbs < 2 ^ a := k
  have : 2 ^ (a + 1) = 2 ^ a + 2 ^ a := by rw [Nat.pow_succ]; omega
  omega
theorem Bt.add {a : Nat} {x y : Int} (h : Bt a x) (k : Bt a y) : Bt (a + 1) (x + y) := by
  show (x + y).natAbs < _
  have h : x.natAbs < 2 ^ a := h
  have k : y.natAbs < 2 ^ a := k
  have : 2 ^ (a + 1) = 2 ^ a + 2 ^ a := by rw [Nat.pow_succ]; omega
  omega
theorem Bt.cm {a b : Nat} {x y : Int} (h : Bt a x) (k : Bt b y) (n : a + b < 100000000) : CMulI x y := by
  have := h.log; have := k.log; unfold CMulI; omega
theorem Bt.le {b : Nat} {x y : Int} (h : Bt b x) (k : y.natAbs ≤ x.natAbs) : Bt b y := Nat.lt_of_le_of_lt k h
/-- a row of fractions with the common denominator s -/
structure Cd (b : Nat) (r : List Rat) : Prop where
  ex : ∃ s : Nat, 0 < s ∧ s < 2 ^ b ∧ ∀ x ∈ r, x.den ∣ s ∧ Bt b (x.num * ((s / x.den : Nat) : Int))
/-- the first place that is not v -/
def leadD (ds : List D) (v : D) : D := match ds.findIdx? fun x => !PyData.eqv (py x) (py v) with
  | some i => .int (i : Int)
  | none => .non
theorem eqv_int (a b : Int) : PyData.eqv (.int a) (.int b) = decide (a = b) := by
  unfold PyData.eqv
  by_cases h : a = b <;> simp [h]
theorem leadI (r : List Int) : leadD (r.map D.int) (.int 0) = match r.findIdx? fun x => !decide (x = 0) with
  | some i => .int (i : Int)
  | none => .non := by
  unfold leadD
  rw [List.findIdx?_map]
  have : (fun x => !PyData.eqv (py x) (py (D.int 0))) ∘ D.int = fun x => !decide (x = 0) := by
    funext x
    show (!PyData.eqv (.int x) (.int 0)) = _
    rw [eqv_int]
  rw [this]
theorem okD_int (a : Int) : okD (.int a) = true := by
  unfold okD; rfl
theorem okD_encQ (x : Rat) : okD (encQ x) = true := rfl
theorem okD_enc (F : Fm) (x : F.α) : okD (F.enc x) = true := by
  cases F with
  | q => rfl
  | z p h => rfl
theorem divI (a b : Int) : Rat.divInt a b = (a : Rat) * (b : Rat)⁻¹ := by rw [Rat.divInt_eq_div, Rat.div_def]
theorem inv_one : ((1 : Int) : Rat)⁻¹ = 1 := by
  have := Rat.mul_inv_cancel (((1 : Int)) : Rat) (fun z => by have := cast_eq0.mp z; omega)
  have e : (((1 : Int)) : Rat) = 1 := rfl
  rw [e, Rat.one_mul] at this
  rw [e]; exact this
theorem mul_cast (a b : Int) : ((a * b : Int) : Rat) = (a : Rat) * (b : Rat) := Rat.intCast_mul a b
theorem q_num (x : Rat) : ((x.den : Nat) : Int).cast * x = ((x.num : Int) : Rat) := by
  have hd : ((((x.den : Nat) : Int)) : Rat) ≠ 0 := fun z => by
    have := cast_eq0.mp z
    have := x.den_pos
    omega
  have e : x = (x.num : Rat) * ((((x.den : Nat) : Int)) : Rat)⁻¹ := by rw [← divI, Rat.num_divInt_den]
  have e2 : ((((x.den : Nat) : Int)) : Rat) * ((x.num : Rat) * ((((x.den : Nat) : Int)) : Rat)⁻¹) = (x.num : Rat) := by
    rw [Rat.mul_comm, Rat.mul_assoc, Rat.inv_mul_cancel _ hd, Rat.mul_one]
  rw [← e] at e2
  exact e2
theorem q_scale (x : Rat) (w : Nat) (h : x.den ∣ w) : ((x.num * ((w / x.den : Nat) : Int) : Int) : Rat) = (((w : Nat) : Int) : Rat) * x := by
  obtain ⟨k, rfl⟩ := h
  rw [Nat.mul_div_cancel_left _ x.den_pos, mul_cast, Int.natCast_mul, mul_cast, ← q_num x, Rat.mul_assoc, Rat.mul_assoc, Rat.mul_comm x]
theorem leadD_some {ds : List D} {v : D} {i : Nat} (h : i < ds.length) (hi : PyData.eqv (py ds[i]) (py v) = false) (hp : ∀ j (hj : j < i), PyData.eqv (py (ds[j]'(by omega))) (py v) = true) : leadD ds v = .int (i : Int) := by
  unfold leadD
  have : (ds.findIdx? fun x => !PyData.eqv (py x) (py v)) = some i := List.findIdx?_eq_some_iff_getElem.mpr ⟨h, by rw [hi]; rfl, fun j hj => by rw [hp j hj]; simp⟩
  rw [this]
theorem leadD_none {ds : List D} {v : D} (hp : ∀ x ∈ ds, PyData.eqv (py x) (py v) = true) : leadD ds v = .non := by
  unfold leadD
  have : (ds.findIdx? fun x => !PyData.eqv (py x) (py v)) = none := List.findIdx?_eq_none_iff.mpr fun x hx => by rw [hp x hx]; rfl
  rw [this]
section
variable {α : Type} [Fld α]
def subr (k : α) (r o : List α) : List α := List.zipWith (fun a b => a + -(k * b)) r o
theorem subr_len {k : α} {r o : List α} (h : r.length = o.length) : (subr k r o).length = r.length := by simp [subr, h]
theorem g_subr {k : α} {r o : List α} (h : r.length = o.length) (i : Nat) : g (subr k r o) i = g r i + -(k * g o i) := by
  by_cases hi : i < r.length
  · rw [g_lt (by rw [subr_len h]; exact hi), g_lt hi, g_lt (by omega)]
    simp [subr]
  · rw [g_ge (by rw [subr_len h]; omega), g_ge (by omega), g_ge (by omega), mul0]
    rw [neg0, Fld.add0]
theorem subr_zero {r o : List α} (h : r.length = o.length) : subr 0 r o = r := by
  refine g_ext (n := r.length) (subr_len h) rfl fun i hi => ?_
  rw [g_subr h, zmul]
  rw [neg0, Fld.add0]
end
theorem zipD {β : Type} (f : β → D) (r o : List β) : ((r.map f).zip (o.map f)).map pairD = (r.zip o).map fun q => pairD (f q.1, f q.2) := by
  rw [List.zip_map, List.map_map]; rfl
variable {c : Ct} {δ : List Sl} {Dn : Ends}
theorem EvI.is {wi : TI} {a b : List D} (h : EvI c wi δ (· = a)) (e : a = b) : EvI c wi δ (· = b) := by rw [← e]; exact h
theorem EvIO.is {wi : TI} {a b : List D} (h : EvIO c wi δ (· = a)) (e : a = b) : EvIO c wi δ (· = b) := by rw [← e]; exact h
theorem zsub_val {p : Int} {h : p ∈ primes} (a b k : Zp p h) : ((a.1 - k.1 * b.1).fmod p) = (a + -(k * b)).1 := by
  have hp := prime_pos h
  rw [Int.fmod_eq_emod_of_nonneg _ (by omega), Zp.add_val, Zp.neg_val, Zp.mul_val]
  have : (-(k.1 * b.1 % p)) % p = (-(k.1 * b.1)) % p := by
    rw [← Int.zero_sub, Int.sub_emod, Int.emod_emod, ← Int.sub_emod, Int.zero_sub]
  rw [this, Int.add_emod_emod, Int.sub_eq_add_neg]
end E
/-! DLead: the first place that is not zero; what the sweep's loops keep. -/
namespace E
open PySem PySem.Spec PyProof.Rows L2
theorem py_encZ {p : Int} {h : p ∈ primes} (x : Zp p h) : PyData.eqv (py (encZ x)) (py (.int 0)) = decide (x.1 = 0) := eqv_int _ _
theorem zp_eq0 {p : Int} {h : p ∈ primes} {x : Zp p h} : x.1 = 0 ↔ x = 0 := ⟨fun e => Zp.ext (by rw [e, Zp.zero_val]), fun e => by rw [e, Zp.zero_val]⟩
/-- the first place that is not zero, or none -/
def FirstNz {α : Type} [Fld α] (v : List α) (d : D) : Prop := (d = .non ∧ ∀ i, g v i = 0) ∨ ∃ l, d = nD l ∧ l < v.length ∧ g v l ≠ 0 ∧ ∀ i, i < l → g v i = 0
theorem first_of {α β : Type} [Fld α] {v : List α} {xs : List β} (e : β → D) (z : D) (hl : xs.length = v.length) (h : ∀ i (hi : i < xs.length), PyData.eqv (py (e xs[i])) (py z) = true ↔ g v i = 0) : FirstNz v (leadD (xs.map e) z) := by
  cases q : xs.findIdx? fun x => !PyData.eqv (py (e x)) (py z) with
  | none =>
    have q := List.findIdx?_eq_none_iff.mp q
    refine .inl ⟨leadD_none fun x hx => ?_, fun i => ?_⟩
    · obtain ⟨y, hy, rfl⟩ := List.mem_map.mp hx
      simpa using q y hy
    · by_cases hi : i < xs.length
      · exact (h i hi).mp (by simpa using q _ (List.getElem_mem hi))
      · exact g_ge (by omega)
  | some l =>
    obtain ⟨hl2, h1, h2⟩ := List.findIdx?_eq_some_iff_getElem.mp q
    refine .inr ⟨l, leadD_some (by simpa using hl2) (by simpa using h1) (fun j hj => by simpa using h2 j hj), by omega, fun z0 => ?_, fun i hi => ?_⟩
    · have := (h l hl2).mpr z0
      rw [this] at h1; cases h1
    · exact (h i (by omega)).mp (by simpa using h2 i hi)
theorem firstZ {p : Int} {h : p ∈ primes} (v : List (Zp p h)) : FirstNz v (leadD (v.map encZ) (.int 0)) := first_of encZ _ rfl fun i hi => by
  rw [py_encZ, decide_eq_true_eq, zp_eq0, g_lt hi]
theorem firstI (v : List Int) : FirstNz (ir v) (leadD (v.map D.int) (.int 0)) := first_of D.int _ (ir_len v).symm fun i hi => by
  have : PyData.eqv (py (.int v[i])) (py (.int 0)) = decide (v[i] = 0) := eqv_int _ _
  rw [this, decide_eq_true_eq, g_ir, List.getD_eq_getElem?_getD, List.getElem?_eq_getElem hi]
  exact cast_eq0.symm
section
variable {α : Type} [Fld α]
open Fld
/-- one at each lead -/
def Ones (S : List (List α)) (ls : List Nat) : Prop := ∀ (k : Nat) r l, S[k]? = some r → ls[k]? = some l → g r l = 1
theorem less_subr {v o : List α} {l : Nat} (hlen : v.length = o.length) (ho : g o l = 1) : Less v o l (subr (g v l) v o) :=
  ⟨⟨1, -(g v l), ne01, fun i => by rw [g_subr hlen, omul, mulC (-(g v l)), mulN, mulC (g o i)]⟩, by rw [g_subr hlen, ho, mul1, addN]⟩
theorem take_perm {R : List (List α)} {i : Nat} {t : List α} (h : R[i]? = some t) : SameSp (t :: R.take i) (R.take (i + 1)) := by
  have e : R.take (i + 1) = R.take i ++ [t] := by rw [List.take_add_one, h]; rfl
  rw [e]
  exact sameSp_perm fun r => by simp [or_comm]
theorem sp_all {n : Nat} {S : List (List α)} {ls : List Nat} {R : List (List α)} {i : Nat} (w : Ks n S ls) (hn : S.length = n) (hR : ∀ r ∈ R, r.length = n) (h : SameSp S (R.take i)) : SameSp S R :=
  ⟨fun r hr => sp_sub (h.1 r hr) fun x hx => List.mem_of_mem_take hx, fun r hr => w.all hn (hR r hr)⟩
end
theorem zmul_val {p : Int} {h : p ∈ primes} (a k : Zp p h) : (a.1 * k.1).fmod p = (a * k).1 := by
  have hp := prime_pos h
  rw [Int.fmod_eq_emod_of_nonneg _ (by omega), Zp.mul_val]
theorem truZ0 {p : Int} {h : p ∈ primes} {x : Zp p h} (e : x.1 = 0) : truD (encZ x) = some false := by
  show some (x.1 != 0) = _; rw [e]; rfl
theorem truZ1 {p : Int} {h : p ∈ primes} {x : Zp p h} (e : x.1 ≠ 0) : truD (encZ x) = some true := by
  show some (x.1 != 0) = _; rw [bne_iff_ne.mpr e]
theorem zip_at {α β : Type} {f : α → D} {k : β → D} {xs : List α} {ys : List β} {j : Nat} {d : D} (h : (((xs.map f).zip (ys.map k)).map pairD)[j]? = some d) : ∃ x y, xs[j]? = some x ∧ ys[j]? = some y ∧ d = pairD (f x, k y) := by
  have hj := (List.getElem?_eq_some_iff.mp h).1
  simp at hj
  have e1 := List.getElem?_eq_getElem (l := xs) (i := j) (by omega)
  have e2 := List.getElem?_eq_getElem (l := ys) (i := j) (by omega)
  refine ⟨_, _, e1, e2, ?_⟩
  have q := zip_get (xs := xs.map f) (ys := ys.map k) (i := j) (x := f xs[j]) (y := k ys[j]) (by rw [List.getElem?_map, e1]; rfl) (by rw [List.getElem?_map, e2]; rfl)
  rw [q] at h
  exact (Option.some.inj h).symm
theorem nonD_nD (l : Nat) : nonD (nD l) = false := rfl
section
variable {α : Type} [Fld α]
open Fld
theorem g_mapR {v : List α} (k : α) (i : Nat) : g (v.map (· * k)) i = k * g v i := by
  by_cases hi : i < v.length
  · rw [g_lt (by simpa using hi), g_lt hi, List.getElem_map, mulC]
  · rw [g_ge (by simpa using hi), g_ge (by omega), mul0]
theorem Ones.add {n : Nat} {S : List (List α)} {ls : List Nat} {v : List α} {l : Nat} (h : Ones S ls) (w : Ks n S ls) (hv : v.length = n) (hz : ∀ m ∈ ls, g v m = 0) (h1 : g v l = 1) : Ones (S.map (fun o => subr (g o l) o v) ++ [v]) (ls ++ [l]) := fun k r m hr hm => by
  by_cases hk : k < S.length
  · rw [List.getElem?_append_left (by simpa using hk), List.getElem?_map] at hr
    rw [List.getElem?_append_left (by rw [← w.len]; exact hk)] at hm
    cases e : S[k]? with
    | none => rw [e] at hr; cases hr
    | some o =>
      rw [e] at hr
      have hr : subr (g o l) o v = r := Option.some.inj hr
      rw [← hr, g_subr (by rw [w.wid o (List.mem_of_getElem? e), hv]), hz m (List.mem_of_getElem? hm), mul0, neg0, add0]
      exact h k o m e hm
  · have hr2 := (List.getElem?_eq_some_iff.mp hr).1
    have hk2 : k = S.length := by simp at hr2; omega
    rw [List.getElem?_append_right (by simpa using hk)] at hr
    rw [List.getElem?_append_right (by rw [← w.len]; omega)] at hm
    have e1 : k - (S.map fun o => subr (g o l) o v).length = 0 := by simp; omega
    have e2 : k - ls.length = 0 := by rw [← w.len]; omega
    rw [e1] at hr; rw [e2] at hm
    have hr : v = r := by simpa using hr
    have hm : l = m := by simpa using hm
    rw [← hr, ← hm]; exact h1
end
theorem all2_choose {α β : Type} {f : β → D} {Q : α → β → Prop} : ∀ {xs : List α} {ds : List D}, All2 (fun x d => ∃ y, d = f y ∧ Q x y) xs ds → ∃ ys, ds = ys.map f ∧ All2 Q xs ys
  | _, _, .nil => ⟨[], rfl, .nil⟩
  | _, _, .cons ⟨y, e, q⟩ t => let ⟨ys, e2, t2⟩ := all2_choose t; ⟨y :: ys, by rw [e, e2]; rfl, .cons q t2⟩
theorem All2.mem {α β : Type} {R : α → β → Prop} : ∀ {l : List α} {m : List β}, All2 R l m → ∀ b ∈ m, ∃ a ∈ l, R a b
  | _, _, .nil, b, h => by cases h
  | _, _, .cons r t, b, h => by
    rcases List.mem_cons.mp h with e | e
    · subst e; exact ⟨_, List.mem_cons_self, r⟩
    · obtain ⟨a, ha, q⟩ := All2.mem t b e
      exact ⟨a, List.mem_cons_of_mem _ ha, q⟩
theorem en_lcRx {c : Ct} {δ : List Sl} {α : Type} {wi : TI} {g : TG} {te : TE} {vs : List Nat} (xs : List α) (i : α → D) (R : α → D → Prop) (hi : EvIO c wi δ (· = xs.map i)) (hz : xs.length ≤ 100000)
    (hb : ∀ l acc x, x ∈ xs → ∃ js δ', EvG g js (wipeD δ vs) (i x) δ' ∧ (∀ k ∈ js, k ∈ vs) ∧ Ev (c.push l acc) te δ' (R x)) : EvN c (tLc wi g tYes te vs) δ (fun es => All2 R xs es) :=
  (en_lcR i (PX := fun ys => ys = xs) R (fun σ H Q s q => hi σ H Q s fun J H1 its a b e p => q J H1 its a b e ⟨xs, p, rfl⟩) (fun ys e => by rw [e]; exact hz) fun l acc ys x e hx => by subst e; exact hb l acc x hx).mono fun es ⟨ys, e, h⟩ => by subst e; exact h
/-- the bits of the kept rows -/
def BB (b : Nat) : Nat → Nat
  | 0 => 0
  | k + 1 => (k + 1) * BB b k + b + k + 1
theorem BB_le {b k : Nat} (hb : b ≤ 13000) (hk : k ≤ 6) : BB b k ≤ 20000000 := by
  match k with
  | 0 => simp [BB]
  | 1 => simp only [BB]; omega
  | 2 => simp only [BB]; omega
  | 3 => simp only [BB]; omega
  | 4 => simp only [BB]; omega
  | 5 => simp only [BB]; omega
  | 6 => simp only [BB]; omega
  | k + 7 => omega
theorem row_bits {b j k m : Nat} (hj : j ≤ k) (e : BB b (k + 1) = (k + 1) * m + b + k + 1) : b + j * (m + 1) + m + 1 ≤ BB b (k + 1) := by
  rw [e]
  have : j * (m + 1) ≤ k * (m + 1) := Nat.mul_le_mul_right _ hj
  rw [Nat.mul_add, Nat.mul_one] at this
  rw [Nat.mul_add, Nat.mul_one, Nat.add_mul, Nat.one_mul]
  have : k * (m + 1) = k * m + k := by rw [Nat.mul_add, Nat.mul_one]
  omega
end E
/-! DTab: a def whose lambda is made anew; the order of the leads. -/
namespace E
open PySem PySem.Spec PyProof.Rows L2
abbrev qLam (x : Str) : Str := (x ++ ".<locals>.") ++ "<lambda>"
structure HasC (K : PySem.W.Frag) (mg : Str → Option Value) (x : Str) (st : Stmt) (ps : List Str) (k : Addr) : Prop where
  ex : ∃ f fd, Fun K x x st f fd ∧ mg x = some (.ref f) ∧ Binds K fd ps [] ∧ fd.code = .ref k
theorem mkTC {P : Program} {w : World} {K : PySem.W.Frag} {mg : Str → Option Value} {base : Heap} {T : List (Addr × Str)} {x : Str} {st : Stmt} {N ps : List Str} {k : Nat} {kc : Addr} {R : List D → (D → Prop) → Prop} (h : HasC K mg x st ps kc) (S : FnScope N ps (defScope st)) (hl : ∀ ds P, R ds P → ds.length = ps.length)
    (hb : ∀ (A : Around) (outer : List Env) (s : Shared) (H : Hp) (Q : VK) (E : XK) (f : Addr), Room k (A.deeper (envOfC x (defScope st) s.heap.objs.size f (.ref kc))) →
      ∃ t, PSs (cxOf CX0 P w K mg base N x (defScope st) f (.ref kc) A outer s H E).nox (defBody st) t ∧
        ∀ M ds P', R ds P' → Rt ⟨H, T.map (·.1), M, none, T, M, [], []⟩ Q P' → Sd ⟨H, T.map (·.1), M, none, T, M, [], []⟩ t (ds.map (fun d => some (.inl d)) ++ List.replicate (N.length - ds.length) none) { nx := fun _ H' => Q .non H', rt := Q }) :
    Cal P w K mg base x (k + 1) ps (spT T R) := by
  obtain ⟨f, fd, F, hm, b, hc⟩ := h.ex
  refine ⟨f, fd, ?_, hm, F.kp, b⟩
  obtain ⟨oc, od, kV, doc, pm, an, cdv, ct, osl, rfl, lk, hcd⟩ := F.ex
  have e : cdv = .ref kc := hc
  subst e
  refine fn_of lk hcd S (fun vs H Q E h => ?_) fun A outer s H vs Q E hr h => ?_
  · obtain ⟨M, ds, P', _, _, r, hR, _⟩ := h
    rw [r.len]; exact hl ds P' hR
  · obtain ⟨t, d, q⟩ := hb A outer s H Q E f hr
    exact ⟨t, d.nox, body_T h q⟩
theorem ss_unpR {c : Ct} {δ : List Sl} {Dn : Ends} {te : TE} {u : TS} {g : TG} {js : List Nat} {P : D → Prop} (h : Ev c te δ P) (k : ∀ d, P d → ∃ δ', EvG g js δ d δ' ∧ Sd c u δ' Dn) : Sd c (tSeq (tAsg te g) u) δ Dn :=
  sd_seq (sd_unp (Dn := { Dn with nx := u Dn }) h fun d p => let ⟨δ', a, b⟩ := k d p; ⟨δ', a, b⟩)
theorem idx_perm (ns : List Int) : (idxBy ns).Perm (List.range ns.length) := List.mergeSort_perm _ _
theorem cast_map (ls : List Nat) : (ls.map fun l : Nat => (l : Int)).map D.int = ls.map nD := by rw [List.map_map]; rfl
theorem idx_up {ls : List Nat} (nd : ls.Nodup) : ((idxBy (ls.map fun l : Nat => (l : Int))).map fun k => ls.getD k 0).Pairwise (· < ·) := by
  have hp := idx_perm (ls.map fun l : Nat => (l : Int))
  have hn : (idxBy (ls.map fun l : Nat => (l : Int))).Nodup := hp.nodup_iff.mpr List.nodup_range
  have hs : (idxBy (ls.map fun l : Nat => (l : Int))).Pairwise fun i j => decide ((ls.map fun l : Nat => (l : Int)).getD i 0 ≤ (ls.map fun l : Nat => (l : Int)).getD j 0) = true :=
    List.pairwise_mergeSort (fun a b c h1 h2 => by rw [decide_eq_true_eq] at *; omega) (fun a b => by rw [Bool.or_eq_true, decide_eq_true_eq, decide_eq_true_eq]; omega) _
  rw [List.pairwise_map]
  have both := hs.and hn
  refine both.imp_of_mem fun {a b} ha hb ⟨h1, h2⟩ => ?_
  have la : a < ls.length := by have := List.mem_range.mp (hp.mem_iff.mp ha); simpa using this
  have lb : b < ls.length := by have := List.mem_range.mp (hp.mem_iff.mp hb); simpa using this
  have e1 : (ls.map fun l : Nat => (l : Int)).getD a 0 = ((ls.getD a 0 : Nat) : Int) := getD_map (fun l : Nat => (l : Int)) ls a 0 0 rfl
  have e2 : (ls.map fun l : Nat => (l : Int)).getD b 0 = ((ls.getD b 0 : Nat) : Int) := getD_map (fun l : Nat => (l : Int)) ls b 0 0 rfl
  rw [decide_eq_true_eq, e1, e2] at h1
  have ne : ls.getD a 0 ≠ ls.getD b 0 := fun z => h2 (nodup_at nd (get_getD la 0) (by rw [get_getD lb 0, z]))
  omega
/-- what the sweep asks of its rows -/
def RowsOk : (F : Fm) → List (List F.α) → Nat → Prop
  | .q, rows, n => min rows.length n ≤ 6 ∧ ∃ b, b ≤ 13000 ∧ ∀ r ∈ rows, Cd b r
  | .z _ _, _, _ => True
def freeB (sc scope : Scope) : Bool := scope.names.all fun y => !decide (y.2 = .free) || (decide (sc.names.lookup y.1 = some .cell) || decide (sc.names.lookup y.1 = some .free))
theorem free_by {sc scope : Scope} (h : freeB sc scope = true) : ∀ y ∈ scope.names, y.2 = .free → sc.names.lookup y.1 = some .cell ∨ sc.names.lookup y.1 = some .free := fun y hy e => by
  have q := List.all_eq_true.mp h y hy
  rw [Bool.or_eq_true, Bool.or_eq_true, decide_eq_true_eq, decide_eq_true_eq] at q
  rcases q with z | z
  · rw [decide_eq_true e] at z; cases z
  · exact z
end E
/-! DDot: sums of products; what == says of numbers and of lists of them. -/
namespace E
open PySem PySem.Spec PyProof.Rows L2
section
variable {α : Type} [Fld α]
open Fld
def dotl : List α → List α → α
  | a :: r, b :: o => a * b + dotl r o
  | _, _ => 0
theorem dotl_lin : ∀ {r : List α} {tab : List (List α)} {k : Nat}, dotl r (tab.map fun t => g t k) = lin r tab k
  | [], tab, k => by rw [lin_nil]; cases tab <;> rfl
  | a :: r, [], k => by rw [lin_nil']; rfl
  | a :: r, t :: tab, k => by
    show a * g t k + dotl r (tab.map fun t => g t k) = a * g t k + lin r tab k
    rw [dotl_lin]
end
theorem dot_z {p : Int} {h : p ∈ primes} : ∀ (r o : List (Zp p h)), (((r.zip o).map fun q : Zp p h × Zp p h => q.1.1 * q.2.1).sum).fmod p = (dotl r o).1
  | [], o => by show Int.fmod 0 p = (0 : Zp p h).1; rw [Zp.zero_val, Int.zero_fmod]
  | _ :: _, [] => by show Int.fmod 0 p = (0 : Zp p h).1; rw [Zp.zero_val, Int.zero_fmod]
  | a :: r, b :: o => by
    have hp := prime_pos h
    have ih := dot_z r o
    rw [Int.fmod_eq_emod_of_nonneg _ (by omega)] at ih
    show Int.fmod (a.1 * b.1 + ((r.zip o).map fun q : Zp p h × Zp p h => q.1.1 * q.2.1).sum) p = (a * b + dotl r o).1
    rw [Int.fmod_eq_emod_of_nonneg _ (by omega), Zp.add_val, Zp.mul_val, ← ih, ← Int.add_emod]
/-- fewer than b bits above and below -/
def Eb (b : Nat) (x : Rat) : Prop := Bt b x.num ∧ Bt b (x.den : Nat)
theorem num_le {a d : Int} (hd : d ≠ 0) : (Rat.divInt a d).num.natAbs ≤ a.natAbs ∧ (Rat.divInt a d).den ≤ d.natAbs := by
  rw [Rat.num_divInt, Rat.den_divInt, if_neg hd]
  refine ⟨?_, Nat.div_le_self _ _⟩
  have e : ((Int.gcd d a : Nat) : Int) ∣ d.sign * a := Int.dvd_mul_of_dvd_right (Int.gcd_dvd_right ..)
  rw [Int.natAbs_ediv_of_dvd e, Int.natAbs_mul, Int.natAbs_sign, if_neg hd, Nat.one_mul, Int.natAbs_natCast]
  exact Nat.div_le_self _ _
theorem Eb.of {b : Nat} {a d : Int} (hd : d ≠ 0) (h1 : Bt b a) (h2 : Bt b d) : Eb b (Rat.divInt a d) := ⟨h1.le (num_le hd).1, h2.le (by rw [Int.natAbs_natCast]; exact (num_le hd).2)⟩
theorem self_div (x : Rat) : Rat.divInt x.num (x.den : Nat) = x := Rat.num_divInt_den x
theorem den_ne (x : Rat) : ((x.den : Nat) : Int) ≠ 0 := by have := x.den_pos; omega
theorem dot_step {top bot : Int} (x y : Rat) (hb : bot ≠ 0) : Rat.divInt (top * (x.den : Nat) * (y.den : Nat) + x.num * y.num * bot) (bot * (x.den : Nat) * (y.den : Nat)) = Rat.divInt top bot + x * y := by
  have e : x * y = Rat.divInt (x.num * y.num) ((x.den : Nat) * (y.den : Nat)) := by
    rw [← Rat.divInt_mul_divInt, self_div, self_div]
  rw [e, Rat.divInt_add_divInt _ _ hb (Int.mul_ne_zero (den_ne x) (den_ne y)), Int.mul_assoc, Int.mul_assoc, Int.mul_assoc]
theorem dot_step1 {top bot : Int} (x y : Rat) (hb : bot ≠ 0) (hx : x.den = 1) (hy : y.den = 1) : Rat.divInt (top + x.num * y.num * bot) bot = Rat.divInt top bot + x * y := by
  have := dot_step (top := top) x y hb
  rw [hx, hy] at this
  simpa using this
theorem num0 {x : Rat} (h : x.num = 0) : x = 0 := Rat.num_eq_zero.mp h
theorem eqv_encQ (x y : Rat) : PyData.eqv (py (encQ x)) (py (encQ y)) = decide (x = y) := by
  show (PyData.eqv (.int x.num) (.int y.num) && (PyData.eqv (.int (x.den : Nat)) (.int (y.den : Nat)) && true)) = _
  rw [eqv_int, eqv_int]
  by_cases h : x = y
  · subst h; simp
  · have : ¬ (x.num = y.num ∧ x.den = y.den) := fun ⟨a, b⟩ => h (Rat.ext a b)
    rw [decide_eq_false h]
    by_cases h1 : x.num = y.num
    · have h2 : ¬ ((x.den : Nat) : Int) = ((y.den : Nat) : Int) := fun z => this ⟨h1, by omega⟩
      rw [decide_eq_false h2]; simp
    · rw [decide_eq_false h1]; rfl
theorem eqv_enc {F : Fm} (x y : F.α) : PyData.eqv (py (F.enc x)) (py (F.enc y)) = decide (x = y) := by
  cases F with
  | q => exact (eqv_encQ x y).trans (by congr)
  | z p h =>
    have : PyData.eqv (py (encZ (h := h) x)) (py (encZ (h := h) y)) = decide (x = y) := by
      have e : PyData.eqv (py (encZ (h := h) x)) (py (encZ (h := h) y)) = decide (x.1 = y.1) := eqv_int _ _
      rw [e]
      exact decide_eq_decide.mpr ⟨fun z => Zp.ext (hp := h) z, fun z => by rw [z]⟩
    exact this.trans (by congr)
theorem firstF {F : Fm} (v : List F.α) : FirstNz v (leadD (v.map F.enc) (F.enc 0)) := first_of F.enc _ rfl fun i hi => by
  rw [eqv_enc, decide_eq_true_eq, g_lt hi]
/-- == of lists, item by item -/
theorem eqv_map {α : Type} {f : α → D} (hf : ∀ x y, PyData.eqv (py (f x)) (py (f y)) = true ↔ x = y) : ∀ (xs ys : List α), PyData.eqvAll (pys (xs.map f)) (pys (ys.map f)) = true ↔ xs = ys
  | [], [] => by simp [pys, PyData.eqvAll]
  | [], _ :: _ => by simp [pys, PyData.eqvAll]
  | _ :: _, [] => by simp [pys, PyData.eqvAll]
  | x :: xs, y :: ys => by
    show (PyData.eqv (py (f x)) (py (f y)) && PyData.eqvAll (pys (xs.map f)) (pys (ys.map f))) = true ↔ _
    rw [Bool.and_eq_true, hf, eqv_map hf xs ys, List.cons.injEq]
theorem eqv_lst {α : Type} {f : α → D} (hf : ∀ x y, PyData.eqv (py (f x)) (py (f y)) = true ↔ x = y) (xs ys : List α) : PyData.eqv (py (.lst (xs.map f))) (py (.lst (ys.map f))) = true ↔ xs = ys := eqv_map hf xs ys
theorem eqv_tup {α : Type} {f : α → D} (hf : ∀ x y, PyData.eqv (py (f x)) (py (f y)) = true ↔ x = y) (xs ys : List α) : PyData.eqv (py (.tup (xs.map f))) (py (.tup (ys.map f))) = true ↔ xs = ys := eqv_map hf xs ys
theorem eqv_nD (x y : Nat) : PyData.eqv (py (nD x)) (py (nD y)) = true ↔ x = y := by
  have : PyData.eqv (py (nD x)) (py (nD y)) = decide ((x : Int) = (y : Int)) := eqv_int _ _
  rw [this, decide_eq_true_eq]; omega
/-- data that can be compared, of depth k -/
structure OkK (k : Nat) (d : D) : Prop where
  no : noObj d = true
  lay : (py d).canLay0 = true
  dep : (py d).depth ≤ k
theorem OkK.ok {k : Nat} {d : D} (h : OkK k d) (hk : k ≤ 64 := by decide) : okD d = true := by
  unfold okD SeqAt.shaped
  rw [h.no, h.lay, decide_eq_true (Nat.le_trans h.dep hk)]; rfl
theorem okK_all {k : Nat} : ∀ {xs : List D}, (∀ x ∈ xs, OkK k x) → noObjs xs = true ∧ PyData.canLayAll0 (pys xs) = true ∧ PyData.depthAll (pys xs) ≤ k
  | [], _ => ⟨by rfl, by rfl, Nat.zero_le _⟩
  | x :: xs, h => by
    obtain ⟨a, b, c⟩ := okK_all (xs := xs) fun y hy => h y (List.mem_cons_of_mem _ hy)
    obtain ⟨a1, b1, c1⟩ := h x List.mem_cons_self
    refine ⟨?_, ?_, ?_⟩
    · show (noObj x && noObjs xs) = true
      rw [a, a1]; rfl
    · show ((py x).canLay0 && PyData.canLayAll0 (pys xs)) = true
      rw [b, b1]; rfl
    · show max ((py x).depth) (PyData.depthAll (pys xs)) ≤ k
      exact Nat.max_le.mpr ⟨c1, c⟩
theorem okK_lst {k : Nat} {xs : List D} (h : ∀ x ∈ xs, OkK k x) : OkK (k + 1) (.lst xs) := let ⟨a, b, c⟩ := okK_all h; ⟨a, b, Nat.succ_le_succ c⟩
theorem okK_tup {k : Nat} {xs : List D} (h : ∀ x ∈ xs, OkK k x) : OkK (k + 1) (.tup xs) := let ⟨a, b, c⟩ := okK_all h; ⟨a, b, Nat.succ_le_succ c⟩
theorem okK_int (i : Int) : OkK 0 (.int i) := ⟨rfl, rfl, Nat.le_refl _⟩
theorem okK_bl (i : Bool) : OkK 0 (.bl i) := ⟨rfl, rfl, Nat.le_refl _⟩
theorem okK_nD (i : Nat) : OkK 0 (nD i) := okK_int _
theorem OkK.mono {j k : Nat} {d : D} (h : OkK j d) (hk : j ≤ k) : OkK k d := ⟨h.no, h.lay, Nat.le_trans h.dep hk⟩
theorem okK_encQ (x : Rat) : OkK 1 (encQ x) := okK_tup fun y hy => by
  rcases List.mem_cons.mp hy with e | e
  · rw [e]; exact okK_int _
  · rw [List.mem_singleton.mp e]; exact okK_int _
theorem okK_enc {F : Fm} (x : F.α) : OkK 1 (F.enc x) := by
  cases F with
  | q => exact okK_encQ x
  | z p h => exact (okK_int _).mono (Nat.zero_le _)
theorem okK_map {α : Type} {k : Nat} {f : α → D} (h : ∀ x, OkK k (f x)) (xs : List α) : ∀ x ∈ xs.map f, OkK k x := fun x hx => by
  obtain ⟨y, _, rfl⟩ := List.mem_map.mp hx
  exact h y
theorem en_lstRg {c : Ct} {δ : List Sl} {ta : TE} {n : Nat} (h : EvR c ta δ (· = .int (n : Int))) (hn : n ≤ 100000) : EvN c (tLstRg (tRg1 ta)) δ (· = (List.range n).map nD) := fun σ H Q s q => h σ H _ s fun v H1 d s1 e1 r1 p1 => by
  subst p1
  cases rdo_int r1
  refine ⟨_, rfl, ⟨by omega, by omega, by omega, by omega, by omega⟩, fun p hp => ?_⟩
  refine q p _ _ (s1.same (Same.new hp)) (s1.mine hp (Same.new hp) upd_same ?_) (fun z => s1.good p z hp) (e1.trans (Ext.of (Same.new hp))) rfl
  have e : rgV 0 (n : Int) = ((List.range n).map fun i : Nat => (i : Int)).map V.int := by
    unfold rgV
    rw [List.map_map]
    have : ((n : Int) - 0).toNat = n := by omega
    rw [this]
    exact List.map_congr_left fun i _ => by show V.int (0 + (i : Int)) = V.int (i : Int); rw [Int.zero_add]
  have e2 : (List.range n).map nD = ((List.range n).map fun i : Nat => (i : Int)).map D.int := by rw [List.map_map]; rfl
  rw [e, e2]
  exact reps_ints _
section
variable {α : Type} [Fld α]
open Fld
theorem FirstNz.at {v : List α} {d : D} {l : Nat} (h : FirstNz v d) (h1 : g v l ≠ 0) (h2 : ∀ i, i < l → g v i = 0) : d = nD l := by
  rcases h with ⟨_, z⟩ | ⟨m, e, _, n1, n2⟩
  · exact absurd (z l) h1
  · rcases Nat.lt_trichotomy m l with q | q | q
    · exact absurd (h2 m q) n1
    · rw [e, q]
    · exact absurd (n2 l q) h1
/-- the unit rows -/
def unitL (α : Type) [Fld α] (n : Nat) : List (List α) := (List.range n).map fun k => (List.range n).map fun i => if i = k then 1 else 0
/-- a table and the unit rows beside it -/
def aug (n : Nat) (tab : List (List α)) : List (List α) := List.zipWith (· ++ ·) tab (unitL α n)
theorem unitL_len (n : Nat) : (unitL α n).length = n := by simp [unitL]
theorem unitL_wid {n : Nat} : ∀ r ∈ unitL α n, r.length = n := fun r hr => by
  obtain ⟨k, _, rfl⟩ := List.mem_map.mp hr
  simp
end
theorem Sw.leadsD {F : Fm} {n : Nat} {T : List (List F.α)} {ls : List Nat} (w : Sw n T ls) : T.map (fun r => leadD (r.map F.enc) (F.enc 0)) = ls.map nD := by
  refine List.ext_getElem (by simp [w.len]) fun k h1 h2 => ?_
  have hk : k < T.length := by simpa using h1
  have hl : k < ls.length := by simpa using h2
  have e1 := List.getElem?_eq_getElem (l := T) (i := k) hk
  have e2 := List.getElem?_eq_getElem (l := ls) (i := k) hl
  rw [List.getElem_map, List.getElem_map]
  refine (firstF T[k]).at ?_ fun i hi => w.pre k _ _ i e1 e2 hi
  rw [w.one k _ _ e1 e2]
  exact Fld.ne01
end E
/-! DCls: the class Field: its instances as data. -/
namespace E
open PySem PySem.Spec PyProof.Rows L2
def fldD (C : Addr) (F : Fm) : D := .obj C ["p"] [.int F.p]
/-- what is asked of the class -/
structure ClsF (K : PySem.W.Frag) (mg : Str → Option Value) (C : Addr) : Prop where
  cls : Cls K C
  ha : PySem.W.findIn K (.ref C) "__class__" = some (some (.builtin "object.__class__"))
  hn : PySem.W.specialIn K (.builtin "object.__class__") "__get__" = some (some (.builtin "getset_descriptor.__get__"))
  htk : PySem.W.takesIn K (.builtin "object.__class__") = some true
  hm : PySem.W.mroIn K C (.type "object") = some true
  nop : NoAttr K C "p"
  isi1 : PySem.W.kitOne K (.ref C) (.ref C) = some true
  isi0 : PySem.W.kitOne K (.type "int") (.ref C) = some false
  glob : mg "Field" = some (.ref C)
/-- the promise of __init__: the instance gets its number -/
def spI (C : Addr) : L2.Sp := fun vs H Q _ => ∃ (x dx : Addr) (F : Fm), vs = [.ref x, .int F.p] ∧ H x = some (.ins C dx []) ∧ ∀ H', (∀ b o, b ≠ x → H b = some o → H' b = some o) → H' x = some (.ins C dx [("p", .int F.p)]) → Q .non H'
def fieldsL : List Int := [0, 2, 3, 5, 7, 11, 13, 17, 19, 23, 29, 31, 37, 41, 43, 47, 53, 59, 61, 67, 71, 73, 79, 83, 89, 97]
variable {c : Ct} {δ : List Sl} {Dn : Ends} {K : PySem.W.Frag} {mg : Str → Option Value} {C : Addr}
theorem ev_p {ta : TE} {F : Fm} (CF : ClsF K mg C) (h : EvR c ta δ (· = fldD C F)) : Ev c (tFld K ta "p") δ (· = .int F.p) := fun σ H Q s q => h σ H _ s fun v H1 d s1 e1 r1 p1 => by
  subst p1
  rcases r1 with r | ⟨l, ds, _, z, _⟩
  · cases r with
    | @obj a _ dx _ vs _ na ea hl rs =>
      cases rs with
      | cons r1 t =>
        cases t
        cases r1
        exact ⟨a, C, dx, [("p", .int F.p)], .int F.p, rfl, ea, CF.cls, CF.nop, rfl, q _ H1 _ s1 e1 (.int _) rfl⟩
  · cases z
theorem ev_meth {R : List D → (D → Prop) → Prop} {E : XK} {m : Str} {ta : TE} {t : TA} {F : Fm} {ds : List D} {P : D → Prop} (hm : ([("p", V.int F.p)] : List (Str × V)).lookup m = none) (h : EvR c ta δ (· = fldD C F)) (h2 : EvA c t δ (· = ds)) (hR : R (fldD C F :: ds) P) :
    Ev c (tMeth C m (spP R) [] E ta t) δ P := fun σ H Q s q => h σ H _ s fun v H1 d s1 e1 r1 p1 => by
  subst p1
  rcases r1 with r | ⟨l, ds, _, z, _⟩
  · have r0 := r
    cases r with
    | @obj a _ dx _ vs _ na ea hl rs =>
      cases rs with
      | cons rv t =>
        cases t
        cases rv
        refine ⟨a, dx, [("p", .int F.p)], rfl, ea, hm, h2 σ H1 _ s1 fun vs2 H2 ds2 s2 e2 r2 p2 => ?_⟩
        subst p2
        rw [List.append_nil]
        exact ⟨c.M, _, P, fun b hb => ⟨s2.good b hb, s2.mt b hb⟩, .cons (r0.ext e2) r2, hR, fun v H' d e r p => q v H' d (s2.same e) ((e1.trans e2).trans (Ext.of e)) r p⟩
  · cases z
theorem ev_make {E : XK} {t : TA} {F : Fm} (h : EvA c t δ (· = [.int F.p])) : Ev c (tMake C (spI C) [] E t) δ (· = fldD C F) := fun σ H Q s q => h σ H _ s fun vs H1 ds s1 e1 r1 p1 => by
  subst p1
  cases r1 with
  | cons rv t =>
    cases t
    cases rv
    intro x dx hx hdx hne
    rw [List.append_nil]
    refine ⟨x, dx, F, rfl, upd_same, fun H' keep new => ⟨rfl, ?_⟩⟩
    have sm : Same H1 H' := fun b o e => keep b o (ne_of_none e hx) (by rw [upd_ne (ne_of_none e hx), upd_ne (ne_of_none e hdx)]; exact e)
    exact q _ H' _ (s1.same sm) (e1.trans (Ext.of sm)) (.obj (ns := ["p"]) (vs := [.int F.p]) (fun z => s1.good x z hx) new rfl (.cons (.int _) .nil)) rfl
theorem ev_isiC {ta : TE} {F : Fm} {d : D} {b : Bool} (CF : ClsF K mg C) (h : EvR c ta δ (· = d)) (hd : (d = .int F.p ∧ b = false) ∨ (d = fldD C F ∧ b = true)) : Ev c (tCB (rIsi K) (tCons ta (tCons (tC (.ref C)) tNil))) δ (· = .bl b) := fun σ H Q s q => h σ H _ s fun v H1 e s1 e1 r1 p1 => by
  subst p1
  rcases hd with ⟨rfl, rfl⟩ | ⟨rfl, rfl⟩
  · cases rdo_int r1
    exact ⟨_, .ref C, .type "int", .ref C, false, rfl, .own C, .base (.int _), CF.isi0, q _ H1 _ s1 e1 (.bl _) rfl⟩
  · rcases r1 with r | ⟨l, ds, _, z, _⟩
    · cases r with
      | @obj a _ dx _ vs _ na ea hl rs =>
        exact ⟨.ref a, .ref C, .ref C, .ref C, true, rfl, .own C, .base (.ins ea CF.cls CF.ha CF.hn CF.htk CF.hm), CF.isi1, q _ H1 _ s1 e1 (.bl _) rfl⟩
    · cases z
/-- the tuple of the fields in the written part -/
def FieldsAt (K : PySem.W.Frag) (a : Addr) : Prop := ∃ (o : Obj) (its : Array Value) (n : Nat), K.lookup a = some o ∧ o.cls = .type "tuple" ∧ o.data = .seq its n ∧ its.size ≤ sizeLine ∧ Vals (fieldsL.map V.int) its.toList
theorem inV_mem (i : Int) : ∀ l : List Int, inV (.int i) (l.map V.int) = decide (i ∈ l)
  | [] => by simp [inV]
  | x :: r => by
    have ih := inV_mem i r
    unfold inV at ih ⊢
    rw [List.map_cons, List.any_cons, ih]
    by_cases h : i = x
    · subst h; simp [eqV]
    · have : eqV (.int x) (.int i) = false := by
        show decide (x = i) = false
        exact decide_eq_false fun z => h z.symm
      rw [this]; simp [h]
theorem flat_ints : ∀ l : List Int, (l.map V.int).all flatV = true
  | [] => rfl
  | _ :: r => by rw [List.map_cons, List.all_cons, flat_ints r]; rfl
theorem field_in (F : Fm) : F.p ∈ fieldsL := by
  cases F with
  | q => exact List.mem_cons_self
  | z p h =>
    have all : (primes.all fun p => decide (p ∈ fieldsL)) = true := by decide +kernel
    exact of_decide_eq_true (List.all_eq_true.mp all p h)
theorem et_notIn {ta : TE} {F : Fm} {aF : Addr} (hK : FieldsAt K aF) (h : EvR c ta δ (· = .int F.p)) : EvT c (tTest (tOp (rIn K true) ta (tC (.ref aF)))) δ (· = false) := fun σ H Q s q => h σ H _ s fun v H1 d s1 e1 r1 p1 => by
  subst p1
  cases rdo_int r1
  refine ⟨aF, fieldsL.map V.int, rfl, .inr (.inr hK), rfl, flat_ints _, ?_⟩
  refine ⟨_, rfl, ?_⟩
  rw [inV_mem, decide_eq_true (field_in F)]
  exact q _ H1 s1 e1 rfl
end E
/-! DLaw: what the law's own helpers say. -/
namespace E
open PySem PySem.Spec PyProof.Rows L2
def Fm.ofInt : (F : Fm) → Int → F.α
  | .q, k => (k : Rat)
  | .z _ h, k => Zp.mk h k
theorem gcd_step {u v : Int} (hu : 0 ≤ u) (hv : 0 < v) : Nat.gcd v.natAbs (u.fmod v).natAbs = Nat.gcd u.natAbs v.natAbs := by
  rw [Int.fmod_eq_emod_of_nonneg _ (by omega)]
  have e : (u % v).natAbs = u.natAbs % v.natAbs := by
    have h1 : u = ((u.natAbs : Nat) : Int) := by omega
    have h2 : v = ((v.natAbs : Nat) : Int) := by omega
    rw [h1, h2, ← Int.natCast_emod, Int.natAbs_natCast, Int.natAbs_natCast, Int.natAbs_natCast]
  rw [e, Nat.gcd_comm v.natAbs, ← Nat.gcd_rec, Nat.gcd_comm]
theorem abs_val (i : Int) : (if i < 0 then -i else i) = ((i.natAbs : Nat) : Int) := by split <;> omega
theorem q_add {x y : Rat} : Rat.divInt (x.num * (y.den : Nat) + y.num * (x.den : Nat)) ((x.den : Nat) * (y.den : Nat)) = x + y := by
  rw [← Rat.divInt_add_divInt _ _ (den_ne x) (den_ne y), self_div, self_div]
theorem q_mul {x y : Rat} : Rat.divInt (x.num * y.num) ((x.den : Nat) * (y.den : Nat)) = x * y := by
  rw [← Rat.divInt_mul_divInt, self_div, self_div]
theorem q_inv {x : Rat} (h : x ≠ 0) : Rat.divInt (x.den : Nat) x.num = x⁻¹ := by
  have e : Rat.divInt (x.den : Nat) x.num = (Rat.divInt x.num (x.den : Nat))⁻¹ := by rw [Rat.inv_divInt]
  rw [e, self_div]
theorem num_ne {x : Rat} (h : x ≠ 0) : x.num ≠ 0 := fun z => h (num0 z)
theorem q_neg_num (x : Rat) : encQ (-x) = .tup [.int (0 - x.num), .int (x.den : Nat)] := by
  unfold encQ
  rw [Rat.neg_num, Rat.neg_den, Int.zero_sub]
theorem zadd_val {p : Int} {h : p ∈ primes} (a b : Zp p h) : (a.1 + b.1).fmod p = (a + b).1 := by
  have hp := prime_pos h
  rw [Int.fmod_eq_emod_of_nonneg _ (by omega), Zp.add_val]
def invP {p : Int} {h : p ∈ primes} (x : Zp p h) : D → Bool
  | .int k => decide ((k * x.1).fmod p = 1)
  | _ => false
/-- the inverse by trying -/
theorem inv_try {p : Int} {h : p ∈ primes} (x : Zp p h) (hx : x ≠ 0) : ∃ r, ((ranD 1 (p - 1).toNat).filter (invP x)) = encZ x⁻¹ :: r := by
  have hp := prime_pos h
  have ine : (x⁻¹).1 * x.1 % p = 1 := by
    have := congrArg Subtype.val (Fld.mulI x hx)
    have e : ((x * x⁻¹ : Zp p h)).1 = 1 := this.trans Zp.one_val
    rw [Zp.mul_val, Int.mul_comm] at e
    exact e
  have uniq : ∀ k : Int, 0 ≤ k → k < p → (k * x.1).fmod p = 1 → k = (x⁻¹).1 := fun k h0 h1 e => by
    rw [Int.fmod_eq_emod_of_nonneg _ (by omega)] at e
    obtain ⟨y, rfl⟩ : ∃ y : Zp p h, y.1 = k := ⟨⟨k, h0, h1⟩, rfl⟩
    have a : y * x = 1 := Zp.ext (by rw [Zp.mul_val, Zp.one_val]; exact e)
    have b : y = x⁻¹ := by
      have : y * x * x⁻¹ = 1 * x⁻¹ := by rw [a]
      rw [Fld.mulA, Fld.mulI x hx, Fld.mul1, omul] at this
      exact this
    exact congrArg Subtype.val b
  have mem : encZ x⁻¹ ∈ (ranD 1 (p - 1).toNat).filter (invP x) := by
    refine List.mem_filter.mpr ⟨?_, ?_⟩
    · have h0 := (x⁻¹).2.1
      have h1 := (x⁻¹).2.2
      have hn : (x⁻¹).1 ≠ 0 := fun z => by rw [z, Int.zero_mul, Int.zero_emod] at ine; omega
      unfold ranD
      refine List.mem_map.mpr ⟨((x⁻¹).1 - 1).toNat, List.mem_range.mpr (by omega), ?_⟩
      show D.int _ = D.int _
      congr 1; omega
    · show decide (((x⁻¹).1 * x.1).fmod p = 1) = true
      rw [Int.fmod_eq_emod_of_nonneg _ (by omega)]
      exact decide_eq_true ine
  cases e : (ranD 1 (p - 1).toNat).filter (invP x) with
  | nil => rw [e] at mem; cases mem
  | cons d r =>
    refine ⟨r, ?_⟩
    have hd : d ∈ (ranD 1 (p - 1).toNat).filter (invP x) := by rw [e]; exact List.mem_cons_self
    obtain ⟨m, q⟩ := List.mem_filter.mp hd
    unfold ranD at m
    obtain ⟨i, hi, rfl⟩ := List.mem_map.mp m
    have hi := List.mem_range.mp hi
    have q := of_decide_eq_true q
    have := uniq (1 + (i : Int)) (by omega) (by omega) q
    rw [this]; rfl
theorem eb_mono {a b : Nat} {x : Rat} (h : Eb a x) (k : a ≤ b) : Eb b x := ⟨h.1.mono k, h.2.mono k⟩
theorem neg_eb {b : Nat} {x : Rat} (h : Eb b x) : Eb b (-x) := ⟨by rw [Rat.neg_num]; exact h.1.le (by rw [Int.natAbs_neg]; exact Nat.le_refl _), by rw [Rat.neg_den]; exact h.2⟩
theorem eb_mul {a b : Nat} {x y : Rat} (h : Eb a x) (k : Eb b y) : Eb (a + b) (x * y) := by
  rw [← q_mul]
  exact Eb.of (Int.mul_ne_zero (den_ne x) (den_ne y)) (h.1.mul k.1) (h.2.mul k.2)
end E
/-! DSwl: the law's sweep, column by column; common denominators along it. -/
namespace E
open PySem PySem.Spec PyProof.Rows L2
section
variable {α : Type} [Fld α]
open Fld
/-- before the column k: S swept with leads below k, R zero below k -/
structure Sl2 (n k : Nat) (S R : List (List α)) (ls : List Nat) (rows : List (List α)) : Prop where
  sw : Sw n S ls
  below : ∀ l ∈ ls, l < k
  wid : ∀ r ∈ R, r.length = n
  zer : ∀ r ∈ R, ∀ i, i < k → g r i = 0
  same : SameSp (S ++ R) rows
  cnt : S.length + R.length = rows.length
theorem Sl2.start {n : Nat} {rows : List (List α)} (h : ∀ r ∈ rows, r.length = n) : Sl2 n 0 ([] : List (List α)) rows [] rows :=
  ⟨⟨rfl, by simp, by simp, by simp, by simp, by simp, List.Pairwise.nil⟩, by simp, h, (fun r _ i hi => absurd hi (Nat.not_lt_zero _)), SameSp.refl _, by simp⟩
theorem Sl2.skip {n k : Nat} {S R : List (List α)} {ls : List Nat} {rows : List (List α)} (h : Sl2 n k S R ls rows) (hz : ∀ r ∈ R, g r k = 0) : Sl2 n (k + 1) S R ls rows :=
  ⟨h.sw, fun l hl => Nat.lt_succ_of_lt (h.below l hl), h.wid, fun r hr i hi => by
    by_cases e : i = k
    · subst e; exact hz r hr
    · exact h.zer r hr i (by omega), h.same, h.cnt⟩
theorem Sl2.done {n : Nat} {S R : List (List α)} {ls : List Nat} {rows : List (List α)} (h : Sl2 n n S R ls rows) : Sw n S ls ∧ SameSp S rows ∧ S.length ≤ rows.length := by
  refine ⟨h.sw, ?_, by have := h.cnt; omega⟩
  refine SameSp.trans ⟨fun r hr => sp_mem (List.mem_append_left _ hr), fun r hr => ?_⟩ h.same
  rcases List.mem_append.mp hr with z | z
  · exact sp_mem z
  · refine sp_of (sp_zero S) fun i => ?_
    by_cases hi : i < n
    · exact h.zer r z i hi
    · exact g_ge (by rw [h.wid r z]; omega)
/-- a pivot: the row v (one at k) comes from R, all others lose it -/
theorem Sl2.pivot {n k : Nat} {S R R1 : List (List α)} {ls : List Nat} {rows : List (List α)} {r0 v : List α} {a : α} (h : Sl2 n k S R ls rows) (hk : k < n) (hR : R.Perm (r0 :: R1)) (ha : a ≠ 0) (hv : v.length = n) (e : ∀ i, g v i = a * g r0 i) (h1 : g v k = 1) :
    Sl2 n (k + 1) (S.map (fun s => subr (g s k) s v) ++ [v]) (R1.map fun r => subr (g r k) r v) (ls ++ [k]) rows := by
  have m0 : r0 ∈ R := hR.mem_iff.mpr List.mem_cons_self
  have m1 : ∀ r ∈ R1, r ∈ R := fun r hr => hR.mem_iff.mpr (List.mem_cons_of_mem _ hr)
  have vz : ∀ i, i < k → g v i = 0 := fun i hi => by rw [e, h.zer r0 m0 i hi, mul0]
  have lS : ∀ s ∈ S, s.length = v.length := fun s hs => by rw [h.sw.wid s hs, hv]
  have lR : ∀ r ∈ R1, r.length = v.length := fun r hr => by rw [h.wid r (m1 r hr), hv]
  have w := h.sw
  have topS : ∀ {j : Nat} {r : List α}, (S.map (fun s => subr (g s k) s v) ++ [v])[j]? = some r → (∃ s, j < S.length ∧ S[j]? = some s ∧ r = subr (g s k) s v) ∨ (j = S.length ∧ r = v) := fun {j r} q => by
    by_cases hj : j < S.length
    · rw [List.getElem?_append_left (by simpa using hj), List.getElem?_map, List.getElem?_eq_getElem hj] at q
      exact .inl ⟨_, hj, List.getElem?_eq_getElem hj, (Option.some.inj q).symm⟩
    · rw [List.getElem?_append_right (by simpa using hj)] at q
      have := (List.getElem?_eq_some_iff.mp q).1
      have ej : j - (S.map fun s => subr (g s k) s v).length = 0 := by simp at this ⊢; omega
      rw [ej] at q
      exact .inr ⟨by simp at ej; omega, by simpa using q.symm⟩
  have topl : ∀ {j m : Nat}, (ls ++ [k])[j]? = some m → (j < S.length ∧ ls[j]? = some m) ∨ (j = S.length ∧ m = k) := fun {j m} q => by
    by_cases hj : j < ls.length
    · rw [List.getElem?_append_left hj] at q; exact .inl ⟨by rw [w.len]; exact hj, q⟩
    · rw [List.getElem?_append_right (by omega)] at q
      have := (List.getElem?_eq_some_iff.mp q).1
      have ej : j - ls.length = 0 := by simp at this; omega
      rw [ej] at q
      exact .inr ⟨by rw [w.len]; omega, by simpa using q.symm⟩
  refine ⟨⟨by simp [w.len], fun r hr => ?_, fun m hm => ?_, fun j r m hr hm => ?_, fun j i r m hr hm hji => ?_, fun j r m i hr hm hi => ?_, ?_⟩, fun m hm => ?_, fun r hr => ?_, fun r hr i hi => ?_, ⟨fun r hr => ?_, fun r hr => ?_⟩, ?_⟩
  · rcases List.mem_append.mp hr with z | z
    · obtain ⟨s, hs, rfl⟩ := List.mem_map.mp z
      rw [subr_len (lS s hs)]; exact w.wid s hs
    · rw [List.mem_singleton.mp z]; exact hv
  · rcases List.mem_append.mp hm with z | z
    · exact w.lt m z
    · rw [List.mem_singleton.mp z]; exact hk
  · rcases topS hr with ⟨s, hj, es, rfl⟩ | ⟨hj, rfl⟩
    · rcases topl hm with ⟨_, em⟩ | ⟨q, _⟩
      · rw [g_subr (lS s (List.mem_of_getElem? es)), vz m (h.below m (List.mem_of_getElem? em)), mul0, neg0, add0]
        exact w.one j s m es em
      · omega
    · rcases topl hm with ⟨q, _⟩ | ⟨_, rfl⟩
      · omega
      · exact h1
  · rcases topl hm with ⟨_, em⟩ | ⟨hi, rfl⟩
    · have vm := vz m (h.below m (List.mem_of_getElem? em))
      rcases topS hr with ⟨s, hj, es, rfl⟩ | ⟨hj, rfl⟩
      · rw [g_subr (lS s (List.mem_of_getElem? es)), vm, mul0, neg0, add0]
        exact w.off j i s m es em hji
      · exact vm
    · rcases topS hr with ⟨s, hj, es, rfl⟩ | ⟨hj, rfl⟩
      · rw [g_subr (lS s (List.mem_of_getElem? es)), h1, mul1, addN]
      · omega
  · rcases topS hr with ⟨s, hj, es, rfl⟩ | ⟨hj, rfl⟩
    · rcases topl hm with ⟨_, em⟩ | ⟨q, _⟩
      · have := h.below m (List.mem_of_getElem? em)
        rw [g_subr (lS s (List.mem_of_getElem? es)), vz i (by omega), mul0, neg0, add0]
        exact w.pre j s m i es em hi
      · omega
    · rcases topl hm with ⟨q, _⟩ | ⟨_, rfl⟩
      · omega
      · exact vz i hi
  · exact List.pairwise_append.mpr ⟨w.up, List.pairwise_singleton _ _, fun a ha b hb => by rw [List.mem_singleton.mp hb]; exact h.below a ha⟩
  · rcases List.mem_append.mp hm with z | z
    · exact Nat.lt_succ_of_lt (h.below m z)
    · rw [List.mem_singleton.mp z]; exact Nat.lt_succ_self _
  · obtain ⟨s, hs, rfl⟩ := List.mem_map.mp hr
    rw [subr_len (lR s hs)]; exact h.wid s (m1 s hs)
  · obtain ⟨s, hs, rfl⟩ := List.mem_map.mp hr
    rw [g_subr (lR s hs)]
    by_cases q : i = k
    · subst q; rw [h1, mul1, addN]
    · rw [vz i (by omega), mul0, neg0, add0]; exact h.zer s (m1 s hs) i (by omega)
  · -- each new row lies in the span
    have inv : Sp rows (g v) := sp_of (sp_smul a (h.same.1 r0 (List.mem_append_right _ m0))) e
    have new : ∀ s, s.length = v.length → Sp rows (g s) → Sp rows (g (subr (g s k) s v)) := fun s hl hs => sp_of (sp_add hs (sp_neg (sp_smul (g s k) inv))) fun i => g_subr hl i
    rcases List.mem_append.mp hr with z | z
    · rcases List.mem_append.mp z with z | z
      · obtain ⟨s, hs, rfl⟩ := List.mem_map.mp z
        exact new s (lS s hs) (h.same.1 s (List.mem_append_left _ hs))
      · rw [List.mem_singleton.mp z]; exact inv
    · obtain ⟨s, hs, rfl⟩ := List.mem_map.mp z
      exact new s (lR s hs) (h.same.1 s (List.mem_append_right _ (m1 s hs)))
  · refine sp_trans (fun x hx => ?_) (h.same.2 r hr)
    have vin : v ∈ (S.map (fun s => subr (g s k) s v) ++ [v]) ++ R1.map fun r => subr (g r k) r v := by simp
    have old : ∀ s, s.length = v.length → subr (g s k) s v ∈ (S.map (fun s => subr (g s k) s v) ++ [v]) ++ (R1.map fun r => subr (g r k) r v) → Sp ((S.map (fun s => subr (g s k) s v) ++ [v]) ++ R1.map fun r => subr (g r k) r v) (g s) := fun s hl hm =>
      sp_of (sp_add (sp_mem hm) (sp_smul (g s k) (sp_mem vin))) fun i => by rw [g_subr hl, addA, nadd, add0]
    rcases List.mem_append.mp hx with z | z
    · exact old x (lS x z) (List.mem_append_left _ (List.mem_append_left _ (List.mem_map_of_mem (f := fun s => subr (g s k) s v) z)))
    · rcases List.mem_cons.mp (hR.mem_iff.mp z) with q | q
      · subst q
        refine sp_of (sp_smul a⁻¹ (sp_mem vin)) fun i => ?_
        rw [e, ← mulA, mulC a⁻¹ a, mulI a ha, omul]
      · exact old x (lR x q) (List.mem_append_right _ (List.mem_map_of_mem (f := fun r => subr (g r k) r v) q))
  · have := hR.length_eq
    have := h.cnt
    simp at *; omega
end
/-! ### common denominators -/
theorem Cd.mono {a b : Nat} {r : List Rat} (h : Cd a r) (k : a ≤ b) : Cd b r := by
  obtain ⟨s, s0, s1, hs⟩ := h.ex
  exact ⟨s, s0, Nat.lt_of_lt_of_le s1 (Nat.pow_le_pow_right (by decide) k), fun x hx => ⟨(hs x hx).1, (hs x hx).2.mono k⟩⟩
theorem cast_inj {a b : Int} (h : (a : Rat) = (b : Rat)) : a = b := by
  have := congrArg Rat.num h
  simpa using this
theorem div_mul {a s : Int} (hs : s ≠ 0) : Rat.divInt a s * (s : Rat) = (a : Rat) := by
  have hs' : (s : Rat) ≠ 0 := fun z => hs (cast_eq0.mp z)
  rw [divI, Rat.mul_assoc, Rat.inv_mul_cancel _ hs', Rat.mul_one]
theorem div_of {x : Rat} {n s : Int} (hs : s ≠ 0) (h : (n : Rat) = (s : Rat) * x) : x = Rat.divInt n s := by
  have hs' : (s : Rat) ≠ 0 := fun z => hs (cast_eq0.mp z)
  rw [divI, h, Rat.mul_comm (s : Rat) x, Rat.mul_assoc, Rat.mul_inv_cancel _ hs', Rat.mul_one]
/-- rows by their numerators over one denominator -/
theorem cd_of {b : Nat} {r : List Rat} {s : Int} (hs : s ≠ 0) (hb : Bt b s) (h : ∀ x ∈ r, ∃ a : Int, Bt b a ∧ x = Rat.divInt a s) : Cd b r := by
  refine ⟨s.natAbs, by omega, hb, fun x hx => ?_⟩
  obtain ⟨a, ba, rfl⟩ := h x hx
  have hd : (Rat.divInt a s).den ∣ s.natAbs := by
    rw [Rat.den_divInt, if_neg hs]
    exact Nat.div_dvd_of_dvd (Int.gcd_dvd_natAbs_left ..)
  refine ⟨hd, ?_⟩
  have q := q_scale (Rat.divInt a s) s.natAbs hd
  generalize (Rat.divInt a s).num * ((s.natAbs / (Rat.divInt a s).den : Nat) : Int) = n at q
  have e : n * s = ((s.natAbs : Nat) : Int) * a := cast_inj (by rw [mul_cast, mul_cast, q, Rat.mul_assoc, div_mul hs])
  have e2 := congrArg Int.natAbs e
  rw [Int.natAbs_mul, Int.natAbs_mul, Int.natAbs_natCast, Nat.mul_comm] at e2
  have e3 := Nat.eq_of_mul_eq_mul_left (by omega) e2
  exact ba.le (by omega)
theorem Cd.get {b : Nat} {r : List Rat} (h : Cd b r) : ∃ s : Int, s ≠ 0 ∧ Bt b s ∧ ∀ x ∈ r, ∃ a : Int, Bt b a ∧ x = Rat.divInt a s := by
  obtain ⟨s, s0, s1, hs⟩ := h.ex
  refine ⟨s, by omega, by show ((s : Nat) : Int).natAbs < _; rw [Int.natAbs_natCast]; exact s1, fun x hx => ⟨x.num * ((s / x.den : Nat) : Int), (hs x hx).2, ?_⟩⟩
  exact div_of (by omega) (q_scale x s (hs x hx).1)
theorem Cd.eb {b : Nat} {r : List Rat} (h : Cd b r) : ∀ x ∈ r, Eb b x := fun x hx => by
  obtain ⟨s, hs, bs, k⟩ := h.get
  obtain ⟨a, ba, rfl⟩ := k x hx
  exact Eb.of hs ba bs
/-- a row divided by one of its places -/
theorem Cd.norm {b : Nat} {r : List Rat} {y : Rat} (h : Cd b r) (hy : y ∈ r) (y0 : y ≠ 0) : Cd b (r.map (y⁻¹ * ·)) := by
  obtain ⟨s, hs, bs, k⟩ := h.get
  obtain ⟨c, bc, ey⟩ := k y hy
  have c0 : c ≠ 0 := fun z => y0 (by rw [ey, z, Rat.zero_divInt])
  refine cd_of c0 bc fun x hx => ?_
  obtain ⟨x', hx', rfl⟩ := List.mem_map.mp hx
  obtain ⟨a, ba, ex⟩ := k x' hx'
  refine ⟨a, ba, ?_⟩
  refine div_of c0 ?_
  have e1 : (c : Rat) = y * (s : Rat) := by rw [ey, div_mul hs]
  have e2 : (a : Rat) = x' * (s : Rat) := by rw [ex, div_mul hs]
  rw [e1, e2]
  have := Rat.mul_inv_cancel _ y0
  rw [Rat.mul_comm y, Rat.mul_assoc, ← Rat.mul_assoc y, this, Rat.one_mul, Rat.mul_comm]
/-- a row less a multiple of a row -/
theorem Cd.less {a b k : Nat} {x v : List Rat} (hx : Cd a x) (hv : Cd b v) (hl : x.length = v.length) (hk : k < x.length) : Cd (a + b + 1) (subr (g x k) x v) := by
  obtain ⟨s, hs, bs, kx⟩ := hx.get
  obtain ⟨t, ht, bt, kv⟩ := hv.get
  have hxk : g x k ∈ x := by rw [g_lt hk]; exact List.getElem_mem hk
  obtain ⟨xk, bxk, exk⟩ := kx _ hxk
  refine cd_of (s := s * t) (Int.mul_ne_zero hs ht) ((bs.mul bt).mono (by omega)) fun z hz => ?_
  obtain ⟨i, hi⟩ := List.mem_iff_getElem?.mp hz
  have hi2 : i < x.length := by rw [← subr_len hl]; exact (List.getElem?_eq_some_iff.mp hi).1
  have ez : z = g (subr (g x k) x v) i := by rw [g_some hi]
  have hxi : g x i ∈ x := by rw [g_lt hi2]; exact List.getElem_mem hi2
  have hvi : g v i ∈ v := by rw [g_lt (by omega)]; exact List.getElem_mem _
  obtain ⟨xi, bxi, exi⟩ := kx _ hxi
  obtain ⟨vi, bvi, evi⟩ := kv _ hvi
  refine ⟨xi * t - xk * vi, Bt.sub (bxi.mul bt) (bxk.mul bvi), ?_⟩
  have e0 : g (subr (g x k) x v) i = g x i + -(g x k * g v i) := g_subr hl i
  rw [ez, e0]
  refine div_of (Int.mul_ne_zero hs ht) ?_
  have e1 : (xi : Rat) = g x i * (s : Rat) := by rw [exi, div_mul hs]
  have e2 : (xk : Rat) = g x k * (s : Rat) := by rw [exk, div_mul hs]
  have e3 : (vi : Rat) = g v i * (t : Rat) := by rw [evi, div_mul ht]
  rw [Int.sub_eq_add_neg, Rat.intCast_add, Rat.intCast_neg, mul_cast, mul_cast, mul_cast, e1, e2, e3]
  generalize g x i = A
  generalize g x k = B
  generalize g v i = C
  generalize (s : Rat) = S
  generalize (t : Rat) = T
  show A * S * T + -(B * S * (C * T)) = S * T * (A + -(B * C))
  rw [Rat.mul_add]
  congr 1
  · rw [Rat.mul_assoc, Rat.mul_comm]
  · rw [Rat.mul_neg]
    congr 1
    rw [Rat.mul_assoc B, ← Rat.mul_assoc S C, Rat.mul_comm S C, Rat.mul_assoc C, ← Rat.mul_assoc B, Rat.mul_comm]
def CdF (b : Nat) : (F : Fm) → List F.α → Prop
  | .q, r => Cd b r
  | .z _ _, _ => True
/-- the bits after j pivots -/
def cb (b : Nat) : Nat → Nat
  | 0 => b
  | j + 1 => 2 * cb b j + 1
theorem cb_le {b j : Nat} (hb : b ≤ 200) (hj : j ≤ 6) : cb b j ≤ 13000 := by
  match j with
  | 0 => simp only [cb]; omega
  | 1 => simp only [cb]; omega
  | 2 => simp only [cb]; omega
  | 3 => simp only [cb]; omega
  | 4 => simp only [cb]; omega
  | 5 => simp only [cb]; omega
  | 6 => simp only [cb]; omega
  | j + 7 => omega
theorem cb_up (b : Nat) : ∀ j, cb b j ≤ cb b (j + 1) := fun j => by simp only [cb]; omega
theorem CdF.mono {a b : Nat} {F : Fm} {r : List F.α} (h : CdF a F r) (k : a ≤ b) : CdF b F r := by
  cases F with
  | q => exact Cd.mono h k
  | z p hp => trivial
theorem CdF.norm {b k : Nat} {F : Fm} {r : List F.α} (h : CdF b F r) (hk : k < r.length) (h0 : g r k ≠ 0) : CdF b F (r.map ((g r k)⁻¹ * ·)) := by
  cases F with
  | q =>
    have m : g r k ∈ r := by rw [g_lt hk]; exact List.getElem_mem hk
    exact Cd.norm h m h0
  | z p hp => trivial
theorem CdF.less {a b k : Nat} {F : Fm} {x v : List F.α} (hx : CdF a F x) (hv : CdF b F v) (hl : x.length = v.length) (hk : k < x.length) : CdF (a + b + 1) F (subr (g x k) x v) := by
  cases F with
  | q => exact Cd.less hx hv hl hk
  | z p hp => trivial
theorem g_mapL {α : Type} [Fld α] {v : List α} (k : α) (i : Nat) : g (v.map (k * ·)) i = k * g v i := by
  by_cases hi : i < v.length
  · rw [g_lt (by simpa using hi), g_lt hi, List.getElem_map]
  · rw [g_ge (by simpa using hi), g_ge (by omega), mul0]
theorem eb_inv {b : Nat} {x : Rat} (h : Eb b x) (hx : x ≠ 0) : Eb b x⁻¹ := by
  rw [← q_inv hx]
  exact Eb.of (num_ne hx) h.2 h.1
end E
/-! DAug: a table with the unit rows beside it: the sweep keeps all rows; inverses. -/
namespace E
open PySem PySem.Spec PyProof.Rows L2
section
variable {α : Type} [Fld α]
open Fld
/-- rows can be swept -/
theorem swept_ex [DecidableEq α] {n : Nat} {rows : List (List α)} (hw : ∀ r ∈ rows, r.length = n) : ∃ T ls, Sw n T ls ∧ SameSp T rows ∧ T.length ≤ rows.length := by
  have step : ∀ k, k ≤ n → ∃ S R ls, Sl2 n k S R ls rows := by
    intro k
    induction k with
    | zero => intro _; exact ⟨[], rows, [], Sl2.start hw⟩
    | succ k ih =>
      intro hk
      obtain ⟨S, R, ls, h⟩ := ih (by omega)
      by_cases hz : ∀ r ∈ R, g r k = 0
      · exact ⟨S, R, ls, h.skip hz⟩
      · obtain ⟨r0, hr0, hne⟩ : ∃ r ∈ R, g r k ≠ 0 := by
          apply Classical.byContradiction
          intro q
          exact hz fun r hr => Classical.byContradiction fun z => q ⟨r, hr, z⟩
        refine ⟨_, _, _, h.pivot (r0 := r0) (R1 := R.erase r0) (v := r0.map ((g r0 k)⁻¹ * ·)) (a := (g r0 k)⁻¹) (by omega) (List.perm_cons_erase hr0) (fun z => ?_) (by rw [List.length_map]; exact h.wid r0 hr0) (fun i => g_mapL _ i) ?_⟩
        · have := mulI _ hne
          rw [z, mul0] at this
          exact ne01 this.symm
        · rw [g_mapL, mulC, mulI _ hne]
  obtain ⟨S, R, ls, h⟩ := step n (Nat.le_refl n)
  obtain ⟨a, b, c⟩ := h.done
  exact ⟨S, ls, a, b, c⟩
theorem g_unit {n k i : Nat} {r : List α} (hr : (unitL α n)[k]? = some r) (hi : i < n) : g r i = if i = k then 1 else 0 := by
  unfold unitL at hr
  rw [List.getElem?_map] at hr
  cases e : (List.range n)[k]? with
  | none => rw [e] at hr; cases hr
  | some k' =>
    rw [e] at hr
    have hk : k < n := by have := (List.getElem?_eq_some_iff.mp e).1; simpa using this
    rw [List.getElem?_range hk] at e
    have ek : k = k' := Option.some.inj e
    subst ek
    rw [← Option.some.inj hr, g_range hi]
theorem unit_get {n k : Nat} (hk : k < n) : ∃ r, (unitL α n)[k]? = some r := ⟨_, List.getElem?_eq_getElem (by rw [unitL_len]; exact hk)⟩
theorem unit_lt {n k : Nat} {r : List α} (h : (unitL α n)[k]? = some r) : k < n := by have := (List.getElem?_eq_some_iff.mp h).1; rwa [unitL_len] at this
/-- the unit rows are swept -/
theorem unit_sw (n : Nat) : Sw n (unitL α n) (List.range n) := by
  have rl : ∀ {j l : Nat}, (List.range n)[j]? = some l → l = j ∧ j < n := fun {j l} h => by
    have hj : j < n := by have := (List.getElem?_eq_some_iff.mp h).1; simpa using this
    rw [List.getElem?_range hj] at h
    exact ⟨(Option.some.inj h).symm, hj⟩
  refine ⟨by rw [unitL_len, List.length_range], unitL_wid, fun l hl => List.mem_range.mp hl, fun k r l hr hl => ?_, fun k j r l hr hl hkj => ?_, fun k r l i hr hl hi => ?_, List.pairwise_lt_range⟩
  · obtain ⟨rfl, hk⟩ := rl hl
    rw [g_unit hr hk, if_pos rfl]
  · obtain ⟨rfl, hj⟩ := rl hl
    rw [g_unit hr hj, if_neg (fun z => hkj z.symm)]
  · obtain ⟨rfl, hk⟩ := rl hl
    rw [g_unit hr (by omega), if_neg (by omega)]
/-- every row of width n lies in the unit rows' span -/
theorem unit_all {n : Nat} {r : List α} (hr : r.length = n) : Sp (unitL α n) (g r) := by
  have w := unit_sw (α := α) n
  have k : Ks n (unitL α n) (List.range n) := ⟨w.len, w.wid, w.lt, fun k r l a b => by rw [w.one k r l a b]; exact ne01, w.off, w.pre⟩
  exact k.all (unitL_len n) hr
/-- what spans all n unit rows has n rows at least -/
theorem span_len [DecidableEq α] {n : Nat} {rows : List (List α)} (hw : ∀ r ∈ rows, r.length = n) (h : ∀ u ∈ unitL α n, Sp rows (g u)) : n ≤ rows.length := by
  obtain ⟨T, ls, sw, sp, le⟩ := swept_ex hw
  have same : SameSp (unitL α n) T := ⟨fun u hu => sp_trans sp.2 (h u hu), fun t ht => unit_all (sw.wid t ht)⟩
  have e := ((unit_sw n).uniq sw same).1
  rw [← e, unitL_len] at le
  exact le
theorem g_drop (r : List α) (n i : Nat) : g (r.drop n) i = g r (n + i) := by
  unfold g
  rw [List.getD_eq_getElem?_getD, List.getD_eq_getElem?_getD, List.getElem?_drop]
theorem g_take {r : List α} {n i : Nat} (hi : i < n) : g (r.take n) i = g r i := by
  unfold g
  rw [List.getD_eq_getElem?_getD, List.getD_eq_getElem?_getD, List.getElem?_take_of_lt hi]
theorem lin_drop (n : Nat) : ∀ (cs : List α) (rs : List (List α)) (i : Nat), lin cs (rs.map (·.drop n)) i = lin cs rs (n + i)
  | [], rs, i => by rw [lin_nil, lin_nil]
  | c :: cs, [], i => by rw [lin_nil', List.map_nil, lin_nil']
  | c :: cs, r :: rs, i => by
    show c * g (r.drop n) i + lin cs (rs.map (·.drop n)) i = c * g r (n + i) + lin cs rs (n + i)
    rw [g_drop, lin_drop n cs rs i]
theorem sp_drop (n : Nat) {rs : List (List α)} {v : Nat → α} (h : Sp rs v) : Sp (rs.map (·.drop n)) (fun i => v (n + i)) := by
  obtain ⟨cs, hl, e⟩ := h
  exact ⟨cs, by rw [List.length_map]; exact hl, fun i => by show v (n + i) = _; rw [e, lin_drop]⟩
/-- a row of the table beside its unit row -/
theorem aug_get {n k : Nat} {tab : List (List α)} {r : List α} (h : (aug n tab)[k]? = some r) : ∃ t u, tab[k]? = some t ∧ (unitL α n)[k]? = some u ∧ r = t ++ u := by
  unfold aug at h
  rw [List.getElem?_zipWith] at h
  cases e1 : tab[k]? with
  | none => rw [e1] at h; cases h
  | some t =>
    cases e2 : (unitL α n)[k]? with
    | none => rw [e1, e2] at h; cases h
    | some u => rw [e1, e2] at h; exact ⟨t, u, rfl, rfl, (Option.some.inj h).symm⟩
theorem aug_at {n k : Nat} {tab : List (List α)} {t u : List α} (h1 : tab[k]? = some t) (h2 : (unitL α n)[k]? = some u) : (aug n tab)[k]? = some (t ++ u) := by
  unfold aug
  rw [List.getElem?_zipWith, h1, h2]
theorem g_left {t u : List α} {n i : Nat} (ht : t.length = n) (hi : i < n) : g (t ++ u) i = g t i := by
  unfold g
  rw [List.getD_eq_getElem?_getD, List.getD_eq_getElem?_getD, List.getElem?_append_left (by omega)]
theorem g_right {t u : List α} {n i : Nat} (ht : t.length = n) : g (t ++ u) (n + i) = g u i := by
  unfold g
  rw [List.getD_eq_getElem?_getD, List.getD_eq_getElem?_getD, List.getElem?_append_right (by omega)]
  congr 2; omega
/-- the sweep keeps n rows -/
theorem aug_full [DecidableEq α] {n : Nat} {tab T : List (List α)} {ls : List Nat} (hlen : tab.length = n) (hw : ∀ t ∈ tab, t.length = n) (sw : Sw (2 * n) T ls) (sp : SameSp T (aug n tab)) : n ≤ T.length := by
  have hd : ∀ r ∈ T.map (·.drop n), r.length = n := fun r hr => by
    obtain ⟨s, hs, rfl⟩ := List.mem_map.mp hr
    rw [List.length_drop, sw.wid s hs]; omega
  have := span_len hd fun u hu => by
    obtain ⟨k, hk⟩ := List.mem_iff_getElem?.mp hu
    have hkn := unit_lt hk
    have e1 := List.getElem?_eq_getElem (l := tab) (i := k) (by omega)
    have ea := aug_at e1 hk
    refine sp_of (sp_drop n (sp.2 _ (List.mem_of_getElem? ea))) fun i => ?_
    exact (g_right (hw _ (List.mem_of_getElem? e1))).symm
  rwa [List.length_map] at this
/-- the left half is the unit rows just when the leads are the first n places -/
theorem leads_iff {n : Nat} {T : List (List α)} {ls : List Nat} (sw : Sw (2 * n) T ls) (hT : T.length = n) : ls = List.range n ↔ ∀ (k : Nat) (r u : List α), T[k]? = some r → (unitL α n)[k]? = some u → r.take n = u := by
  constructor
  · rintro rfl k r u hr hu
    have hk := unit_lt hu
    have hrl := sw.wid r (List.mem_of_getElem? hr)
    refine g_ext (n := n) (by rw [List.length_take]; omega) (unitL_wid u (List.mem_of_getElem? hu)) fun i hi => ?_
    rw [g_take hi, g_unit hu hi]
    by_cases q : i = k
    · subst q; rw [if_pos rfl, sw.one i r i hr (List.getElem?_range hk)]
    · rw [if_neg q, sw.off k i r i hr (List.getElem?_range hi) (fun z => q z.symm)]
  · intro h
    refine List.ext_getElem (by rw [← sw.len, hT, List.length_range]) fun k h1 h2 => ?_
    have hk : k < n := by simpa using h2
    have er := List.getElem?_eq_getElem (l := T) (i := k) (by omega)
    have el := List.getElem?_eq_getElem (l := ls) (i := k) h1
    obtain ⟨u, hu⟩ := unit_get (α := α) hk
    have e := h k _ u er hu
    have at_ : ∀ i, i < n → g T[k] i = if i = k then 1 else 0 := fun i hi => by rw [← g_unit hu hi, ← e, g_take hi]
    rw [List.getElem_range]
    rcases Nat.lt_trichotomy ls[k] k with q | q | q
    · have o := sw.one k _ _ er el
      rw [at_ _ (by omega), if_neg (by omega)] at o
      exact absurd o.symm ne01
    · exact q
    · have o := sw.pre k _ _ k er el q
      rw [at_ k hk, if_pos rfl] at o
      exact absurd o ne01
theorem lin_zl {n : Nat} : ∀ (cs : List α) (ts us : List (List α)) (i : Nat), ts.length = us.length → (∀ t ∈ ts, t.length = n) → i < n → lin cs (List.zipWith (· ++ ·) ts us) i = lin cs ts i
  | [], ts, us, i, _, _, _ => by rw [lin_nil, lin_nil]
  | c :: cs, [], us, i, _, _, _ => by rw [List.zipWith_nil_left]
  | c :: cs, t :: ts, [], i, h, _, _ => by simp at h
  | c :: cs, t :: ts, u :: us, i, h, hw, hi => by
    show c * g (t ++ u) i + lin cs (List.zipWith (· ++ ·) ts us) i = c * g t i + lin cs ts i
    rw [g_left (hw t List.mem_cons_self) hi, lin_zl cs ts us i (by simpa using h) (fun x hx => hw x (List.mem_cons_of_mem _ hx)) hi]
theorem lin_zr {n : Nat} : ∀ (cs : List α) (ts us : List (List α)) (i : Nat), ts.length = us.length → (∀ t ∈ ts, t.length = n) → lin cs (List.zipWith (· ++ ·) ts us) (n + i) = lin cs us i
  | [], ts, us, i, _, _ => by rw [lin_nil, lin_nil]
  | c :: cs, [], [], i, _, _ => by rw [List.zipWith_nil_left, lin_nil', lin_nil']
  | c :: cs, [], u :: us, i, h, _ => by simp at h
  | c :: cs, t :: ts, [], i, h, _ => by simp at h
  | c :: cs, t :: ts, u :: us, i, h, hw => by
    show c * g (t ++ u) (n + i) + lin cs (List.zipWith (· ++ ·) ts us) (n + i) = c * g u i + lin cs us i
    rw [g_right (hw t List.mem_cons_self), lin_zr cs ts us i (by simpa using h) (fun x hx => hw x (List.mem_cons_of_mem _ hx))]
theorem lin_unit {n i : Nat} {cs : List α} (hl : cs.length = n) (hi : i < n) : lin cs (unitL α n) i = g cs i := by
  obtain ⟨u, hu⟩ := unit_get (α := α) hi
  exact lin_at (by rw [unitL_len]; exact hl) hu (by rw [g_unit hu hi, if_pos rfl]) fun j s hs hj => by rw [g_unit hs hi, if_neg (fun z => hj z.symm)]
/-- the product of a row and a table -/
def mrow (n : Nat) (tab : List (List α)) (r : List α) : List α := (List.range n).map fun k => lin r tab k
theorem g_mrow {n k : Nat} {tab : List (List α)} {r : List α} (hk : k < n) : g (mrow n tab r) k = lin r tab k := g_range hk
/-- one half of the other's inverse -/
def InvL (n : Nat) (A B : List (List α)) : Prop := ∀ (k : Nat) (a u : List α), A[k]? = some a → (unitL α n)[k]? = some u → ∀ i, i < n → lin a B i = g u i
theorem inv_of {n : Nat} {A T : List (List α)} (hA : A.length = n) (hw : ∀ t ∈ A, t.length = n) (sw : Sw (2 * n) T (List.range n)) (sp : SameSp T (aug n A)) (hT : T.length = n) : InvL n A (T.map (·.drop n)) ∧ InvL n (T.map (·.drop n)) A := by
  refine ⟨fun k a u ha hu i hi => ?_, fun k b u hb hu i hi => ?_⟩
  · obtain ⟨cs, hl, e⟩ := sp.2 _ (List.mem_of_getElem? (aug_at ha hu))
    have wa := hw a (List.mem_of_getElem? ha)
    have ea : cs = a := g_ext (n := n) (by rw [hl, hT]) wa fun j hj => by
      have := sw.coef hl e (k := j) (l := j) (List.getElem?_range hj)
      rw [← this, g_left wa hj]
    have := e (n + i)
    rw [g_right wa, ea] at this
    rw [this, lin_drop]
  · rw [List.getElem?_map] at hb
    cases et : T[k]? with
    | none => rw [et] at hb; cases hb
    | some t =>
      rw [et] at hb
      have hb : t.drop n = b := Option.some.inj hb
      obtain ⟨cs, hl, e⟩ := sp.1 t (List.mem_of_getElem? et)
      have alen : (aug n A).length = n := by unfold aug; rw [List.length_zipWith, unitL_len]; omega
      have wt := sw.wid t (List.mem_of_getElem? et)
      have wb : b.length = n := by rw [← hb, List.length_drop, wt]; omega
      have eb : cs = b := g_ext (n := n) (by rw [hl, alen]) wb fun j hj => by
        have := e (n + j)
        unfold aug at this
        rw [lin_zr _ _ _ _ (by rw [unitL_len]; exact hA) hw, lin_unit (by rw [hl, alen]) hj] at this
        rw [← this, ← hb, g_drop]
      have := e i
      unfold aug at this
      rw [lin_zl _ _ _ _ (by rw [unitL_len]; exact hA) hw hi, eb] at this
      have hk := unit_lt hu
      rw [← this, g_unit hu hi]
      by_cases q : i = k
      · subst q; rw [if_pos rfl, sw.one i t i et (List.getElem?_range hk)]
      · rw [if_neg q, sw.off k i t i et (List.getElem?_range hi) (fun z => q z.symm)]
theorem lin_far {n i : Nat} {cs : List α} {rs : List (List α)} (hw : ∀ r ∈ rs, r.length = n) (hi : n ≤ i) : lin cs rs i = 0 := lin_zero_of fun j c r hc hr => by
  rw [g_ge (by rw [hw r (List.mem_of_getElem? hr)]; exact hi), mul0]
theorem sp_pair {n : Nat} {P Q : List (List α)} {v cs : List α} (hl : P.length = Q.length) (hP : ∀ r ∈ P, r.length = n) (hQ : ∀ r ∈ Q, r.length = n) (hv : v.length = 2 * n) (hc : cs.length = P.length)
    (h1 : ∀ i, i < n → g v i = lin cs P i) (h2 : ∀ i, i < n → g v (n + i) = lin cs Q i) : Sp (List.zipWith (· ++ ·) P Q) (g v) := by
  refine ⟨cs, by rw [List.length_zipWith]; omega, fun i => ?_⟩
  by_cases hi : i < n
  · rw [lin_zl _ _ _ _ hl hP hi, h1 i hi]
  · obtain ⟨j, rfl⟩ : ∃ j, i = n + j := ⟨i - n, by omega⟩
    rw [lin_zr _ _ _ _ hl hP]
    by_cases hj : j < n
    · exact h2 j hj
    · rw [g_ge (by omega), lin_far hQ (by omega)]
/-- the unit rows with a table beside them -/
def augL (n : Nat) (tab : List (List α)) : List (List α) := List.zipWith (· ++ ·) (unitL α n) tab
theorem augL_get {n k : Nat} {tab : List (List α)} {r : List α} (h : (augL n tab)[k]? = some r) : ∃ t u, tab[k]? = some t ∧ (unitL α n)[k]? = some u ∧ r = u ++ t := by
  unfold augL at h
  rw [List.getElem?_zipWith] at h
  cases e1 : tab[k]? with
  | none =>
    rw [e1] at h
    cases e2 : (unitL α n)[k]? <;> rw [e2] at h <;> cases h
  | some t =>
    cases e2 : (unitL α n)[k]? with
    | none => rw [e1, e2] at h; cases h
    | some u => rw [e1, e2] at h; exact ⟨t, u, rfl, rfl, (Option.some.inj h).symm⟩
theorem augL_sw {n : Nat} {A : List (List α)} (hA : A.length = n) (hw : ∀ t ∈ A, t.length = n) : Sw (2 * n) (augL n A) (List.range n) := by
  have rl : ∀ {j l : Nat}, (List.range n)[j]? = some l → l = j ∧ j < n := fun {j l} h => by
    have hj : j < n := by have := (List.getElem?_eq_some_iff.mp h).1; simpa using this
    rw [List.getElem?_range hj] at h
    exact ⟨(Option.some.inj h).symm, hj⟩
  have at_ : ∀ {k i : Nat} {r : List α}, (augL n A)[k]? = some r → i < n → g r i = if i = k then 1 else 0 := fun {k i r} h hi => by
    obtain ⟨t, u, h1, h2, rfl⟩ := augL_get h
    rw [g_left (unitL_wid u (List.mem_of_getElem? h2)) hi, g_unit h2 hi]
  refine ⟨by unfold augL; rw [List.length_zipWith, unitL_len, List.length_range]; omega, fun r hr => ?_, fun l hl => by have := List.mem_range.mp hl; omega, fun k r l hr hl => ?_, fun k j r l hr hl hkj => ?_, fun k r l i hr hl hi => ?_, List.pairwise_lt_range⟩
  · obtain ⟨k, hk⟩ := List.mem_iff_getElem?.mp hr
    obtain ⟨t, u, h1, h2, rfl⟩ := augL_get hk
    rw [List.length_append, unitL_wid u (List.mem_of_getElem? h2), hw t (List.mem_of_getElem? h1)]; omega
  · obtain ⟨rfl, hk⟩ := rl hl
    rw [at_ hr hk, if_pos rfl]
  · obtain ⟨rfl, hj⟩ := rl hl
    rw [at_ hr hj, if_neg (fun z => hkj z.symm)]
  · obtain ⟨rfl, hk⟩ := rl hl
    rw [at_ hr (by omega), if_neg (by omega)]
theorem inv_back {n : Nat} {A B : List (List α)} (hA : A.length = n) (wA : ∀ t ∈ A, t.length = n) (hB : B.length = n) (wB : ∀ t ∈ B, t.length = n) (AB : InvL n A B) (BA : InvL n B A) : SameSp (augL n A) (aug n B) := by
  have ul := unitL_len (α := α) n
  refine ⟨fun r hr => ?_, fun r hr => ?_⟩
  · obtain ⟨k, hk⟩ := List.mem_iff_getElem?.mp hr
    obtain ⟨a, u, h1, h2, rfl⟩ := augL_get hk
    have wu := unitL_wid u (List.mem_of_getElem? h2)
    have wa := wA a (List.mem_of_getElem? h1)
    refine sp_pair (n := n) (cs := a) (by omega) wB unitL_wid (by rw [List.length_append]; omega) (by omega) (fun i hi => ?_) fun i hi => ?_
    · rw [g_left wu hi]; exact (AB k a u h1 h2 i hi).symm
    · rw [g_right wu, lin_unit wa hi]
  · obtain ⟨k, hk⟩ := List.mem_iff_getElem?.mp hr
    obtain ⟨b, u, h1, h2, rfl⟩ := aug_get hk
    have wu := unitL_wid u (List.mem_of_getElem? h2)
    have wb := wB b (List.mem_of_getElem? h1)
    refine sp_pair (n := n) (cs := b) (by omega) unitL_wid wA (by rw [List.length_append]; omega) (by omega) (fun i hi => ?_) fun i hi => ?_
    · rw [g_left wb hi, lin_unit wb hi]
    · rw [g_right wb]; exact (BA k b u h1 h2 i hi).symm
end
end E
namespace E
open PySem PySem.Spec PyProof.Rows L2
def topS (i : Nat) : Stmt := PySem.Challenge.pw_everylemma_k03_tables_undone_and_ranks.main.body.getD i (.Pass ⟨0, 0, 0, 0⟩)
end E
/-! DJar: the list of draws as a list of one's own; relations on arguments; tables of one's own (rows by their addresses). -/
namespace E
open PySem PySem.Spec PyProof.Rows L2
abbrev rMulS : R2 := rI CMul fun i j => .int (i * j)
def jarD (ns : List Int) (a b k m : Int) : List D := [.lst (ns.map D.int), .int a, .int b, .int k, .int m]
structure JarB (ns : List Int) (a b k m : Int) : Prop where
  len : ns.length ≤ 63
  a0 : 0 ≤ a
  b0 : 0 ≤ b
  k0 : 0 ≤ k
  m0 : 0 ≤ m
  m1 : m < 2147483647
theorem JarAt.own {M : List Addr} {H : Hp} {j : Addr} (h : JarAt M H j) : ∃ ns a b k m vs, H j = some (.lst vs) ∧ Reps M H vs (jarD ns a b k m) ∧ JarB ns a b k m := by
  obtain ⟨sc, ns, a, b, k, m, e, n, q, h1, h2, h3, h4, h5, h6⟩ := h
  exact ⟨ns, a, b, k, m, _, e, .cons (.lst n q (reps_ints ns)) (.cons (.int a) (.cons (.int b) (.cons (.int k) (.cons (.int m) .nil)))), ⟨h1, h2, h3, h4, h5, h6⟩⟩
theorem JarAt.back {M : List Addr} {H : Hp} {j : Addr} {ns : List Int} {a b k m : Int} {vs : List V} (e : H j = some (.lst vs)) (r : Reps M H vs (jarD ns a b k m)) (B : JarB ns a b k m) : JarAt M H j := by
  cases r with
  | cons r1 t =>
    cases t with
    | cons r2 t =>
      cases t with
      | cons r3 t =>
        cases t with
        | cons r4 t =>
          cases t with
          | cons r5 t =>
            cases t; cases r2; cases r3; cases r4; cases r5
            cases r1 with
            | lst n q rr =>
              have := reps_intsV rr
              subst this
              exact ⟨_, ns, a, b, k, m, e, n, q, B.len, B.a0, B.b0, B.k0, B.m0, B.m1⟩
section
variable {c : Ct} {δ : List Sl} {Dn : Ends}
theorem sd_retS {te : TE} {P : D → Prop} (h : Ev c te δ P) (hr : ∀ σ H v d, Sta c δ σ H → Rep c.M H v d → P d → Dn.rt v H) : Sd c (tRet te) δ Dn := fun σ H s => h σ H _ s fun v H1 d s1 e1 r1 p1 => hr σ H1 v d s1 r1 p1
/-- the context of a body whose only own list is the list of draws -/
abbrev jCt (H0 : Hp) (M : List Addr) (j : Addr) (ds : List D) : Ct := ⟨H0, [], [], none, [], M, [(j, ds)], []⟩
def RtJ (H0 : Hp) (M : List Addr) (j : Addr) (Q : VK) (P : D → Prop) : Prop := ∀ δ σ H v d ns a b k m, JarB ns a b k m → Sta (jCt H0 M j (jarD ns a b k m)) δ σ H → Rep M H v d → P d → Q v H
theorem mkDraw {P : Program} {w : World} {K : PySem.W.Frag} {mg : Str → Option Value} {base : Heap} {x : Str} {st : Stmt} {N ps : List Str} {k : Nat} {R : List D → (D → Prop) → Prop} (h : Has K mg x st ps) (S : FnScope N ps (defScope st)) (hl : ∀ ds P, R ds P → ds.length + 1 = ps.length) (hN : 0 < N.length)
    (hb : ∀ (cdv : Value) (A : Around) (outer : List Env) (s : Shared) (H : Hp) (Q : VK) (E : XK) (f : Addr), Room k (A.deeper (envOfC x (defScope st) s.heap.objs.size f cdv)) →
      ∃ t, PSs (cxOf CX0 P w K mg base N x (defScope st) f cdv A outer s H E).nox (defBody st) t ∧
        ∀ H0 M ds P' j ns a b k m, R ds P' → JarB ns a b k m → RtJ H0 M j Q P' → Sd (jCt H0 M j (jarD ns a b k m)) t (some (.inr j) :: ds.map (fun d => some (.inl d)) ++ List.replicate (N.length - (ds.length + 1)) none) { nx := fun _ H' => Q .non H', rt := Q }) :
    Cal P w K mg base x (k + 1) ps (spJ R) := by
  obtain ⟨f, fd, F, hm, bd⟩ := h.ex
  refine ⟨f, fd, F.ok S (fun vs H Q E h => ?_) (fun cdv A outer s H vs Q E hr h => ?_), hm, F.kp, bd⟩
  · obtain ⟨M, ds, P', j, ws, rfl, _, _, _, r, hR, _⟩ := h
    rw [List.length_cons, r.len]; exact hl ds P' hR
  · obtain ⟨t, d, q⟩ := hb cdv A outer s H Q E f hr
    refine ⟨t, d, ?_⟩
    obtain ⟨M, ds, P', j, ws, rfl, hj, g, jar, r, hR, hq⟩ := h
    obtain ⟨ns, a, b, k, m, vs, ej, rj, B⟩ := jar.own
    have k0 : ∀ b o, (fun b => if b = j then none else H b) b = some o → b ≠ j ∧ H b = some o := fun b o e => by
      by_cases hb : b = j
      · simp [hb] at e
      · exact ⟨hb, by simpa [hb] using e⟩
    refine q (fun b => if b = j then none else H b) M ds P' j ns a b k m hR B (fun δ σ H1 v d ns a b k m B1 s1 r1 p1 => ?_) _ H
      ⟨fun b hb => (g b hb).1, (fun b hb => by cases hb), (fun b hb => by cases hb), (fun q hq => by cases hq), fun b o _ e => (k0 b o e).2, (fun q hq => by cases hq), fun p hp => ?_, by simp [jCt], (fun j ej => by cases ej), start_jar r N hN, fun b hb => (g b hb).2, fun p hp => by cases hp⟩
    · obtain ⟨_, _, _, _, vs1, e1, rr⟩ := s1.own (j, jarD ns a b k m) List.mem_cons_self
      refine hq v H1 d (fun b o nb e => s1.keep b o (by simp [jCt]) ?_) (JarAt.back e1 rr B1) r1 p1
      show (if b = j then none else H b) = some o
      rw [if_neg (by simpa using nb)]; exact e
    · have : p = (j, jarD ns a b k m) := by simpa [jCt] using hp
      subst this
      exact ⟨hj, by simp [jCt], by simp [jCt], (fun q hq => by cases hq), vs, ej, rj⟩
theorem ej {K : PySem.W.Frag} {H0 : Hp} {M : List Addr} {j : Addr} {ds : List D} {i : Int} {d : D} (hδ : δ[0]? = some (some (.inr j))) (h : atI ds i = some d) : Ev (jCt H0 M j ds) (tOp (rIxL K) (tVar 0) (tC (.int i))) δ (· = d) :=
  ev_op (evr_own hδ List.mem_cons_self) (Ev.r ev_int) (rv_ixL h)
/-- an if whose branches meet in J -/
theorem ss_ifJ {t : TT} {a b u : TS} {k : Bool} (J : Ct → List Sl → Prop) (rest : ∀ c' δ', J c' δ' → Sd c' u δ' Dn) (h : EvT c t δ (· = k)) (h1 : (∀ c' δ', J c' δ' → Nx c' δ' (u Dn)) → k = true → Sd c a δ { Dn with nx := u Dn })
    (h2 : (∀ c' δ', J c' δ' → Nx c' δ' (u Dn)) → k = false → Sd c b δ { Dn with nx := u Dn }) : Sd c (tSeq (tIfS t a b) u) δ Dn := ss_if h (h1 rest) (h2 rest)
/-! ### relations on arguments -/
theorem ea_consE {ta : TE} {tr : TA} {d : D} {P2 : List D → Prop} (h1 : Ev c ta δ (· = d)) (h2 : EvA c tr δ P2) : EvA c (tCons ta tr) δ (fun es => ∃ ds, es = d :: ds ∧ P2 ds) := ea_consR h1 h2 fun _ _ e p => ⟨_, by rw [e], p⟩
theorem ea_consP {ta : TE} {tr : TA} {P1 : D → Prop} {P2 : List D → Prop} (h1 : Ev c ta δ P1) (h2 : EvA c tr δ P2) : EvA c (tCons ta tr) δ (fun es => ∃ d ds, es = d :: ds ∧ P1 d ∧ P2 ds) := ea_consR h1 h2 fun d ds e p => ⟨d, ds, rfl, e, p⟩
theorem ea_one {ta : TE} {P1 : D → Prop} (h1 : Ev c ta δ P1) : EvA c (tCons ta tNil) δ (fun es => ∃ d, es = [d] ∧ P1 d) := ea_consR h1 ea_nil fun d ds e p => ⟨d, by rw [p], e⟩
/-! ### targets that write -/
def EgW (c : Ct) (g : TG) (δ : List Sl) (d : D) (c' : Ct) (δ' : List Sl) : Prop := ∀ σ H x (Q : L2.St → Hp → Prop), Sta c δ σ H → Rep c.M H x d → (∀ σ' H', Sta c' δ' σ' H' → Ext c.M H H' → Q σ' H') → g x σ H Q
theorem ew_name {j : Nat} {d : D} : EgW c (gName j) δ d c (δ.set j (some (.inl d))) := fun σ H x Q s r q => q _ H (s.slots (s.sl.set j (fun d' e => by cases e; exact r) fun l e => by cases e)) (Ext.refl _ _)
/-- an item of the newest own list -/
theorem ew_set {ti : TE} {i : Nat} {l : Addr} {ds : List D} {r : List (Addr × List D)} {d : D} {z : Int} {j : Nat} (ho : c.own = (l, ds) :: r) (hi : δ[i]? = some (some (.inr l))) (hx : Ev c ti δ (· = .int z)) (hj : ixN ds.length z = some j) :
    EgW c (gSub (tVar i) ti rSetL) δ d { c with own := (l, ds.set j d) :: r } δ := fun σ H x Q s rx q => by
  have hm : (l, ds) ∈ c.own := by rw [ho]; exact List.mem_cons_self
  refine ⟨.ref l, (s.sl.2 i).2 l hi, hx σ H _ s fun w H2 d2 s2 e2 r2 p2 => ?_⟩
  subst p2
  cases r2
  obtain ⟨a, _, _, _, vs1, e3, r3⟩ := s2.own _ hm
  exact ⟨l, vs1, z, j, rfl, rfl, e3, by rw [r3.len]; exact hj, q σ _ (s2.write ho (r3.set (rx.ext e2) j)) (e2.trans (Ext.upd a))⟩
/-- an item of an own row, told by its address -/
theorem ew_setAt {tc ti : TE} {l : Addr} {ds : List D} {r : List (Addr × List D)} {d : D} {z : Int} {j : Nat} (ho : c.own = (l, ds) :: r) (hc : Ev c tc δ (· = .loc l)) (hx : Ev c ti δ (· = .int z)) (hj : ixN ds.length z = some j) :
    EgW c (gSub tc ti rSetL) δ d { c with own := (l, ds.set j d) :: r } δ := fun σ H x Q s rx q => by
  have hm : (l, ds) ∈ c.own := by rw [ho]; exact List.mem_cons_self
  refine hc σ H _ s fun u H1 du s1 e1 r1 p1 => ?_
  subst p1
  cases r1
  refine hx σ H1 _ s1 fun w H2 d2 s2 e2 r2 p2 => ?_
  subst p2
  cases r2
  obtain ⟨a, _, _, _, vs1, e3, r3⟩ := s2.own _ hm
  exact ⟨l, vs1, z, j, rfl, rfl, e3, by rw [r3.len]; exact hj, q σ _ (s2.write ho (r3.set (rx.ext (e1.trans e2)) j)) ((e1.trans e2).trans (Ext.upd a))⟩
theorem ew_perm {g : TG} {d : D} {c' : Ct} {δ' : List Sl} {own' : List (Addr × List D)} (p : own'.Perm c.own) (h : EgW { c with own := own' } g δ d c' δ') : EgW c g δ d c' δ' := fun σ H x Q s r q => h σ H x Q (s.perm p) r q
theorem ew_post {g : TG} {d : D} {c' : Ct} {δ' : List Sl} {own' : List (Addr × List D)} (p : own'.Perm c'.own) (h : EgW c g δ d c' δ') : EgW c g δ d { c' with own := own' } δ' := fun σ H x Q s r q => h σ H x Q s r fun σ' H' s' e => q σ' H' (s'.perm p) e
theorem ew_tup2 {K : PySem.W.Frag} {g1 g2 : TG} {d1 d2 : D} {c1 c2 : Ct} {δ1 δ2 : List Sl} (h1 : EgW c g1 δ d1 c1 δ1) (hM : c1.M = c.M) (h2 : EgW c1 g2 δ1 d2 c2 δ2) : EgW c (gTup K 2 (gCons g1 (gCons g2 gNil))) δ (.tup [d1, d2]) c2 δ2 := fun σ H x Q s r q => by
  cases r with
  | tup n e r =>
    cases r with
    | cons a t =>
      cases t with
      | cons b t =>
        cases t
        exact ⟨_, _, rfl, SqT.of e, rfl, _, _, rfl, h1 σ H _ _ s a fun σ1 H1 s1 x1 => ⟨_, _, rfl, h2 σ1 H1 _ _ s1 (by rw [hM]; exact b.ext x1) fun σ2 H2 s2 x2 => ⟨rfl, q σ2 H2 s2 (x1.trans (by rw [← hM]; exact x2))⟩⟩⟩
theorem sd_asgW {te : TE} {g : TG} {d : D} {c' : Ct} {δ' : List Sl} (h : Ev c te δ (· = d)) (hg : EgW c g δ d c' δ') (k : Nx c' δ' Dn.nx) : Sd c (tAsg te g) δ Dn := fun σ H s => h σ H _ s fun v H1 d1 s1 e1 r1 p1 => by
  subst p1
  exact hg σ H1 v _ s1 r1 fun σ' H' s' _ => k σ' H' s'
theorem ss_asgW {te : TE} {u : TS} {g : TG} {d : D} {c' : Ct} {δ' : List Sl} (h : Ev c te δ (· = d)) (hg : EgW c g δ d c' δ') (k : Sd c' u δ' Dn) : Sd c (tSeq (tAsg te g) u) δ Dn := sd_seq (sd_asgW (Dn := { Dn with nx := u Dn }) h hg k)
/-- a row of one's own, told by its address -/
theorem evr_loc {t : TE} {l : Addr} {ds : List D} (h : Ev c t δ (· = .loc l)) (ho : (l, ds) ∈ c.own) : EvR c t δ (· = .lst ds) := fun σ H Q s q => h σ H _ s fun v H1 d s1 e1 r1 p1 => by
  subst p1
  cases r1
  exact q _ H1 _ s1 e1 (.inr ⟨l, ds, rfl, rfl, ho⟩) rfl
end
end E
namespace E
open PySem PySem.Spec PyProof.Rows L2
section
variable {P : Program} {w : World} {K : PySem.W.Frag} {mg : Str → Option Value} {base : Heap}
abbrev s_columns_of : Stmt := topS 33
abbrev N_columns_of : List Str := ["table", "width", "at", "row"]
abbrev p_columns_of : List Str := ["table", "width"]
theorem sc_columns_of : FnScope N_columns_of p_columns_of (defScope s_columns_of) := ⟨rfl, rfl, rfl, by decide +kernel, rfl, by decide +kernel, by decide +kernel⟩
/-- rows of data, each with the places asked -/
def R_columns_of (ds : List D) (P : D → Prop) : Prop := ∃ (rows : List (List D)) (w : Nat), ds = [.lst (rows.map .tup), .int w] ∧ w ≤ 1000 ∧ rows.length ≤ 1000 ∧ (∀ r ∈ rows, r.length = w) ∧ P = (· = .lst ((List.range w).map fun k => .lst (rows.map fun r => r.getD k .non)))
theorem c_columns_of (h : Has K mg "columns_of" s_columns_of p_columns_of) (B : Bi mg) : Cal P w K mg base "columns_of" 41 p_columns_of (spP R_columns_of) := by
  refine mkP h sc_columns_of (fun ds P h => by obtain ⟨_, _, rfl, _⟩ := h; rfl) fun cdv A outer s H Q E f hr => ⟨(tRet (tLc (iRng1 (tCons (tVar 1) tNil)) (gName 2) tYes (tLc (iList K (tVar 0)) (gName 3) tYes (tOp (rIxT K) (tVar 3) (tVar 2)) [3]) [2])),
  (pss_one (ps_ret (pe_lc (own := [("at", 2)]) (g := (gName 2)) (tt := tYes) (te := (tLc (iList K (tVar 0)) (gName 3) tYes (tOp (rIxT K) (tVar 3) (tVar 2)) [3])) rfl sc_columns_of.nd (pi_range1 rfl B.range (pa_cons (pv 1) pa_nil)) (blkOk_by (own := [("at", 2)]) (N := N_columns_of) (by kernel_rfl)) (fun _ _ _ _ _ => (pg_name (i := 2) sc_columns_of.nd rfl (by first | exact Or.inl rfl | exact Or.inr rfl))) (fun _ _ _ _ _ => pts_nil) (fun _ _ _ _ _ => (pe_lc (own := [("row", 3)]) (g := (gName 3)) (tt := tYes) (te := (tOp (rIxT K) (tVar 3) (tVar 2))) rfl sc_columns_of.nd (pi_list (pv 0)) (blkOk_by (own := [("row", 3)]) (N := N_columns_of) (by kernel_rfl)) (fun _ _ _ _ _ => (pg_name (i := 3) sc_columns_of.nd rfl (by first | exact Or.inl rfl | exact Or.inr rfl))) (fun _ _ _ _ _ => pts_nil) (fun _ _ _ _ _ => (pe_ix ix_tup (pv 3) (pv 2) (fun _ _ => rfl)))))))), fun M ds P' hR hq => ?_⟩
  obtain ⟨rows, w, rfl, hw, hrl, hlen, rfl⟩ := hR
  refine sd_ret (Ev.r (EvN.evE (en_ran (fun k => .lst (rows.map fun r => r.getD k .non)) (ea_cons (ev_var rfl) ea_nil) (by omega) fun l acc k hk => ⟨[2], _, eg_name, fun _ h => h, ?_⟩))) hq rfl
  refine EvN.evE (en_lst' rows D.tup (fun r => r.getD k .non) (ev_var rfl) (by omega) fun l2 acc2 r hr2 => ⟨[3], _, eg_name, fun _ h => h, ?_⟩)
  refine ev_op (Ev.r (ev_var rfl)) (Ev.r (ev_var rfl)) (rv_ixT (atI_nat ?_))
  rw [List.getD_eq_getElem?_getD, List.getElem?_eq_getElem (by rw [hlen r hr2]; exact hk)]
  rfl
end
end E
namespace E
open PySem PySem.Spec PyProof.Rows L2 TL
section
variable {P : Program} {w : World} {K : PySem.W.Frag} {mg : Str → Option Value} {base : Heap}
abbrev s_is_whole : Stmt := topS 6
abbrev N_is_whole : List Str := ["value"]
abbrev p_is_whole : List Str := ["value"]
theorem sc_is_whole : FnScope N_is_whole p_is_whole (defScope s_is_whole) := ⟨rfl, rfl, rfl, by decide +kernel, rfl, by decide +kernel, by decide +kernel⟩
abbrev s_writes_whole : Stmt := topS 7
abbrev N_writes_whole : List Str := ["word", "most", "digits"]
abbrev p_writes_whole : List Str := ["word", "most"]
theorem sc_writes_whole : FnScope N_writes_whole p_writes_whole (defScope s_writes_whole) := ⟨rfl, rfl, rfl, by decide +kernel, rfl, by decide +kernel, by decide +kernel⟩
abbrev s_lowest : Stmt := topS 8
abbrev N_lowest : List Str := ["top", "bottom", "common"]
abbrev p_lowest : List Str := ["top", "bottom"]
theorem sc_lowest : FnScope N_lowest p_lowest (defScope s_lowest) := ⟨rfl, rfl, rfl, by decide +kernel, rfl, by decide +kernel, by decide +kernel⟩
abbrev s_zero_of : Stmt := topS 11
abbrev N_zero_of : List Str := ["p"]
abbrev p_zero_of : List Str := ["p"]
theorem sc_zero_of : FnScope N_zero_of p_zero_of (defScope s_zero_of) := ⟨rfl, rfl, rfl, by decide +kernel, rfl, by decide +kernel, by decide +kernel⟩
abbrev s_one_of : Stmt := topS 12
abbrev N_one_of : List Str := ["p"]
abbrev p_one_of : List Str := ["p"]
theorem sc_one_of : FnScope N_one_of p_one_of (defScope s_one_of) := ⟨rfl, rfl, rfl, by decide +kernel, rfl, by decide +kernel, by decide +kernel⟩
abbrev s_inverse : Stmt := topS 15
abbrev N_inverse : List Str := ["k", "p", "done", "power", "left"]
abbrev p_inverse : List Str := ["k", "p"]
theorem sc_inverse : FnScope N_inverse p_inverse (defScope s_inverse) := ⟨rfl, rfl, rfl, by decide +kernel, rfl, by decide +kernel, by decide +kernel⟩
def isWhole : D → Bool
  | .int _ => true
  | _ => false
def isIB : D → Bool
  | .int _ => true
  | .bl _ => true
  | _ => false
def isBD : D → Bool
  | .bl _ => true
  | _ => false
theorem kit_ii : kitB "int" "int" = some true ∧ kitB "bool" "int" = some true ∧ kitB "str" "int" = some false ∧ kitB "list" "int" = some false ∧ kitB "tuple" "int" = some false ∧ kitB "NoneType" "int" = some false := by decide +kernel
theorem kit_bb : kitB "int" "bool" = some false ∧ kitB "bool" "bool" = some true ∧ kitB "str" "bool" = some false ∧ kitB "list" "bool" = some false ∧ kitB "tuple" "bool" = some false ∧ kitB "NoneType" "bool" = some false := by decide +kernel
theorem kit_int {d : D} (h : plainD d = true) : kitB (tyD d) "int" = some (isIB d) := by
  obtain ⟨a, b, c, e, f, n⟩ := kit_ii
  cases d with
  | bl _ => exact b
  | int _ => exact a
  | str _ => exact c
  | lst _ => exact e
  | tup _ => exact f
  | non => exact n
  | _ => cases h
theorem kit_bool {d : D} (h : plainD d = true) : kitB (tyD d) "bool" = some (isBD d) := by
  obtain ⟨a, b, c, e, f, n⟩ := kit_bb
  cases d with
  | bl _ => exact b
  | int _ => exact a
  | str _ => exact c
  | lst _ => exact e
  | tup _ => exact f
  | non => exact n
  | _ => cases h
def R_is_whole (ds : List D) (P : D → Prop) : Prop := ∃ d, ds = [d] ∧ plainD d = true ∧ P = (· = .bl (isWhole d))
theorem c_is_whole (h : Has K mg "is_whole" s_is_whole p_is_whole) (B : Bi mg) : Cal P w K mg base "is_whole" 41 p_is_whole (spP R_is_whole) := by
  refine mkP h sc_is_whole (fun ds P h => by obtain ⟨_, rfl, _⟩ := h; rfl) fun cdv A outer s H Q E f hr => ⟨(tRet (tAndV (tCB (rIsi K) (tCons (tVar 0) (tCons (tC (.ty "int")) tNil))) (tNotV (tCB (rIsi K) (tCons (tVar 0) (tCons (tC (.ty "bool")) tNil)))))),
  (pss_one (ps_ret (pe_and (pe_callB call_isi (by rfl) B.isinstance (by decide +kernel) (pa_cons (pv 0) (pa_cons (pe_bltn (by rfl) B.int (by decide +kernel) rfl) pa_nil))) (pe_one (pe_not (pe_callB call_isi (by rfl) B.isinstance (by decide +kernel) (pa_cons (pv 0) (pa_cons (pe_bltn (by rfl) B.bool (by decide +kernel) rfl) pa_nil)))))))), fun M ds P' hR hq => ?_⟩
  obtain ⟨d, rfl, hp, rfl⟩ := hR
  have k1 : kitB (tyD d) "int" = some (isIB d) := kit_int hp
  have k2 : kitB (tyD d) "bool" = some (isBD d) := kit_bool hp
  refine sd_ret (Ev.r (ev_andV (Ev.r (ev_isi (Ev.r (ev_var rfl)) hp k1)) fun _ => ev_notV (Ev.r (ev_isi (Ev.r (ev_var rfl)) hp k2)))) hq ?_
  cases d <;> rfl
def R_zero_of (ds : List D) (P : D → Prop) : Prop := ∃ F : Fm, ds = [.int F.p] ∧ P = (· = F.enc 0)
def R_one_of (ds : List D) (P : D → Prop) : Prop := ∃ F : Fm, ds = [.int F.p] ∧ P = (· = F.enc 1)
theorem tru_p (F : Fm) : truD (.int F.p) = some (match F with | .q => false | .z _ _ => true) := by
  cases F with
  | q => rfl
  | z p h =>
    have := prime_pos h
    show some (p != 0) = some true
    congr 1
    simp; omega
theorem enc_z (p : Int) (h : p ∈ primes) : (Fm.z p h).enc 0 = .int 0 := congrArg D.int (Zp.zero_val (hp := h))
theorem enc_o (p : Int) (h : p ∈ primes) : (Fm.z p h).enc 1 = .int 1 := congrArg D.int (Zp.one_val (hp := h))
theorem enc_qz : Fm.q.enc 0 = .tup [.int 0, .int 1] := rfl
theorem enc_qo : Fm.q.enc 1 = .tup [.int 1, .int 1] := rfl
theorem c_zero_of (h : Has K mg "zero_of" s_zero_of p_zero_of) : Cal P w K mg base "zero_of" 41 p_zero_of (spP R_zero_of) := by
  refine mkP h sc_zero_of (fun ds P h => by obtain ⟨_, rfl, _⟩ := h; rfl) fun cdv A outer s H Q E f hr => ⟨(tRet (tIf (tTru K (tVar 0)) (tC (.int 0)) (tTup (tCons (tC (.int 0)) (tCons (tC (.int 1)) tNil))))),
  (pss_one (ps_ret (pe_ifExp (pt_truth (pv 0) (by intro _; rfl)) pe_int (pe_tup (pa_cons pe_int (pa_cons pe_int pa_nil)))))), fun M ds P' hR hq => ?_⟩
  obtain ⟨F, rfl, rfl⟩ := hR
  refine sd_ret (Ev.r (ev_ifE (et_truth (Ev.r (ev_var rfl)) (tru_p F)) (fun _ => ev_int) fun _ => ev_tup (ea_cons ev_int (ea_cons ev_int ea_nil)))) hq ?_
  cases F with
  | q => rfl
  | z p h => exact (enc_z p h).symm
theorem c_one_of (h : Has K mg "one_of" s_one_of p_one_of) : Cal P w K mg base "one_of" 41 p_one_of (spP R_one_of) := by
  refine mkP h sc_one_of (fun ds P h => by obtain ⟨_, rfl, _⟩ := h; rfl) fun cdv A outer s H Q E f hr => ⟨(tRet (tIf (tTru K (tVar 0)) (tC (.int 1)) (tTup (tCons (tC (.int 1)) (tCons (tC (.int 1)) tNil))))),
  (pss_one (ps_ret (pe_ifExp (pt_truth (pv 0) (by intro _; rfl)) pe_int (pe_tup (pa_cons pe_int (pa_cons pe_int pa_nil)))))), fun M ds P' hR hq => ?_⟩
  obtain ⟨F, rfl, rfl⟩ := hR
  refine sd_ret (Ev.r (ev_ifE (et_truth (Ev.r (ev_var rfl)) (tru_p F)) (fun _ => ev_int) fun _ => ev_tup (ea_cons ev_int (ea_cons ev_int ea_nil)))) hq ?_
  cases F with
  | q => rfl
  | z p h => exact (enc_o p h).symm

/-! ### lowest terms -/
def R_lowest (ds : List D) (P : D → Prop) : Prop := ∃ a b : Int, ds = [.int a, .int b] ∧ b ≠ 0 ∧ P = (· = encQ (Rat.divInt a b))
theorem low_pos {a b : Int} (hb : 0 < b) : D.tup [.int (a.fdiv ((Nat.gcd a.natAbs b.natAbs : Nat) : Int)), .int (b.fdiv ((Nat.gcd a.natAbs b.natAbs : Nat) : Int))] = encQ (Rat.divInt a b) := by
  have e : Int.gcd b a = Nat.gcd a.natAbs b.natAbs := by rw [Int.gcd_comm]; rfl
  have s1 : b.sign = 1 := Int.sign_eq_one_of_pos hb
  unfold encQ
  rw [Rat.num_divInt, Rat.den_divInt, s1, Int.one_mul, e, if_neg (by omega), Int.fdiv_eq_ediv_of_nonneg _ (Int.natCast_nonneg _), Int.fdiv_eq_ediv_of_nonneg _ (Int.natCast_nonneg _)]
  have e2 : b / ((Nat.gcd a.natAbs b.natAbs : Nat) : Int) = ((b.natAbs / Nat.gcd a.natAbs b.natAbs : Nat) : Int) := by
    rw [Int.natCast_ediv]; congr 1; omega
  rw [e2]
theorem low_neg {a b : Int} (hb : b < 0) : D.tup [.int ((-a).fdiv ((Nat.gcd (-a).natAbs (-b).natAbs : Nat) : Int)), .int ((-b).fdiv ((Nat.gcd (-a).natAbs (-b).natAbs : Nat) : Int))] = encQ (Rat.divInt a b) := by
  rw [low_pos (by omega), Rat.neg_divInt_neg]
theorem c_lowest (h : Has K mg "lowest" s_lowest p_lowest) (B : Bi mg) (NS : base.NoSeer) (hP : P.given.tree = none) : Cal P w K mg base "lowest" 41 p_lowest (spP R_lowest) := by
  refine mkP h sc_lowest (fun ds P h => by obtain ⟨_, _, rfl, _⟩ := h; rfl) fun cdv A outer s H Q E f hr => ⟨(tSeq (tIfS (tTest (tOp rLtI (tVar 1) (tC (.int 0)))) (tPar 0 1 (tCons (tUn rNegI (tVar 0)) (tCons (tUn rNegI (tVar 1)) tNil))) tNext)
  (tSeq (tAsg (tCB rGcd (tCons (tVar 0) (tCons (tVar 1) tNil))) (gName 2))
  (tRet (tTup (tCons (tOp rDivI (tVar 0) (tVar 2)) (tCons (tOp rDivI (tVar 1) (tVar 2)) tNil)))))),
  (pss_cons (ps_if (pt_cmpR op_lt (pv 1) pe_int (nomark _)) (pss_one (ps_par (i := 0) (j := 1) rfl sc_lowest.nd rfl rfl (by decide) rfl rfl (pa_cons (pe_un un_neg (pv 0)) (pa_cons (pe_un un_neg (pv 1)) pa_nil)) (by rfl))) pss_nil)
  (pss_cons (ps_asg (pe_callBfun cr_gcd rfl B.gcd (pa_cons (pv 0) (pa_cons (pv 1) pa_nil))) (pg_name (i := 2) sc_lowest.nd rfl (by first | exact Or.inl rfl | exact Or.inr rfl)))
  (pss_one (ps_ret (pe_tup (pa_cons (pe_op (op_divI ⟨NS, hP, ⟨_, _, rfl, rfl, rfl, rfl, rfl⟩, hr.mono (by decide)⟩) (pv 0) (pv 2)) (pa_cons (pe_op (op_divI ⟨NS, hP, ⟨_, _, rfl, rfl, rfl, rfl, rfl⟩, hr.mono (by decide)⟩) (pv 1) (pv 2)) pa_nil))))))), fun M ds P' hR hq => ?_⟩
  obtain ⟨a, b, rfl, hb, rfl⟩ := hR
  have gpos : ∀ x y : Int, y ≠ 0 → ((Nat.gcd x.natAbs y.natAbs : Nat) : Int) ≠ 0 := fun x y hy => by
    have := Nat.gcd_pos_of_pos_right x.natAbs (Int.natAbs_pos.mpr hy)
    omega
  refine sd_when (et_test (Ev.r (ev_op (Ev.r (ev_var rfl)) (Ev.r ev_int) rv_B0))) (fun hk => ?_) fun hk => ?_
  · have hb' : b < 0 := of_decide_eq_true hk
    refine ss_par (ea_cons (ev_un (Ev.r (ev_var rfl))) (ea_cons (ev_un (Ev.r (ev_var rfl))) ea_nil)) ?_
    refine ss_asg (ev_cb2 (Ev.r (ev_var rfl)) (Ev.r (ev_var rfl)) rc_gcd) ?_
    refine sd_ret (Ev.r (ev_tup (ea_cons (ev_op (Ev.r (ev_var rfl)) (Ev.r (ev_var rfl)) (rv_I (gpos _ _ (by omega)))) (ea_cons (ev_op (Ev.r (ev_var rfl)) (Ev.r (ev_var rfl)) (rv_I (gpos _ _ (by omega)))) ea_nil)))) hq ?_
    exact low_neg hb'
  · have hb' : ¬ b < 0 := of_decide_eq_false hk
    refine ss_asg (ev_cb2 (Ev.r (ev_var rfl)) (Ev.r (ev_var rfl)) rc_gcd) ?_
    refine sd_ret (Ev.r (ev_tup (ea_cons (ev_op (Ev.r (ev_var rfl)) (Ev.r (ev_var rfl)) (rv_I (gpos _ _ hb))) (ea_cons (ev_op (Ev.r (ev_var rfl)) (Ev.r (ev_var rfl)) (rv_I (gpos _ _ hb))) ea_nil)))) hq ?_
    exact low_pos (by omega)
end
end E
namespace E
open PySem PySem.Spec PyProof.Rows L2 TL
section
variable {P : Program} {w : World} {K : PySem.W.Frag} {mg : Str → Option Value} {base : Heap}
abbrev s_scalar_of_text : Stmt := topS 10
abbrev N_scalar_of_text : List Str := ["p", "text", "words", "word"]
abbrev p_scalar_of_text : List Str := ["p", "text"]
theorem sc_scalar_of_text : FnScope N_scalar_of_text p_scalar_of_text (defScope s_scalar_of_text) := ⟨rfl, rfl, rfl, by decide +kernel, rfl, by decide +kernel, by decide +kernel⟩
abbrev s_scalar_of : Stmt := topS 9
abbrev N_scalar_of : List Str := ["p", "value", "top", "bottom"]
abbrev p_scalar_of : List Str := ["p", "value"]
theorem sc_scalar_of : FnScope N_scalar_of p_scalar_of (defScope s_scalar_of) := ⟨rfl, rfl, rfl, by decide +kernel, rfl, by decide +kernel, by decide +kernel⟩
abbrev g_MOST_DIGITS : V := .int 4000
def R_inverse (ds : List D) (P : D → Prop) : Prop := ∃ k p : Int, ds = [.int k, .int p] ∧ p ∈ primes ∧ 0 < k ∧ k < p ∧ P = (· = .int (invF k p))
theorem c_inverse (h : Has K mg "inverse" s_inverse p_inverse) : Cal P w K mg base "inverse" 41 p_inverse (spP R_inverse) := by
  refine mkP h sc_inverse (fun ds P h => by obtain ⟨_, _, rfl, _⟩ := h; rfl) fun cdv A outer s H Q E f hr => ⟨(tSeq (tPar3 2 3 4 (tCons (tC (.int 1)) (tCons (tVar 0) (tCons (tOp rSubI (tVar 1) (tC (.int 2))) tNil))))
  (tSeq (tWhile (tTest (tOp rGtI (tVar 4) (tC (.int 0)))) (tSeq (tIfS (tTru K (tOp rAndI (tVar 4) (tC (.int 1)))) (tAsg (tOp rModI (tOp rMulI (tVar 2) (tVar 3)) (tVar 1)) (gName 2)) tNext)
  (tPar 3 4 (tCons (tOp rModI (tOp rMulI (tVar 3) (tVar 3)) (tVar 1)) (tCons (tOp rShrI (tVar 4) (tC (.int 1))) tNil)))))
  (tRet (tVar 2)))),
  (pss_cons (ps_par3 (i := 2) (j := 3) (l := 4) rfl sc_inverse.nd rfl rfl rfl (by decide) (by decide) (by decide) rfl rfl rfl (pa_cons pe_int (pa_cons (pv 0) (pa_cons (pe_op op_sub (pv 1) pe_int) pa_nil))) (by rfl))
  (pss_cons (ps_while PassesOwn.never (pt_cmpR op_gt (pv 4) pe_int (nomark _)) (pss_cons (ps_if (pt_truth (pe_op op_and (pv 4) pe_int) (by intro _; rfl)) (pss_one (ps_asg (pe_op op_modN (pe_op op_mulI (pv 2) (pv 3)) (pv 1)) (pg_name (i := 2) sc_inverse.nd rfl (by first | exact Or.inl rfl | exact Or.inr rfl)))) pss_nil)
  (pss_one (ps_par (i := 3) (j := 4) rfl sc_inverse.nd rfl rfl (by decide) rfl rfl (pa_cons (pe_op op_modN (pe_op op_mulI (pv 3) (pv 3)) (pv 1)) (pa_cons (pe_op op_shr (pv 4) pe_int) pa_nil)) (by rfl)))))
  (pss_one (ps_ret (pv 2))))), fun M ds P' hR hq => ?_⟩
  obtain ⟨k, p, rfl, hp, h0, h1, rfl⟩ := hR
  have hpp := prime_pos hp
  refine ss_par3 (ea_cons ev_int (ea_cons (ev_var rfl) (ea_cons (ev_op (Ev.r (ev_var rfl)) (Ev.r ev_int) rv_I0) ea_nil))) ?_
  refine ss_while (fun m c1 δ1 => c1 = _ ∧ ∃ (dn pw : Int) (lf : Nat), lf < 2 ^ m ∧ 0 ≤ dn ∧ dn < p ∧ 0 ≤ pw ∧ pw < p ∧ invL p (m + 1) dn pw lf = invF k p ∧ δ1 = [some (.inl (.int k)), some (.inl (.int p)), some (.inl (.int dn)), some (.inl (.int pw)), some (.inl (.int (lf : Int)))]) 7 ⟨rfl, 1, k, (p - 2).toNat, by omega, by omega, by omega, by omega, by omega, rfl, ?_⟩ ?_
  · have e : p - 2 = (((p - 2).toNat : Nat) : Int) := by omega
    rw [e]; rfl
  · rintro m c1 δ1 ⟨rfl, dn, pw, lf, hlf, d0, d1, w0, w1, hin, rfl⟩
    refine ⟨_, et_test (Ev.r (ev_op (Ev.r (ev_var rfl)) (Ev.r ev_int) rv_B0)), fun hk => ?_, fun hk => ?_⟩
    · have hpos : (0 : Int) < (lf : Int) := of_decide_eq_true hk.symm
      obtain ⟨m, rfl⟩ : ∃ k, m = k + 1 := ⟨m - 1, by cases m with | zero => simp at hlf; omega | succ m => rfl⟩
      rw [invL, if_neg (by omega)] at hin
      have e2 : (lf : Int) / 2 ^ (1 : Int).toNat = ((lf / 2 : Nat) : Int) := rfl
      have eb : Builtin.bitAnd (lf : Int) 1 = ((lf % 2 : Nat) : Int) := by rw [bitAnd_m1]; rfl
      have mm : ∀ x : Int, x.fmod p = x % p ∧ 0 ≤ x % p ∧ x % p < p := fun x => ⟨Int.fmod_eq_emod_of_nonneg _ (by omega), Int.emod_nonneg _ (by omega), Int.emod_lt_of_pos _ (by omega)⟩
      have sm : ∀ x : Int, 0 ≤ x → x < p → x.natAbs.log2 < 50000000 := fun x a b => by
        have : x.natAbs < 2 ^ 7 := by omega
        have := Nat.log2_lt (n := x.natAbs) (k := 7)
        by_cases h : x.natAbs = 0
        · rw [h]; decide
        · have := (this h).mpr (by assumption); omega
      have cm : ∀ x y : Int, 0 ≤ x → x < p → 0 ≤ y → y < p → CMulI x y := fun x y a b e f => by
        have := sm x a b; have := sm y e f; unfold CMulI; omega
      by_cases ho : lf % 2 = 1
      · refine sd_when (k := true) (et_truth (Ev.r (ev_op (Ev.r (ev_var rfl)) (Ev.r ev_int) rv_I0)) (by show some (_ != _) = _; rw [eb, ho]; rfl)) (fun _ => ?_) (fun e => by cases e)
        refine sd_asg (ev_op (Ev.r (ev_op (Ev.r (ev_var rfl)) (Ev.r (ev_var rfl)) (rv_I (cm _ _ d0 d1 w0 w1)))) (Ev.r (ev_var rfl)) (rv_I (by omega))) (sd_nx ?_ rfl)
        refine sd_par2 (ea_cons (ev_op (Ev.r (ev_op (Ev.r (ev_var rfl)) (Ev.r (ev_var rfl)) (rv_I (cm _ _ w0 w1 w0 w1)))) (Ev.r (ev_var rfl)) (rv_I (by omega))) (ea_cons (ev_op (Ev.r (ev_var rfl)) (Ev.r ev_int) (rv_I (by decide))) ea_nil)) (nx_I ⟨m, by omega, rfl, (dn * pw) % p, (pw * pw) % p, lf / 2, by omega, (mm _).2.1, (mm _).2.2, (mm _).2.1, (mm _).2.2, ?_, ?_⟩)
        · rw [if_pos ho] at hin; exact hin
        · rw [(mm _).1, (mm _).1, e2]; rfl
      · refine sd_when (k := false) (et_truth (Ev.r (ev_op (Ev.r (ev_var rfl)) (Ev.r ev_int) rv_I0)) (by show some (_ != _) = _; rw [eb, show lf % 2 = 0 by omega]; rfl)) (fun e => by cases e) (fun _ => ?_)
        refine sd_par2 (ea_cons (ev_op (Ev.r (ev_op (Ev.r (ev_var rfl)) (Ev.r (ev_var rfl)) (rv_I (cm _ _ w0 w1 w0 w1)))) (Ev.r (ev_var rfl)) (rv_I (by omega))) (ea_cons (ev_op (Ev.r (ev_var rfl)) (Ev.r ev_int) (rv_I (by decide))) ea_nil)) (nx_I ⟨m, by omega, rfl, dn, (pw * pw) % p, lf / 2, by omega, d0, d1, (mm _).2.1, (mm _).2.2, ?_, ?_⟩)
        · rw [if_neg ho] at hin; exact hin
        · rw [(mm _).1, e2]; rfl
    · have h0 : lf = 0 := by have : ¬ (0 : Int) < (lf : Int) := of_decide_eq_false hk.symm; omega
      subst h0
      refine sd_ret (Ev.r (ev_var rfl)) hq ?_
      rw [← hin]; rfl

def R_writes_whole (ds : List D) (P : D → Prop) : Prop := ∃ v : Int, ds = [.str (sI v), .int 4000] ∧ smI v ∧ P = (· = .bl true)
theorem c_writes_whole (h : Has K mg "writes_whole" s_writes_whole p_writes_whole) (B : Bi mg) : Cal P w K mg base "writes_whole" 41 p_writes_whole (spP R_writes_whole) := by
  refine mkP h sc_writes_whole (fun ds P h => by obtain ⟨_, rfl, _⟩ := h; rfl) fun cdv A outer s H Q E f hr => ⟨(tSeq (tAsg (tIf (tB (tM1 rStarts (tVar 0) (tC (.str (Str.ofString "-"))))) (tSl rSlS (tVar 0) (tPart (tC (.int 1))) tNoPart) (tVar 0)) (gName 2))
  (tSeq (tIfS (tOr (tNot (tB (tM0 rIsDigit (tVar 2)))) (tTest (tOp rGtI (tCB rLenT (tCons (tVar 2) tNil)) (tVar 1)))) (tRet (tC (.bl false))) tNext)
  (tRet (tIf (tB (tM1 rStarts (tVar 2) (tC (.str (Str.ofString "0"))))) (tOp rEq (tVar 0) (tC (.str (Str.ofString "0")))) (tC (.bl true)))))),
  (pss_cons (ps_asg (pe_ifExp (pt_val (pe_m1 PySem.F.slot_str_startswith PySem.F.type_str_startswith mt_startswith (pv 0) pe_str)) (pe_slice sl_str (pv 0) (po_some pe_int) po_none) (pv 0)) (pg_name (i := 2) sc_writes_whole.nd rfl (by first | exact Or.inl rfl | exact Or.inr rfl)))
  (pss_cons (ps_if (PW.pt (pw_or (pt_not (pt_val (pe_m0 PySem.F.slot_str_isdigit PySem.F.type_str_isdigit mt_isdigit (pv 2)))) (pw_or1 (pt_cmpR op_gt (pe_callB call_len_str (by rfl) B.len boot_len (pa_cons (pv 2) pa_nil)) (pv 1) (nomark _))))) (pss_one (ps_ret pe_bl)) pss_nil)
  (pss_one (ps_ret (pe_ifExp (pt_val (pe_m1 PySem.F.slot_str_startswith PySem.F.type_str_startswith mt_startswith (pv 2) pe_str)) (pe_cmpR op_eq (pv 0) pe_str (nomark _)) pe_bl))))), fun M ds P' hR hq => ?_⟩
  obtain ⟨v, rfl, hv, rfl⟩ := hR
  have hlen := smI_len hv
  obtain ⟨x, hx, hxt⟩ : ∃ x : Str, (if decide (v < 0) = true then D.str (cutS (sI v) (some 1) none) else D.str (sI v)) = D.str x ∧ tl x = numL v.natAbs := by
    by_cases h0 : v < 0
    · refine ⟨cutS (sI v) (some 1) none, by rw [decide_eq_true h0]; rfl, ?_⟩
      rw [tl_cut1, tl_sI_neg h0]; rfl
    · exact ⟨sI v, by rw [decide_eq_false h0]; rfl, tl_sI_pos (by omega)⟩
  refine ss_asg ((ev_ifE (et_B (Ev.r ((ev_starts (Ev.r (ev_var rfl)) (Ev.r ev_str)).is (congrArg D.bl (starts_neg v))))) (fun _ => ev_slS (Ev.r (ev_var rfl)) (ep_some (Ev.r ev_int)) ep_no (by omega)) fun _ => ev_var rfl).is hx) ?_
  have xl := num_small hv hxt
  have c1 : decide ((4000 : Int) < (x.length : Int)) = false := decide_eq_false (by omega)
  refine sd_when (k := false) ((et_orE (et_not (et_B (Ev.r (ev_isdigit (Ev.r (ev_var rfl)))))) fun _ => et_test (Ev.r (ev_op (Ev.r (ev_cb (Ev.r (ev_var rfl)) (rc_lenS (by omega)))) (Ev.r (ev_var rfl)) rv_B0))).is (by rw [isdigit_num hxt, c1]; rfl)) (fun e => by cases e) fun _ => ?_
  refine sd_ret (Ev.r (ev_ifE (et_B (Ev.r (ev_starts (Ev.r (ev_var rfl)) (Ev.r ev_str)))) (fun _ => ev_op (Ev.r (ev_var rfl)) (Ev.r ev_str) rv_eqS) fun _ => ev_bl)) hq ?_
  rw [starts_zero hxt]
  by_cases h0 : v = 0
  · subst h0; rfl
  · rw [decide_eq_false (by omega)]; rfl

def R_scalar_of_text (ds : List D) (P : D → Prop) : Prop := ∃ (F : Fm) (x : Str) (y : F.α), ds = [.int F.p, .str x] ∧ Writ F (.str x) y ∧ P = (· = F.enc y)
theorem starts_neg_false {b : Int} (h : 0 < b) : Txt.startswith (sI b) (Str.ofString "-") = false := by rw [starts_neg]; exact decide_eq_false (by omega)
theorem two_mem {a b u : Int} (hu : u ∈ [a, b]) (ha : smI a) (hb : smI b) : smI u := by
  rcases List.mem_cons.mp hu with e | e
  · rw [e]; exact ha
  · rw [List.mem_singleton.mp e]; exact hb
theorem c_scalar_of_text (h : Has K mg "_scalar_of_text" s_scalar_of_text p_scalar_of_text) (B : Bi mg) {uM : Value} (G_MOST_DIGITS : mg "MOST_DIGITS" = some uM ∧ L2.RelV g_MOST_DIGITS uM) (C_writes_whole : Cal P w K mg base "writes_whole" 41 p_writes_whole (spP R_writes_whole)) (C_lowest : Cal P w K mg base "lowest" 41 p_lowest (spP R_lowest)) : Cal P w K mg base "_scalar_of_text" 42 p_scalar_of_text (spP R_scalar_of_text) := by
  refine mkP h sc_scalar_of_text (fun ds P h => by obtain ⟨_, _, _, rfl, _⟩ := h; rfl) fun cdv A outer s H Q E f hr => ⟨(tSeq (tAsg (tM1 rSplit (tVar 1) (tC (.str (Str.ofString "/")))) (gName 2))
  (tSeq (tIfS (tNot (tB (tCB (rAll K) (tCons (tLc (iList K (tVar 2)) (gName 3) tYes (tCall (spP R_writes_whole) [] E0 (tCons (tVar 3) (tCons (tC g_MOST_DIGITS) tNil))) [3]) tNil)))) (tRet (tC .non)) tNext)
  (tSeq (tIfS (tTest (tOp rEq (tCB (rLenQ K) (tCons (tVar 2) tNil)) (tC (.int 1)))) (tRet (tIf (tTru K (tVar 0)) (tOp rModI (tCB rIntS (tCons (tVar 1) tNil)) (tVar 0)) (tTup (tCons (tCB rIntS (tCons (tVar 1) tNil)) (tCons (tC (.int 1)) tNil))))) tNext)
  (tSeq (tIfS (tOr (tTru K (tVar 0)) (tOr (tTest (tOp rNe (tCB (rLenQ K) (tCons (tVar 2) tNil)) (tC (.int 2)))) (tOr (tTest (tOp rEq (tOp (rIxL K) (tVar 2) (tC (.int 1))) (tC (.str (Str.ofString "0"))))) (tB (tM1 rStarts (tOp (rIxL K) (tVar 2) (tC (.int 1))) (tC (.str (Str.ofString "-")))))))) (tRet (tC .non)) tNext)
  (tRet (tCall (spP R_lowest) [] E0 (tCons (tCB rIntS (tCons (tOp (rIxL K) (tVar 2) (tC (.int 0))) tNil)) (tCons (tCB rIntS (tCons (tOp (rIxL K) (tVar 2) (tC (.int 1))) tNil)) tNil)))))))),
  (pss_cons (ps_asg (pe_split (pv 1) pe_str) (pg_name (i := 2) sc_scalar_of_text.nd rfl (by first | exact Or.inl rfl | exact Or.inr rfl)))
  (pss_cons (ps_if (pt_not (pt_val (pe_callB (cr_all rfl) (by rfl) B.all (by decide +kernel) (pa_cons (pe_lc (own := [("word", 3)]) (g := (gName 3)) (tt := tYes) (te := (tCall (spP R_writes_whole) [] E0 (tCons (tVar 3) (tCons (tC g_MOST_DIGITS) tNil)))) rfl sc_scalar_of_text.nd (pi_list (pv 2)) (blkOk_by (own := [("word", 3)]) (N := N_scalar_of_text) (by kernel_rfl)) (fun _ _ _ _ _ => (pg_name (i := 3) sc_scalar_of_text.nd rfl (by first | exact Or.inl rfl | exact Or.inr rfl))) (fun _ _ _ _ _ => pts_nil) (fun _ _ _ _ _ => (pe_cal C_writes_whole (hr.mono (by decide)) rfl (pa_cons (pv 3) (pa_cons (pe_glob rfl G_MOST_DIGITS.1 G_MOST_DIGITS.2) pa_nil))))) pa_nil)))) (pss_one (ps_ret pe_non)) pss_nil)
  (pss_cons (ps_if (pt_cmpR op_eq (pe_callB call_len_seq (by rfl) B.len boot_len (pa_cons (pv 2) pa_nil)) pe_int (nomark _)) (pss_one (ps_ret (pe_ifExp (pt_truth (pv 0) (by intro _; rfl)) (pe_op op_modN (pe_callTy call_int_str (by rfl) B.int (by decide +kernel) (pa_cons (pv 1) pa_nil)) (pv 0)) (pe_tup (pa_cons (pe_callTy call_int_str (by rfl) B.int (by decide +kernel) (pa_cons (pv 1) pa_nil)) (pa_cons pe_int pa_nil)))))) pss_nil)
  (pss_cons (ps_if (PW.pt (pw_or (pt_truth (pv 0) (by intro _; rfl)) (pw_or (pt_cmpR op_ne (pe_callB call_len_seq (by rfl) B.len boot_len (pa_cons (pv 2) pa_nil)) pe_int (nomark _)) (pw_or (pt_cmpR op_eq (pe_ix ix_list (pv 2) pe_int (fun _ _ => rfl)) pe_str (nomark _)) (pw_or1 (pt_val (pe_m1 PySem.F.slot_str_startswith PySem.F.type_str_startswith mt_startswith (pe_ix ix_list (pv 2) pe_int (fun _ _ => rfl)) pe_str))))))) (pss_one (ps_ret pe_non)) pss_nil)
  (pss_one (ps_ret (pe_cal C_lowest (hr.mono (by decide)) rfl (pa_cons (pe_callTy call_int_str (by rfl) B.int (by decide +kernel) (pa_cons (pe_ix ix_list (pv 2) pe_int (fun _ _ => rfl)) pa_nil)) (pa_cons (pe_callTy call_int_str (by rfl) B.int (by decide +kernel) (pa_cons (pe_ix ix_list (pv 2) pe_int (fun _ _ => rfl)) pa_nil)) pa_nil))))))))), fun M ds P' hR hq => ?_⟩
  obtain ⟨F, x, y, rfl, hw, rfl⟩ := hR
  have hs : ∀ v : Int, smI v → R_writes_whole [.str (sI v), .int 4000] (· = .bl true) := fun v hv => ⟨v, rfl, hv, rfl⟩
  cases hw with
  | zs p hp v hv =>
    have hl := smI_len hv
    refine ss_asg ((EvN.evE (en_split (Ev.r (ev_var rfl)) (Ev.r ev_str) (by rfl) (by omega))).is (by rw [show Str.ofString "/" = slash from rfl, split_one])) ?_
    refine sd_when (k := false) ((et_not (et_B (Ev.r (ev_cb (d1 := .lst ([true].map D.bl)) (Ev.r (EvN.evE (en_lst' [v] (fun v => .str (sI v)) (fun _ => .bl true) (ev_var rfl) (by simp) fun l acc u hu => ⟨[3], _, eg_name, fun _ h => h, ev_call (ea_cons (ev_var rfl) (ea_cons ev_int ea_nil)) (hs u (by rw [List.mem_singleton.mp hu]; exact hv))⟩))) rc_all)))).is rfl) (fun e => by cases e) fun _ => ?_
    refine sd_when (k := true) (et_test (Ev.r (ev_op (Ev.r (ev_cb (Ev.r (ev_var rfl)) (rc_len rfl))) (Ev.r ev_int) rv_eqI))) (fun _ => ?_) (fun e => by cases e)
    have hpp := prime_pos hp
    refine sd_ret (Ev.r (ev_ifT (et_truth (Ev.r (ev_var rfl)) (tru_p (.z p hp))) (ev_op (Ev.r (ev_cb (Ev.r (ev_var rfl)) (rc_intS (int_sI hv) (by omega)))) (Ev.r (ev_var rfl)) (rv_I (by show p ≠ 0; omega)))))  hq ?_
    exact (enc_mk hp v).symm
  | qs v hv =>
    have hl := smI_len hv
    refine ss_asg ((EvN.evE (en_split (Ev.r (ev_var rfl)) (Ev.r ev_str) (by rfl) (by omega))).is (by rw [show Str.ofString "/" = slash from rfl, split_one])) ?_
    refine sd_when (k := false) ((et_not (et_B (Ev.r (ev_cb (d1 := .lst ([true].map D.bl)) (Ev.r (EvN.evE (en_lst' [v] (fun v => .str (sI v)) (fun _ => .bl true) (ev_var rfl) (by simp) fun l acc u hu => ⟨[3], _, eg_name, fun _ h => h, ev_call (ea_cons (ev_var rfl) (ea_cons ev_int ea_nil)) (hs u (by rw [List.mem_singleton.mp hu]; exact hv))⟩))) rc_all)))).is rfl) (fun e => by cases e) fun _ => ?_
    refine sd_when (k := true) (et_test (Ev.r (ev_op (Ev.r (ev_cb (Ev.r (ev_var rfl)) (rc_len rfl))) (Ev.r ev_int) rv_eqI))) (fun _ => ?_) (fun e => by cases e)
    refine sd_ret (Ev.r (ev_ifF (et_truth (Ev.r (ev_var rfl)) (tru_p .q)) (ev_tup (ea_cons (ev_cb (Ev.r (ev_var rfl)) (rc_intS (int_sI hv) (by omega))) (ea_cons ev_int ea_nil))))) hq ?_
    exact (encQ_int v).symm
  | qx a b hb ha hbb =>
    have hl := smI_len ha
    have hl2 := smI_len hbb
    refine ss_asg ((EvN.evE (en_split (Ev.r (ev_var rfl)) (Ev.r ev_str) (by rfl) (by rw [len_tl, tl_append, tl_append, List.length_append, List.length_append, tl_slash, ← len_tl, ← len_tl]; simp; omega))).is (by rw [show Str.ofString "/" = slash from rfl, split_two])) ?_
    refine sd_when (k := false) ((et_not (et_B (Ev.r (ev_cb (d1 := .lst ([true, true].map D.bl)) (Ev.r (EvN.evE (en_lst' [a, b] (fun v => .str (sI v)) (fun _ => .bl true) (ev_var rfl) (by simp) fun l acc u hu => ⟨[3], _, eg_name, fun _ h => h, ev_call (ea_cons (ev_var rfl) (ea_cons ev_int ea_nil)) (hs u (two_mem hu ha hbb))⟩))) rc_all)))).is rfl) (fun e => by cases e) fun _ => ?_
    refine sd_when (k := false) (et_test (Ev.r (ev_op (Ev.r (ev_cb (Ev.r (ev_var rfl)) (rc_len rfl))) (Ev.r ev_int) rv_eqI))) (fun e => by cases e) fun _ => ?_
    have n1 : decide (sI b = Str.ofString "0") = false := decide_eq_false (sI_ne (by omega))
    refine sd_when (k := false) ((et_orE (et_truth (Ev.r (ev_var rfl)) (tru_p .q)) fun _ => et_orE (et_test (Ev.r (ev_op (Ev.r (ev_cb (Ev.r (ev_var rfl)) (rc_len rfl))) (Ev.r ev_int) rv_neI))) fun _ => et_orE (et_test (Ev.r (ev_op (Ev.r (ev_op (Ev.r (ev_var rfl)) (Ev.r ev_int) (rv_ixL (d := .str (sI b)) rfl))) (Ev.r ev_str) rv_eqS))) fun _ => et_B (Ev.r (ev_starts (Ev.r (ev_op (Ev.r (ev_var rfl)) (Ev.r ev_int) (rv_ixL (d := .str (sI b)) rfl))) (Ev.r ev_str)))).is (by rw [n1, starts_neg_false hb]; rfl)) (fun e => by cases e) fun _ => ?_
    refine sd_ret (Ev.r (ev_call (ea_cons (ev_cb (Ev.r (ev_op (Ev.r (ev_var rfl)) (Ev.r ev_int) (rv_ixL (d := .str (sI a)) rfl))) (rc_intS (int_sI ha) (by omega))) (ea_cons (ev_cb (Ev.r (ev_op (Ev.r (ev_var rfl)) (Ev.r ev_int) (rv_ixL (d := .str (sI b)) rfl))) (rc_intS (int_sI hbb) (by omega))) ea_nil)) ⟨a, b, rfl, by omega, rfl⟩)) hq rfl

def R_scalar_of (ds : List D) (P : D → Prop) : Prop := ∃ (F : Fm) (x : D) (y : F.α), ds = [.int F.p, x] ∧ Writ F x y ∧ P = (· = F.enc y)
theorem kit_ss : kitB "int" "str" = some false ∧ kitB "str" "str" = some true ∧ kitB "tuple" "str" = some false ∧ kitB "tuple" "tuple" = some true := by decide +kernel
theorem c_scalar_of (h : Has K mg "scalar_of" s_scalar_of p_scalar_of) (B : Bi mg) (C_is_whole : Cal P w K mg base "is_whole" 41 p_is_whole (spP R_is_whole)) (C_scalar_of_text : Cal P w K mg base "_scalar_of_text" 42 p_scalar_of_text (spP R_scalar_of_text)) (C_lowest : Cal P w K mg base "lowest" 41 p_lowest (spP R_lowest)) : Cal P w K mg base "scalar_of" 43 p_scalar_of (spP R_scalar_of) := by
  refine mkP h sc_scalar_of (fun ds P h => by obtain ⟨_, _, _, rfl, _⟩ := h; rfl) fun cdv A outer s H Q E f hr => ⟨(tSeq (tIfS (tB (tCall (spP R_is_whole) [] E0 (tCons (tVar 1) tNil))) (tRet (tIf (tTru K (tVar 0)) (tOp rModI (tVar 1) (tVar 0)) (tTup (tCons (tVar 1) (tCons (tC (.int 1)) tNil))))) tNext)
  (tSeq (tIfS (tB (tCB (rIsi K) (tCons (tVar 1) (tCons (tC (.ty "str")) tNil)))) (tRet (tCall (spP R_scalar_of_text) [] E0 (tCons (tVar 0) (tCons (tVar 1) tNil)))) tNext)
  (tSeq (tIfS (tOr (tTru K (tVar 0)) (tOr (tNot (tB (tCB (rIsi K) (tCons (tVar 1) (tCons (tC (.ty "tuple")) tNil))))) (tTest (tOp rNe (tCB (rLenQ K) (tCons (tVar 1) tNil)) (tC (.int 2)))))) (tRet (tC .non)) tNext)
  (tSeq (tAsg (tVar 1) (gTup K 2 (gCons (gName 2) (gCons (gName 3) gNil))))
  (tSeq (tIfS (tOr (tNot (tB (tCall (spP R_is_whole) [] E0 (tCons (tVar 2) tNil)))) (tOr (tNot (tB (tCall (spP R_is_whole) [] E0 (tCons (tVar 3) tNil)))) (tTest (tOp rEq (tVar 3) (tC (.int 0)))))) (tRet (tC .non)) tNext)
  (tRet (tCall (spP R_lowest) [] E0 (tCons (tVar 2) (tCons (tVar 3) tNil))))))))),
  (pss_cons (ps_if (pt_val (pe_cal C_is_whole (hr.mono (by decide)) rfl (pa_cons (pv 1) pa_nil))) (pss_one (ps_ret (pe_ifExp (pt_truth (pv 0) (by intro _; rfl)) (pe_op op_modN (pv 1) (pv 0)) (pe_tup (pa_cons (pv 1) (pa_cons pe_int pa_nil)))))) pss_nil)
  (pss_cons (ps_if (pt_val (pe_callB call_isi (by rfl) B.isinstance (by decide +kernel) (pa_cons (pv 1) (pa_cons (pe_bltn (by rfl) B.str (by decide +kernel) rfl) pa_nil)))) (pss_one (ps_ret (pe_cal C_scalar_of_text (hr.mono (by decide)) rfl (pa_cons (pv 0) (pa_cons (pv 1) pa_nil))))) pss_nil)
  (pss_cons (ps_if (PW.pt (pw_or (pt_truth (pv 0) (by intro _; rfl)) (pw_or (pt_not (pt_val (pe_callB call_isi (by rfl) B.isinstance (by decide +kernel) (pa_cons (pv 1) (pa_cons (pe_bltn (by rfl) B.tuple (by decide +kernel) rfl) pa_nil))))) (pw_or1 (pt_cmpR op_ne (pe_callB call_len_seq (by rfl) B.len boot_len (pa_cons (pv 1) pa_nil)) pe_int (nomark _)))))) (pss_one (ps_ret pe_non)) pss_nil)
  (pss_cons (ps_asg (pv 1) (pg_tup rfl (pgs_cons (pg_name (i := 2) sc_scalar_of.nd rfl (by first | exact Or.inl rfl | exact Or.inr rfl)) (pgs_cons (pg_name (i := 3) sc_scalar_of.nd rfl (by first | exact Or.inl rfl | exact Or.inr rfl)) pgs_nil))))
  (pss_cons (ps_if (PW.pt (pw_or (pt_not (pt_val (pe_cal C_is_whole (hr.mono (by decide)) rfl (pa_cons (pv 2) pa_nil)))) (pw_or (pt_not (pt_val (pe_cal C_is_whole (hr.mono (by decide)) rfl (pa_cons (pv 3) pa_nil)))) (pw_or1 (pt_cmpR op_eq (pv 3) pe_int (nomark _)))))) (pss_one (ps_ret pe_non)) pss_nil)
  (pss_one (ps_ret (pe_cal C_lowest (hr.mono (by decide)) rfl (pa_cons (pv 2) (pa_cons (pv 3) pa_nil)))))))))), fun M ds P' hR hq => ?_⟩
  obtain ⟨F, x, y, rfl, hw, rfl⟩ := hR
  have wh : ∀ d : D, plainD d = true → R_is_whole [d] (· = .bl (isWhole d)) := fun d h => ⟨d, rfl, h, rfl⟩
  cases hw with
  | zi p hp v =>
    have hpp := prime_pos hp
    refine sd_when (k := true) (et_B (Ev.r (ev_call (ea_cons (ev_var rfl) ea_nil) (wh _ rfl)))) (fun _ => ?_) (fun e => by cases e)
    refine sd_ret (Ev.r (ev_ifT (et_truth (Ev.r (ev_var rfl)) (tru_p (.z p hp))) (ev_op (Ev.r (ev_var rfl)) (Ev.r (ev_var rfl)) (rv_I (by show p ≠ 0; omega)))))  hq ?_
    exact (enc_mk hp v).symm
  | qi v =>
    refine sd_when (k := true) (et_B (Ev.r (ev_call (ea_cons (ev_var rfl) ea_nil) (wh _ rfl)))) (fun _ => ?_) (fun e => by cases e)
    refine sd_ret (Ev.r (ev_ifF (et_truth (Ev.r (ev_var rfl)) (tru_p .q)) (ev_tup (ea_cons (ev_var rfl) (ea_cons ev_int ea_nil))))) hq ?_
    exact (encQ_int v).symm
  | zs p hp v hv =>
    refine sd_when (k := false) (et_B (Ev.r (ev_call (ea_cons (ev_var rfl) ea_nil) (wh _ rfl)))) (fun e => by cases e) fun _ => ?_
    refine sd_when (k := true) (et_B (Ev.r (ev_isi (Ev.r (ev_var rfl)) rfl kit_ss.2.1))) (fun _ => ?_) (fun e => by cases e)
    exact sd_ret (Ev.r (ev_call (ea_cons (ev_var rfl) (ea_cons (ev_var rfl) ea_nil)) ⟨_, _, _, rfl, .zs p hp v hv, rfl⟩)) hq rfl
  | qs v hv =>
    refine sd_when (k := false) (et_B (Ev.r (ev_call (ea_cons (ev_var rfl) ea_nil) (wh _ rfl)))) (fun e => by cases e) fun _ => ?_
    refine sd_when (k := true) (et_B (Ev.r (ev_isi (Ev.r (ev_var rfl)) rfl kit_ss.2.1))) (fun _ => ?_) (fun e => by cases e)
    exact sd_ret (Ev.r (ev_call (ea_cons (ev_var rfl) (ea_cons (ev_var rfl) ea_nil)) ⟨.q, _, _, rfl, .qs v hv, rfl⟩)) hq rfl
  | qx a b hb ha hbb =>
    refine sd_when (k := false) (et_B (Ev.r (ev_call (ea_cons (ev_var rfl) ea_nil) (wh _ rfl)))) (fun e => by cases e) fun _ => ?_
    refine sd_when (k := true) (et_B (Ev.r (ev_isi (Ev.r (ev_var rfl)) rfl kit_ss.2.1))) (fun _ => ?_) (fun e => by cases e)
    exact sd_ret (Ev.r (ev_call (ea_cons (ev_var rfl) (ea_cons (ev_var rfl) ea_nil)) ⟨.q, _, _, rfl, .qx a b hb ha hbb, rfl⟩)) hq rfl
  | qt a b hb =>
    refine sd_when (k := false) (et_B (Ev.r (ev_call (ea_cons (ev_var rfl) ea_nil) (wh _ rfl)))) (fun e => by cases e) fun _ => ?_
    refine sd_when (k := false) (et_B (Ev.r (ev_isi (Ev.r (ev_var rfl)) rfl kit_ss.2.2.1))) (fun e => by cases e) fun _ => ?_
    refine sd_when (k := false) ((et_orE (et_truth (Ev.r (ev_var rfl)) (tru_p .q)) fun _ => et_orE (et_not (et_B (Ev.r (ev_isi (d := .tup [.int a, .int b]) (Ev.r (ev_var rfl)) rfl kit_ss.2.2.2)))) fun _ => et_test (Ev.r (ev_op (Ev.r (ev_cb (Ev.r (ev_var rfl)) (rc_len rfl))) (Ev.r ev_int) rv_neI))).is rfl) (fun e => by cases e) fun _ => ?_
    refine ss_unp (ev_var rfl) (eg_tup2 eg_name eg_name) ?_
    refine sd_when (k := false) ((et_orE (et_not (et_B (Ev.r (ev_call (ea_cons (ev_var rfl) ea_nil) (wh _ rfl))))) fun _ => et_orE (et_not (et_B (Ev.r (ev_call (ea_cons (ev_var rfl) ea_nil) (wh _ rfl))))) fun _ => et_test (Ev.r (ev_op (Ev.r (ev_var rfl)) (Ev.r ev_int) rv_eqI))).is (by rw [decide_eq_false hb]; rfl)) (fun e => by cases e) fun _ => ?_
    exact sd_ret (Ev.r (ev_call (ea_cons (ev_var rfl) (ea_cons (ev_var rfl) ea_nil)) ⟨a, b, rfl, hb, rfl⟩)) hq rfl
end
end E
namespace E
open PySem PySem.Spec PyProof.Rows L2 TL
section
variable {P : Program} {w : World} {K : PySem.W.Frag} {mg : Str → Option Value} {base : Heap}
abbrev s_primitive : Stmt := topS 16
abbrev N_primitive : List Str := ["row", "common", "number"]
abbrev p_primitive : List Str := ["row"]
theorem sc_primitive : FnScope N_primitive p_primitive (defScope s_primitive) := ⟨rfl, rfl, rfl, by decide +kernel, rfl, by decide +kernel, by decide +kernel⟩
abbrev s_cleared : Stmt := topS 17
abbrev N_cleared : List Str := ["row", "whole", "_", "bottom", "top"]
abbrev p_cleared : List Str := ["row"]
theorem sc_cleared : FnScope N_cleared p_cleared (defScope s_cleared) := ⟨rfl, rfl, rfl, by decide +kernel, rfl, by decide +kernel, by decide +kernel⟩
abbrev s_lead_of : Stmt := topS 18
abbrev N_lead_of : List Str := ["row", "zero", "at", "number"]
abbrev p_lead_of : List Str := ["row", "zero"]
theorem sc_lead_of : FnScope N_lead_of p_lead_of (defScope s_lead_of) := ⟨rfl, rfl, rfl, by decide +kernel, rfl, by decide +kernel, by decide +kernel⟩
abbrev s_fractions : Stmt := topS 20
abbrev N_fractions : List Str := ["row", "lead", "first", "number"]
abbrev p_fractions : List Str := ["row", "lead"]
theorem sc_fractions : FnScope N_fractions p_fractions (defScope s_fractions) := ⟨rfl, rfl, rfl, by decide +kernel, rfl, by decide +kernel, by decide +kernel⟩
abbrev s_less_modulo : Stmt := topS 22
abbrev N_less_modulo : List Str := ["p", "row", "other", "lead", "k", "a", "b"]
abbrev p_less_modulo : List Str := ["p", "row", "other", "lead"]
theorem sc_less_modulo : FnScope N_less_modulo p_less_modulo (defScope s_less_modulo) := ⟨rfl, rfl, rfl, by decide +kernel, rfl, by decide +kernel, by decide +kernel⟩
abbrev s_less_whole : Stmt := topS 24
abbrev N_less_whole : List Str := ["row", "other", "lead", "k", "common", "one", "two", "a", "b"]
abbrev p_less_whole : List Str := ["row", "other", "lead"]
theorem sc_less_whole : FnScope N_less_whole p_less_whole (defScope s_less_whole) := ⟨rfl, rfl, rfl, by decide +kernel, rfl, by decide +kernel, by decide +kernel⟩
def R_primitive (ds : List D) (P : D → Prop) : Prop := ∃ r : List Int, ds = [rowI r] ∧ r.length ≤ 1000 ∧ P = fun d => ∃ (c : Int) (r' : List Int), 0 < c ∧ d = rowI r' ∧ r = r'.map (c * ·)
theorem c_primitive (h : Has K mg "primitive" s_primitive p_primitive) (B : Bi mg) (NS : base.NoSeer) (hP : P.given.tree = none) : Cal P w K mg base "primitive" 41 p_primitive (spP R_primitive) := by
  refine mkP h sc_primitive (fun ds P h => by obtain ⟨_, rfl, _⟩ := h; rfl) fun cdv A outer s H Q E f hr => ⟨(tSeq (tAsg (tC (.int 0)) (gName 1))
  (tSeq (tFor (iList K (tVar 0)) (gName 2) (tSeq (tAsg (tCB rGcd (tCons (tVar 1) (tCons (tVar 2) tNil))) (gName 1))
  (tIfS (tTest (tOp rEq (tVar 1) (tC (.int 1)))) (tRet (tVar 0)) tNext)))
  (tRet (tIf (tTru K (tVar 1)) (tLc (iList K (tVar 0)) (gName 2) tYes (tOp rDivI (tVar 2) (tVar 1)) [2]) (tVar 0))))),
  (pss_cons (ps_asg pe_int (pg_name (i := 1) sc_primitive.nd rfl (by first | exact Or.inl rfl | exact Or.inr rfl)))
  (pss_cons (ps_for PassesOwn.never rfl (pi_list (pv 0)) (pg_name (i := 2) sc_primitive.nd rfl (by first | exact Or.inl rfl | exact Or.inr rfl)) (pss_cons (ps_asg (pe_callBfun cr_gcd rfl B.gcd (pa_cons (pv 1) (pa_cons (pv 2) pa_nil))) (pg_name (i := 1) sc_primitive.nd rfl (by first | exact Or.inl rfl | exact Or.inr rfl)))
  (pss_one (ps_if (pt_cmpR op_eq (pv 1) pe_int (nomark _)) (pss_one (ps_ret (pv 0))) pss_nil))))
  (pss_one (ps_ret (pe_ifExp (pt_truth (pv 1) (by intro _; rfl)) (pe_lc (own := [("number", 2)]) (g := (gName 2)) (tt := tYes) (te := (tOp rDivI (tVar 2) (tVar 1))) rfl sc_primitive.nd (pi_list (pv 0)) (blkOk_by (own := [("number", 2)]) (N := N_primitive) (by kernel_rfl)) (fun _ _ _ _ _ => (pg_name (i := 2) sc_primitive.nd rfl (by first | exact Or.inl rfl | exact Or.inr rfl))) (fun _ _ _ _ _ => pts_nil) (fun _ _ _ _ _ => (pe_op (op_divI ⟨NS, hP, ⟨_, _, rfl, rfl, rfl, rfl, rfl⟩, hr.mono (by decide)⟩) (pv 2) (pv 1)))) (pv 0)))))), fun M ds P' hR hq => ?_⟩
  obtain ⟨r, rfl, hl, rfl⟩ := hR
  refine ss_asg ev_int ?_
  refine ss_for (ei_list (ev_var rfl)) (fun H1 i c1 δ1 => c1 = Ct.loop _ H1 ∧ ∃ (cm : Nat) (x : Sl), (∀ j, j < i → ((cm : Int) ∣ r.getD j 0)) ∧ (cm = 0 → ∀ j, j < i → r.getD j 0 = 0) ∧ δ1 = [some (.inl (rowI r)), some (.inl (.int (cm : Int))), x])
    (fun H1 => ⟨rfl, 0, none, (fun j hj => absurd hj (Nat.not_lt_zero _)), (fun _ j hj => absurd hj (Nat.not_lt_zero _)), rfl⟩) (fun H1 i c1 δ1 hI => by obtain ⟨rfl, _⟩ := hI; exact ⟨rfl, fun b hb => .inl hb⟩) ?_ ?_
  · rintro H1 i d c1 δ1 hd ⟨rfl, cm, x, k1, k2, rfl⟩
    have hi : i < r.length := by simpa using (List.getElem?_eq_some_iff.mp hd).1
    have ed : d = .int (r.getD i 0) := by
      rw [List.getElem?_map, get_getD hi 0] at hd
      exact (Option.some.inj hd).symm
    subst ed
    refine ⟨[2], _, eg_name, ?_⟩
    refine ss_asg (ev_cb2 (Ev.r (ev_var rfl)) (Ev.r (ev_var rfl)) rc_gcd) ?_
    have dv : ∀ j, j < i + 1 → ((Nat.gcd cm (r.getD i 0).natAbs : Nat) : Int) ∣ r.getD j 0 := fun j hj => by
      by_cases h : j = i
      · subst h
        exact Int.ofNat_dvd_left.mpr (Nat.gcd_dvd_right _ _)
      · exact Int.dvd_trans (Int.natCast_dvd_natCast.mpr (Nat.gcd_dvd_left _ _)) (k1 j (by omega))
    refine sd_ifE (et_test (Ev.r (ev_op (Ev.r (ev_var rfl)) (Ev.r ev_int) rv_eqI))) (fun hk => ?_) fun hk => ?_
    · exact sd_ret (Ev.r (ev_var rfl)) hq ⟨1, r, by decide, rfl, by simp⟩
    · refine sd_next (nx_I ⟨rfl, Nat.gcd cm (r.getD i 0).natAbs, _, dv, fun hz j hj => ?_, rfl⟩)
      have hz1 := Nat.eq_zero_of_gcd_eq_zero_left hz
      have hz2 := Nat.eq_zero_of_gcd_eq_zero_right hz
      by_cases h : j = i
      · subst h; omega
      · exact k2 hz1 j (by omega)
  · rintro H1 c1 δ1 ⟨rfl, cm, x, k1, k2, rfl⟩
    have k1 : ∀ j, j < r.length → (cm : Int) ∣ r.getD j 0 := fun j hj => k1 j (by simpa using hj)
    by_cases h0 : cm = 0
    · subst h0
      exact sd_ret (Ev.r (ev_ifF ((et_truth (Ev.r (ev_var rfl)) rfl).is rfl) (ev_var rfl))) hq ⟨1, r, by decide, rfl, by simp⟩
    · have hpos : (0 : Int) < (cm : Int) := by omega
      refine sd_ret (Ev.r (ev_ifT ((et_truth (Ev.r (ev_var rfl)) rfl).is (by simp [h0])) (EvN.evE (en_lst' r D.int (fun z => D.int (z.fdiv (cm : Int))) (ev_var rfl) (by omega) fun l acc z hz => ⟨[2], _, eg_name, fun _ h => h, ev_op (Ev.r (ev_var rfl)) (Ev.r (ev_var rfl)) (rv_I (by omega))⟩)))) hq ⟨cm, r.map fun z => z.fdiv (cm : Int), hpos, by simp [rowI], ?_⟩
      rw [List.map_map]
      refine List.ext_getElem (by simp) fun j h1 h2 => ?_
      have := k1 j h1
      rw [List.getD_eq_getElem?_getD, List.getElem?_eq_getElem h1] at this
      simp only [List.getElem_map, Function.comp]
      rw [Int.fdiv_eq_ediv_of_nonneg _ (Int.le_of_lt hpos)]
      exact (Int.mul_ediv_cancel' this).symm

def R_cleared (ds : List D) (P : D → Prop) : Prop := ∃ (r : List Rat) (b : Nat), ds = [rowQ r] ∧ r.length ≤ 1000 ∧ Cd b r ∧ b ≤ 13000 ∧ P = fun d => ∃ (a : Rat) (r' : List Int), a ≠ 0 ∧ d = rowI r' ∧ r'.length = r.length ∧ (∀ i, ((r'.getD i 0 : Int) : Rat) = a * g r i) ∧ ∀ y ∈ r', Bt b y
theorem encQ_eg {x : Rat} {i j : Nat} {δ : List Sl} : EvG (gTup K 2 (gCons (gName i) (gCons (gName j) gNil))) [i, j] δ (encQ x) ((δ.set i (some (.inl (.int x.num)))).set j (some (.inl (.int (x.den : Nat))))) := eg_tup2 eg_name eg_name
theorem c_cleared (h : Has K mg "cleared" s_cleared p_cleared) (B : Bi mg) (NS : base.NoSeer) (hP : P.given.tree = none) (C_primitive : Cal P w K mg base "primitive" 41 p_primitive (spP R_primitive)) : Cal P w K mg base "cleared" 42 p_cleared (spP R_cleared) := by
  refine mkP h sc_cleared (fun ds P h => by obtain ⟨_, _, rfl, _⟩ := h; rfl) fun cdv A outer s H Q E f hr => ⟨(tSeq (tAsg (tC (.int 1)) (gName 1))
  (tSeq (tFor (iTup K (tVar 0)) (gTup K 2 (gCons (gName 2) (gCons (gName 3) gNil))) (tAsg (tCB rLcm (tCons (tVar 1) (tCons (tVar 3) tNil))) (gName 1)))
  (tRet (tCall (spP R_primitive) [] E0 (tCons (tLc (iTup K (tVar 0)) (gTup K 2 (gCons (gName 4) (gCons (gName 3) gNil))) tYes (tOp rMulI (tVar 4) (tOp rDivI (tVar 1) (tVar 3))) [4, 3]) tNil))))),
  (pss_cons (ps_asg pe_int (pg_name (i := 1) sc_cleared.nd rfl (by first | exact Or.inl rfl | exact Or.inr rfl)))
  (pss_cons (ps_for PassesOwn.never rfl (pi_tup (pv 0)) (pg_tup rfl (pgs_cons (pg_name (i := 2) sc_cleared.nd rfl (by first | exact Or.inl rfl | exact Or.inr rfl)) (pgs_cons (pg_name (i := 3) sc_cleared.nd rfl (by first | exact Or.inl rfl | exact Or.inr rfl)) pgs_nil))) (pss_one (ps_asg (pe_callBfun cr_lcm rfl B.lcm (pa_cons (pv 1) (pa_cons (pv 3) pa_nil))) (pg_name (i := 1) sc_cleared.nd rfl (by first | exact Or.inl rfl | exact Or.inr rfl)))))
  (pss_one (ps_ret (pe_cal C_primitive (hr.mono (by decide)) rfl (pa_cons (pe_lc (own := [("top", 4), ("bottom", 3)]) (g := (gTup K 2 (gCons (gName 4) (gCons (gName 3) gNil)))) (tt := tYes) (te := (tOp rMulI (tVar 4) (tOp rDivI (tVar 1) (tVar 3)))) rfl sc_cleared.nd (pi_tup (pv 0)) (blkOk_by (own := [("top", 4), ("bottom", 3)]) (N := N_cleared) (by kernel_rfl)) (fun _ _ _ _ _ => (pg_tup rfl (pgs_cons (pg_name (i := 4) sc_cleared.nd rfl (by first | exact Or.inl rfl | exact Or.inr rfl)) (pgs_cons (pg_name (i := 3) sc_cleared.nd rfl (by first | exact Or.inl rfl | exact Or.inr rfl)) pgs_nil)))) (fun _ _ _ _ _ => pts_nil) (fun _ _ _ _ _ => (pe_op op_mulI (pv 4) (pe_op (op_divI ⟨NS, hP, ⟨_, _, rfl, rfl, rfl, rfl, rfl⟩, hr.mono (by decide)⟩) (pv 1) (pv 3))))) pa_nil)))))), fun M ds P' hR hq => ?_⟩
  obtain ⟨r, b, rfl, hl, ⟨⟨sN, s0, s1, hs⟩⟩, hb, rfl⟩ := hR
  have big : (2 : Nat) ^ b ≤ 2 ^ 13000 := Nat.pow_le_pow_right (by decide) hb
  have denle : ∀ x ∈ r, x.den ≤ sN := fun x hx => Nat.le_of_dvd s0 (hs x hx).1
  refine ss_asg ev_int ?_
  refine ss_for (ei_tup (ev_var rfl)) (fun H1 i c1 δ1 => c1 = Ct.loop _ H1 ∧ ∃ (wN : Nat) (x y z : Sl), 0 < wN ∧ wN ∣ sN ∧ (∀ j, j < i → (r.getD j 0).den ∣ wN) ∧ δ1 = [some (.inl (rowQ r)), some (.inl (.int (wN : Int))), x, y, z])
    (fun H1 => ⟨rfl, 1, none, none, none, by decide, Nat.one_dvd _, (fun j hj => absurd hj (Nat.not_lt_zero _)), rfl⟩) (fun H1 i c1 δ1 hI => by obtain ⟨rfl, _⟩ := hI; exact ⟨rfl, fun b hb => .inl hb⟩) ?_ ?_
  · rintro H1 i d c1 δ1 hd ⟨rfl, wN, x, y, z, w0, w1, w2, rfl⟩
    have hi : i < r.length := by simpa using (List.getElem?_eq_some_iff.mp hd).1
    have ed : d = encQ (r.getD i 0) := by
      rw [List.getElem?_map, get_getD hi 0] at hd
      exact (Option.some.inj hd).symm
    subst ed
    have hx := mem_getD hi (0 : Rat)
    have wl := Nat.le_of_dvd s0 w1
    have dl := denle _ hx
    refine ⟨[2, 3], _, encQ_eg, ?_⟩
    refine sd_asg (ev_cb2 (Ev.r (ev_var rfl)) (Ev.r (ev_var rfl)) (rc_lcm (Nat.lt_of_le_of_lt (by rw [Int.natAbs_natCast]; exact wl) (Nat.lt_of_lt_of_le s1 big)) (Nat.lt_of_le_of_lt (by rw [Int.natAbs_natCast]; exact dl) (Nat.lt_of_lt_of_le s1 big)))) ?_
    refine nx_I ⟨rfl, Nat.lcm wN (r.getD i 0).den, _, _, z, Nat.lcm_pos w0 (Rat.den_pos _), Nat.lcm_dvd w1 (hs _ hx).1, fun j hj => ?_, rfl⟩
    by_cases h : j = i
    · subst h; exact Nat.dvd_lcm_right _ _
    · exact Nat.dvd_trans (w2 j (by omega)) (Nat.dvd_lcm_left _ _)
  · rintro H1 c1 δ1 ⟨rfl, wN, x, y, z, w0, w1, w2, rfl⟩
    have w2 : ∀ x ∈ r, x.den ∣ wN := fun x hx => by
      obtain ⟨j, hj⟩ := List.mem_iff_getElem?.mp hx
      have hjl := (List.getElem?_eq_some_iff.mp hj).1
      have := w2 j (by simpa using hjl)
      rw [List.getD_eq_getElem?_getD, hj] at this
      exact this
    have qle : ∀ x ∈ r, wN / x.den ≤ sN / x.den := fun x hx => Nat.div_le_div_right (Nat.le_of_dvd s0 w1)
    have nb : ∀ x ∈ r, Bt b (x.num * ((wN / x.den : Nat) : Int)) := fun x hx => (hs x hx).2.le (by
      rw [Int.natAbs_mul, Int.natAbs_mul, Int.natAbs_natCast, Int.natAbs_natCast]
      exact Nat.mul_le_mul_left _ (qle x hx))
    have nb1 : ∀ x ∈ r, Bt b x.num := fun x hx => (hs x hx).2.le (by
      rw [Int.natAbs_mul, Int.natAbs_natCast]
      exact Nat.le_mul_of_pos_right _ (Nat.div_pos (denle x hx) x.den_pos))
    have nb2 : ∀ x ∈ r, Bt b ((wN / x.den : Nat) : Int) := fun x hx => by
      show ((wN / x.den : Nat) : Int).natAbs < _
      rw [Int.natAbs_natCast]
      exact Nat.lt_of_le_of_lt (Nat.le_trans (Nat.div_le_self _ _) (Nat.le_of_dvd s0 w1)) s1
    refine sd_retR (Ev.r (ev_call (ds := [rowI (r.map fun x => x.num * ((wN / x.den : Nat) : Int))]) (ea_cons (EvN.evE ((en_tup' r encQ (fun x => D.int (x.num * ((wN / x.den : Nat) : Int))) (ev_var rfl) (by omega) fun l acc x hx => ⟨[4, 3], _, encQ_eg, fun _ h => by simpa [or_comm] using h,
      (ev_op (Ev.r (ev_var rfl)) (Ev.r ((ev_op (Ev.r (ev_var rfl)) (Ev.r (ev_var rfl)) (rv_I (by have := x.den_pos; omega))).is (by rw [Int.fdiv_eq_ediv_of_nonneg _ (Int.natCast_nonneg _), ← Int.natCast_ediv]))) (rv_I ((nb1 x hx).cm (nb2 x hx) (by omega))))⟩).is (by rw [List.map_map]; rfl))) ea_nil)
      ⟨r.map fun x => x.num * ((wN / x.den : Nat) : Int), rfl, by simpa using hl, rfl⟩)) hq ?_
    rintro d ⟨cc, r', hc, rfl, hr'⟩
    have hc' : (cc : Rat) ≠ 0 := fun z => by have := cast_eq0.mp z; omega
    have hlen : r'.length = r.length := by
      have := congrArg List.length hr'; simpa using this.symm
    have hw : ((((wN : Nat) : Int)) : Rat) ≠ 0 := fun z => by have := cast_eq0.mp z; omega
    have at_ : ∀ i (h1 : i < r.length), (r[i].num * ((wN / r[i].den : Nat) : Int)) = cc * r'[i]'(by omega) := fun i h1 => by
      have h2 : (r.map fun x => x.num * ((wN / x.den : Nat) : Int))[i]? = (r'.map (cc * ·))[i]? := by rw [hr']
      rw [List.getElem?_map, List.getElem?_map, List.getElem?_eq_getElem h1, List.getElem?_eq_getElem (by omega : i < r'.length)] at h2
      exact Option.some.inj h2
    refine ⟨(cc : Rat)⁻¹ * (((wN : Nat) : Int) : Rat), r', ?_, rfl, hlen, fun i => ?_, fun y hy => ?_⟩
    · exact mul_ne (α := Rat) (fun z => by
        have := Rat.mul_inv_cancel _ hc'
        rw [z, Rat.mul_zero] at this
        exact absurd this (by decide)) hw
    · by_cases hi : i < r.length
      · have e := congrArg (fun z : Int => (z : Rat)) (at_ i hi)
        have q := q_scale r[i] wN (w2 _ (List.getElem_mem hi))
        rw [g_lt hi, List.getD_eq_getElem?_getD, List.getElem?_eq_getElem (by omega : i < r'.length)]
        show ((r'[i] : Int) : Rat) = _
        rw [Rat.mul_assoc, ← q]
        have e2 : (cc : Rat)⁻¹ * (((r[i].num * ((wN / r[i].den : Nat) : Int)) : Int) : Rat) = (cc : Rat)⁻¹ * ((cc * r'[i] : Int) : Rat) := congrArg _ e
        rw [e2, mul_cast, ← Rat.mul_assoc, Rat.inv_mul_cancel _ hc', Rat.one_mul]
      · rw [g_ge (by omega), Rat.mul_zero, List.getD_eq_getElem?_getD, List.getElem?_eq_none (by omega)]; rfl
    · obtain ⟨i, hi⟩ := List.mem_iff_getElem?.mp hy
      obtain ⟨h1, h2⟩ := List.getElem?_eq_some_iff.mp hi
      have q := at_ i (by omega)
      refine (nb r[i] (List.getElem_mem (by omega))).le ?_
      rw [q, h2, Int.natAbs_mul]
      exact Nat.le_mul_of_pos_left _ (by omega)

def R_lead_of (ds : List D) (P : D → Prop) : Prop := ∃ (d v : D) (xs : List D), ds = [d, v] ∧ seqD d = some xs ∧ xs.length ≤ 1000 ∧ (∀ x ∈ xs, okD x = true) ∧ okD v = true ∧ P = (· = leadD xs v)
theorem enumD_some : ∀ {xs : List D} {n i : Nat} {d : D}, (enumD n xs)[i]? = some d → ∃ x, xs[i]? = some x ∧ d = .tup [.int ((n + i : Nat) : Int), x] := fun {xs n i d} h => by
  have hi : i < xs.length := by rw [← enumD_len xs n]; exact (List.getElem?_eq_some_iff.mp h).1
  have e := List.getElem?_eq_getElem (l := xs) (i := i) hi
  rw [enumD_get e] at h
  exact ⟨_, e, (Option.some.inj h).symm⟩
theorem c_lead_of (h : Has K mg "lead_of" s_lead_of p_lead_of) (B : Bi mg) : Cal P w K mg base "lead_of" 41 p_lead_of (spP R_lead_of) := by
  refine mkP h sc_lead_of (fun ds P h => by obtain ⟨_, _, _, rfl, _⟩ := h; rfl) fun cdv A outer s H Q E f hr => ⟨(tSeq (tFor (iEnumS K (tCons (tVar 0) tNil)) (gTup K 2 (gCons (gName 2) (gCons (gName 3) gNil))) (tIfS (tTest (tOp (rNeD K) (tVar 3) (tVar 1))) (tRet (tVar 2)) tNext))
  (tRet (tC .non))),
  (pss_cons (ps_for PassesOwn.never rfl (pi_enumS rfl B.enumerate (pa_cons (pv 0) pa_nil)) (pg_tup rfl (pgs_cons (pg_name (i := 2) sc_lead_of.nd rfl (by first | exact Or.inl rfl | exact Or.inr rfl)) (pgs_cons (pg_name (i := 3) sc_lead_of.nd rfl (by first | exact Or.inl rfl | exact Or.inr rfl)) pgs_nil))) (pss_one (ps_if (pt_cmpR (op_neD hr.units) (pv 3) (pv 1) (nomark _)) (pss_one (ps_ret (pv 2))) pss_nil)))
  (pss_one (ps_ret pe_non))), fun M ds P' hR hq => ?_⟩
  obtain ⟨d, v, xs, rfl, hs, hl, hok, hv, rfl⟩ := hR
  refine ss_for (ei_enum (ea_cons (ev_var rfl) ea_nil) hs) (fun H1 i c1 δ1 => c1 = Ct.loop _ H1 ∧ ∃ (x y : Sl), (∀ j (hj : j < xs.length), j < i → PyData.eqv (py xs[j]) (py v) = true) ∧ δ1 = [some (.inl d), some (.inl v), x, y])
    (fun H1 => ⟨rfl, none, none, (fun j _ hj => absurd hj (Nat.not_lt_zero _)), rfl⟩) (fun H1 i c1 δ1 hI => by obtain ⟨rfl, _⟩ := hI; exact ⟨rfl, fun b hb => .inl hb⟩) ?_ ?_
  · rintro H1 i e c1 δ1 he ⟨rfl, x, y, k1, rfl⟩
    obtain ⟨z, hz, rfl⟩ := enumD_some he
    obtain ⟨hi, ez⟩ := List.getElem?_eq_some_iff.mp hz
    refine ⟨[2, 3], _, eg_tup2 eg_name eg_name, ?_⟩
    refine sd_ifE (et_test (Ev.r (ev_op (Ev.r (ev_var rfl)) (Ev.r (ev_var rfl)) (rv_neD (hok z (List.mem_of_getElem? hz)) hv)))) (fun hk => ?_) fun hk => ?_
    · refine sd_ret (Ev.r (ev_var rfl)) hq ?_
      rw [leadD_some hi (by rw [ez]; simpa using hk) fun j hj => k1 j (by omega) hj, Nat.zero_add]
    · refine sd_next (nx_I ⟨rfl, _, _, fun j hj hji => ?_, rfl⟩)
      by_cases hji2 : j = i
      · subst hji2; rw [ez]; simpa using hk
      · exact k1 j hj (by omega)
  · rintro H1 c1 δ1 ⟨rfl, x, y, k1, rfl⟩
    refine sd_ret (Ev.r ev_non) hq ?_
    rw [leadD_none fun x hx => ?_]
    obtain ⟨j, hj⟩ := List.mem_iff_getElem?.mp hx
    obtain ⟨h1, h2⟩ := List.getElem?_eq_some_iff.mp hj
    rw [← h2]
    exact k1 j h1 (by rw [enumD_len]; exact h1)

def R_fractions (ds : List D) (P : D → Prop) : Prop := ∃ (r : List Int) (l : Nat), ds = [rowI r, nD l] ∧ r.length ≤ 1000 ∧ l < r.length ∧ r.getD l 0 ≠ 0 ∧ P = (· = rowQ (r.map fun x => Rat.divInt x (r.getD l 0)))
theorem c_fractions (h : Has K mg "_fractions" s_fractions p_fractions) (B : Bi mg) (C_lowest : Cal P w K mg base "lowest" 41 p_lowest (spP R_lowest)) : Cal P w K mg base "_fractions" 42 p_fractions (spP R_fractions) := by
  refine mkP h sc_fractions (fun ds P h => by obtain ⟨_, _, rfl, _⟩ := h; rfl) fun cdv A outer s H Q E f hr => ⟨(tSeq (tAsg (tOp (rIxL K) (tVar 0) (tVar 1)) (gName 2))
  (tSeq (tIfS (tTest (tOp rEq (tVar 2) (tC (.int 1)))) (tRet (tCB (rTupQ K) (tCons (tLc (iList K (tVar 0)) (gName 3) tYes (tTup (tCons (tVar 3) (tCons (tC (.int 1)) tNil))) [3]) tNil))) tNext)
  (tRet (tCB (rTupQ K) (tCons (tLc (iList K (tVar 0)) (gName 3) tYes (tCall (spP R_lowest) [] E0 (tCons (tVar 3) (tCons (tVar 2) tNil))) [3]) tNil))))),
  (pss_cons (ps_asg (pe_ix ix_list (pv 0) (pv 1) (fun _ _ => rfl)) (pg_name (i := 2) sc_fractions.nd rfl (by first | exact Or.inl rfl | exact Or.inr rfl)))
  (pss_cons (ps_if (pt_cmpR op_eq (pv 2) pe_int (nomark _)) (pss_one (ps_ret (pe_callTy call_tuple_of (by rfl) B.tuple (by decide +kernel) (pa_cons (pe_lc (own := [("number", 3)]) (g := (gName 3)) (tt := tYes) (te := (tTup (tCons (tVar 3) (tCons (tC (.int 1)) tNil)))) rfl sc_fractions.nd (pi_list (pv 0)) (blkOk_by (own := [("number", 3)]) (N := N_fractions) (by kernel_rfl)) (fun _ _ _ _ _ => (pg_name (i := 3) sc_fractions.nd rfl (by first | exact Or.inl rfl | exact Or.inr rfl))) (fun _ _ _ _ _ => pts_nil) (fun _ _ _ _ _ => (pe_tup (pa_cons (pv 3) (pa_cons pe_int pa_nil))))) pa_nil)))) pss_nil)
  (pss_one (ps_ret (pe_callTy call_tuple_of (by rfl) B.tuple (by decide +kernel) (pa_cons (pe_lc (own := [("number", 3)]) (g := (gName 3)) (tt := tYes) (te := (tCall (spP R_lowest) [] E0 (tCons (tVar 3) (tCons (tVar 2) tNil)))) rfl sc_fractions.nd (pi_list (pv 0)) (blkOk_by (own := [("number", 3)]) (N := N_fractions) (by kernel_rfl)) (fun _ _ _ _ _ => (pg_name (i := 3) sc_fractions.nd rfl (by first | exact Or.inl rfl | exact Or.inr rfl))) (fun _ _ _ _ _ => pts_nil) (fun _ _ _ _ _ => (pe_cal C_lowest (hr.mono (by decide)) rfl (pa_cons (pv 3) (pa_cons (pv 2) pa_nil))))) pa_nil)))))), fun M ds P' hR hq => ?_⟩
  obtain ⟨r, l, rfl, hl, hlt, hnz, rfl⟩ := hR
  refine ss_asg (ev_op (Ev.r (ev_var rfl)) (Ev.r (ev_var rfl)) (rv_ixL (d := .int (r.getD l 0)) (atI_nat (by rw [List.getElem?_map, get_getD hlt 0]; rfl)))) ?_
  by_cases h1 : r.getD l 0 = 1
  · refine sd_yes ((et_test (Ev.r (ev_op (Ev.r (ev_var rfl)) (Ev.r ev_int) rv_eqI))).is (decide_eq_true h1)) ?_
    refine sd_ret (Ev.r (ev_cb (Ev.r (EvN.evE (en_lst' r D.int (fun z => D.tup [.int z, .int 1]) (ev_var rfl) (by omega) fun l acc z hz => ⟨[3], _, eg_name, fun _ h => h, ev_tup (ea_cons (ev_var rfl) (ea_cons ev_int ea_nil))⟩))) (rc_tuple rfl))) hq ?_
    rw [h1]
    show _ = D.tup _
    rw [List.map_map]
    congr 1
    refine List.map_congr_left fun z hz => ?_
    show _ = encQ (Rat.divInt z 1)
    rw [show Rat.divInt z 1 = (z : Rat) by rw [divI, inv_one, Rat.mul_one], encQ_int]
  · refine sd_no ((et_test (Ev.r (ev_op (Ev.r (ev_var rfl)) (Ev.r ev_int) rv_eqI))).is (decide_eq_false h1)) ?_
    refine sd_ret (Ev.r (ev_cb (Ev.r (EvN.evE (en_lst' r D.int (fun z => encQ (Rat.divInt z (r.getD l 0))) (ev_var rfl) (by omega) fun l acc z hz => ⟨[3], _, eg_name, fun _ h => h, ev_call (ea_cons (ev_var rfl) (ea_cons (ev_var rfl) ea_nil)) ⟨z, _, rfl, hnz, rfl⟩⟩))) (rc_tuple rfl))) hq ?_
    show _ = D.tup _
    rw [List.map_map]; rfl

def R_less_modulo (ds : List D) (P : D → Prop) : Prop := ∃ (p : Int) (h : p ∈ primes) (r o : List (Zp p h)) (l : Nat), ds = [.int p, rowZL r, rowZL o, nD l] ∧ r.length ≤ 1000 ∧ r.length = o.length ∧ l < r.length ∧ P = (· = rowZL (subr (g r l) r o))
theorem zp_small {p : Int} {h : p ∈ primes} (a : Zp p h) : Bt 8 a.1 := by
  have := prime_pos h
  have := a.2.1; have := a.2.2
  show a.1.natAbs < 2 ^ 8
  omega
theorem c_less_modulo (h : Has K mg "_less_modulo" s_less_modulo p_less_modulo) (B : Bi mg) : Cal P w K mg base "_less_modulo" 41 p_less_modulo (spP R_less_modulo) := by
  refine mkP h sc_less_modulo (fun ds P h => by obtain ⟨_, _, _, _, _, rfl, _⟩ := h; rfl) fun cdv A outer s H Q E f hr => ⟨(tSeq (tAsg (tOp (rIxL K) (tVar 1) (tVar 3)) (gName 4))
  (tRet (tIf (tTru K (tVar 4)) (tLc (iZipS K (tCons (tVar 1) (tCons (tVar 2) tNil))) (gTup K 2 (gCons (gName 5) (gCons (gName 6) gNil))) tYes (tOp rModI (tOp rSubI (tVar 5) (tOp rMulI (tVar 4) (tVar 6))) (tVar 0)) [5, 6]) (tVar 1)))),
  (pss_cons (ps_asg (pe_ix ix_list (pv 1) (pv 3) (fun _ _ => rfl)) (pg_name (i := 4) sc_less_modulo.nd rfl (by first | exact Or.inl rfl | exact Or.inr rfl)))
  (pss_one (ps_ret (pe_ifExp (pt_truth (pv 4) (by intro _; rfl)) (pe_lc (own := [("a", 5), ("b", 6)]) (g := (gTup K 2 (gCons (gName 5) (gCons (gName 6) gNil)))) (tt := tYes) (te := (tOp rModI (tOp rSubI (tVar 5) (tOp rMulI (tVar 4) (tVar 6))) (tVar 0))) rfl sc_less_modulo.nd (pi_zipS rfl B.zip (pa_cons (pv 1) (pa_cons (pv 2) pa_nil))) (blkOk_by (own := [("a", 5), ("b", 6)]) (N := N_less_modulo) (by kernel_rfl)) (fun _ _ _ _ _ => (pg_tup rfl (pgs_cons (pg_name (i := 5) sc_less_modulo.nd rfl (by first | exact Or.inl rfl | exact Or.inr rfl)) (pgs_cons (pg_name (i := 6) sc_less_modulo.nd rfl (by first | exact Or.inl rfl | exact Or.inr rfl)) pgs_nil)))) (fun _ _ _ _ _ => pts_nil) (fun _ _ _ _ _ => (pe_op op_modN (pe_op op_sub (pv 5) (pe_op op_mulI (pv 4) (pv 6))) (pv 0)))) (pv 1))))), fun M ds P' hR hq => ?_⟩
  obtain ⟨p, hp, r, o, l, rfl, hl, hlen, hlt, rfl⟩ := hR
  have hpp := prime_pos hp
  refine ss_asg (ev_op (Ev.r (ev_var rfl)) (Ev.r (ev_var rfl)) (rv_ixL (d := .int (g r l).1) (atI_nat (by rw [List.getElem?_map, get_getD hlt 0]; rfl)))) ?_
  by_cases h0 : (g r l).1 = 0
  · have hz : g r l = 0 := Zp.ext (by rw [h0, Zp.zero_val])
    refine sd_ret (Ev.r (ev_ifF ((et_truth (Ev.r (ev_var rfl)) rfl).is (by simp [h0])) (ev_var rfl))) hq ?_
    rw [hz, subr_zero hlen]
  · refine sd_ret (Ev.r (ev_ifT ((et_truth (Ev.r (ev_var rfl)) rfl).is (by simp [h0])) (EvN.evE (en_lcM (r.zip o) (fun q => pairD (encZ q.1, encZ q.2)) (fun q => encZ (q.1 + -(g r l * q.2))) (EvI.o ((ei_zip (ea_cons (ev_var rfl) (ea_cons (ev_var rfl) ea_nil)) rfl rfl).is (zipD _ r o))) (by simp; omega)
      fun l2 acc q hq => ⟨[5, 6], _, eg_tup2 eg_name eg_name, fun _ h => h, (ev_op (Ev.r (ev_op (Ev.r (ev_var rfl)) (Ev.r (ev_op (Ev.r (ev_var rfl)) (Ev.r (ev_var rfl)) (rv_I ((zp_small _).cm (zp_small _) (by decide))))) rv_I0)) (Ev.r (ev_var rfl)) (rv_I (by omega))).is (congrArg D.int (zsub_val q.1 q.2 (g r l)))⟩)))) hq ?_
    show D.lst _ = D.lst _
    congr 1
    unfold subr
    rw [List.map_zipWith, List.zip_eq_zipWith, List.map_zipWith]

def R_less_whole (ds : List D) (P : D → Prop) : Prop := ∃ (r o : List Int) (l a b : Nat), ds = [rowI r, rowI o, nD l] ∧ r.length ≤ 1000 ∧ r.length = o.length ∧ l < r.length ∧ o.getD l 0 ≠ 0 ∧ (∀ x ∈ r, Bt a x) ∧ (∀ x ∈ o, Bt b x) ∧ a + b < 50000000 ∧
  P = fun d => ∃ r', d = rowI r' ∧ r'.length = r.length ∧ Less (ir r) (ir o) l (ir r') ∧ ∀ y ∈ r', Bt (a + b + 1) y
theorem c_less_whole (h : Has K mg "_less_whole" s_less_whole p_less_whole) (B : Bi mg) (NS : base.NoSeer) (hP : P.given.tree = none) (C_primitive : Cal P w K mg base "primitive" 41 p_primitive (spP R_primitive)) : Cal P w K mg base "_less_whole" 42 p_less_whole (spP R_less_whole) := by
  refine mkP h sc_less_whole (fun ds P h => by obtain ⟨_, _, _, _, _, rfl, _⟩ := h; rfl) fun cdv A outer s H Q E f hr => ⟨(tSeq (tAsg (tOp (rIxL K) (tVar 0) (tVar 2)) (gName 3))
  (tSeq (tIfS (tNot (tTru K (tVar 3))) (tRet (tVar 0)) tNext)
  (tSeq (tAsg (tCB rGcd (tCons (tVar 3) (tCons (tOp (rIxL K) (tVar 1) (tVar 2)) tNil))) (gName 4))
  (tSeq (tAsg (tTup (tCons (tOp rDivI (tOp (rIxL K) (tVar 1) (tVar 2)) (tVar 4)) (tCons (tOp rDivI (tVar 3) (tVar 4)) tNil))) (gTup K 2 (gCons (gName 5) (gCons (gName 6) gNil))))
  (tRet (tCall (spP R_primitive) [] E0 (tCons (tLc (iZipS K (tCons (tVar 0) (tCons (tVar 1) tNil))) (gTup K 2 (gCons (gName 7) (gCons (gName 8) gNil))) tYes (tOp rSubI (tOp rMulI (tVar 5) (tVar 7)) (tOp rMulI (tVar 6) (tVar 8))) [7, 8]) tNil))))))),
  (pss_cons (ps_asg (pe_ix ix_list (pv 0) (pv 2) (fun _ _ => rfl)) (pg_name (i := 3) sc_less_whole.nd rfl (by first | exact Or.inl rfl | exact Or.inr rfl)))
  (pss_cons (ps_if (pt_not (pt_truth (pv 3) (by intro _; rfl))) (pss_one (ps_ret (pv 0))) pss_nil)
  (pss_cons (ps_asg (pe_callBfun cr_gcd rfl B.gcd (pa_cons (pv 3) (pa_cons (pe_ix ix_list (pv 1) (pv 2) (fun _ _ => rfl)) pa_nil))) (pg_name (i := 4) sc_less_whole.nd rfl (by first | exact Or.inl rfl | exact Or.inr rfl)))
  (pss_cons (ps_asg (pe_tup (pa_cons (pe_op (op_divI ⟨NS, hP, ⟨_, _, rfl, rfl, rfl, rfl, rfl⟩, hr.mono (by decide)⟩) (pe_ix ix_list (pv 1) (pv 2) (fun _ _ => rfl)) (pv 4)) (pa_cons (pe_op (op_divI ⟨NS, hP, ⟨_, _, rfl, rfl, rfl, rfl, rfl⟩, hr.mono (by decide)⟩) (pv 3) (pv 4)) pa_nil))) (pg_tup rfl (pgs_cons (pg_name (i := 5) sc_less_whole.nd rfl (by first | exact Or.inl rfl | exact Or.inr rfl)) (pgs_cons (pg_name (i := 6) sc_less_whole.nd rfl (by first | exact Or.inl rfl | exact Or.inr rfl)) pgs_nil))))
  (pss_one (ps_ret (pe_cal C_primitive (hr.mono (by decide)) rfl (pa_cons (pe_lc (own := [("a", 7), ("b", 8)]) (g := (gTup K 2 (gCons (gName 7) (gCons (gName 8) gNil)))) (tt := tYes) (te := (tOp rSubI (tOp rMulI (tVar 5) (tVar 7)) (tOp rMulI (tVar 6) (tVar 8)))) rfl sc_less_whole.nd (pi_zipS rfl B.zip (pa_cons (pv 0) (pa_cons (pv 1) pa_nil))) (blkOk_by (own := [("a", 7), ("b", 8)]) (N := N_less_whole) (by kernel_rfl)) (fun _ _ _ _ _ => (pg_tup rfl (pgs_cons (pg_name (i := 7) sc_less_whole.nd rfl (by first | exact Or.inl rfl | exact Or.inr rfl)) (pgs_cons (pg_name (i := 8) sc_less_whole.nd rfl (by first | exact Or.inl rfl | exact Or.inr rfl)) pgs_nil)))) (fun _ _ _ _ _ => pts_nil) (fun _ _ _ _ _ => (pe_op op_sub (pe_op op_mulI (pv 5) (pv 7)) (pe_op op_mulI (pv 6) (pv 8))))) pa_nil)))))))), fun M ds P' hR hq => ?_⟩
  obtain ⟨r, o, l, a, b, rfl, hl, hlen, hlt, ho0, ha, hb, hab, rfl⟩ := hR
  have hlo : l < o.length := by omega
  have ixr : atI (r.map D.int) (l : Int) = some (.int (r.getD l 0)) := atI_nat (by rw [List.getElem?_map, get_getD hlt 0]; rfl)
  have ixo : atI (o.map D.int) (l : Int) = some (.int (o.getD l 0)) := atI_nat (by rw [List.getElem?_map, get_getD hlo 0]; rfl)
  refine ss_asg (ev_op (Ev.r (ev_var rfl)) (Ev.r (ev_var rfl)) (rv_ixL (d := .int (r.getD l 0)) ixr)) ?_
  by_cases h0 : r.getD l 0 = 0
  · refine sd_yes ((et_not (et_truth (Ev.r (ev_var rfl)) rfl)).is (by rw [h0]; rfl)) ?_
    refine sd_ret (Ev.r (ev_var rfl)) hq ⟨r, rfl, rfl, ⟨⟨1, 0, by decide, fun i => by rw [Rat.one_mul, Rat.zero_mul, Rat.add_zero]⟩, by rw [g_ir, h0]; rfl⟩, fun y hy => (ha y hy).mono (by omega)⟩
  · refine sd_no ((et_not (et_truth (Ev.r (ev_var rfl)) rfl)).is (by rw [show (r.getD l 0 != 0) = true from bne_iff_ne.mpr h0]; rfl)) ?_
    refine ss_asg (ev_cb2 (Ev.r (ev_var rfl)) (Ev.r (ev_op (Ev.r (ev_var rfl)) (Ev.r (ev_var rfl)) (rv_ixL (d := .int (o.getD l 0)) ixo))) rc_gcd) ?_
    generalize hk : r.getD l 0 = k at *
    generalize hm : o.getD l 0 = m at *
    have hg : 0 < Nat.gcd k.natAbs m.natAbs := Nat.gcd_pos_of_pos_left _ (by omega)
    generalize hgg : Nat.gcd k.natAbs m.natAbs = gg at *
    have d1 : (gg : Int) ∣ k := Int.ofNat_dvd_left.mpr (hgg ▸ Nat.gcd_dvd_left _ _)
    have d2 : (gg : Int) ∣ m := Int.ofNat_dvd_left.mpr (hgg ▸ Nat.gcd_dvd_right _ _)
    have e1 : m.fdiv (gg : Int) = m / (gg : Int) := Int.fdiv_eq_ediv_of_nonneg _ (Int.natCast_nonneg _)
    have e2 : k.fdiv (gg : Int) = k / (gg : Int) := Int.fdiv_eq_ediv_of_nonneg _ (Int.natCast_nonneg _)
    refine ss_unp (ev_tup (ea_cons (ev_op (Ev.r (ev_op (Ev.r (ev_var rfl)) (Ev.r (ev_var rfl)) (rv_ixL (d := .int m) ixo))) (Ev.r (ev_var rfl)) (rv_I (by omega))) (ea_cons (ev_op (Ev.r (ev_var rfl)) (Ev.r (ev_var rfl)) (rv_I (by omega))) ea_nil))) (eg_tup2 eg_name eg_name) ?_
    rw [e1, e2]
    have hdm : (m / (gg : Int)).natAbs ≤ m.natAbs := by rw [Int.natAbs_ediv_of_dvd d2]; exact Nat.div_le_self _ _
    have hdk : (k / (gg : Int)).natAbs ≤ k.natAbs := by rw [Int.natAbs_ediv_of_dvd d1]; exact Nat.div_le_self _ _
    have bm : Bt b (m / (gg : Int)) := (hb m (by rw [← hm]; exact mem_getD hlo 0)).le hdm
    have bk : Bt a (k / (gg : Int)) := (ha k (by rw [← hk]; exact mem_getD hlt 0)).le hdk
    have u0 : m / (gg : Int) ≠ 0 := fun z => ho0 (by
      have := Int.ediv_mul_cancel d2; rw [z, Int.zero_mul] at this; exact this.symm)
    have hku : k * (m / (gg : Int)) - (k / (gg : Int)) * m = 0 := by
      have q1 := Int.mul_ediv_cancel' d1
      have q2 := Int.mul_ediv_cancel' d2
      generalize m / (gg : Int) = u at *
      generalize k / (gg : Int) = v at *
      rw [← q1, ← q2, Int.mul_comm (gg : Int) v, Int.mul_assoc, Int.sub_self]
    generalize m / (gg : Int) = u at *
    generalize k / (gg : Int) = v at *
    refine sd_retR (Ev.r (ev_call (ds := [rowI ((r.zip o).map fun q => u * q.1 - v * q.2)]) (ea_cons (EvN.evE ((en_lcM (r.zip o) (fun q => pairD (D.int q.1, D.int q.2)) (fun q => D.int (u * q.1 - v * q.2)) (EvI.o ((ei_zip (ea_cons (ev_var rfl) (ea_cons (ev_var rfl) ea_nil)) rfl rfl).is (zipD _ r o))) (by simp; omega)
      fun l2 acc q hq => ⟨[7, 8], _, eg_tup2 eg_name eg_name, fun _ h => h, ev_op (Ev.r (ev_op (Ev.r (ev_var rfl)) (Ev.r (ev_var rfl)) (rv_I (bm.cm (ha q.1 (List.of_mem_zip hq).1) (by omega))))) (Ev.r (ev_op (Ev.r (ev_var rfl)) (Ev.r (ev_var rfl)) (rv_I (bk.cm (hb q.2 (List.of_mem_zip hq).2) (by omega))))) rv_I0⟩).is (by rw [List.map_map]; rfl))) ea_nil) ⟨_, rfl, by simp; omega, rfl⟩)) hq ?_
    rintro d ⟨cc, r', hc, rfl, hr'⟩
    have hlen' : r'.length = r.length := by
      have := congrArg List.length hr'; simp at this; omega
    have at_ : ∀ i, u * r.getD i 0 - v * o.getD i 0 = cc * r'.getD i 0 := fun i => by
      by_cases hi : i < r.length
      · have h2 : ((r.zip o).map fun q => u * q.1 - v * q.2)[i]? = (r'.map (cc * ·))[i]? := by rw [hr']
        rw [List.getElem?_map, List.getElem?_map, List.getElem?_eq_getElem (by simp; omega : i < (r.zip o).length), List.getElem?_eq_getElem (by omega : i < r'.length)] at h2
        have h3 := Option.some.inj h2
        rw [List.getElem_zip] at h3
        rw [List.getD_eq_getElem?_getD, List.getD_eq_getElem?_getD, List.getD_eq_getElem?_getD, List.getElem?_eq_getElem hi, List.getElem?_eq_getElem (by omega : i < o.length), List.getElem?_eq_getElem (by omega : i < r'.length)]
        exact h3
      · rw [List.getD_eq_getElem?_getD, List.getD_eq_getElem?_getD, List.getD_eq_getElem?_getD, List.getElem?_eq_none (by omega), List.getElem?_eq_none (by omega), List.getElem?_eq_none (by omega)]
        simp
    have hc' : (cc : Rat) ≠ 0 := fun z => by have := cast_eq0.mp z; omega
    have hci : (cc : Rat)⁻¹ ≠ 0 := fun z => by
      have := Rat.mul_inv_cancel _ hc'
      rw [z, Rat.mul_zero] at this
      exact absurd this (by decide)
    refine ⟨r', rfl, hlen', ⟨⟨(cc : Rat)⁻¹ * (u : Rat), (cc : Rat)⁻¹ * ((-v : Int) : Rat), mul_ne (α := Rat) hci (fun z => u0 (cast_eq0.mp z)), fun i => ?_⟩, ?_⟩, fun y hy => ?_⟩
    · have q := congrArg (fun z : Int => (cc : Rat)⁻¹ * (z : Rat)) (at_ i)
      have q : (cc : Rat)⁻¹ * ((u * r.getD i 0 - v * o.getD i 0 : Int) : Rat) = (cc : Rat)⁻¹ * ((cc * r'.getD i 0 : Int) : Rat) := q
      rw [mul_cast, ← Rat.mul_assoc, Rat.inv_mul_cancel _ hc', Rat.one_mul] at q
      rw [g_ir, g_ir, g_ir, ← q, Rat.mul_assoc, Rat.mul_assoc, ← mul_cast, ← mul_cast, ← Rat.mul_add, ← Rat.intCast_add]
      congr 2
      rw [Int.neg_mul]; rfl
    · have q := at_ l
      rw [hk, hm, Int.mul_comm u k, hku] at q
      rw [g_ir]
      have : r'.getD l 0 = 0 := by
        rcases Int.mul_eq_zero.mp q.symm with z | z
        · omega
        · exact z
      rw [this]; rfl
    · obtain ⟨i, hi⟩ := List.mem_iff_getElem?.mp hy
      obtain ⟨h1, h2⟩ := List.getElem?_eq_some_iff.mp hi
      have q := at_ i
      have e3 : r'.getD i 0 = y := by rw [List.getD_eq_getElem?_getD, hi]; rfl
      rw [e3] at q
      have bb : Bt (a + b + 1) (u * r.getD i 0 - v * o.getD i 0) := by
        refine Bt.sub ?_ ?_
        · have := bm.mul (ha (r.getD i 0) (mem_getD (by omega) 0)); rw [Nat.add_comm] at this; exact this
        · exact bk.mul (hb (o.getD i 0) (mem_getD (by omega) 0))
      refine bb.le ?_
      rw [q, Int.natAbs_mul]
      exact Nat.le_mul_of_pos_left _ (by omega)
end
end E
namespace E
open PySem PySem.Spec PyProof.Rows L2 TL
section
variable {P : Program} {w : World} {K : PySem.W.Frag} {mg : Str → Option Value} {base : Heap}
abbrev s_kept_modulo : Stmt := topS 21
abbrev N_kept_modulo : List Str := ["p", "rows", "n", "kept", "leads", "told", "row", "lead", "other", "k", "a", "b"]
abbrev p_kept_modulo : List Str := ["p", "rows", "n"]
theorem sc_kept_modulo : FnScope N_kept_modulo p_kept_modulo (defScope s_kept_modulo) := ⟨rfl, rfl, rfl, by decide +kernel, rfl, by decide +kernel, by decide +kernel⟩
abbrev s_kept_whole : Stmt := topS 23
abbrev N_kept_whole : List Str := ["rows", "n", "kept", "leads", "told", "row", "lead", "other"]
abbrev p_kept_whole : List Str := ["rows", "n"]
theorem sc_kept_whole : FnScope N_kept_whole p_kept_whole (defScope s_kept_whole) := ⟨rfl, rfl, rfl, by decide +kernel, rfl, by decide +kernel, by decide +kernel⟩
def R_kept_modulo (ds : List D) (P : D → Prop) : Prop := ∃ (p : Int) (h : p ∈ primes) (rows : List (List (Zp p h))) (n : Nat), ds = [.int p, .lst (rows.map rowZ), nD n] ∧ n ≤ 64 ∧ rows.length ≤ 1000 ∧ (∀ r ∈ rows, r.length = n) ∧
  P = fun d => ∃ (S : List (List (Zp p h))) (ls : List Nat), d = .tup [.lst (S.map rowZL), .lst (ls.map nD)] ∧ Ks n S ls ∧ Ones S ls ∧ SameSp S rows
theorem c_kept_modulo (h : Has K mg "_kept_modulo" s_kept_modulo p_kept_modulo) (B : Bi mg) (C_lead_of : Cal P w K mg base "lead_of" 41 p_lead_of (spP R_lead_of)) (C_inverse : Cal P w K mg base "inverse" 41 p_inverse (spP R_inverse))
    (C_less_modulo : Cal P w K mg base "_less_modulo" 41 p_less_modulo (spP R_less_modulo)) : Cal P w K mg base "_kept_modulo" 42 p_kept_modulo (spP R_kept_modulo) := by
  refine mkP h sc_kept_modulo (fun ds P h => by obtain ⟨_, _, _, _, rfl, _⟩ := h; rfl) fun cdv A outer s H Q E f hr => ⟨(tSeq (tAsg (tLst tNil) (gName 3))
  (tSeq (tAsg (tLst tNil) (gName 4))
  (tSeq (tFor (iList K (tVar 1)) (gName 5) (tSeq (tIfS (tTest (tOp rEq (tCB (rLenQ K) (tCons (tVar 3) tNil)) (tVar 2))) tBreak tNext)
  (tSeq (tAsg (tCB (rListQ K) (tCons (tVar 5) tNil)) (gName 6))
  (tSeq (tFor (iZipS K (tCons (tVar 4) (tCons (tVar 3) tNil))) (gTup K 2 (gCons (gName 7) (gCons (gName 8) gNil))) (tSeq (tAsg (tOp (rIxL K) (tVar 6) (tVar 7)) (gName 9))
  (tIfS (tTru K (tVar 9)) (tAsg (tLc (iZipS K (tCons (tVar 6) (tCons (tVar 8) tNil))) (gTup K 2 (gCons (gName 10) (gCons (gName 11) gNil))) tYes (tOp rModI (tOp rSubI (tVar 10) (tOp rMulI (tVar 9) (tVar 11))) (tVar 0)) [10, 11]) (gName 6)) tNext)))
  (tSeq (tAsg (tCall (spP R_lead_of) [] E0 (tCons (tVar 6) (tCons (tC (.int 0)) tNil))) (gName 7))
  (tIfS (tB (tNotN (tVar 7))) (tSeq (tAsg (tCall (spP R_inverse) [] E0 (tCons (tOp (rIxL K) (tVar 6) (tVar 7)) (tCons (tVar 0) tNil))) (gName 9))
  (tSeq (tAsg (tLc (iList K (tVar 6)) (gName 10) tYes (tOp rModI (tOp rMulI (tVar 10) (tVar 9)) (tVar 0)) [10]) (gName 6))
  (tSeq (tAsg (tLc (iList K (tVar 3)) (gName 8) tYes (tCall (spP R_less_modulo) [] E0 (tCons (tVar 0) (tCons (tVar 8) (tCons (tVar 6) (tCons (tVar 7) tNil))))) [8]) (gName 3))
  (tSeq (tDrop (tBM K "list" rAppend (tVar 3) (tCons (tVar 6) tNil)))
  (tDrop (tBM K "list" rAppend (tVar 4) (tCons (tVar 7) tNil))))))) tNext))))))
  (tRet (tTup (tCons (tVar 3) (tCons (tVar 4) tNil))))))),
  (pss_cons (ps_asg (pe_lst pa_nil) (pg_name (i := 3) sc_kept_modulo.nd rfl (by first | exact Or.inl rfl | exact Or.inr rfl)))
  (pss_cons (ps_asg (pe_lst pa_nil) (pg_name (i := 4) sc_kept_modulo.nd rfl (by first | exact Or.inl rfl | exact Or.inr rfl)))
  (pss_cons (ps_for PassesOwn.never rfl (pi_list (pv 1)) (pg_name (i := 5) sc_kept_modulo.nd rfl (by first | exact Or.inl rfl | exact Or.inr rfl)) (pss_cons (ps_if (pt_cmpR op_eq (pe_callB call_len_seq (by rfl) B.len boot_len (pa_cons (pv 3) pa_nil)) (pv 2) (nomark _)) (pss_one ps_break) pss_nil)
  (pss_cons (ps_asg (pe_callTy call_list_of (by rfl) B.list (by decide +kernel) (pa_cons (pv 5) pa_nil)) (pg_name (i := 6) sc_kept_modulo.nd rfl (by first | exact Or.inl rfl | exact Or.inr rfl)))
  (pss_cons (ps_for PassesOwn.never rfl (pi_zipS rfl B.zip (pa_cons (pv 4) (pa_cons (pv 3) pa_nil))) (pg_tup rfl (pgs_cons (pg_name (i := 7) sc_kept_modulo.nd rfl (by first | exact Or.inl rfl | exact Or.inr rfl)) (pgs_cons (pg_name (i := 8) sc_kept_modulo.nd rfl (by first | exact Or.inl rfl | exact Or.inr rfl)) pgs_nil))) (pss_cons (ps_asg (pe_ix ix_list (pv 6) (pv 7) (fun _ _ => rfl)) (pg_name (i := 9) sc_kept_modulo.nd rfl (by first | exact Or.inl rfl | exact Or.inr rfl)))
  (pss_one (ps_if (pt_truth (pv 9) (by intro _; rfl)) (pss_one (ps_asg (pe_lc (own := [("a", 10), ("b", 11)]) (g := (gTup K 2 (gCons (gName 10) (gCons (gName 11) gNil)))) (tt := tYes) (te := (tOp rModI (tOp rSubI (tVar 10) (tOp rMulI (tVar 9) (tVar 11))) (tVar 0))) rfl sc_kept_modulo.nd (pi_zipS rfl B.zip (pa_cons (pv 6) (pa_cons (pv 8) pa_nil))) (blkOk_by (own := [("a", 10), ("b", 11)]) (N := N_kept_modulo) (by kernel_rfl)) (fun _ _ _ _ _ => (pg_tup rfl (pgs_cons (pg_name (i := 10) sc_kept_modulo.nd rfl (by first | exact Or.inl rfl | exact Or.inr rfl)) (pgs_cons (pg_name (i := 11) sc_kept_modulo.nd rfl (by first | exact Or.inl rfl | exact Or.inr rfl)) pgs_nil)))) (fun _ _ _ _ _ => pts_nil) (fun _ _ _ _ _ => (pe_op op_modN (pe_op op_sub (pv 10) (pe_op op_mulI (pv 9) (pv 11))) (pv 0)))) (pg_name (i := 6) sc_kept_modulo.nd rfl (by first | exact Or.inl rfl | exact Or.inr rfl)))) pss_nil))))
  (pss_cons (ps_asg (pe_cal C_lead_of (hr.mono (by decide)) rfl (pa_cons (pv 6) (pa_cons pe_int pa_nil))) (pg_name (i := 7) sc_kept_modulo.nd rfl (by first | exact Or.inl rfl | exact Or.inr rfl)))
  (pss_one (ps_if (pt_cmp (pc_notN (pv 7))) (pss_cons (ps_asg (pe_cal C_inverse (hr.mono (by decide)) rfl (pa_cons (pe_ix ix_list (pv 6) (pv 7) (fun _ _ => rfl)) (pa_cons (pv 0) pa_nil))) (pg_name (i := 9) sc_kept_modulo.nd rfl (by first | exact Or.inl rfl | exact Or.inr rfl)))
  (pss_cons (ps_asg (pe_lc (own := [("a", 10)]) (g := (gName 10)) (tt := tYes) (te := (tOp rModI (tOp rMulI (tVar 10) (tVar 9)) (tVar 0))) rfl sc_kept_modulo.nd (pi_list (pv 6)) (blkOk_by (own := [("a", 10)]) (N := N_kept_modulo) (by kernel_rfl)) (fun _ _ _ _ _ => (pg_name (i := 10) sc_kept_modulo.nd rfl (by first | exact Or.inl rfl | exact Or.inr rfl))) (fun _ _ _ _ _ => pts_nil) (fun _ _ _ _ _ => (pe_op op_modN (pe_op op_mulI (pv 10) (pv 9)) (pv 0)))) (pg_name (i := 6) sc_kept_modulo.nd rfl (by first | exact Or.inl rfl | exact Or.inr rfl)))
  (pss_cons (ps_setLc (i := 3) (own := [("other", 8)]) (g := (gName 8)) (tt := tYes) (te := (tCall (spP R_less_modulo) [] E0 (tCons (tVar 0) (tCons (tVar 8) (tCons (tVar 6) (tCons (tVar 7) tNil)))))) rfl sc_kept_modulo.nd rfl rfl (sw_true rfl rfl rfl (by decide +kernel)) (pi_list (pv 3)) (blkOk_by (own := [("other", 8)]) (N := N_kept_modulo) (by kernel_rfl)) (fun _ _ _ _ _ => (pg_name (i := 8) sc_kept_modulo.nd rfl (by first | exact Or.inl rfl | exact Or.inr rfl))) (fun _ _ _ _ _ => pts_nil) (fun _ _ _ _ _ => (pe_cal C_less_modulo (hr.mono (by decide)) rfl (pa_cons (pv 0) (pa_cons (pv 8) (pa_cons (pv 6) (pa_cons (pv 7) pa_nil)))))))
  (pss_cons (ps_expr (pe_bm PySem.F.plainAttrs_list PySem.F.slot_list_append PySem.F.type_list_append mt_append (pv 3) (pa_cons (pv 6) pa_nil)))
  (pss_one (ps_expr (pe_bm PySem.F.plainAttrs_list PySem.F.slot_list_append PySem.F.type_list_append mt_append (pv 4) (pa_cons (pv 7) pa_nil)))))))) pss_nil)))))))
  (pss_one (ps_ret (pe_tup (pa_cons (pv 3) (pa_cons (pv 4) pa_nil)))))))), fun M ds P' hR hq => ?_⟩
  obtain ⟨p, hp, rows, n, rfl, hn, hrl, hw, rfl⟩ := hR
  have hpp := prime_pos hp
  refine ss_asg (EvN.evE (en_lst ea_nil)) ?_
  refine ss_asgN (en_lst ea_nil) fun ll ds e0 nl => ?_
  subst e0
  refine ss_for (ei_list (ev_var rfl)) (fun H1 i c1 δ1 => ∃ (S : List (List (Zp p hp))) (ls : List Nat) (x5 x6 x7 x8 x9 x10 x11 : Sl), c1 = ⟨H, [], M, none, [], ll :: M, [(ll, ls.map nD)], [(H1, [ll])]⟩ ∧ Ks n S ls ∧ Ones S ls ∧ SameSp S (rows.take i) ∧
      δ1 = [some (.inl (.int p)), some (.inl (.lst (rows.map rowZ))), some (.inl (nD n)), some (.inl (.lst (S.map rowZL))), some (.inr ll), x5, x6, x7, x8, x9, x10, x11])
    (fun H1 => ⟨[], [], none, none, none, none, none, none, none, rfl, Ks.nil n, (fun k r l h => by simp at h), by rw [List.take_zero]; exact SameSp.refl _, rfl⟩)
    (fun H1 i c1 δ1 hI => by obtain ⟨S, ls, _, _, _, _, _, _, _, rfl, _⟩ := hI; exact ⟨rfl, fun b hb => .inl hb⟩) ?_ ?_
  · rintro H1 i d c1 δ1 hd ⟨S, ls, x5, x6, x7, x8, x9, x10, x11, rfl, hk, h1, hs, rfl⟩
    have hi : i < rows.length := by simpa using (List.getElem?_eq_some_iff.mp hd).1
    have et := List.getElem?_eq_getElem (l := rows) (i := i) hi
    generalize ht : rows[i] = t at *
    have ed : d = rowZ t := by
      rw [List.getElem?_map, et] at hd
      exact (Option.some.inj hd).symm
    subst ed
    have htl : t.length = n := hw t (List.mem_of_getElem? et)
    have hSl := hk.le
    refine ⟨[5], _, eg_name, ?_⟩
    by_cases hSn : S.length = n
    · refine sd_yes ((et_test (Ev.r (ev_op (Ev.r (ev_cb (Ev.r (ev_var rfl)) (rc_len rfl))) (Ev.r (ev_var rfl)) rv_eqI))).is (decide_eq_true (by rw [List.length_map, hSn]))) ?_
      refine sd_brk (nx_unloop rfl (sd_nx0 rfl ?_))
      refine sd_frzP (i := 4) rfl rfl nl (fun q hq => by cases hq) rfl ?_
      exact sd_ret (Ev.r (ev_tup (ea_cons (ev_var rfl) (ea_cons (ev_var rfl) ea_nil)))) hq ⟨S, ls, rfl, hk, h1, sp_all hk hSn hw hs⟩
    · refine sd_no ((et_test (Ev.r (ev_op (Ev.r (ev_cb (Ev.r (ev_var rfl)) (rc_len rfl))) (Ev.r (ev_var rfl)) rv_eqI))).is (decide_eq_false (by rw [List.length_map]; omega))) ?_
      refine ss_asg (EvN.evE (en_list (Ev.r (ev_var rfl)) rfl)) ?_
      refine ss_forO (ei_zipO (i := 4) (l := ll) rfl List.mem_cons_self (ev_var rfl) rfl) (fun H2 j c2 δ2 => ∃ (v : List (Zp p hp)) (x7 x8 x9 x10 x11 : Sl), c2 = ⟨H, [], M, none, [], ll :: M, [(ll, ls.map nD)], [(H2, [ll]), (H1, [ll])]⟩ ∧ v.length = n ∧ Rem S t v ∧ (∀ k m, k < j → ls[k]? = some m → g v m = 0) ∧
          δ2 = [some (.inl (.int p)), some (.inl (.lst (rows.map rowZ))), some (.inl (nD n)), some (.inl (.lst (S.map rowZL))), some (.inr ll), some (.inl (rowZ t)), some (.inl (rowZL v)), x7, x8, x9, x10, x11])
        (fun H2 => ⟨t, x7, x8, x9, x10, x11, rfl, htl, Rem.self S t, (fun k m h => absurd h (Nat.not_lt_zero _)), rfl⟩)
        (fun H2 j c2 δ2 hI => by obtain ⟨v, _, _, _, _, _, rfl, _⟩ := hI; exact ⟨rfl, (fun b hb => .inl hb), fun p hp => hp⟩) ?_ ?_
      · rintro H2 j d c2 δ2 hd ⟨v, x7, x8, x9, x10, x11, rfl, hv, hrem, hz, rfl⟩
        obtain ⟨o, l, ho, hl, rfl⟩ : ∃ o l, S[j]? = some o ∧ ls[j]? = some l ∧ d = pairD (nD l, rowZL o) := by
          obtain ⟨l, o, a, b, e⟩ := zip_at hd
          exact ⟨o, l, b, a, e⟩
        have hol : o.length = n := hk.wid o (List.mem_of_getElem? ho)
        have hll : l < n := hk.lt l (List.mem_of_getElem? hl)
        have one := h1 j o l ho hl
        have step : ∀ v', v' = subr (g v l) v o → v'.length = n ∧ Rem S t v' ∧ ∀ k m, k < j + 1 → ls[k]? = some m → g v' m = 0 := fun v' e => by
          have hvo : v.length = o.length := by omega
          have L := less_subr hvo one
          subst e
          refine ⟨by rw [subr_len hvo]; exact hv, hrem.less (List.mem_of_getElem? ho) L, fun k m hkj hm => ?_⟩
          by_cases hkj2 : k = j
          · subst hkj2
            rw [Option.some.inj (hm.symm.trans hl)]; exact L.z
          · rw [g_subr hvo, hz k m (by omega) hm, hk.off j k o m ho hm (by omega), mul0, neg0, Fld.add0]
        refine ⟨[7, 8], _, eg_tup2 eg_name eg_name, ?_⟩
        refine ss_asg (ev_op (Ev.r (ev_var rfl)) (Ev.r (ev_var rfl)) (rv_ixL (d := encZ (g v l)) (atI_nat (by rw [List.getElem?_map, get_getD (by omega) 0]; rfl)))) ?_
        by_cases h0 : (g v l).1 = 0
        · refine sd_ifE (k := false) (et_truth (Ev.r (ev_var rfl)) (truZ0 h0)) (fun e => by cases e) fun _ => sd_next ?_
          obtain ⟨a, b, c⟩ := step v (by rw [zp_eq0.mp h0, subr_zero (by omega)])
          exact nx_I ⟨v, _, _, _, _, _, rfl, a, b, c, rfl⟩
        · refine sd_ifE (k := true) (et_truth (Ev.r (ev_var rfl)) (truZ1 h0)) (fun _ => ?_) fun e => by cases e
          refine sd_asg (EvN.evE ((en_lcM (v.zip o) (fun q => pairD (encZ q.1, encZ q.2)) (fun q => encZ (q.1 + -(g v l * q.2))) (EvI.o ((ei_zip (ea_cons (ev_var rfl) (ea_cons (ev_var rfl) ea_nil)) rfl rfl).is (zipD _ v o))) (by simp; omega)
            fun l2 acc q hq => ⟨[10, 11], _, eg_tup2 eg_name eg_name, fun _ h => h, (ev_op (Ev.r (ev_op (Ev.r (ev_var rfl)) (Ev.r (ev_op (Ev.r (ev_var rfl)) (Ev.r (ev_var rfl)) (rv_I ((zp_small _).cm (zp_small _) (by decide))))) rv_I0)) (Ev.r (ev_var rfl)) (rv_I (by omega))).is (congrArg D.int (zsub_val q.1 q.2 (g v l)))⟩).is (show _ = (subr (g v l) v o).map encZ by
              unfold subr
              rw [List.map_zipWith, List.zip_eq_zipWith, List.map_zipWith]))) ?_
          obtain ⟨a, b, c⟩ := step _ rfl
          exact nx_I ⟨_, _, _, _, _, _, rfl, a, b, c, rfl⟩
      · rintro H2 c2 δ2 ⟨v, x7, x8, x9, x10, x11, rfl, hv, hrem, hz, rfl⟩
        have hzl : ∀ m ∈ ls, g v m = 0 := fun m hm => by
          obtain ⟨k, hkm⟩ := List.mem_iff_getElem?.mp hm
          have := (List.getElem?_eq_some_iff.mp hkm).1
          have := hk.len
          exact hz k m (by simp; omega) hkm
        refine ss_asg (ev_call (ea_cons (ev_var rfl) (ea_cons ev_int ea_nil)) ⟨_, _, v.map encZ, rfl, rfl, by simp; omega, (fun x hx => by obtain ⟨y, _, rfl⟩ := List.mem_map.mp hx; exact okD_int _), okD_int _, rfl⟩) ?_
        rcases firstZ v with ⟨e, hz0⟩ | ⟨l, e, hl, hnz, hpre⟩
        · rw [e]
          exact sd_ifE (k := false) ((et_B (Ev.r (ev_notN (d := .non) (Ev.r (ev_var rfl))))).is rfl) (fun e => by cases e) fun _ => sd_next (nx_I ⟨S, ls, _, _, _, _, _, _, _, rfl, hk, h1, (hrem.none hs hz0).trans (take_perm et), rfl⟩)
        · rw [e]
          refine sd_ifE (k := true) ((et_B (Ev.r (ev_notN (d := nD l) (Ev.r (ev_var rfl))))).is rfl) (fun _ => ?_) fun e => by cases e
          have h0 : (g v l).1 ≠ 0 := fun z => hnz (zp_eq0.mp z)
          have g0 := (g v l).2.1
          have g1 := (g v l).2.2
          refine ss_asg ((ev_call (ea_cons (ev_op (Ev.r (ev_var rfl)) (Ev.r (ev_var rfl)) (rv_ixL (d := encZ (g v l)) (atI_nat (by rw [List.getElem?_map, get_getD (by omega) 0]; rfl)))) (ea_cons (ev_var rfl) ea_nil)) ⟨(g v l).1, p, rfl, hp, by omega, g1, rfl⟩).is (show D.int (invF (g v l).1 p) = encZ (g v l)⁻¹ from congrArg D.int (Zp.inv_val _ h0).symm)) ?_
          generalize hkk : (g v l)⁻¹ = kk
          refine ss_asg (EvN.evE ((en_lst' v encZ (fun a => encZ (a * kk)) (ev_var rfl) (by omega) fun l2 acc a ha => ⟨[10], _, eg_name, fun _ h => h, (ev_op (Ev.r (ev_op (Ev.r (ev_var rfl)) (Ev.r (ev_var rfl)) (rv_I ((zp_small a).cm (zp_small kk) (by decide))))) (Ev.r (ev_var rfl)) (rv_I (by omega))).is (congrArg D.int (zmul_val a kk))⟩).is (show _ = (v.map (· * kk)).map encZ by rw [List.map_map]; rfl))) ?_
          have hv1 : (v.map (· * kk)).length = n := by simpa using hv
          have one : g (v.map (· * kk)) l = 1 := by
            rw [g_mapR, ← hkk, Fld.mulC, Fld.mulI _ hnz]
          have kk0 : kk ≠ 0 := fun z => by
            have := Fld.mulI _ hnz
            rw [hkk, z, mul0] at this
            exact Fld.ne01 this.symm
          have hz1 : ∀ m ∈ ls, g (v.map (· * kk)) m = 0 := fun m hm => by rw [g_mapR, hzl m hm, mul0]
          have hrem1 : Rem S t (v.map (· * kk)) := hrem.scale kk0 fun i => g_mapR kk i
          generalize hv1e : v.map (· * kk) = v1 at *
          have hp1 : ∀ i, i < l → g v1 i = 0 := fun i hi => by rw [← hv1e, g_mapR, hpre i hi, mul0]
          have lS : ∀ o ∈ S, o.length = v1.length := fun o ho => by rw [hk.wid o ho, hv1]
          refine ss_asgN2 (en_lst' S rowZL (fun o => rowZL (subr (g o l) o v1)) (ev_var rfl) (by omega) fun l2 acc o ho => ⟨[8], _, eg_name, fun _ h => h, ev_call (ea_cons (ev_var rfl) (ea_cons (ev_var rfl) (ea_cons (ev_var rfl) (ea_cons (ev_var rfl) ea_nil)))) ⟨p, hp, o, v1, l, rfl, by rw [hk.wid o ho]; omega, lS o ho, by rw [hk.wid o ho]; omega, rfl⟩⟩) fun lk ds e nk kq => ?_
          subst e
          refine ss_app rfl rfl (ev_var rfl) (by simp; omega) fun d e => ?_
          subst e
          refine sd_perm (own' := [(ll, ls.map nD), (lk, S.map (fun o => rowZL (subr (g o l) o v1)) ++ [rowZL v1])]) (List.Perm.swap _ _ _) ?_
          refine sd_app rfl rfl (ev_var rfl) (by rw [List.length_map, ← hk.len]; omega) fun d e => ?_
          subst e
          refine nx_perm (own' := [(lk, S.map (fun o => rowZL (subr (g o l) o v1)) ++ [rowZL v1]), (ll, ls.map nD ++ [nD l])]) (List.Perm.swap _ _ _) ?_
          refine nx_frzP (i := 3) rfl rfl nk kq rfl ?_
          obtain ⟨w1, w2⟩ := hk.add (S' := S.map fun o => subr (g o l) o v1) hv1 hz1 (by omega) (by rw [one]; exact Fld.ne01) hp1 (by simp) (fun r hr => by
            obtain ⟨o, ho, rfl⟩ := List.mem_map.mp hr
            rw [subr_len (lS o ho)]; exact hk.wid o ho) (fun k r r' e1 e2 => by
              rw [List.getElem?_map, e1] at e2
              rw [← Option.some.inj e2]
              exact less_subr (lS r (List.mem_of_getElem? e1)) one)
          have e1 : S.map (fun o => rowZL (subr (g o l) o v1)) ++ [rowZL v1] = (S.map (fun o => subr (g o l) o v1) ++ [v1]).map rowZL := by rw [List.map_append, List.map_map]; rfl
          have e2 : ls.map nD ++ [nD l] = (ls ++ [l]).map nD := by rw [List.map_append]; rfl
          rw [e1, e2]
          exact nx_I ⟨S.map (fun o => subr (g o l) o v1) ++ [v1], ls ++ [l], _, _, _, _, _, _, _, rfl, w1, h1.add hk hv1 hz1 one, (w2.trans (hrem1.same hs)).trans (take_perm et), rfl⟩
  · rintro H1 c1 δ1 ⟨S, ls, x5, x6, x7, x8, x9, x10, x11, rfl, hk, h1, hs, rfl⟩
    rw [List.length_map, List.take_length] at hs
    refine sd_frzP (i := 4) rfl rfl nl (fun q hq => by cases hq) rfl ?_
    exact sd_ret (Ev.r (ev_tup (ea_cons (ev_var rfl) (ea_cons (ev_var rfl) ea_nil)))) hq ⟨S, ls, rfl, hk, h1, hs⟩

def R_kept_whole (ds : List D) (P : D → Prop) : Prop := ∃ (rows : List (List Rat)) (n b : Nat), ds = [.lst (rows.map rowQ), nD n] ∧ n ≤ 64 ∧ rows.length ≤ 1000 ∧ min rows.length n ≤ 6 ∧ (∀ r ∈ rows, r.length = n ∧ Cd b r) ∧ b ≤ 13000 ∧
  P = fun d => ∃ (S : List (List Int)) (ls : List Nat), d = .tup [.lst (S.map rowI), .lst (ls.map nD)] ∧ Ks n (S.map ir) ls ∧ SameSp (S.map ir) rows
theorem c_kept_whole (h : Has K mg "_kept_whole" s_kept_whole p_kept_whole) (B : Bi mg) (C_lead_of : Cal P w K mg base "lead_of" 41 p_lead_of (spP R_lead_of)) (C_cleared : Cal P w K mg base "cleared" 42 p_cleared (spP R_cleared))
    (C_less_whole : Cal P w K mg base "_less_whole" 42 p_less_whole (spP R_less_whole)) : Cal P w K mg base "_kept_whole" 43 p_kept_whole (spP R_kept_whole) := by
  refine mkP h sc_kept_whole (fun ds P h => by obtain ⟨_, _, _, rfl, _⟩ := h; rfl) fun cdv A outer s H Q E f hr => ⟨(tSeq (tAsg (tLst tNil) (gName 2))
  (tSeq (tAsg (tLst tNil) (gName 3))
  (tSeq (tFor (iList K (tVar 0)) (gName 4) (tSeq (tIfS (tTest (tOp rEq (tCB (rLenQ K) (tCons (tVar 2) tNil)) (tVar 1))) tBreak tNext)
  (tSeq (tAsg (tCall (spP R_cleared) [] E0 (tCons (tVar 4) tNil)) (gName 5))
  (tSeq (tFor (iZipS K (tCons (tVar 3) (tCons (tVar 2) tNil))) (gTup K 2 (gCons (gName 6) (gCons (gName 7) gNil))) (tAsg (tCall (spP R_less_whole) [] E0 (tCons (tVar 5) (tCons (tVar 7) (tCons (tVar 6) tNil)))) (gName 5)))
  (tSeq (tAsg (tCall (spP R_lead_of) [] E0 (tCons (tVar 5) (tCons (tC (.int 0)) tNil))) (gName 6))
  (tIfS (tB (tNotN (tVar 6))) (tSeq (tAsg (tLc (iList K (tVar 2)) (gName 7) tYes (tCall (spP R_less_whole) [] E0 (tCons (tVar 7) (tCons (tVar 5) (tCons (tVar 6) tNil)))) [7]) (gName 2))
  (tSeq (tDrop (tBM K "list" rAppend (tVar 2) (tCons (tVar 5) tNil)))
  (tDrop (tBM K "list" rAppend (tVar 3) (tCons (tVar 6) tNil))))) tNext))))))
  (tRet (tTup (tCons (tVar 2) (tCons (tVar 3) tNil))))))),
  (pss_cons (ps_asg (pe_lst pa_nil) (pg_name (i := 2) sc_kept_whole.nd rfl (by first | exact Or.inl rfl | exact Or.inr rfl)))
  (pss_cons (ps_asg (pe_lst pa_nil) (pg_name (i := 3) sc_kept_whole.nd rfl (by first | exact Or.inl rfl | exact Or.inr rfl)))
  (pss_cons (ps_for PassesOwn.never rfl (pi_list (pv 0)) (pg_name (i := 4) sc_kept_whole.nd rfl (by first | exact Or.inl rfl | exact Or.inr rfl)) (pss_cons (ps_if (pt_cmpR op_eq (pe_callB call_len_seq (by rfl) B.len boot_len (pa_cons (pv 2) pa_nil)) (pv 1) (nomark _)) (pss_one ps_break) pss_nil)
  (pss_cons (ps_asg (pe_cal C_cleared (hr.mono (by decide)) rfl (pa_cons (pv 4) pa_nil)) (pg_name (i := 5) sc_kept_whole.nd rfl (by first | exact Or.inl rfl | exact Or.inr rfl)))
  (pss_cons (ps_for PassesOwn.never rfl (pi_zipS rfl B.zip (pa_cons (pv 3) (pa_cons (pv 2) pa_nil))) (pg_tup rfl (pgs_cons (pg_name (i := 6) sc_kept_whole.nd rfl (by first | exact Or.inl rfl | exact Or.inr rfl)) (pgs_cons (pg_name (i := 7) sc_kept_whole.nd rfl (by first | exact Or.inl rfl | exact Or.inr rfl)) pgs_nil))) (pss_one (ps_asg (pe_cal C_less_whole (hr.mono (by decide)) rfl (pa_cons (pv 5) (pa_cons (pv 7) (pa_cons (pv 6) pa_nil)))) (pg_name (i := 5) sc_kept_whole.nd rfl (by first | exact Or.inl rfl | exact Or.inr rfl)))))
  (pss_cons (ps_asg (pe_cal C_lead_of (hr.mono (by decide)) rfl (pa_cons (pv 5) (pa_cons pe_int pa_nil))) (pg_name (i := 6) sc_kept_whole.nd rfl (by first | exact Or.inl rfl | exact Or.inr rfl)))
  (pss_one (ps_if (pt_cmp (pc_notN (pv 6))) (pss_cons (ps_setLc (i := 2) (own := [("other", 7)]) (g := (gName 7)) (tt := tYes) (te := (tCall (spP R_less_whole) [] E0 (tCons (tVar 7) (tCons (tVar 5) (tCons (tVar 6) tNil))))) rfl sc_kept_whole.nd rfl rfl (sw_true rfl rfl rfl (by decide +kernel)) (pi_list (pv 2)) (blkOk_by (own := [("other", 7)]) (N := N_kept_whole) (by kernel_rfl)) (fun _ _ _ _ _ => (pg_name (i := 7) sc_kept_whole.nd rfl (by first | exact Or.inl rfl | exact Or.inr rfl))) (fun _ _ _ _ _ => pts_nil) (fun _ _ _ _ _ => (pe_cal C_less_whole (hr.mono (by decide)) rfl (pa_cons (pv 7) (pa_cons (pv 5) (pa_cons (pv 6) pa_nil))))))
  (pss_cons (ps_expr (pe_bm PySem.F.plainAttrs_list PySem.F.slot_list_append PySem.F.type_list_append mt_append (pv 2) (pa_cons (pv 5) pa_nil)))
  (pss_one (ps_expr (pe_bm PySem.F.plainAttrs_list PySem.F.slot_list_append PySem.F.type_list_append mt_append (pv 3) (pa_cons (pv 6) pa_nil)))))) pss_nil)))))))
  (pss_one (ps_ret (pe_tup (pa_cons (pv 2) (pa_cons (pv 3) pa_nil)))))))), fun M ds P' hR hq => ?_⟩
  obtain ⟨rows, n, b, rfl, hn, hrl, hmin, hw, hb, rfl⟩ := hR
  refine ss_asg (EvN.evE (en_lst ea_nil)) ?_
  refine ss_asgN (en_lst ea_nil) fun ll ds e0 nl => ?_
  subst e0
  refine ss_for (ei_list (ev_var rfl)) (fun H1 i c1 δ1 => ∃ (S : List (List Int)) (ls : List Nat) (x4 x5 x6 x7 : Sl), c1 = ⟨H, [], M, none, [], ll :: M, [(ll, ls.map nD)], [(H1, [ll])]⟩ ∧ Ks n (S.map ir) ls ∧ S.length ≤ i ∧ (∀ r ∈ S, ∀ x ∈ r, Bt (BB b S.length) x) ∧ SameSp (S.map ir) (rows.take i) ∧
      δ1 = [some (.inl (.lst (rows.map rowQ))), some (.inl (nD n)), some (.inl (.lst (S.map rowI))), some (.inr ll), x4, x5, x6, x7])
    (fun H1 => ⟨[], [], none, none, none, none, rfl, Ks.nil n, Nat.le_refl _, (fun r h => by cases h), by rw [List.take_zero]; exact SameSp.refl _, rfl⟩)
    (fun H1 i c1 δ1 hI => by obtain ⟨S, ls, _, _, _, _, rfl, _⟩ := hI; exact ⟨rfl, fun b hb => .inl hb⟩) ?_ ?_
  · rintro H1 i d c1 δ1 hd ⟨S, ls, x4, x5, x6, x7, rfl, hk, hSi, hB, hs, rfl⟩
    have hi : i < rows.length := by simpa using (List.getElem?_eq_some_iff.mp hd).1
    have et := List.getElem?_eq_getElem (l := rows) (i := i) hi
    generalize ht : rows[i] = t at *
    have ed : d = rowQ t := by
      rw [List.getElem?_map, et] at hd
      exact (Option.some.inj hd).symm
    subst ed
    obtain ⟨htl, hcd⟩ := hw t (List.mem_of_getElem? et)
    have hSl : S.length ≤ n := by have := hk.le; simpa using this
    have wid : ∀ r ∈ S, r.length = n := fun r hr => by have := hk.wid (ir r) (List.mem_map_of_mem hr); rwa [ir_len] at this
    have lenl : S.length = ls.length := by have := hk.len; simpa using this
    refine ⟨[4], _, eg_name, ?_⟩
    by_cases hSn : S.length = n
    · refine sd_yes ((et_test (Ev.r (ev_op (Ev.r (ev_cb (Ev.r (ev_var rfl)) (rc_len rfl))) (Ev.r (ev_var rfl)) rv_eqI))).is (decide_eq_true (by rw [List.length_map, hSn]))) ?_
      refine sd_brk (nx_unloop rfl (sd_nx0 rfl ?_))
      refine sd_frzP (i := 3) rfl rfl nl (fun q hq => by cases hq) rfl ?_
      exact sd_ret (Ev.r (ev_tup (ea_cons (ev_var rfl) (ea_cons (ev_var rfl) ea_nil)))) hq ⟨S, ls, rfl, hk, sp_all hk (by rw [List.length_map]; exact hSn) (fun r hr => (hw r hr).1) hs⟩
    · refine sd_no ((et_test (Ev.r (ev_op (Ev.r (ev_cb (Ev.r (ev_var rfl)) (rc_len rfl))) (Ev.r (ev_var rfl)) rv_eqI))).is (decide_eq_false (by rw [List.length_map]; omega))) ?_
      have hk6 : S.length + 1 ≤ 6 := by omega
      have bbN := BB_le (k := S.length + 1) hb hk6
      have eBB : BB b (S.length + 1) = (S.length + 1) * BB b S.length + b + S.length + 1 := rfl
      refine ss_asgR (ev_call (ea_cons (ev_var rfl) ea_nil) ⟨t, b, rfl, by omega, hcd, hb, rfl⟩) ?_
      rintro d ⟨a0, t', ha0, rfl, htl', hat, hbt⟩
      have rem0 : Rem (S.map ir) t (ir t') := ⟨a0, ha0, _, sp_zero _, fun i => by rw [g_ir, hat]; exact (Fld.add0 _).symm⟩
      generalize hm : BB b S.length = m at *
      refine ss_forO (ei_zipO (i := 3) (l := ll) rfl List.mem_cons_self (ev_var rfl) rfl) (fun H2 j c2 δ2 => ∃ (v : List Int) (x6 x7 : Sl), c2 = ⟨H, [], M, none, [], ll :: M, [(ll, ls.map nD)], [(H2, [ll]), (H1, [ll])]⟩ ∧ v.length = n ∧ Rem (S.map ir) t (ir v) ∧ (∀ k m, k < j → ls[k]? = some m → g (ir v) m = 0) ∧ (∀ x ∈ v, Bt (b + j * (m + 1)) x) ∧
          δ2 = [some (.inl (.lst (rows.map rowQ))), some (.inl (nD n)), some (.inl (.lst (S.map rowI))), some (.inr ll), some (.inl (rowQ t)), some (.inl (rowI v)), x6, x7])
        (fun H2 => ⟨t', x6, x7, rfl, by omega, rem0, (fun k m h => absurd h (Nat.not_lt_zero _)), (fun x hx => by rw [Nat.zero_mul]; exact hbt x hx), rfl⟩)
        (fun H2 j c2 δ2 hI => by obtain ⟨v, _, _, rfl, _⟩ := hI; exact ⟨rfl, (fun b hb => .inl hb), fun p hp => hp⟩) ?_ ?_
      · rintro H2 j d c2 δ2 hd ⟨v, x6, x7, rfl, hv, hrem, hz, hbv, rfl⟩
        obtain ⟨l, o, hl, ho, rfl⟩ := zip_at hd
        have ho' : (S.map ir)[j]? = some (ir o) := by rw [List.getElem?_map, ho]; rfl
        have hol : o.length = n := wid o (List.mem_of_getElem? ho)
        have hll : l < n := hk.lt l (List.mem_of_getElem? hl)
        have hjS : j < S.length := (List.getElem?_eq_some_iff.mp ho).1
        have onz : o.getD l 0 ≠ 0 := fun z => hk.nz j (ir o) l ho' hl (by rw [g_ir, z]; rfl)
        have rb := row_bits (b := b) (m := m) (Nat.le_of_lt hjS) eBB
        refine ⟨[6, 7], _, eg_tup2 eg_name eg_name, ?_⟩
        refine sd_asgR (ev_call (ea_cons (ev_var rfl) (ea_cons (ev_var rfl) (ea_cons (ev_var rfl) ea_nil))) ⟨v, o, l, b + j * (m + 1), m, rfl, by omega, by omega, by omega, onz, hbv, hB o (List.mem_of_getElem? ho), by omega, rfl⟩) ?_
        rintro d ⟨v', rfl, hv', L, hb'⟩
        refine nx_I ⟨v', _, _, rfl, by omega, hrem.less (List.mem_of_getElem? ho') L, fun k q hkj hq => ?_, fun x hx => ?_, rfl⟩
        · by_cases hkj2 : k = j
          · subst hkj2
            rw [Option.some.inj (hq.symm.trans hl)]; exact L.z
          · obtain ⟨a, b, _, e⟩ := L.ex
            rw [e, hz k q (by omega) hq, hk.off j k (ir o) q ho' hq (by omega), mul0, mul0, Fld.add0]
        · have q := hb' x hx
          have e : b + (j + 1) * (m + 1) = b + j * (m + 1) + m + 1 := by rw [Nat.add_mul]; omega
          rw [e]; exact q
      · rintro H2 c2 δ2 ⟨v, x6, x7, rfl, hv, hrem, hz, hbv, rfl⟩
        have hlz : (((ls.map nD).zip (S.map rowI)).map pairD).length = S.length := by simp; omega
        have hzl : ∀ m ∈ ls, g (ir v) m = 0 := fun m hm => by
          obtain ⟨k, hkm⟩ := List.mem_iff_getElem?.mp hm
          have := (List.getElem?_eq_some_iff.mp hkm).1
          exact hz k m (by rw [hlz]; omega) hkm
        rw [hlz] at hbv
        refine ss_asg (ev_call (ea_cons (ev_var rfl) (ea_cons ev_int ea_nil)) ⟨_, _, v.map D.int, rfl, rfl, by simp; omega, (fun x hx => by obtain ⟨y, _, rfl⟩ := List.mem_map.mp hx; exact okD_int _), okD_int _, rfl⟩) ?_
        rcases firstI v with ⟨e, hz0⟩ | ⟨l, e, hl, hnz, hpre⟩
        · rw [e]
          exact sd_ifE (k := false) ((et_B (Ev.r (ev_notN (d := .non) (Ev.r (ev_var rfl))))).is rfl) (fun e => by cases e) fun _ => sd_next (nx_I ⟨S, ls, _, _, _, _, rfl, hk, by omega, by rw [hm]; exact hB, (hrem.none hs hz0).trans (take_perm et), rfl⟩)
        · rw [e]
          refine sd_ifE (k := true) ((et_B (Ev.r (ev_notN (d := nD l) (Ev.r (ev_var rfl))))).is rfl) (fun _ => ?_) fun e => by cases e
          rw [ir_len] at hl
          have vnz : v.getD l 0 ≠ 0 := fun z => hnz (by rw [g_ir, z]; rfl)
          have rb := row_bits (b := b) (m := m) (Nat.le_refl S.length) eBB
          refine ss_asgN2 (en_lcRx S rowI (fun o d => ∃ r', d = rowI r' ∧ (r'.length = o.length ∧ Less (ir o) (ir v) l (ir r') ∧ ∀ y ∈ r', Bt (m + (b + S.length * (m + 1)) + 1) y)) (EvI.o (ei_list (ev_var rfl))) (by omega)
            fun l2 acc o ho => ⟨[7], _, eg_name, fun _ h => h, ev_call (ea_cons (ev_var rfl) (ea_cons (ev_var rfl) (ea_cons (ev_var rfl) ea_nil))) ⟨o, v, l, m, b + S.length * (m + 1), rfl, by rw [wid o ho]; omega, by rw [wid o ho]; omega, by rw [wid o ho]; omega, vnz, hB o ho, hbv, by omega, rfl⟩⟩) fun lk ds al nk kq => ?_
          obtain ⟨S', eS, al2⟩ := all2_choose al
          subst eS
          clear al
          have lenS' : S'.length = S.length := al2.len.symm
          refine ss_app rfl rfl (ev_var rfl) (by simp; omega) fun d e => ?_
          subst e
          refine sd_perm (own' := [(ll, ls.map nD), (lk, S'.map rowI ++ [rowI v])]) (List.Perm.swap _ _ _) ?_
          refine sd_app rfl rfl (ev_var rfl) (by rw [List.length_map]; omega) fun d e => ?_
          subst e
          refine nx_perm (own' := [(lk, S'.map rowI ++ [rowI v]), (ll, ls.map nD ++ [nD l])]) (List.Perm.swap _ _ _) ?_
          refine nx_frzP (i := 2) rfl rfl nk kq rfl ?_
          obtain ⟨w1, w2⟩ := hk.add (S' := S'.map ir) (v := ir v) (l := l) (by rw [ir_len]; exact hv) hzl (by omega) hnz hpre (by simp; omega) (fun r hr => by
            obtain ⟨r', hr', rfl⟩ := List.mem_map.mp hr
            obtain ⟨o, ho, q, _⟩ := al2.mem r' hr'
            rw [ir_len, q]; exact wid o ho) (fun k r r' e1 e2 => by
              rw [List.getElem?_map] at e1 e2
              cases q1 : S[k]? with
              | none => rw [q1] at e1; cases e1
              | some o =>
                obtain ⟨r2, q2, _, L, _⟩ := al2.get q1
                rw [q1] at e1; rw [q2] at e2
                rw [← Option.some.inj e1, ← Option.some.inj e2]; exact L)
          have e1 : S'.map rowI ++ [rowI v] = (S' ++ [v]).map rowI := by rw [List.map_append]; rfl
          have e2 : ls.map nD ++ [nD l] = (ls ++ [l]).map nD := by rw [List.map_append]; rfl
          have e3 : S'.map ir ++ [ir v] = (S' ++ [v]).map ir := by rw [List.map_append]; rfl
          rw [e3] at w1 w2
          rw [e1, e2]
          refine nx_I ⟨S' ++ [v], ls ++ [l], _, _, _, _, rfl, w1, by simp; omega, fun r hr x hx => ?_, (w2.trans (hrem.same hs)).trans (take_perm et), rfl⟩
          have eL : (S' ++ [v]).length = S.length + 1 := by simp; omega
          rw [eL]
          rcases List.mem_append.mp hr with z | z
          · obtain ⟨o, ho, _, _, q⟩ := al2.mem r z
            refine (q x hx).mono ?_
            omega
          · rw [List.mem_singleton.mp z] at hx
            exact (hbv x hx).mono (by omega)
  · rintro H1 c1 δ1 ⟨S, ls, x4, x5, x6, x7, rfl, hk, hSi, hB, hs, rfl⟩
    rw [List.length_map, List.take_length] at hs
    refine sd_frzP (i := 3) rfl rfl nl (fun q hq => by cases hq) rfl ?_
    exact sd_ret (Ev.r (ev_tup (ea_cons (ev_var rfl) (ea_cons (ev_var rfl) ea_nil)))) hq ⟨S, ls, rfl, hk, hs⟩
end
end E
namespace E
open PySem PySem.Spec PyProof.Rows L2 TL
section
variable {P : Program} {w : World} {K : PySem.W.Frag} {mg : Str → Option Value} {base : Heap}
abbrev s_swept_rows : Stmt := topS 19
abbrev N_swept_rows : List Str := ["p", "rows", "n", "kept", "leads", "order", "at"]
abbrev p_swept_rows : List Str := ["p", "rows", "n"]
theorem sc_swept_rows : FnScope N_swept_rows p_swept_rows (defScope s_swept_rows) := ⟨rfl, rfl, rfl, by decide +kernel, rfl, by decide +kernel, by decide +kernel⟩
abbrev g_WIDE : V := .int 64
def R_swept_rows (ds : List D) (P : D → Prop) : Prop := ∃ (F : Fm) (rows : List (List F.α)) (n : Nat), ds = [.int F.p, .lst (rows.map F.row), nD n] ∧ n ≤ 64 ∧ rows.length ≤ 1000 ∧ (∀ r ∈ rows, r.length = n) ∧ RowsOk F rows n ∧
  P = fun d => ∃ (T : List (List F.α)) (ls : List Nat), d = .lst (T.map F.row) ∧ Sw n T ls ∧ SameSp T rows
theorem c_swept_rows {kc Pt : Addr} (h : HasC K mg "swept_rows" s_swept_rows p_swept_rows kc) (B : Bi mg) (TB : LamX.TabB base mg kc Pt) {uW : Value} (G_WIDE : mg "WIDE" = some uW ∧ L2.RelV g_WIDE uW)
    (C_kept_modulo : Cal P w K mg base "_kept_modulo" 42 p_kept_modulo (spP R_kept_modulo)) (C_kept_whole : Cal P w K mg base "_kept_whole" 43 p_kept_whole (spP R_kept_whole)) (C_fractions : Cal P w K mg base "_fractions" 42 p_fractions (spP R_fractions)) :
    Cal P w K mg base "swept_rows" 44 p_swept_rows (spT [(Pt, qLam "swept_rows")] R_swept_rows) := by
  refine mkTC h sc_swept_rows (fun ds P h => by obtain ⟨_, _, _, rfl, _⟩ := h; rfl) fun A outer s H Q E f hr => ⟨(tSeq (tIfS (tTest (tOp rGtI (tVar 2) (tC g_WIDE))) tNever tNext)
  (tSeq (tAsg (tIf (tTru K (tVar 0)) (tCall (spP R_kept_modulo) [] E0 (tCons (tVar 0) (tCons (tVar 1) (tCons (tVar 2) tNil)))) (tCall (spP R_kept_whole) [] E0 (tCons (tVar 1) (tCons (tVar 2) tNil)))) (gTup K 2 (gCons (gName 3) (gCons (gName 4) gNil))))
  (tSeq (tAsg (tSortLam K (Pt, qLam "swept_rows") (tRg1 (tCB (rLenQ K) (tCons (tVar 4) tNil))) 4) (gName 5))
  (tSeq (tIfS (tTru K (tVar 0)) (tRet (tLc (iList K (tVar 5)) (gName 6) tYes (tCB (rTupQ K) (tCons (tOp (rIxL K) (tVar 3) (tVar 6)) tNil)) [6])) tNext)
  (tRet (tLc (iList K (tVar 5)) (gName 6) tYes (tCall (spP R_fractions) [] E0 (tCons (tOp (rIxL K) (tVar 3) (tVar 6)) (tCons (tOp (rIxL K) (tVar 4) (tVar 6)) tNil))) [6])))))),
  (pss_cons (ps_if (pt_cmpR op_gt (pv 2) (pe_glob rfl G_WIDE.1 G_WIDE.2) (nomark _)) (pss_one ps_never) pss_nil)
  (pss_cons (ps_asg (pe_ifExp (pt_truth (pv 0) (by intro _; rfl)) (pe_cal C_kept_modulo (hr.mono (by decide)) rfl (pa_cons (pv 0) (pa_cons (pv 1) (pa_cons (pv 2) pa_nil)))) (pe_cal C_kept_whole (hr.mono (by decide)) rfl (pa_cons (pv 1) (pa_cons (pv 2) pa_nil)))) (pg_tup rfl (pgs_cons (pg_name (i := 3) sc_swept_rows.nd rfl (by first | exact Or.inl rfl | exact Or.inr rfl)) (pgs_cons (pg_name (i := 4) sc_swept_rows.nd rfl (by first | exact Or.inl rfl | exact Or.inr rfl)) pgs_nil))))
  (pss_cons (ps_asg (pe_sortLam (i := 4) rfl TB rfl rfl B.sorted (prg_1 rfl B.range (pe_callB call_len_seq (by rfl) B.len boot_len (pa_cons (pv 4) pa_nil))) rfl (NdefX.nscope_by (N := ["at", "leads"]) (by decide +kernel)) (kk := 30) (hr.mono (by decide)) (free_by (sc := defScope s_swept_rows) (by decide +kernel)) rfl (by decide +kernel) (fun _ _ _ _ _ _ => rfl)) (pg_name (i := 5) sc_swept_rows.nd rfl (by first | exact Or.inl rfl | exact Or.inr rfl)))
  (pss_cons (ps_if (pt_truth (pv 0) (by intro _; rfl)) (pss_one (ps_ret (pe_lc (own := [("at", 6)]) (g := (gName 6)) (tt := tYes) (te := (tCB (rTupQ K) (tCons (tOp (rIxL K) (tVar 3) (tVar 6)) tNil))) rfl sc_swept_rows.nd (pi_list (pv 5)) (blkOk_by (own := [("at", 6)]) (N := N_swept_rows) (by kernel_rfl)) (fun _ _ _ _ _ => (pg_name (i := 6) sc_swept_rows.nd rfl (by first | exact Or.inl rfl | exact Or.inr rfl))) (fun _ _ _ _ _ => pts_nil) (fun _ _ _ _ _ => (pe_callTy call_tuple_of (by rfl) B.tuple (by decide +kernel) (pa_cons (pe_ix ix_list (pv 3) (pv 6) (fun _ _ => rfl)) pa_nil)))))) pss_nil)
  (pss_one (ps_ret (pe_lc (own := [("at", 6)]) (g := (gName 6)) (tt := tYes) (te := (tCall (spP R_fractions) [] E0 (tCons (tOp (rIxL K) (tVar 3) (tVar 6)) (tCons (tOp (rIxL K) (tVar 4) (tVar 6)) tNil)))) rfl sc_swept_rows.nd (pi_list (pv 5)) (blkOk_by (own := [("at", 6)]) (N := N_swept_rows) (by kernel_rfl)) (fun _ _ _ _ _ => (pg_name (i := 6) sc_swept_rows.nd rfl (by first | exact Or.inl rfl | exact Or.inr rfl))) (fun _ _ _ _ _ => pts_nil) (fun _ _ _ _ _ => (pe_cal C_fractions (hr.mono (by decide)) rfl (pa_cons (pe_ix ix_list (pv 3) (pv 6) (fun _ _ => rfl)) (pa_cons (pe_ix ix_list (pv 4) (pv 6) (fun _ _ => rfl)) pa_nil))))))))))), fun M ds P' hR hq => ?_⟩
  obtain ⟨F, rows, n, rfl, hn, hrl, hw, hok, rfl⟩ := hR
  refine sd_no ((et_test (Ev.r (ev_op (Ev.r (ev_var rfl)) (Ev.r ev_int) rv_B0))).is (decide_eq_false (by omega))) ?_
  cases F with
  | z p hp =>
    have hpp := prime_pos hp
    refine ss_unpR (js := [3] ++ [4]) (ev_ifT (et_truth (Ev.r (ev_var rfl)) (tru_p (.z p hp))) (ev_call (ea_cons (ev_var rfl) (ea_cons (ev_var rfl) (ea_cons (ev_var rfl) ea_nil))) ⟨p, hp, rows, n, rfl, hn, hrl, hw, rfl⟩)) ?_
    rintro d ⟨S, ls, rfl, hk, h1, hs⟩
    refine ⟨_, eg_tup2 eg_name eg_name, ?_⟩
    have lS := hk.le
    have lsl := hk.len
    refine ss_asg (EvN.evE (en_sortLam (ns := ls.map fun l : Nat => (l : Int)) rfl (by rw [cast_map]; rfl) (Ev.r ((ev_cb (Ev.r (ev_var rfl)) (rc_len (ds := ls.map nD) rfl)).is (by simp))) (by simp; omega))) ?_
    refine sd_yes (et_truth (Ev.r (ev_var rfl)) (tru_p (.z p hp))) ?_
    have hpm := idx_perm (ls.map fun l : Nat => (l : Int))
    have kin : ∀ k ∈ idxBy (ls.map fun l : Nat => (l : Int)), k < S.length := fun k hk2 => by have := List.mem_range.mp (hpm.mem_iff.mp hk2); simp at this; omega
    refine sd_ret (Ev.r (EvN.evE (en_lst' (idxBy (ls.map fun l : Nat => (l : Int))) nD (fun k => rowZ (S.getD k [])) (ev_var rfl) (by rw [hpm.length_eq]; simp; omega) fun l acc k hk2 => ⟨[6], _, eg_name, fun _ h => h,
      (ev_cb (Ev.r (ev_op (Ev.r (ev_var rfl)) (Ev.r (ev_var rfl)) (rv_ixL (d := rowZL (S.getD k [])) (atI_nat (by rw [List.getElem?_map, get_getD (kin k hk2) []]; rfl))))) (rc_tuple rfl))⟩))) hq
      ⟨(idxBy (ls.map fun l : Nat => (l : Int))).map fun k => S.getD k [], (idxBy (ls.map fun l : Nat => (l : Int))).map fun k => ls.getD k 0, by show _ = D.lst (((idxBy (ls.map fun l : Nat => (l : Int))).map fun k => S.getD k []).map rowZ); rw [List.map_map]; rfl, ?_⟩
    obtain ⟨w1, w2⟩ := hk.swept (ord := idxBy (ls.map fun l : Nat => (l : Int))) (T := (idxBy (ls.map fun l : Nat => (l : Int))).map fun k => S.getD k []) (by have := hpm; rw [List.length_map, ← lsl] at this; exact this) (idx_up hk.nd) (by simp) (fun t ht => by
      obtain ⟨k, hk2, rfl⟩ := List.mem_map.mp ht
      exact hk.wid _ (mem_getD (kin k hk2) [])) (fun j k t hj ht i => by
        rw [List.getElem?_map, hj] at ht
        have et : S.getD k [] = t := Option.some.inj ht
        have hkS := kin k (List.mem_of_getElem? hj)
        have one := h1 k _ _ (get_getD hkS []) (get_getD (by omega : k < ls.length) 0)
        rw [one, ← et]
        have e1 : (1 : Zp p hp)⁻¹ = 1 := by have := Fld.mulI (1 : Zp p hp) Fld.ne01; rw [omul] at this; exact this
        rw [e1, omul])
    exact ⟨w1, w2.trans hs⟩
  | q =>
    obtain ⟨hmin, b, hb, hcd⟩ := hok
    refine ss_unpR (js := [3] ++ [4]) (ev_ifF (et_truth (Ev.r (ev_var rfl)) (tru_p .q)) (ev_call (ea_cons (ev_var rfl) (ea_cons (ev_var rfl) ea_nil)) ⟨rows, n, b, rfl, hn, hrl, hmin, fun r hr => ⟨hw r hr, hcd r hr⟩, hb, rfl⟩)) ?_
    rintro d ⟨S, ls, rfl, hk, hs⟩
    refine ⟨_, eg_tup2 eg_name eg_name, ?_⟩
    have lS : S.length ≤ n := by have := hk.le; simpa using this
    have lsl : S.length = ls.length := by have := hk.len; simpa using this
    refine ss_asg (EvN.evE (en_sortLam (ns := ls.map fun l : Nat => (l : Int)) rfl (by rw [cast_map]; rfl) (Ev.r ((ev_cb (Ev.r (ev_var rfl)) (rc_len (ds := ls.map nD) rfl)).is (by simp))) (by simp; omega))) ?_
    refine sd_no (et_truth (Ev.r (ev_var rfl)) (tru_p .q)) ?_
    have hpm := idx_perm (ls.map fun l : Nat => (l : Int))
    have kin : ∀ k ∈ idxBy (ls.map fun l : Nat => (l : Int)), k < S.length := fun k hk2 => by have := List.mem_range.mp (hpm.mem_iff.mp hk2); simp at this; omega
    have facts : ∀ k, k < S.length → (S.getD k []).length = n ∧ ls.getD k 0 < n ∧ (S.getD k []).getD (ls.getD k 0) 0 ≠ 0 := fun k hkS => by
      have e1 : (S.map ir)[k]? = some (ir (S.getD k [])) := by rw [List.getElem?_map, get_getD hkS []]; rfl
      have e2 := get_getD (by omega : k < ls.length) 0
      have a := hk.wid _ (List.mem_of_getElem? e1)
      rw [ir_len] at a
      exact ⟨a, hk.lt _ (List.mem_of_getElem? e2), fun z => hk.nz k _ _ e1 e2 (by rw [g_ir, z]; rfl)⟩
    refine sd_ret (Ev.r (EvN.evE (en_lst' (idxBy (ls.map fun l : Nat => (l : Int))) nD (fun k => rowQ ((S.getD k []).map fun x => Rat.divInt x ((S.getD k []).getD (ls.getD k 0) 0))) (ev_var rfl) (by rw [hpm.length_eq]; simp; omega) fun l acc k hk2 => ⟨[6], _, eg_name, fun _ h => h,
      ev_call (ea_cons (ev_op (Ev.r (ev_var rfl)) (Ev.r (ev_var rfl)) (rv_ixL (d := rowI (S.getD k [])) (atI_nat (by rw [List.getElem?_map, get_getD (kin k hk2) []]; rfl)))) (ea_cons (ev_op (Ev.r (ev_var rfl)) (Ev.r (ev_var rfl)) (rv_ixL (d := nD (ls.getD k 0)) (atI_nat (by rw [List.getElem?_map, get_getD (by have := kin k hk2; omega) 0]; rfl)))) ea_nil))
        ⟨_, _, rfl, by rw [(facts k (kin k hk2)).1]; omega, by rw [(facts k (kin k hk2)).1]; exact (facts k (kin k hk2)).2.1, (facts k (kin k hk2)).2.2, rfl⟩⟩))) hq
      ⟨(idxBy (ls.map fun l : Nat => (l : Int))).map fun k => (S.getD k []).map fun x => Rat.divInt x ((S.getD k []).getD (ls.getD k 0) 0), (idxBy (ls.map fun l : Nat => (l : Int))).map fun k => ls.getD k 0, by show _ = D.lst (((idxBy (ls.map fun l : Nat => (l : Int))).map fun k => (S.getD k []).map fun x => Rat.divInt x ((S.getD k []).getD (ls.getD k 0) 0)).map rowQ); rw [List.map_map]; rfl, ?_⟩
    obtain ⟨w1, w2⟩ := hk.swept (ord := idxBy (ls.map fun l : Nat => (l : Int))) (T := (idxBy (ls.map fun l : Nat => (l : Int))).map fun k => (S.getD k []).map fun x => Rat.divInt x ((S.getD k []).getD (ls.getD k 0) 0)) (by have := hpm; rw [List.length_map, ← lsl] at this; rw [List.length_map]; exact this) (idx_up hk.nd) (by simp) (fun t ht => by
      obtain ⟨k, hk2, rfl⟩ := List.mem_map.mp ht
      rw [List.length_map]; exact (facts k (kin k hk2)).1) (fun j k t hj ht i => by
        rw [List.getElem?_map, hj] at ht
        have et := Option.some.inj ht
        have hkS := kin k (List.mem_of_getElem? hj)
        have e1 : (S.map ir).getD k [] = ir (S.getD k []) := getD_map ir S k [] [] rfl
        rw [e1, ← et, g_ir, g_ir]
        have e2 : g ((S.getD k []).map fun x => Rat.divInt x ((S.getD k []).getD (ls.getD k 0) 0)) i = Rat.divInt ((S.getD k []).getD i 0) ((S.getD k []).getD (ls.getD k 0) 0) := getD_map (fun x => Rat.divInt x ((S.getD k []).getD (ls.getD k 0) 0)) _ i 0 0 (Rat.zero_divInt _)
        rw [e2, divI, Rat.mul_comm])
    exact ⟨w1, w2.trans hs⟩
end
end E
namespace E
open PySem PySem.Spec PyProof.Rows L2 TL
section
variable {P : Program} {w : World} {K : PySem.W.Frag} {mg : Str → Option Value} {base : Heap}
abbrev s_dot : Stmt := topS 32
abbrev N_dot : List Str := ["p", "one", "other", "a", "b", "top", "bottom", "c", "d"]
abbrev p_dot : List Str := ["p", "one", "other"]
theorem sc_dot : FnScope N_dot p_dot (defScope s_dot) := ⟨rfl, rfl, rfl, by decide +kernel, rfl, by decide +kernel, by decide +kernel⟩
abbrev s_led_row : Stmt := topS 34
abbrev N_led_row : List Str := ["p", "row", "table", "width", "column"]
abbrev p_led_row : List Str := ["p", "row", "table", "width"]
theorem sc_led_row : FnScope N_led_row p_led_row (defScope s_led_row) := ⟨rfl, rfl, rfl, by decide +kernel, rfl, by decide +kernel, by decide +kernel⟩
abbrev s_table_times : Stmt := topS 35
abbrev N_table_times : List Str := ["p", "one", "other", "columns", "row", "column"]
abbrev p_table_times : List Str := ["p", "one", "other"]
theorem sc_table_times : FnScope N_table_times p_table_times (defScope s_table_times) := ⟨rfl, rfl, rfl, by decide +kernel, rfl, by decide +kernel, by decide +kernel⟩
abbrev s_unit_rows : Stmt := topS 36
abbrev N_unit_rows : List Str := ["p", "n", "zero", "one", "k", "at"]
abbrev p_unit_rows : List Str := ["p", "n"]
theorem sc_unit_rows : FnScope N_unit_rows p_unit_rows (defScope s_unit_rows) := ⟨rfl, rfl, rfl, by decide +kernel, rfl, by decide +kernel, by decide +kernel⟩
abbrev s_leads_of : Stmt := topS 37
abbrev N_leads_of : List Str := ["p", "rows", "zero", "row"]
abbrev p_leads_of : List Str := ["p", "rows"]
theorem sc_leads_of : FnScope N_leads_of p_leads_of (defScope s_leads_of) := ⟨rfl, rfl, rfl, by decide +kernel, rfl, by decide +kernel, by decide +kernel⟩
abbrev s_undone_table : Stmt := topS 38
abbrev N_undone_table : List Str := ["p", "table", "n", "rows", "row", "unit", "swept"]
abbrev p_undone_table : List Str := ["p", "table"]
theorem sc_undone_table : FnScope N_undone_table p_undone_table (defScope s_undone_table) := ⟨rfl, rfl, rfl, by decide +kernel, rfl, by decide +kernel, by decide +kernel⟩
def EbF (b : Nat) : (F : Fm) → F.α → Prop
  | .q, x => Eb b x
  | .z _ _, _ => True
def R_dot (ds : List D) (P : D → Prop) : Prop := ∃ (F : Fm) (d1 d2 : D) (r o : List F.α) (b : Nat), ds = [.int F.p, d1, d2] ∧ seqD d1 = some (r.map F.enc) ∧ seqD d2 = some (o.map F.enc) ∧ r.length ≤ 64 ∧ r.length = o.length ∧ b ≤ 20000 ∧ (∀ x ∈ r, EbF b F x) ∧ (∀ x ∈ o, EbF b F x) ∧ P = (· = F.enc (dotl r o))
theorem R_dot_cases {ds : List D} {P : D → Prop} (h : R_dot ds P) : (∃ (p : Int) (hp : p ∈ primes) (d1 d2 : D) (r o : List (Zp p hp)), ds = [.int p, d1, d2] ∧ seqD d1 = some (r.map encZ) ∧ seqD d2 = some (o.map encZ) ∧ r.length ≤ 64 ∧ r.length = o.length ∧ P = (· = encZ (dotl r o))) ∨
    ∃ (d1 d2 : D) (r o : List Rat) (b : Nat), ds = [.int 0, d1, d2] ∧ seqD d1 = some (r.map encQ) ∧ seqD d2 = some (o.map encQ) ∧ r.length ≤ 64 ∧ r.length = o.length ∧ b ≤ 20000 ∧ (∀ x ∈ r, Eb b x) ∧ (∀ x ∈ o, Eb b x) ∧ P = (· = encQ (dotl r o)) := by
  obtain ⟨F, d1, d2, r, o, b, e, h1, h2, hl, hlen, hb, br, bo, eP⟩ := h
  cases F with
  | z p hp => exact .inl ⟨p, hp, d1, d2, r, o, e, h1, h2, hl, hlen, eP⟩
  | q => exact .inr ⟨d1, d2, r, o, b, e, h1, h2, hl, hlen, hb, br, bo, eP⟩
theorem c_dot (h : Has K mg "dot" s_dot p_dot) (B : Bi mg) (C_lowest : Cal P w K mg base "lowest" 41 p_lowest (spP R_lowest)) : Cal P w K mg base "dot" 42 p_dot (spP R_dot) := by
  refine mkP h sc_dot (fun ds P h => by obtain ⟨_, _, _, _, _, _, rfl, _⟩ := h; rfl) fun cdv A outer s H Q E f hr => ⟨(tSeq (tIfS (tTru K (tVar 0)) (tRet (tOp rModI (tCB (rSum K) (tCons (tLc (iZipS K (tCons (tVar 1) (tCons (tVar 2) tNil))) (gTup K 2 (gCons (gName 3) (gCons (gName 4) gNil))) tYes (tOp rMulI (tVar 3) (tVar 4)) [3, 4]) tNil)) (tVar 0))) tNext)
  (tSeq (tAsg (tTup (tCons (tC (.int 0)) (tCons (tC (.int 1)) tNil))) (gTup K 2 (gCons (gName 5) (gCons (gName 6) gNil))))
  (tSeq (tFor (iZipS K (tCons (tVar 1) (tCons (tVar 2) tNil))) (gTup K 2 (gCons (gTup K 2 (gCons (gName 3) (gCons (gName 4) gNil))) (gCons (gTup K 2 (gCons (gName 7) (gCons (gName 8) gNil))) gNil))) (tIfS (tAnd (tTru K (tVar 3)) (tTru K (tVar 7))) (tIfS (tAnd (tTest (tOp rEq (tVar 4) (tC (.int 1)))) (tTest (tOp rEq (tVar 8) (tC (.int 1))))) (tAsg (tOp rAddI (tVar 5) (tOp rMulI (tOp rMulI (tVar 3) (tVar 7)) (tVar 6))) (gName 5)) (tAsg (tCall (spP R_lowest) [] E0 (tCons (tOp rAddI (tOp rMulI (tOp rMulI (tVar 5) (tVar 4)) (tVar 8)) (tOp rMulI (tOp rMulI (tVar 3) (tVar 7)) (tVar 6))) (tCons (tOp rMulI (tOp rMulI (tVar 6) (tVar 4)) (tVar 8)) tNil))) (gTup K 2 (gCons (gName 5) (gCons (gName 6) gNil))))) tNext))
  (tRet (tCall (spP R_lowest) [] E0 (tCons (tVar 5) (tCons (tVar 6) tNil))))))),
  (pss_cons (ps_if (pt_truth (pv 0) (by intro _; rfl)) (pss_one (ps_ret (pe_op op_modN (pe_callB (cr_sum rfl) (by rfl) B.sum (by decide +kernel) (pa_cons (pe_lc (own := [("a", 3), ("b", 4)]) (g := (gTup K 2 (gCons (gName 3) (gCons (gName 4) gNil)))) (tt := tYes) (te := (tOp rMulI (tVar 3) (tVar 4))) rfl sc_dot.nd (pi_zipS rfl B.zip (pa_cons (pv 1) (pa_cons (pv 2) pa_nil))) (blkOk_by (own := [("a", 3), ("b", 4)]) (N := N_dot) (by kernel_rfl)) (fun _ _ _ _ _ => (pg_tup rfl (pgs_cons (pg_name (i := 3) sc_dot.nd rfl (by first | exact Or.inl rfl | exact Or.inr rfl)) (pgs_cons (pg_name (i := 4) sc_dot.nd rfl (by first | exact Or.inl rfl | exact Or.inr rfl)) pgs_nil)))) (fun _ _ _ _ _ => pts_nil) (fun _ _ _ _ _ => (pe_op op_mulI (pv 3) (pv 4)))) pa_nil)) (pv 0)))) pss_nil)
  (pss_cons (ps_asg (pe_tup (pa_cons pe_int (pa_cons pe_int pa_nil))) (pg_tup rfl (pgs_cons (pg_name (i := 5) sc_dot.nd rfl (by first | exact Or.inl rfl | exact Or.inr rfl)) (pgs_cons (pg_name (i := 6) sc_dot.nd rfl (by first | exact Or.inl rfl | exact Or.inr rfl)) pgs_nil))))
  (pss_cons (ps_for PassesOwn.never rfl (pi_zipS rfl B.zip (pa_cons (pv 1) (pa_cons (pv 2) pa_nil))) (pg_tup rfl (pgs_cons (pg_tup rfl (pgs_cons (pg_name (i := 3) sc_dot.nd rfl (by first | exact Or.inl rfl | exact Or.inr rfl)) (pgs_cons (pg_name (i := 4) sc_dot.nd rfl (by first | exact Or.inl rfl | exact Or.inr rfl)) pgs_nil))) (pgs_cons (pg_tup rfl (pgs_cons (pg_name (i := 7) sc_dot.nd rfl (by first | exact Or.inl rfl | exact Or.inr rfl)) (pgs_cons (pg_name (i := 8) sc_dot.nd rfl (by first | exact Or.inl rfl | exact Or.inr rfl)) pgs_nil))) pgs_nil))) (pss_one (ps_if (PW.pt (pw_and (pt_truth (pv 3) (by intro _; rfl)) (pw_and1 (pt_truth (pv 7) (by intro _; rfl))))) (pss_one (ps_if (PW.pt (pw_and (pt_cmpR op_eq (pv 4) pe_int (nomark _)) (pw_and1 (pt_cmpR op_eq (pv 8) pe_int (nomark _))))) (pss_one (ps_asg (pe_op op_add (pv 5) (pe_op op_mulI (pe_op op_mulI (pv 3) (pv 7)) (pv 6))) (pg_name (i := 5) sc_dot.nd rfl (by first | exact Or.inl rfl | exact Or.inr rfl)))) (pss_one (ps_asg (pe_cal C_lowest (hr.mono (by decide)) rfl (pa_cons (pe_op op_add (pe_op op_mulI (pe_op op_mulI (pv 5) (pv 4)) (pv 8)) (pe_op op_mulI (pe_op op_mulI (pv 3) (pv 7)) (pv 6))) (pa_cons (pe_op op_mulI (pe_op op_mulI (pv 6) (pv 4)) (pv 8)) pa_nil))) (pg_tup rfl (pgs_cons (pg_name (i := 5) sc_dot.nd rfl (by first | exact Or.inl rfl | exact Or.inr rfl)) (pgs_cons (pg_name (i := 6) sc_dot.nd rfl (by first | exact Or.inl rfl | exact Or.inr rfl)) pgs_nil))))))) pss_nil)))
  (pss_one (ps_ret (pe_cal C_lowest (hr.mono (by decide)) rfl (pa_cons (pv 5) (pa_cons (pv 6) pa_nil)))))))), fun M ds P' hR hq => ?_⟩
  rcases R_dot_cases hR with ⟨p, hp, d1, d2, r, o, rfl, h1, h2, hl, hlen, rfl⟩ | ⟨d1, d2, r, o, b, rfl, h1, h2, hl, hlen, hb, br, bo, rfl⟩
  · have hpp := prime_pos hp
    refine sd_yes (et_truth (Ev.r (ev_var rfl)) (tru_p (.z p hp))) ?_
    refine sd_ret (Ev.r ((ev_op (Ev.r (ev_cb (d1 := .lst (((r.zip o).map fun q : Zp p hp × Zp p hp => q.1.1 * q.2.1).map D.int)) (Ev.r (EvN.evE ((en_lcM (r.zip o) (fun q : Zp p hp × Zp p hp => pairD (encZ q.1, encZ q.2)) (fun q => D.int (q.1.1 * q.2.1)) (EvI.o ((ei_zip (ea_cons (ev_var rfl) (ea_cons (ev_var rfl) ea_nil)) h1 h2).is (zipD (encZ (h := hp)) r o))) (by simp; omega)
      fun l2 acc q hq => ⟨[3, 4], _, eg_tup2 eg_name eg_name, fun _ h => h, ev_op (Ev.r (ev_var rfl)) (Ev.r (ev_var rfl)) (rv_I ((zp_small _).cm (zp_small _) (by decide)))⟩).is (List.map_map (g := D.int) (f := fun q : Zp p hp × Zp p hp => q.1.1 * q.2.1) (l := List.zip r o)).symm))) rc_sum)) (Ev.r (ev_var rfl)) (rv_I (by show p ≠ 0; omega))).is (congrArg D.int (dot_z r o)))) hq rfl
  · refine sd_no (et_truth (Ev.r (ev_var rfl)) (tru_p .q)) ?_
    refine ss_unp (ev_tup (ea_cons ev_int (ea_cons ev_int ea_nil))) (eg_tup2 eg_name eg_name) ?_
    refine ss_for ((ei_zip (ea_cons (ev_var rfl) (ea_cons (ev_var rfl) ea_nil)) h1 h2).is (zipD encQ r o)) (fun H1 i c1 δ1 => c1 = Ct.loop _ H1 ∧ ∃ (top bot : Int) (x3 x4 x7 x8 : Sl), 0 < bot ∧ Bt (i * (2 * b + 2) + 1) top ∧ Bt (i * (2 * b + 2) + 1) bot ∧ Rat.divInt top bot + dotl (r.drop i) (o.drop i) = dotl r o ∧
        δ1 = [some (.inl (.int 0)), some (.inl d1), some (.inl d2), x3, x4, some (.inl (.int top)), some (.inl (.int bot)), x7, x8])
      (fun H1 => ⟨rfl, 0, 1, none, none, none, none, by decide, by show _ < _; simp, by show _ < _; simp, by rw [Rat.zero_divInt, Rat.zero_add]; rfl, rfl⟩) (fun H1 i c1 δ1 hI => by obtain ⟨rfl, _⟩ := hI; exact ⟨rfl, fun b hb => .inl hb⟩) ?_ ?_
    · rintro H1 i d c1 δ1 hd ⟨rfl, top, bot, x3, x4, x7, x8, hbot, bt, bb, hsum, rfl⟩
      have hi : i < (r.zip o).length := by simpa using (List.getElem?_eq_some_iff.mp hd).1
      have hir : i < r.length := by simp at hi; omega
      have hio : i < o.length := by omega
      have ed : d = pairD (encQ r[i], encQ o[i]) := by
        rw [List.getElem?_map, List.getElem?_eq_getElem hi] at hd
        rw [List.getElem_zip] at hd
        exact (Option.some.inj hd).symm
      subst ed
      have e1 : r.drop i = r[i] :: r.drop (i + 1) := List.drop_eq_getElem_cons hir
      have e2 : o.drop i = o[i] :: o.drop (i + 1) := List.drop_eq_getElem_cons hio
      have hsum : Rat.divInt top bot + (r[i] * o[i] + dotl (r.drop (i + 1)) (o.drop (i + 1))) = dotl r o := by rw [e1, e2] at hsum; exact hsum
      have bx := br r[i] (List.getElem_mem hir)
      have bx2 := bo o[i] (List.getElem_mem hio)
      generalize r[i] = x at *
      generalize o[i] = y at *
      have hi64 : i * (2 * b + 2) ≤ 64 * 40002 := Nat.mul_le_mul (by omega) (by omega)
      generalize ht : i * (2 * b + 2) = t at *
      have et1 : (i + 1) * (2 * b + 2) = t + 2 * b + 2 := by rw [Nat.add_mul, ht]; omega
      refine ⟨([3] ++ [4]) ++ ([7] ++ [8]), _, eg_tup2 (eg_tup2 eg_name eg_name) (eg_tup2 eg_name eg_name), ?_⟩
      by_cases hz : x.num = 0 ∨ y.num = 0
      · refine sd_ifE (k := false) ((et_andE (et_truth (Ev.r (ev_var rfl)) rfl) fun _ => et_truth (Ev.r (ev_var rfl)) rfl).is (by
          rcases hz with z | z
          · rw [z]; rfl
          · rw [z]; cases (x.num != 0) <;> rfl)) (fun e => by cases e) fun _ => sd_next (nx_I ⟨rfl, top, bot, _, _, _, _, hbot, bt.mono (by omega), bb.mono (by omega), ?_, rfl⟩)
        rw [← hsum]
        have : x * y = 0 := by
          rcases hz with z | z
          · rw [num0 z, Rat.zero_mul]
          · rw [num0 z, Rat.mul_zero]
        rw [this, Rat.zero_add]
      · have hx : (x.num != 0) = true := bne_iff_ne.mpr fun z => hz (.inl z)
        have hy : (y.num != 0) = true := bne_iff_ne.mpr fun z => hz (.inr z)
        refine sd_ifE (k := true) ((et_andE (et_truth (Ev.r (ev_var rfl)) rfl) fun _ => et_truth (Ev.r (ev_var rfl)) rfl).is (by rw [hx, hy]; rfl)) (fun _ => ?_) fun e => by cases e
        have bac : Bt (b + b) (x.num * y.num) := bx.1.mul bx2.1
        have bacb : Bt (b + b + (t + 1)) (x.num * y.num * bot) := bac.mul bb
        have btd : Bt (t + 1 + b) (top * (x.den : Nat)) := bt.mul bx.2
        have btdd : Bt (t + 1 + b + b) (top * (x.den : Nat) * (y.den : Nat)) := btd.mul bx2.2
        have bbd : Bt (t + 1 + b) (bot * (x.den : Nat)) := bb.mul bx.2
        have bbdd : Bt (t + 1 + b + b) (bot * (x.den : Nat) * (y.den : Nat)) := bbd.mul bx2.2
        by_cases hone : x.den = 1 ∧ y.den = 1
        · refine sd_ifE (k := true) ((et_andE (et_test (Ev.r (ev_op (Ev.r (ev_var rfl)) (Ev.r ev_int) rv_eqI))) fun _ => et_test (Ev.r (ev_op (Ev.r (ev_var rfl)) (Ev.r ev_int) rv_eqI))).is (by rw [hone.1, hone.2]; rfl)) (fun _ => ?_) fun e => by cases e
          refine sd_asg (ev_op (Ev.r (ev_var rfl)) (Ev.r (ev_op (Ev.r (ev_op (Ev.r (ev_var rfl)) (Ev.r (ev_var rfl)) (rv_I (bx.1.cm bx2.1 (by omega))))) (Ev.r (ev_var rfl)) (rv_I (bac.cm bb (by omega))))) rv_I0) ?_
          refine nx_I ⟨rfl, _, bot, _, _, _, _, hbot, ?_, bb.mono (by omega), ?_, rfl⟩
          · rw [et1]
            exact Bt.mono ((bt.mono (by omega : t + 1 ≤ b + b + (t + 1))).add bacb) (by omega)
          · rw [dot_step1 x y (by omega) hone.1 hone.2, Rat.add_assoc, hsum]
        · refine sd_ifE (k := false) ((et_andE (et_test (Ev.r (ev_op (Ev.r (ev_var rfl)) (Ev.r ev_int) rv_eqI))) fun _ => et_test (Ev.r (ev_op (Ev.r (ev_var rfl)) (Ev.r ev_int) rv_eqI))).is (by
            by_cases q : x.den = 1
            · have : ¬ ((y.den : Nat) : Int) = 1 := fun z => hone ⟨q, by omega⟩
              rw [decide_eq_false this, Bool.and_false]
            · have : ¬ ((x.den : Nat) : Int) = 1 := fun z => q (by omega)
              rw [decide_eq_false this, Bool.false_and])) (fun e => by cases e) fun _ => ?_
          have hnz : bot * (x.den : Nat) * (y.den : Nat) ≠ 0 := Int.mul_ne_zero (Int.mul_ne_zero (by omega) (den_ne x)) (den_ne y)
          refine sd_unp (js := [5] ++ [6]) (ev_call (ea_cons (ev_op (Ev.r (ev_op (Ev.r (ev_op (Ev.r (ev_var rfl)) (Ev.r (ev_var rfl)) (rv_I (bt.cm bx.2 (by omega))))) (Ev.r (ev_var rfl)) (rv_I (btd.cm bx2.2 (by omega))))) (Ev.r (ev_op (Ev.r (ev_op (Ev.r (ev_var rfl)) (Ev.r (ev_var rfl)) (rv_I (bx.1.cm bx2.1 (by omega))))) (Ev.r (ev_var rfl)) (rv_I (bac.cm bb (by omega))))) rv_I0)
            (ea_cons (ev_op (Ev.r (ev_op (Ev.r (ev_var rfl)) (Ev.r (ev_var rfl)) (rv_I (bb.cm bx.2 (by omega))))) (Ev.r (ev_var rfl)) (rv_I (bbd.cm bx2.2 (by omega)))) ea_nil)) ⟨_, _, rfl, hnz, rfl⟩) fun d e => ?_
          subst e
          refine ⟨_, encQ_eg, nx_I ⟨rfl, _, _, _, _, _, _, ?_, ?_, ?_, ?_, rfl⟩⟩
          · have := Rat.den_pos (Rat.divInt (top * (x.den : Nat) * (y.den : Nat) + x.num * y.num * bot) (bot * (x.den : Nat) * (y.den : Nat))); omega
          · rw [et1]
            refine Bt.le (Bt.mono ((btdd.mono (by omega : t + 1 + b + b ≤ b + b + (t + 1))).add bacb) (by omega)) (num_le hnz).1
          · rw [et1]
            refine Bt.le (Bt.mono bbdd (by omega)) ?_
            rw [Int.natAbs_natCast]; exact (num_le hnz).2
          · rw [self_div, dot_step x y (by omega), Rat.add_assoc, hsum]
    · rintro H1 c1 δ1 ⟨rfl, top, bot, x3, x4, x7, x8, hbot, bt, bb, hsum, rfl⟩
      refine sd_ret (Ev.r (ev_call (ea_cons (ev_var rfl) (ea_cons (ev_var rfl) ea_nil)) ⟨top, bot, rfl, by omega, rfl⟩)) hq ?_
      have e1 : r.drop (((r.zip o).map fun q : Rat × Rat => pairD (encQ q.1, encQ q.2)).length) = [] := List.drop_eq_nil_of_le (by simp; omega)
      rw [e1] at hsum
      have e3 : Rat.divInt top bot = dotl r o := by rw [← hsum]; exact (Rat.add_zero _).symm
      rw [e3]
end
end E
namespace E
open PySem PySem.Spec PyProof.Rows L2 TL
section
variable {P : Program} {w : World} {K : PySem.W.Frag} {mg : Str → Option Value} {base : Heap}
def colD {F : Fm} (tab : List (List F.α)) (k : Nat) : D := .lst ((tab.map fun t => g t k).map F.enc)
theorem cols_eq {F : Fm} {tab : List (List F.α)} {n : Nat} (hw : ∀ t ∈ tab, t.length = n) : ((List.range n).map fun k => D.lst ((tab.map fun t => t.map F.enc).map fun r => r.getD k .non)) = (List.range n).map (colD tab) := by
  refine List.map_congr_left fun k hk => ?_
  unfold colD
  rw [List.map_map, List.map_map]
  congr 1
  refine List.map_congr_left fun t ht => ?_
  have hk2 : k < t.length := by rw [hw t ht]; exact List.mem_range.mp hk
  show (t.map F.enc).getD k .non = F.enc (g t k)
  rw [List.getD_eq_getElem?_getD, List.getElem?_map, List.getElem?_eq_getElem hk2, g_lt hk2]; rfl
theorem rows_eq {F : Fm} (tab : List (List F.α)) : (tab.map fun t => t.map F.enc).map D.tup = tab.map F.row := by rw [List.map_map]; rfl
def lrow {α : Type} [Fld α] (n : Nat) (tab : List (List α)) (r : List α) : List α := (List.range n).map fun k => lin r tab k
def R_led_row (ds : List D) (P : D → Prop) : Prop := ∃ (F : Fm) (row : List F.α) (tab : List (List F.α)) (n b : Nat), ds = [.int F.p, F.row row, .lst (tab.map F.row), nD n] ∧ n ≤ 64 ∧ row.length = tab.length ∧ row.length ≤ 64 ∧ (∀ t ∈ tab, t.length = n) ∧ b ≤ 20000 ∧ (∀ x ∈ row, EbF b F x) ∧ (∀ t ∈ tab, ∀ x ∈ t, EbF b F x) ∧
  P = (· = F.row (lrow n tab row))
theorem c_led_row (h : Has K mg "led_row" s_led_row p_led_row) (B : Bi mg) (C_columns_of : Cal P w K mg base "columns_of" 41 p_columns_of (spP R_columns_of)) (C_dot : Cal P w K mg base "dot" 42 p_dot (spP R_dot)) : Cal P w K mg base "led_row" 43 p_led_row (spP R_led_row) := by
  refine mkP h sc_led_row (fun ds P h => by obtain ⟨_, _, _, _, _, rfl, _⟩ := h; rfl) fun cdv A outer s H Q E f hr => ⟨(tRet (tCB (rTupQ K) (tCons (tLc (iList K (tCall (spP R_columns_of) [] E0 (tCons (tVar 2) (tCons (tVar 3) tNil)))) (gName 4) tYes (tCall (spP R_dot) [] E0 (tCons (tVar 0) (tCons (tVar 1) (tCons (tVar 4) tNil)))) [4]) tNil))),
  (pss_one (ps_ret (pe_callTy call_tuple_of (by rfl) B.tuple (by decide +kernel) (pa_cons (pe_lc (own := [("column", 4)]) (g := (gName 4)) (tt := tYes) (te := (tCall (spP R_dot) [] E0 (tCons (tVar 0) (tCons (tVar 1) (tCons (tVar 4) tNil))))) rfl sc_led_row.nd (pi_list (pe_cal C_columns_of (hr.mono (by decide)) rfl (pa_cons (pv 2) (pa_cons (pv 3) pa_nil)))) (blkOk_by (own := [("column", 4)]) (N := N_led_row) (by kernel_rfl)) (fun _ _ _ _ _ => (pg_name (i := 4) sc_led_row.nd rfl (by first | exact Or.inl rfl | exact Or.inr rfl))) (fun _ _ _ _ _ => pts_nil) (fun _ _ _ _ _ => (pe_cal C_dot (hr.mono (by decide)) rfl (pa_cons (pv 0) (pa_cons (pv 1) (pa_cons (pv 4) pa_nil)))))) pa_nil)))), fun M ds P' hR hq => ?_⟩
  obtain ⟨F, row, tab, n, b, rfl, hn, hlen, hl, hw, hb, br, bt, rfl⟩ := hR
  refine sd_ret (Ev.r (ev_cb (Ev.r (EvN.evE (en_lst' (List.range n) (colD tab) (fun k => F.enc (lin row tab k)) ((ev_call (ea_cons (ev_var rfl) (ea_cons (ev_var rfl) ea_nil)) ⟨tab.map fun t => t.map F.enc, n, by rw [rows_eq]; rfl, by omega, by rw [List.length_map]; omega, (fun r hr => by obtain ⟨t, ht, rfl⟩ := List.mem_map.mp hr; rw [List.length_map]; exact hw t ht), rfl⟩).is (congrArg D.lst (cols_eq hw))) (by simp; omega)
    fun l acc k hk => ⟨[4], _, eg_name, fun _ h => h, (ev_call (ea_cons (ev_var rfl) (ea_cons (ev_var rfl) (ea_cons (ev_var rfl) ea_nil))) ⟨F, F.row row, colD tab k, row, tab.map fun t => g t k, b, rfl, rfl, rfl, hl, by rw [List.length_map]; exact hlen, hb, br, (fun x hx => by
      obtain ⟨t, ht, rfl⟩ := List.mem_map.mp hx
      have hk2 : k < t.length := by rw [hw t ht]; exact List.mem_range.mp hk
      rw [g_lt hk2]; exact bt t ht _ (List.getElem_mem hk2)), rfl⟩).is (congrArg F.enc dotl_lin)⟩))) (rc_tuple rfl))) hq ?_
  show D.tup _ = D.tup _
  unfold lrow
  rw [List.map_map]; rfl
def tabD (F : Fm) (tab : List (List F.α)) : D := .tup (tab.map F.row)
def R_table_times (ds : List D) (P : D → Prop) : Prop := ∃ (F : Fm) (one other : List (List F.α)) (n b : Nat), ds = [.int F.p, .lst (one.map F.row), .lst (other.map F.row)] ∧ n ≤ 64 ∧ one.length ≤ 1000 ∧ other ≠ [] ∧ (∀ r ∈ one, r.length = other.length) ∧ other.length ≤ 64 ∧ (∀ t ∈ other, t.length = n) ∧ b ≤ 20000 ∧ (∀ t ∈ one, ∀ x ∈ t, EbF b F x) ∧ (∀ t ∈ other, ∀ x ∈ t, EbF b F x) ∧
  P = (· = tabD F (one.map (lrow n other)))
theorem c_table_times (h : Has K mg "table_times" s_table_times p_table_times) (B : Bi mg) (C_columns_of : Cal P w K mg base "columns_of" 41 p_columns_of (spP R_columns_of)) (C_dot : Cal P w K mg base "dot" 42 p_dot (spP R_dot)) : Cal P w K mg base "table_times" 43 p_table_times (spP R_table_times) := by
  refine mkP h sc_table_times (fun ds P h => by obtain ⟨_, _, _, _, _, rfl, _⟩ := h; rfl) fun cdv A outer s H Q E f hr => ⟨(tSeq (tAsg (tCall (spP R_columns_of) [] E0 (tCons (tVar 2) (tCons (tCB (rLenQ K) (tCons (tOp (rIxL K) (tVar 2) (tC (.int 0))) tNil)) tNil))) (gName 3))
  (tRet (tCB (rTupQ K) (tCons (tLc (iList K (tVar 1)) (gName 4) tYes (tCB (rTupQ K) (tCons (tLc (iList K (tVar 3)) (gName 5) tYes (tCall (spP R_dot) [] E0 (tCons (tVar 0) (tCons (tVar 4) (tCons (tVar 5) tNil)))) [5]) tNil)) [4]) tNil)))),
  (pss_cons (ps_asg (pe_cal C_columns_of (hr.mono (by decide)) rfl (pa_cons (pv 2) (pa_cons (pe_callB call_len_seq (by rfl) B.len boot_len (pa_cons (pe_ix ix_list (pv 2) pe_int (fun _ _ => rfl)) pa_nil)) pa_nil))) (pg_name (i := 3) sc_table_times.nd rfl (by first | exact Or.inl rfl | exact Or.inr rfl)))
  (pss_one (ps_ret (pe_callTy call_tuple_of (by rfl) B.tuple (by decide +kernel) (pa_cons (pe_lc (own := [("row", 4)]) (g := (gName 4)) (tt := tYes) (te := (tCB (rTupQ K) (tCons (tLc (iList K (tVar 3)) (gName 5) tYes (tCall (spP R_dot) [] E0 (tCons (tVar 0) (tCons (tVar 4) (tCons (tVar 5) tNil)))) [5]) tNil))) rfl sc_table_times.nd (pi_list (pv 1)) (blkOk_by (own := [("row", 4)]) (N := N_table_times) (by kernel_rfl)) (fun _ _ _ _ _ => (pg_name (i := 4) sc_table_times.nd rfl (by first | exact Or.inl rfl | exact Or.inr rfl))) (fun _ _ _ _ _ => pts_nil) (fun _ _ _ _ _ => (pe_callTy call_tuple_of (by rfl) B.tuple (by decide +kernel) (pa_cons (pe_lc (own := [("column", 5)]) (g := (gName 5)) (tt := tYes) (te := (tCall (spP R_dot) [] E0 (tCons (tVar 0) (tCons (tVar 4) (tCons (tVar 5) tNil))))) rfl sc_table_times.nd (pi_list (pv 3)) (blkOk_by (own := [("column", 5)]) (N := N_table_times) (by kernel_rfl)) (fun _ _ _ _ _ => (pg_name (i := 5) sc_table_times.nd rfl (by first | exact Or.inl rfl | exact Or.inr rfl))) (fun _ _ _ _ _ => pts_nil) (fun _ _ _ _ _ => (pe_cal C_dot (hr.mono (by decide)) rfl (pa_cons (pv 0) (pa_cons (pv 4) (pa_cons (pv 5) pa_nil)))))) pa_nil)))) pa_nil))))), fun M ds P' hR hq => ?_⟩
  obtain ⟨F, one, other, n, b, rfl, hn, ho1, hne, hlen, hl, hw, hb, bo, bt, rfl⟩ := hR
  obtain ⟨t0, rest, rfl⟩ : ∃ t0 rest, other = t0 :: rest := by
    cases other with
    | nil => exact absurd rfl hne
    | cons t r => exact ⟨t, r, rfl⟩
  generalize htab : t0 :: rest = tab at *
  have h0 : tab[0]? = some t0 := by rw [← htab]; rfl
  have hl0 : t0.length = n := hw t0 (List.mem_of_getElem? h0)
  refine ss_asg ((ev_call (ea_cons (ev_var rfl) (ea_cons ((ev_cb (Ev.r (ev_op (Ev.r (ev_var rfl)) (Ev.r ev_int) (rv_ixL (d := F.row t0) (atI_nat (j := 0) (by rw [List.getElem?_map, h0]; first | done | rfl))))) (rc_len rfl)).is (d' := nD n) (by rw [List.length_map, hl0]; first | done | rfl)) ea_nil)) ⟨tab.map fun t => t.map F.enc, n, by rw [rows_eq]; rfl, by omega, by rw [List.length_map]; omega, (fun r hr => by obtain ⟨t, ht, rfl⟩ := List.mem_map.mp hr; rw [List.length_map]; exact hw t ht), rfl⟩).is (congrArg D.lst (cols_eq hw))) ?_
  refine sd_ret (Ev.r (ev_cb (Ev.r (EvN.evE (en_lst' one F.row (fun r => F.row (lrow n tab r)) (ev_var rfl) (by omega)
    fun l acc r hr => ⟨[4], _, eg_name, fun _ h => h, (ev_cb (Ev.r (EvN.evE (en_lst' (List.range n) (colD tab) (fun k => F.enc (lin r tab k)) (ev_var rfl) (by simp; omega)
      fun l2 acc2 k hk => ⟨[5], _, eg_name, fun _ h => h, (ev_call (ea_cons (ev_var rfl) (ea_cons (ev_var rfl) (ea_cons (ev_var rfl) ea_nil))) ⟨F, F.row r, colD tab k, r, tab.map fun t => g t k, b, rfl, rfl, rfl, by rw [hlen r hr]; exact hl, by rw [List.length_map]; exact hlen r hr, hb, bo r hr, (fun x hx => by
        obtain ⟨t, ht, rfl⟩ := List.mem_map.mp hx
        have hk2 : k < t.length := by rw [hw t ht]; exact List.mem_range.mp hk
        rw [g_lt hk2]; exact bt t ht _ (List.getElem_mem hk2)), rfl⟩).is (congrArg F.enc dotl_lin)⟩))) (rc_tuple rfl)).is (by show D.tup _ = D.tup _; unfold lrow; rw [List.map_map]; rfl)⟩))) (rc_tuple rfl))) hq ?_
  show D.tup _ = D.tup _
  rw [List.map_map]; rfl
def R_unit_rows (ds : List D) (P : D → Prop) : Prop := ∃ (F : Fm) (n : Nat), ds = [.int F.p, nD n] ∧ n ≤ 64 ∧ P = (· = .lst ((unitL F.α n).map F.row))
theorem c_unit_rows (h : Has K mg "unit_rows" s_unit_rows p_unit_rows) (B : Bi mg) (C_zero_of : Cal P w K mg base "zero_of" 41 p_zero_of (spP R_zero_of)) (C_one_of : Cal P w K mg base "one_of" 41 p_one_of (spP R_one_of)) : Cal P w K mg base "unit_rows" 42 p_unit_rows (spP R_unit_rows) := by
  refine mkP h sc_unit_rows (fun ds P h => by obtain ⟨_, _, rfl, _⟩ := h; rfl) fun cdv A outer s H Q E f hr => ⟨(tSeq (tAsg (tTup (tCons (tCall (spP R_zero_of) [] E0 (tCons (tVar 0) tNil)) (tCons (tCall (spP R_one_of) [] E0 (tCons (tVar 0) tNil)) tNil))) (gTup K 2 (gCons (gName 2) (gCons (gName 3) gNil))))
  (tRet (tLc (iRng1 (tCons (tVar 1) tNil)) (gName 4) tYes (tCB (rTupQ K) (tCons (tLc (iRng1 (tCons (tVar 1) tNil)) (gName 5) tYes (tIf (tTest (tOp rEq (tVar 5) (tVar 4))) (tVar 3) (tVar 2)) [5]) tNil)) [4]))),
  (pss_cons (ps_asg (pe_tup (pa_cons (pe_cal C_zero_of (hr.mono (by decide)) rfl (pa_cons (pv 0) pa_nil)) (pa_cons (pe_cal C_one_of (hr.mono (by decide)) rfl (pa_cons (pv 0) pa_nil)) pa_nil))) (pg_tup rfl (pgs_cons (pg_name (i := 2) sc_unit_rows.nd rfl (by first | exact Or.inl rfl | exact Or.inr rfl)) (pgs_cons (pg_name (i := 3) sc_unit_rows.nd rfl (by first | exact Or.inl rfl | exact Or.inr rfl)) pgs_nil))))
  (pss_one (ps_ret (pe_lc (own := [("k", 4)]) (g := (gName 4)) (tt := tYes) (te := (tCB (rTupQ K) (tCons (tLc (iRng1 (tCons (tVar 1) tNil)) (gName 5) tYes (tIf (tTest (tOp rEq (tVar 5) (tVar 4))) (tVar 3) (tVar 2)) [5]) tNil))) rfl sc_unit_rows.nd (pi_range1 rfl B.range (pa_cons (pv 1) pa_nil)) (blkOk_by (own := [("k", 4)]) (N := N_unit_rows) (by kernel_rfl)) (fun _ _ _ _ _ => (pg_name (i := 4) sc_unit_rows.nd rfl (by first | exact Or.inl rfl | exact Or.inr rfl))) (fun _ _ _ _ _ => pts_nil) (fun _ _ _ _ _ => (pe_callTy call_tuple_of (by rfl) B.tuple (by decide +kernel) (pa_cons (pe_lc (own := [("at", 5)]) (g := (gName 5)) (tt := tYes) (te := (tIf (tTest (tOp rEq (tVar 5) (tVar 4))) (tVar 3) (tVar 2))) rfl sc_unit_rows.nd (pi_range1 rfl B.range (pa_cons (pv 1) pa_nil)) (blkOk_by (own := [("at", 5)]) (N := N_unit_rows) (by kernel_rfl)) (fun _ _ _ _ _ => (pg_name (i := 5) sc_unit_rows.nd rfl (by first | exact Or.inl rfl | exact Or.inr rfl))) (fun _ _ _ _ _ => pts_nil) (fun _ _ _ _ _ => (pe_ifExp (pt_cmpR op_eq (pv 5) (pv 4) (nomark _)) (pv 3) (pv 2)))) pa_nil))))))), fun M ds P' hR hq => ?_⟩
  obtain ⟨F, n, rfl, hn, rfl⟩ := hR
  refine ss_unp (ev_tup (ea_cons (ev_call (ea_cons (ev_var rfl) ea_nil) ⟨F, rfl, rfl⟩) (ea_cons (ev_call (ea_cons (ev_var rfl) ea_nil) ⟨F, rfl, rfl⟩) ea_nil))) (eg_tup2 eg_name eg_name) ?_
  refine sd_ret (Ev.r (EvN.evE (en_ran (fun k => F.row ((List.range n).map fun i => if i = k then (1 : F.α) else 0)) (ea_cons (ev_var rfl) ea_nil) (by omega) fun l acc k hk => ⟨[4], _, eg_name, fun _ h => h,
    (ev_cb (Ev.r (EvN.evE (en_ran (fun i => F.enc (if i = k then (1 : F.α) else 0)) (ea_cons (ev_var rfl) ea_nil) (by omega) fun l2 acc2 i hi => ⟨[5], _, eg_name, fun _ h => h,
      (ev_ifE (et_test (Ev.r (ev_op (Ev.r (ev_var rfl)) (Ev.r (ev_var rfl)) rv_eqI))) (fun _ => ev_var rfl) fun _ => ev_var rfl).is (by
        by_cases q : i = k
        · rw [if_pos q, decide_eq_true (by omega : ((i : Nat) : Int) = ((k : Nat) : Int))]; rfl
        · rw [if_neg q, decide_eq_false (by omega : ¬ ((i : Nat) : Int) = ((k : Nat) : Int))]; rfl)⟩))) (rc_tuple rfl)).is (by show D.tup _ = D.tup _; rw [List.map_map]; rfl)⟩))) hq ?_
  show D.lst _ = D.lst _
  unfold unitL
  rw [List.map_map]; rfl
def R_leads_of (ds : List D) (P : D → Prop) : Prop := ∃ (F : Fm) (rows : List (List F.α)), ds = [.int F.p, .lst (rows.map F.row)] ∧ rows.length ≤ 1000 ∧ (∀ r ∈ rows, r.length ≤ 1000) ∧ P = (· = .lst (rows.map fun r => leadD (r.map F.enc) (F.enc 0)))
theorem c_leads_of (h : Has K mg "leads_of" s_leads_of p_leads_of) (B : Bi mg) (C_zero_of : Cal P w K mg base "zero_of" 41 p_zero_of (spP R_zero_of)) (C_lead_of : Cal P w K mg base "lead_of" 41 p_lead_of (spP R_lead_of)) : Cal P w K mg base "leads_of" 42 p_leads_of (spP R_leads_of) := by
  refine mkP h sc_leads_of (fun ds P h => by obtain ⟨_, _, rfl, _⟩ := h; rfl) fun cdv A outer s H Q E f hr => ⟨(tSeq (tAsg (tCall (spP R_zero_of) [] E0 (tCons (tVar 0) tNil)) (gName 2))
  (tRet (tLc (iList K (tVar 1)) (gName 3) tYes (tCall (spP R_lead_of) [] E0 (tCons (tVar 3) (tCons (tVar 2) tNil))) [3]))),
  (pss_cons (ps_asg (pe_cal C_zero_of (hr.mono (by decide)) rfl (pa_cons (pv 0) pa_nil)) (pg_name (i := 2) sc_leads_of.nd rfl (by first | exact Or.inl rfl | exact Or.inr rfl)))
  (pss_one (ps_ret (pe_lc (own := [("row", 3)]) (g := (gName 3)) (tt := tYes) (te := (tCall (spP R_lead_of) [] E0 (tCons (tVar 3) (tCons (tVar 2) tNil)))) rfl sc_leads_of.nd (pi_list (pv 1)) (blkOk_by (own := [("row", 3)]) (N := N_leads_of) (by kernel_rfl)) (fun _ _ _ _ _ => (pg_name (i := 3) sc_leads_of.nd rfl (by first | exact Or.inl rfl | exact Or.inr rfl))) (fun _ _ _ _ _ => pts_nil) (fun _ _ _ _ _ => (pe_cal C_lead_of (hr.mono (by decide)) rfl (pa_cons (pv 3) (pa_cons (pv 2) pa_nil)))))))), fun M ds P' hR hq => ?_⟩
  obtain ⟨F, rows, rfl, hl, hw, rfl⟩ := hR
  refine ss_asg (ev_call (ea_cons (ev_var rfl) ea_nil) ⟨F, rfl, rfl⟩) ?_
  exact sd_ret (Ev.r (EvN.evE (en_lst' rows F.row (fun r => leadD (r.map F.enc) (F.enc 0)) (ev_var rfl) (by omega) fun l acc r hr => ⟨[3], _, eg_name, fun _ h => h, ev_call (ea_cons (ev_var rfl) (ea_cons (ev_var rfl) ea_nil)) ⟨F.row r, F.enc 0, r.map F.enc, rfl, rfl, by rw [List.length_map]; exact hw r hr, (fun x hx => by obtain ⟨y, _, rfl⟩ := List.mem_map.mp hx; exact okD_enc F y), okD_enc F 0, rfl⟩⟩))) hq rfl
def R_undone_table (ds : List D) (P : D → Prop) : Prop := ∃ (F : Fm) (tab : List (List F.α)) (n : Nat), ds = [.int F.p, .lst (tab.map F.row)] ∧ tab.length = n ∧ 1 ≤ n ∧ n ≤ 32 ∧ (∀ t ∈ tab, t.length = n) ∧ RowsOk F (aug n tab) (2 * n) ∧
  P = fun d => ∃ (T : List (List F.α)) (ls : List Nat), Sw (2 * n) T ls ∧ SameSp T (aug n tab) ∧ d = if ls = List.range n then tabD F (T.map fun r => r.drop n) else .non
theorem aug_wid {α : Type} [Fld α] {n : Nat} {tab : List (List α)} (hw : ∀ t ∈ tab, t.length = n) : ∀ r ∈ aug n tab, r.length = 2 * n := fun r hr => by
  unfold aug at hr
  rw [← List.map_uncurry_zip_eq_zipWith] at hr
  obtain ⟨q, hq, rfl⟩ := List.mem_map.mp hr
  have h1 := hw q.1 (List.of_mem_zip hq).1
  have h2 := unitL_wid q.2 (List.of_mem_zip hq).2
  simp [Function.uncurry, h1, h2]; omega
theorem aug_len {α : Type} [Fld α] {n : Nat} {tab : List (List α)} (h : tab.length = n) : (aug n tab).length = n := by unfold aug; rw [List.length_zipWith, unitL_len]; omega
theorem c_undone_table {Pt : Addr} (h : Has K mg "undone_table" s_undone_table p_undone_table) (B : Bi mg) (C_unit_rows : Cal P w K mg base "unit_rows" 42 p_unit_rows (spP R_unit_rows)) (C_leads_of : Cal P w K mg base "leads_of" 42 p_leads_of (spP R_leads_of))
    (C_swept_rows : Cal P w K mg base "swept_rows" 44 p_swept_rows (spT [(Pt, qLam "swept_rows")] R_swept_rows)) : Cal P w K mg base "undone_table" 45 p_undone_table (spT [(Pt, qLam "swept_rows")] R_undone_table) := by
  refine mkT h sc_undone_table (fun ds P h => by obtain ⟨_, _, _, rfl, _⟩ := h; rfl) fun cdv A outer s H Q E f hr => ⟨(tSeq (tAsg (tCB (rLenQ K) (tCons (tVar 1) tNil)) (gName 2))
  (tSeq (tAsg (tLc (iZipS K (tCons (tVar 1) (tCons (tCall (spP R_unit_rows) [] E0 (tCons (tVar 0) (tCons (tVar 2) tNil))) tNil))) (gTup K 2 (gCons (gName 4) (gCons (gName 5) gNil))) tYes (tOp (rCatT K) (tCB (rTupQ K) (tCons (tVar 4) tNil)) (tVar 5)) [4, 5]) (gName 3))
  (tSeq (tAsg (tCall (spT [(Pt, qLam "swept_rows")] R_swept_rows) [] E0 (tCons (tVar 0) (tCons (tVar 3) (tCons (tOp rMulI (tC (.int 2)) (tVar 2)) tNil)))) (gName 6))
  (tSeq (tIfS (tTest (tOp (rNeD K) (tCall (spP R_leads_of) [] E0 (tCons (tVar 0) (tCons (tVar 6) tNil))) (tLstRg (tRg1 (tVar 2))))) (tRet (tC .non)) tNext)
  (tRet (tCB (rTupQ K) (tCons (tLc (iList K (tVar 6)) (gName 4) tYes (tSl (rSlT K) (tVar 4) (tPart (tVar 2)) tNoPart) [4]) tNil))))))),
  (pss_cons (ps_asg (pe_callB call_len_seq (by rfl) B.len boot_len (pa_cons (pv 1) pa_nil)) (pg_name (i := 2) sc_undone_table.nd rfl (by first | exact Or.inl rfl | exact Or.inr rfl)))
  (pss_cons (ps_setLc (i := 3) (own := [("row", 4), ("unit", 5)]) (g := (gTup K 2 (gCons (gName 4) (gCons (gName 5) gNil)))) (tt := tYes) (te := (tOp (rCatT K) (tCB (rTupQ K) (tCons (tVar 4) tNil)) (tVar 5))) rfl sc_undone_table.nd rfl rfl (sw_true rfl rfl rfl (by decide +kernel)) (pi_zipS rfl B.zip (pa_cons (pv 1) (pa_cons (pe_cal C_unit_rows (hr.mono (by decide)) rfl (pa_cons (pv 0) (pa_cons (pv 2) pa_nil))) pa_nil))) (blkOk_by (own := [("row", 4), ("unit", 5)]) (N := N_undone_table) (by kernel_rfl)) (fun _ _ _ _ _ => (pg_tup rfl (pgs_cons (pg_name (i := 4) sc_undone_table.nd rfl (by first | exact Or.inl rfl | exact Or.inr rfl)) (pgs_cons (pg_name (i := 5) sc_undone_table.nd rfl (by first | exact Or.inl rfl | exact Or.inr rfl)) pgs_nil)))) (fun _ _ _ _ _ => pts_nil) (fun _ _ _ _ _ => (pe_op op_catT (pe_callTy call_tuple_of (by rfl) B.tuple (by decide +kernel) (pa_cons (pv 4) pa_nil)) (pv 5))))
  (pss_cons (ps_asg (pe_cal C_swept_rows (hr.mono (by decide)) rfl (pa_cons (pv 0) (pa_cons (pv 3) (pa_cons (pe_op op_mulI pe_int (pv 2)) pa_nil)))) (pg_name (i := 6) sc_undone_table.nd rfl (by first | exact Or.inl rfl | exact Or.inr rfl)))
  (pss_cons (ps_if (pt_cmpR (op_neD hr.units) (pe_cal C_leads_of (hr.mono (by decide)) rfl (pa_cons (pv 0) (pa_cons (pv 6) pa_nil))) (pe_listRg rfl rfl B.list (prg_1 rfl B.range (pv 2))) (nomark _)) (pss_one (ps_ret pe_non)) pss_nil)
  (pss_one (ps_ret (pe_callTy call_tuple_of (by rfl) B.tuple (by decide +kernel) (pa_cons (pe_lc (own := [("row", 4)]) (g := (gName 4)) (tt := tYes) (te := (tSl (rSlT K) (tVar 4) (tPart (tVar 2)) tNoPart)) rfl sc_undone_table.nd (pi_list (pv 6)) (blkOk_by (own := [("row", 4)]) (N := N_undone_table) (by kernel_rfl)) (fun _ _ _ _ _ => (pg_name (i := 4) sc_undone_table.nd rfl (by first | exact Or.inl rfl | exact Or.inr rfl))) (fun _ _ _ _ _ => pts_nil) (fun _ _ _ _ _ => (pe_slice sl_tup (pv 4) (po_some (pv 2)) po_none))) pa_nil)))))))), fun M ds P' hR hq => ?_⟩
  obtain ⟨F, tab, n, rfl, hlen, h1, h2, hw, hok, rfl⟩ := hR
  refine ss_asg ((ev_cb (Ev.r (ev_var rfl)) (rc_len (ds := tab.map F.row) rfl)).is (d' := nD n) (by rw [List.length_map, hlen]; rfl)) ?_
  have ul := unitL_len (α := F.α) n
  refine ss_asg ((EvN.evE (en_lcM (tab.zip (unitL F.α n)) (fun q => pairD (F.row q.1, F.row q.2)) (fun q => F.row (q.1 ++ q.2)) (EvI.o ((ei_zip (ea_cons (ev_var rfl) (ea_cons (ev_call (ea_cons (ev_var rfl) (ea_cons (ev_var rfl) ea_nil)) ⟨F, n, rfl, by omega, rfl⟩) ea_nil)) rfl rfl).is (zipD F.row tab (unitL F.α n)))) (by simp; omega)
    fun l acc q hq => ⟨[4, 5], _, eg_tup2 eg_name eg_name, fun _ h => h, by
      have l1 := hw q.1 (List.of_mem_zip hq).1
      have l2 := unitL_wid q.2 (List.of_mem_zip hq).2
      exact (ev_catT (Ev.r (ev_cb (Ev.r (ev_var rfl)) (rc_tuple (ds := q.1.map F.enc) rfl))) (Ev.r (ev_var (d := .tup (q.2.map F.enc)) rfl)) (fun z => by have := congrArg List.length z; simp at this; rw [this] at l1; simp at l1; omega) (fun z => by have := congrArg List.length z; simp at this; rw [this] at l2; simp at l2; omega) (by simp; omega)).is (by show D.tup _ = D.tup _; rw [List.map_append])⟩)).is (d' := .lst ((aug n tab).map F.row)) (by
      congr 1
      unfold aug
      rw [← List.map_uncurry_zip_eq_zipWith, List.map_map]; rfl)) ?_
  have alen := aug_len (α := F.α) (tab := tab) hlen
  refine ss_asgR (ev_callT rfl (ea_cons (ev_var rfl) (ea_cons (ev_var rfl) (ea_cons ((ev_op (Ev.r ev_int) (Ev.r (ev_var rfl)) (rv_I (Bt.cm (a := 2) (b := 6) (by show (2 : Int).natAbs < 2 ^ 2; decide) (by show ((n : Nat) : Int).natAbs < 64; omega) (by decide)))).is (d' := nD (2 * n)) (by show D.int _ = D.int _; congr 1)) ea_nil)))
    fun ds e => ⟨F, aug n tab, 2 * n, e, by omega, by omega, aug_wid hw, hok, rfl⟩) ?_
  rintro d ⟨T, ls, rfl, sw, sp⟩
  have lT : T.length ≤ 2 * n := by
    have := nodup_len (n := 2 * n) (ls := ls) (sw.up.imp fun h => Nat.ne_of_lt h) sw.lt
    rw [sw.len]; exact this
  have ok1 : okD (.lst (ls.map nD)) = true := (okK_lst (okK_map okK_nD ls)).ok
  have ok2 : okD (.lst ((List.range n).map nD)) = true := (okK_lst (okK_map okK_nD _)).ok
  by_cases hls : ls = List.range n
  · refine sd_no ((et_test (Ev.r (ev_op (Ev.r ((ev_call (ea_cons (ev_var rfl) (ea_cons (ev_var rfl) ea_nil)) ⟨F, T, rfl, by omega, (fun r hr => by rw [sw.wid r hr]; omega), rfl⟩).is (d' := .lst (ls.map nD)) (congrArg D.lst sw.leadsD))) (Ev.r (EvN.evE (en_lstRg (n := n) (Ev.r (ev_var rfl)) (by omega)))) (rv_neD ok1 ok2)))).is (by rw [(eqv_lst eqv_nD _ _).mpr hls]; rfl)) ?_
    refine sd_ret (Ev.r (ev_cb (Ev.r (EvN.evE (en_lst' T F.row (fun r => F.row (r.drop n)) (ev_var rfl) (by omega) fun l acc r hr => ⟨[4], _, eg_name, fun _ h => h, by
      have lr := sw.wid r hr
      have e1 : HT.sIx (r.map F.enc).length 0 (some (n : Int)) = n := by rw [HT.sIx_nat, List.length_map]; omega
      have e2 : HT.sIx (r.map F.enc).length (r.map F.enc).length none = (r.map F.enc).length := HT.sIx_none _ _
      exact (ev_slT (Ev.r (ev_var (d := .tup (r.map F.enc)) rfl)) (ep_some (Ev.r (ev_var (d := .int (n : Int)) rfl))) ep_no (fun z => by rw [e1] at z; omega)).is (by
        show D.tup _ = D.tup _
        unfold cutD
        rw [e1, e2, List.map_drop, List.take_of_length_le (by simp)])⟩))) (rc_tuple rfl))) hq ⟨T, ls, sw, sp, ?_⟩
    rw [if_pos hls]
    show D.tup _ = D.tup _
    rw [List.map_map]; rfl
  · refine sd_yes ((et_test (Ev.r (ev_op (Ev.r ((ev_call (ea_cons (ev_var rfl) (ea_cons (ev_var rfl) ea_nil)) ⟨F, T, rfl, by omega, (fun r hr => by rw [sw.wid r hr]; omega), rfl⟩).is (d' := .lst (ls.map nD)) (congrArg D.lst sw.leadsD))) (Ev.r (EvN.evE (en_lstRg (n := n) (Ev.r (ev_var rfl)) (by omega)))) (rv_neD ok1 ok2)))).is (by
      have : PyData.eqv (py (.lst (ls.map nD))) (py (.lst ((List.range n).map nD))) = false := by
        cases q : PyData.eqv (py (.lst (ls.map nD))) (py (.lst ((List.range n).map nD))) with
        | false => rfl
        | true => exact absurd ((eqv_lst eqv_nD _ _).mp q) hls
      rw [this]; rfl)) ?_
    exact sd_ret (Ev.r ev_non) hq ⟨T, ls, sw, sp, by rw [if_neg hls]⟩
end
end E
namespace E
open PySem PySem.Spec PyProof.Rows L2 TL
/-- a table of the field, given by d -/
def Giv (F : Fm) (d : D) (tab : List (List F.α)) : Prop := ∃ zs : List (D × List (D × F.α)), seqD d = some (zs.map (·.1)) ∧ tab = zs.map (fun z => z.2.map (·.2)) ∧ ∀ z ∈ zs, seqD z.1 = some (z.2.map (·.1)) ∧ ∀ q ∈ z.2, Writ F q.1 q.2
def GivR (F : Fm) (d : D) (row : List F.α) : Prop := ∃ ws : List (D × F.α), seqD d = some (ws.map (·.1)) ∧ row = ws.map (·.2) ∧ ∀ q ∈ ws, Writ F q.1 q.2
def FldOr (C : Addr) (F : Fm) (d : D) : Prop := d = .int F.p ∨ d = fldD C F
section
variable {P : Program} {w : World} {K : PySem.W.Frag} {mg : Str → Option Value} {base : Heap} {C_Field aF : Addr}
abbrev g_FIELDS (aF : Addr) : V := .ref aF
abbrev s_Field__init_ : Stmt := (C8.clsBody (topS 41)).getD 0 (.Pass ⟨0, 0, 0, 0⟩)
abbrev N_Field__init_ : List Str := ["self", "p"]
abbrev p_Field__init_ : List Str := ["self", "p"]
theorem sc_Field__init_ : FnScope N_Field__init_ p_Field__init_ (defScope s_Field__init_) := ⟨rfl, rfl, rfl, by decide +kernel, rfl, by decide +kernel, by decide +kernel⟩
abbrev s_Field_number : Stmt := (C8.clsBody (topS 41)).getD 1 (.Pass ⟨0, 0, 0, 0⟩)
abbrev N_Field_number : List Str := ["self", "value", "number"]
abbrev p_Field_number : List Str := ["self", "value"]
theorem sc_Field_number : FnScope N_Field_number p_Field_number (defScope s_Field_number) := ⟨rfl, rfl, rfl, by decide +kernel, rfl, by decide +kernel, by decide +kernel⟩
abbrev s_field_of : Stmt := topS 42
abbrev N_field_of : List Str := ["field"]
abbrev p_field_of : List Str := ["field"]
theorem sc_field_of : FnScope N_field_of p_field_of (defScope s_field_of) := ⟨rfl, rfl, rfl, by decide +kernel, rfl, by decide +kernel, by decide +kernel⟩
abbrev s_numbers_of : Stmt := topS 43
abbrev N_numbers_of : List Str := ["field", "rows", "row", "value"]
abbrev p_numbers_of : List Str := ["field", "rows"]
theorem sc_numbers_of : FnScope N_numbers_of p_numbers_of (defScope s_numbers_of) := ⟨rfl, rfl, rfl, by decide +kernel, rfl, by decide +kernel, by decide +kernel⟩
abbrev s_rank : Stmt := topS 44
abbrev N_rank : List Str := ["field", "rows", "told", "numbers"]
abbrev p_rank : List Str := ["field", "rows"]
theorem sc_rank : FnScope N_rank p_rank (defScope s_rank) := ⟨rfl, rfl, rfl, by decide +kernel, rfl, by decide +kernel, by decide +kernel⟩
abbrev s_times : Stmt := topS 45
abbrev N_times : List Str := ["field", "one", "other", "told", "first"]
abbrev p_times : List Str := ["field", "one", "other"]
theorem sc_times : FnScope N_times p_times (defScope s_times) := ⟨rfl, rfl, rfl, by decide +kernel, rfl, by decide +kernel, by decide +kernel⟩
abbrev s_led : Stmt := topS 46
abbrev N_led : List Str := ["field", "row", "table", "told", "numbers", "value", "rows"]
abbrev p_led : List Str := ["field", "row", "table"]
theorem sc_led : FnScope N_led p_led (defScope s_led) := ⟨rfl, rfl, rfl, by decide +kernel, rfl, by decide +kernel, by decide +kernel⟩
abbrev s_undone : Stmt := topS 47
abbrev N_undone : List Str := ["field", "table", "told"]
abbrev p_undone : List Str := ["field", "table"]
theorem sc_undone : FnScope N_undone p_undone (defScope s_undone) := ⟨rfl, rfl, rfl, by decide +kernel, rfl, by decide +kernel, by decide +kernel⟩
theorem m_init {f : Addr} {fd : FuncData} (MK : Mk K C_Field f) (CF : ClsF K mg C_Field) (Fn : Fun K "__init__" "Field.__init__" s_Field__init_ f fd) (Bd : Binds K fd p_Field__init_ []) (B : Bi mg) (HF : FieldsAt K aF) (G_FIELDS : mg "FIELDS" = some (.ref aF) ∧ L2.RelV (V.ref aF) (.ref aF)) (C_is_whole : Cal P w K mg base "is_whole" 41 p_is_whole (spP R_is_whole)) :
    C8.Mak P w K mg base 42 "Field" C_Field (spI C_Field) [] := by
  refine ⟨f, fd, p_Field__init_, [], MK, Fn.ok sc_Field__init_ (fun vs H Q E h => by obtain ⟨x, dx, F, rfl, _⟩ := h; rfl) fun cdv A outer s H vs Q E hr h => ⟨(tSeq (tIfS (tOr (tNot (tB (tCall (spP R_is_whole) [] E0 (tCons (tVar 1) tNil)))) (tTest (tOp (rIn K true) (tVar 1) (tC (.ref aF))))) tNever tNext)
  (sFld K (tVar 0) (tVar 1) "p")),
  (pss_cons (ps_if (PW.pt (pw_or (pt_not (pt_val (pe_cal C_is_whole (hr.mono (by decide)) rfl (pa_cons (pv 1) pa_nil)))) (pw_or1 (pt_cmpR op_notIn_seq (pv 1) (pe_glob rfl G_FIELDS.1 G_FIELDS.2) (by rfl))))) (pss_one ps_never) pss_nil)
  (pss_one (ps_fld (pv 0) (pv 1) rfl))), ?_⟩, CF.glob, Bd, .nil⟩
  obtain ⟨x, dx, F, rfl, hx, q⟩ := h
  have s0 : Sta ⟨H, [], [], none, [], [], [], []⟩ [some (.inl (.obj C_Field [] [])), some (.inl (.int F.p))] (L2.start N_Field__init_ [V.ref x, .int F.p]) H :=
    ⟨(fun b hb => by cases hb), (fun b hb => by cases hb), (fun b hb => by cases hb), (fun b hb => by cases hb), Ext.refl _ _, (fun b hb => by cases hb), (fun b hb => by cases hb), List.nodup_nil, (fun j hj => by cases hj), start_slots (.cons (.obj (dx := dx) (vs := []) (by simp) hx rfl .nil) (.cons (.int _) .nil)) _, (fun b hb => by cases hb), (fun b hb => by cases hb)⟩
  have test := (et_or (c := ⟨H, [], [], none, [], [], [], []⟩) (δ := [some (.inl (.obj C_Field [] [])), some (.inl (.int F.p))]) ((et_not (et_B (Ev.r (ev_call (E := E0) (R := R_is_whole) (ea_cons (ev_var (i := 1) rfl) ea_nil) ⟨.int F.p, rfl, rfl, rfl⟩)))).is (d' := false) rfl) (fun _ => et_notIn (F := F) HF (Ev.r (ev_var (i := 1) rfl))) fun b e1 e2 => by subst e1; cases e2)
  refine test _ H _ s0 fun b H1 s1 e1 p1 => ?_
  cases (show b = false from p1)
  refine iteF ?_
  have hx1 : H1 x = some (.ins C_Field dx []) := s1.keep x _ (by simp) hx
  refine ⟨.int F.p, rfl, .ref x, rfl, x, C_Field, dx, [], rfl, hx1, CF.cls, CF.nop, by decide, ?_⟩
  exact q _ (fun b o n e => by rw [upd_ne n]; exact s1.keep b o (by simp) e) upd_same
def R_Field_number (C : Addr) (ds : List D) (P : D → Prop) : Prop := ∃ (F : Fm) (x : D) (y : F.α), ds = [fldD C F, x] ∧ Writ F x y ∧ P = (· = F.enc y)
theorem nonD_enc (F : Fm) (x : F.α) : nonD (F.enc x) = false := by
  cases F with
  | q => rfl
  | z p h => rfl
theorem m_number {f : Addr} {fd : FuncData} (me : Meth K C_Field "number" f) (CF : ClsF K mg C_Field) (Fn : Fun K "number" "Field.number" s_Field_number f fd) (Bd : Binds K fd p_Field_number []) (B : Bi mg) (C_scalar_of : Cal P w K mg base "scalar_of" 43 p_scalar_of (spP R_scalar_of)) :
    C8.Met P w K mg base 44 C_Field "number" (spP (R_Field_number C_Field)) [] := by
  refine ⟨f, fd, p_Field_number, [], CF.cls, me, Fn.ok sc_Field_number (fun vs H Q E h => by obtain ⟨M, ds, P, _, r, ⟨_, _, _, rfl, _⟩, _⟩ := h; exact r.len) fun cdv A outer s H vs Q E hr h => ⟨(tSeq (tAsg (tCall (spP R_scalar_of) [] E0 (tCons (tFld K (tVar 0) "p") (tCons (tVar 1) tNil))) (gName 2))
  (tSeq (tIfS (tB (tIsN (tVar 2))) tNever tNext)
  (tRet (tVar 2)))),
  (pss_cons (ps_asg (pe_cal C_scalar_of (hr.mono (by decide)) rfl (pa_cons (pe_fld (pv 0) rfl) (pa_cons (pv 1) pa_nil))) (pg_name (i := 2) sc_Field_number.nd rfl (by first | exact Or.inl rfl | exact Or.inr rfl)))
  (pss_cons (ps_if (pt_cmp (pc_isN (pv 2))) (pss_one ps_never) pss_nil)
  (pss_one (ps_ret (pv 2))))), body_P h fun M ds P' hR hq => ?_⟩, Bd, .nil⟩
  obtain ⟨F, x, y, rfl, hw, rfl⟩ := hR
  refine ss_asg (ev_call (ea_cons (ev_p CF (Ev.r (ev_var rfl))) (ea_cons (ev_var rfl) ea_nil)) ⟨F, x, y, rfl, hw, rfl⟩) ?_
  refine sd_no ((et_B (Ev.r (ev_isN (Ev.r (ev_var rfl))))).is (nonD_enc F y)) ?_
  exact sd_ret (Ev.r (ev_var rfl)) hq rfl
def R_field_of (C : Addr) (ds : List D) (P : D → Prop) : Prop := ∃ (F : Fm) (d : D), ds = [d] ∧ FldOr C F d ∧ P = (· = fldD C F)
theorem c_field_of (h : Has K mg "field_of" s_field_of p_field_of) (B : Bi mg) (CF : ClsF K mg C_Field) (M_Field : C8.Mak P w K mg base 42 "Field" C_Field (spI C_Field) []) : Cal P w K mg base "field_of" 44 p_field_of (spP (R_field_of C_Field)) := by
  refine mkP h sc_field_of (fun ds P h => by obtain ⟨_, _, rfl, _⟩ := h; rfl) fun cdv A outer s H Q E f hr => ⟨(tRet (tIf (tB (tCB (rIsi K) (tCons (tVar 0) (tCons (tC (.ref C_Field)) tNil)))) (tVar 0) (tMake C_Field (spI C_Field) [] E0 (tCons (tVar 0) tNil)))),
  (pss_one (ps_ret (pe_ifExp (pt_val (pe_callB call_isi (by rfl) B.isinstance (by decide +kernel) (pa_cons (pv 0) (pa_cons (pe_glob rfl CF.glob rfl) pa_nil)))) (pv 0) (C8.pe_mk M_Field hr (by decide) rfl (pa_cons (pv 0) pa_nil))))), fun M ds P' hR hq => ?_⟩
  obtain ⟨F, d, rfl, hd, rfl⟩ := hR
  rcases hd with rfl | rfl
  · exact sd_ret (evr_if (et_B (Ev.r (ev_isiC (F := F) (b := false) CF (Ev.r (ev_var rfl)) (.inl ⟨rfl, rfl⟩)))) (fun e => by cases e) fun _ => Ev.r (ev_make (ea_cons (ev_var rfl) ea_nil))) hq rfl
  · exact sd_ret (evr_if (et_B (Ev.r (ev_isiC (F := F) (b := true) CF (Ev.r (ev_var rfl)) (.inr ⟨rfl, rfl⟩)))) (fun _ => Ev.r (ev_var rfl)) fun e => by cases e) hq rfl
def R_numbers_of (C : Addr) (ds : List D) (P : D → Prop) : Prop := ∃ (F : Fm) (d : D) (tab : List (List F.α)), ds = [fldD C F, d] ∧ Giv F d tab ∧ tab.length ≤ 1000 ∧ (∀ r ∈ tab, r.length ≤ 1000) ∧ P = (· = .lst (tab.map F.row))
theorem c_numbers_of (h : Has K mg "numbers_of" s_numbers_of p_numbers_of) (B : Bi mg) (MT_Field_number : C8.Met P w K mg base 44 C_Field "number" (spP (R_Field_number C_Field)) []) : Cal P w K mg base "numbers_of" 45 p_numbers_of (spP (R_numbers_of C_Field)) := by
  refine mkP h sc_numbers_of (fun ds P h => by obtain ⟨_, _, _, rfl, _⟩ := h; rfl) fun cdv A outer s H Q E f hr => ⟨(tRet (tLc (iSeq K (tVar 1)) (gName 2) tYes (tCB (rTupQ K) (tCons (tLc (iSeq K (tVar 2)) (gName 3) tYes (tMeth C_Field "number" (spP (R_Field_number C_Field)) [] E0 (tVar 0) (tCons (tVar 3) tNil)) [3]) tNil)) [2])),
  (pss_one (ps_ret (pe_lc (own := [("row", 2)]) (g := (gName 2)) (tt := tYes) (te := (tCB (rTupQ K) (tCons (tLc (iSeq K (tVar 2)) (gName 3) tYes (tMeth C_Field "number" (spP (R_Field_number C_Field)) [] E0 (tVar 0) (tCons (tVar 3) tNil)) [3]) tNil))) rfl sc_numbers_of.nd (pi_seq (pv 1)) (blkOk_by (own := [("row", 2)]) (N := N_numbers_of) (by kernel_rfl)) (fun _ _ _ _ _ => (pg_name (i := 2) sc_numbers_of.nd rfl (by first | exact Or.inl rfl | exact Or.inr rfl))) (fun _ _ _ _ _ => pts_nil) (fun _ _ _ _ _ => (pe_callTy call_tuple_of (by rfl) B.tuple (by decide +kernel) (pa_cons (pe_lc (own := [("value", 3)]) (g := (gName 3)) (tt := tYes) (te := (tMeth C_Field "number" (spP (R_Field_number C_Field)) [] E0 (tVar 0) (tCons (tVar 3) tNil))) rfl sc_numbers_of.nd (pi_seq (pv 2)) (blkOk_by (own := [("value", 3)]) (N := N_numbers_of) (by kernel_rfl)) (fun _ _ _ _ _ => (pg_name (i := 3) sc_numbers_of.nd rfl (by first | exact Or.inl rfl | exact Or.inr rfl))) (fun _ _ _ _ _ => pts_nil) (fun _ _ _ _ _ => (C8.pe_mt MT_Field_number hr (by decide) (pv 0) (pa_cons (pv 3) pa_nil)))) pa_nil)))))), fun M ds P' hR hq => ?_⟩
  obtain ⟨F, d, tab, rfl, ⟨zs, h1, rfl, h2⟩, hl, hw, rfl⟩ := hR
  refine sd_ret (Ev.r (EvN.evE (en_lcM zs (·.1) (fun z => F.row (z.2.map (·.2))) (EvI.o (ei_seq (ev_var rfl) h1)) (by simp at hl; omega) fun l acc z hz => ⟨[2], _, eg_name, fun _ h => h,
    (ev_cb (Ev.r (EvN.evE (en_lcM z.2 (·.1) (fun q => F.enc q.2) (EvI.o (ei_seq (ev_var rfl) (h2 z hz).1)) (by have := hw _ (List.mem_map_of_mem (f := fun z : D × List (D × F.α) => z.2.map (·.2)) hz); simp at this; omega) fun l2 acc2 q hq2 => ⟨[3], _, eg_name, fun _ h => h,
      ev_meth rfl (Ev.r (ev_var rfl)) (ea_cons (ev_var rfl) ea_nil) ⟨F, q.1, q.2, rfl, (h2 z hz).2 q hq2, rfl⟩⟩))) (rc_tuple rfl)).is (by show D.tup _ = D.tup _; rw [List.map_map]; rfl)⟩))) hq ?_
  show D.lst _ = D.lst _
  rw [List.map_map]; rfl
def R_rank (C : Addr) (ds : List D) (P : D → Prop) : Prop := ∃ (F : Fm) (f d : D) (tab : List (List F.α)) (n : Nat), ds = [f, d] ∧ FldOr C F f ∧ Giv F d tab ∧ tab.length ≤ 1000 ∧ n ≤ 64 ∧ (∀ r ∈ tab, r.length = n) ∧ RowsOk F tab n ∧
  P = fun d => ∃ (T : List (List F.α)) (ls : List Nat), Sw n T ls ∧ SameSp T tab ∧ d = nD T.length
theorem c_rank {Pt : Addr} (h : Has K mg "rank" s_rank p_rank) (B : Bi mg) (CF : ClsF K mg C_Field) (C_field_of : Cal P w K mg base "field_of" 44 p_field_of (spP (R_field_of C_Field))) (C_numbers_of : Cal P w K mg base "numbers_of" 45 p_numbers_of (spP (R_numbers_of C_Field)))
    (C_swept_rows : Cal P w K mg base "swept_rows" 44 p_swept_rows (spT [(Pt, qLam "swept_rows")] R_swept_rows)) : Cal P w K mg base "rank" 46 p_rank (spT [(Pt, qLam "swept_rows")] (R_rank C_Field)) := by
  refine mkT h sc_rank (fun ds P h => by obtain ⟨_, _, _, _, _, rfl, _⟩ := h; rfl) fun cdv A outer s H Q E f hr => ⟨(tSeq (tAsg (tCall (spP (R_field_of C_Field)) [] E0 (tCons (tVar 0) tNil)) (gName 2))
  (tSeq (tAsg (tCall (spP (R_numbers_of C_Field)) [] E0 (tCons (tVar 2) (tCons (tVar 1) tNil))) (gName 3))
  (tRet (tIf (tTru K (tVar 3)) (tCB (rLenQ K) (tCons (tCall (spT [(Pt, qLam "swept_rows")] R_swept_rows) [] E0 (tCons (tFld K (tVar 2) "p") (tCons (tVar 3) (tCons (tCB (rLenQ K) (tCons (tOp (rIxL K) (tVar 3) (tC (.int 0))) tNil)) tNil)))) tNil)) (tC (.int 0)))))),
  (pss_cons (ps_asg (pe_cal C_field_of (hr.mono (by decide)) rfl (pa_cons (pv 0) pa_nil)) (pg_name (i := 2) sc_rank.nd rfl (by first | exact Or.inl rfl | exact Or.inr rfl)))
  (pss_cons (ps_asg (pe_cal C_numbers_of (hr.mono (by decide)) rfl (pa_cons (pv 2) (pa_cons (pv 1) pa_nil))) (pg_name (i := 3) sc_rank.nd rfl (by first | exact Or.inl rfl | exact Or.inr rfl)))
  (pss_one (ps_ret (pe_ifExp (pt_truth (pv 3) (by intro _; rfl)) (pe_callB call_len_seq (by rfl) B.len boot_len (pa_cons (pe_cal C_swept_rows (hr.mono (by decide)) rfl (pa_cons (pe_fld (pv 2) rfl) (pa_cons (pv 3) (pa_cons (pe_callB call_len_seq (by rfl) B.len boot_len (pa_cons (pe_ix ix_list (pv 3) pe_int (fun _ _ => rfl)) pa_nil)) pa_nil)))) pa_nil)) pe_int))))), fun M ds P' hR hq => ?_⟩
  obtain ⟨F, fd, d, tab, n, rfl, hf, hg, hl, hn, hw, hok, rfl⟩ := hR
  refine ss_asg (ev_call (ea_cons (ev_var rfl) ea_nil) ⟨F, fd, rfl, hf, rfl⟩) ?_
  refine ss_asg (ev_call (ea_cons (ev_var rfl) (ea_cons (ev_var rfl) ea_nil)) ⟨F, d, tab, rfl, hg, hl, fun r hr => by rw [hw r hr]; omega, rfl⟩) ?_
  cases tab with
  | nil =>
    refine sd_ret (Ev.r (ev_ifF (et_truth (Ev.r (ev_var rfl)) rfl) ev_int)) hq ⟨[], [], ⟨rfl, by simp, by simp, by simp, by simp, by simp, List.Pairwise.nil⟩, SameSp.refl _, rfl⟩
  | cons t0 rest =>
    have hl0 : t0.length = n := hw t0 List.mem_cons_self
    refine sd_retR (Ev.r (ev_ifT (et_truth (Ev.r (ev_var rfl)) rfl) (ev_cb1 (Ev.r (ev_callT rfl (ea_cons (ev_p CF (Ev.r (ev_var rfl))) (ea_cons (ev_var rfl) (ea_cons ((ev_cb (Ev.r (ev_op (Ev.r (ev_var rfl)) (Ev.r ev_int) (rv_ixL (d := F.row t0) (atI_nat (j := 0) rfl)))) (rc_len rfl)).is (d' := nD n) (by rw [List.length_map, hl0]; first | done | rfl)) ea_nil)))
      fun ds e => ⟨F, t0 :: rest, n, e, hn, hl, hw, hok, rfl⟩)) (P := fun d => ∃ (T : List (List F.α)) (ls : List Nat), Sw n T ls ∧ SameSp T (t0 :: rest) ∧ d = nD T.length) fun d hd => ?_))) hq fun d h => h
    obtain ⟨T, ls, rfl, sw, sp⟩ := hd
    intro δ σ H Q vs s hp q
    exact rc_len (ds := T.map F.row) rfl δ σ H Q vs s hp fun v H' d e r p => q v H' d e r ⟨T, ls, sw, sp, by rw [p, List.length_map]; rfl⟩
def R_times (C : Addr) (ds : List D) (P : D → Prop) : Prop := ∃ (F : Fm) (f d1 d2 : D) (one other : List (List F.α)) (n b : Nat), ds = [f, d1, d2] ∧ FldOr C F f ∧ Giv F d1 one ∧ Giv F d2 other ∧ n ≤ 64 ∧ one.length ≤ 1000 ∧ other ≠ [] ∧ (∀ r ∈ one, r.length = other.length) ∧ other.length ≤ 64 ∧ (∀ t ∈ other, t.length = n) ∧ b ≤ 20000 ∧ (∀ t ∈ one, ∀ x ∈ t, EbF b F x) ∧ (∀ t ∈ other, ∀ x ∈ t, EbF b F x) ∧
  P = (· = tabD F (one.map (lrow n other)))
theorem c_times (h : Has K mg "times" s_times p_times) (B : Bi mg) (CF : ClsF K mg C_Field) (C_field_of : Cal P w K mg base "field_of" 44 p_field_of (spP (R_field_of C_Field))) (C_numbers_of : Cal P w K mg base "numbers_of" 45 p_numbers_of (spP (R_numbers_of C_Field)))
    (C_table_times : Cal P w K mg base "table_times" 43 p_table_times (spP R_table_times)) : Cal P w K mg base "times" 46 p_times (spP (R_times C_Field)) := by
  refine mkP h sc_times (fun ds P h => by obtain ⟨_, _, _, _, _, _, _, _, rfl, _⟩ := h; rfl) fun cdv A outer s H Q E f hr => ⟨(tSeq (tAsg (tCall (spP (R_field_of C_Field)) [] E0 (tCons (tVar 0) tNil)) (gName 3))
  (tSeq (tAsg (tCall (spP (R_numbers_of C_Field)) [] E0 (tCons (tVar 3) (tCons (tVar 1) tNil))) (gName 4))
  (tRet (tCall (spP R_table_times) [] E0 (tCons (tFld K (tVar 3) "p") (tCons (tVar 4) (tCons (tCall (spP (R_numbers_of C_Field)) [] E0 (tCons (tVar 3) (tCons (tVar 2) tNil))) tNil))))))),
  (pss_cons (ps_asg (pe_cal C_field_of (hr.mono (by decide)) rfl (pa_cons (pv 0) pa_nil)) (pg_name (i := 3) sc_times.nd rfl (by first | exact Or.inl rfl | exact Or.inr rfl)))
  (pss_cons (ps_asg (pe_cal C_numbers_of (hr.mono (by decide)) rfl (pa_cons (pv 3) (pa_cons (pv 1) pa_nil))) (pg_name (i := 4) sc_times.nd rfl (by first | exact Or.inl rfl | exact Or.inr rfl)))
  (pss_one (ps_ret (pe_cal C_table_times (hr.mono (by decide)) rfl (pa_cons (pe_fld (pv 3) rfl) (pa_cons (pv 4) (pa_cons (pe_cal C_numbers_of (hr.mono (by decide)) rfl (pa_cons (pv 3) (pa_cons (pv 2) pa_nil))) pa_nil)))))))), fun M ds P' hR hq => ?_⟩
  obtain ⟨F, fd, d1, d2, one, other, n, b, rfl, hf, g1, g2, hn, ho, hne, hlen, hl, hw, hb, b1, b2, rfl⟩ := hR
  refine ss_asg (ev_call (ea_cons (ev_var rfl) ea_nil) ⟨F, fd, rfl, hf, rfl⟩) ?_
  refine ss_asg (ev_call (ea_cons (ev_var rfl) (ea_cons (ev_var rfl) ea_nil)) ⟨F, d1, one, rfl, g1, ho, fun r hr => by rw [hlen r hr]; omega, rfl⟩) ?_
  exact sd_ret (Ev.r (ev_call (ea_cons (ev_p CF (Ev.r (ev_var rfl))) (ea_cons (ev_var rfl) (ea_cons (ev_call (ea_cons (ev_var rfl) (ea_cons (ev_var rfl) ea_nil)) ⟨F, d2, other, rfl, g2, by omega, fun r hr => by rw [hw r hr]; omega, rfl⟩) ea_nil))) ⟨F, one, other, n, b, rfl, hn, ho, hne, hlen, hl, hw, hb, b1, b2, rfl⟩)) hq rfl
def R_led (C : Addr) (ds : List D) (P : D → Prop) : Prop := ∃ (F : Fm) (f dr d2 : D) (row : List F.α) (tab : List (List F.α)) (n b : Nat), ds = [f, dr, d2] ∧ FldOr C F f ∧ GivR F dr row ∧ Giv F d2 tab ∧ tab ≠ [] ∧ n ≤ 64 ∧ row.length = tab.length ∧ row.length ≤ 64 ∧ (∀ t ∈ tab, t.length = n) ∧ b ≤ 20000 ∧ (∀ x ∈ row, EbF b F x) ∧ (∀ t ∈ tab, ∀ x ∈ t, EbF b F x) ∧
  P = (· = F.row (lrow n tab row))
theorem c_led (h : Has K mg "led" s_led p_led) (B : Bi mg) (CF : ClsF K mg C_Field) (C_field_of : Cal P w K mg base "field_of" 44 p_field_of (spP (R_field_of C_Field))) (C_numbers_of : Cal P w K mg base "numbers_of" 45 p_numbers_of (spP (R_numbers_of C_Field)))
    (MT_Field_number : C8.Met P w K mg base 44 C_Field "number" (spP (R_Field_number C_Field)) []) (C_led_row : Cal P w K mg base "led_row" 43 p_led_row (spP R_led_row)) : Cal P w K mg base "led" 46 p_led (spP (R_led C_Field)) := by
  refine mkP h sc_led (fun ds P h => by obtain ⟨_, _, _, _, _, _, _, _, rfl, _⟩ := h; rfl) fun cdv A outer s H Q E f hr => ⟨(tSeq (tAsg (tCall (spP (R_field_of C_Field)) [] E0 (tCons (tVar 0) tNil)) (gName 3))
  (tSeq (tAsg (tCB (rTupQ K) (tCons (tLc (iSeq K (tVar 1)) (gName 5) tYes (tMeth C_Field "number" (spP (R_Field_number C_Field)) [] E0 (tVar 3) (tCons (tVar 5) tNil)) [5]) tNil)) (gName 4))
  (tSeq (tAsg (tCall (spP (R_numbers_of C_Field)) [] E0 (tCons (tVar 3) (tCons (tVar 2) tNil))) (gName 6))
  (tRet (tCall (spP R_led_row) [] E0 (tCons (tFld K (tVar 3) "p") (tCons (tVar 4) (tCons (tVar 6) (tCons (tCB (rLenQ K) (tCons (tOp (rIxL K) (tVar 6) (tC (.int 0))) tNil)) tNil))))))))),
  (pss_cons (ps_asg (pe_cal C_field_of (hr.mono (by decide)) rfl (pa_cons (pv 0) pa_nil)) (pg_name (i := 3) sc_led.nd rfl (by first | exact Or.inl rfl | exact Or.inr rfl)))
  (pss_cons (ps_asg (pe_callTy call_tuple_of (by rfl) B.tuple (by decide +kernel) (pa_cons (pe_lc (own := [("value", 5)]) (g := (gName 5)) (tt := tYes) (te := (tMeth C_Field "number" (spP (R_Field_number C_Field)) [] E0 (tVar 3) (tCons (tVar 5) tNil))) rfl sc_led.nd (pi_seq (pv 1)) (blkOk_by (own := [("value", 5)]) (N := N_led) (by kernel_rfl)) (fun _ _ _ _ _ => (pg_name (i := 5) sc_led.nd rfl (by first | exact Or.inl rfl | exact Or.inr rfl))) (fun _ _ _ _ _ => pts_nil) (fun _ _ _ _ _ => (C8.pe_mt MT_Field_number hr (by decide) (pv 3) (pa_cons (pv 5) pa_nil)))) pa_nil)) (pg_name (i := 4) sc_led.nd rfl (by first | exact Or.inl rfl | exact Or.inr rfl)))
  (pss_cons (ps_asg (pe_cal C_numbers_of (hr.mono (by decide)) rfl (pa_cons (pv 3) (pa_cons (pv 2) pa_nil))) (pg_name (i := 6) sc_led.nd rfl (by first | exact Or.inl rfl | exact Or.inr rfl)))
  (pss_one (ps_ret (pe_cal C_led_row (hr.mono (by decide)) rfl (pa_cons (pe_fld (pv 3) rfl) (pa_cons (pv 4) (pa_cons (pv 6) (pa_cons (pe_callB call_len_seq (by rfl) B.len boot_len (pa_cons (pe_ix ix_list (pv 6) pe_int (fun _ _ => rfl)) pa_nil)) pa_nil)))))))))), fun M ds P' hR hq => ?_⟩
  obtain ⟨F, fd, dr, d2, row, tab, n, b, rfl, hf, ⟨ws, g1, rfl, g1w⟩, g2, hne, hn, hlen, hl, hw, hb, b1, b2, rfl⟩ := hR
  have hws : ws.length ≤ 64 := by simpa using hl
  refine ss_asg (ev_call (ea_cons (ev_var rfl) ea_nil) ⟨F, fd, rfl, hf, rfl⟩) ?_
  refine ss_asg ((ev_cb (Ev.r (EvN.evE (en_lcM ws (·.1) (fun q => F.enc q.2) (EvI.o (ei_seq (ev_var rfl) g1)) (by omega) fun l2 acc2 q hq2 => ⟨[5], _, eg_name, fun _ h => h,
      ev_meth rfl (Ev.r (ev_var rfl)) (ea_cons (ev_var rfl) ea_nil) ⟨F, q.1, q.2, rfl, g1w q hq2, rfl⟩⟩))) (rc_tuple rfl)).is (d' := F.row (ws.map (·.2))) (by show D.tup _ = D.tup _; rw [List.map_map]; rfl)) ?_
  refine ss_asg (ev_call (ea_cons (ev_var rfl) (ea_cons (ev_var rfl) ea_nil)) ⟨F, d2, tab, rfl, g2, by omega, fun r hr => by rw [hw r hr]; omega, rfl⟩) ?_
  obtain ⟨t0, rest, rfl⟩ : ∃ t0 rest, tab = t0 :: rest := by
    cases tab with
    | nil => exact absurd rfl hne
    | cons t r => exact ⟨t, r, rfl⟩
  have hl0 : t0.length = n := hw t0 List.mem_cons_self
  exact sd_ret (Ev.r (ev_call (ea_cons (ev_p CF (Ev.r (ev_var rfl))) (ea_cons (ev_var rfl) (ea_cons (ev_var rfl) (ea_cons ((ev_cb (Ev.r (ev_op (Ev.r (ev_var rfl)) (Ev.r ev_int) (rv_ixL (d := F.row t0) (atI_nat (j := 0) rfl)))) (rc_len rfl)).is (d' := nD n) (by rw [List.length_map, hl0]; first | done | rfl)) ea_nil)))) ⟨F, ws.map (·.2), t0 :: rest, n, b, rfl, hn, hlen, hl, hw, hb, b1, b2, rfl⟩)) hq rfl
def R_undone (C : Addr) (ds : List D) (P : D → Prop) : Prop := ∃ (F : Fm) (f d : D) (tab : List (List F.α)) (n : Nat), ds = [f, d] ∧ FldOr C F f ∧ Giv F d tab ∧ tab.length = n ∧ 1 ≤ n ∧ n ≤ 32 ∧ (∀ t ∈ tab, t.length = n) ∧ RowsOk F (aug n tab) (2 * n) ∧
  P = fun d => ∃ (T : List (List F.α)) (ls : List Nat), Sw (2 * n) T ls ∧ SameSp T (aug n tab) ∧ d = if ls = List.range n then tabD F (T.map fun r => r.drop n) else .non
theorem c_undone {Pt : Addr} (h : Has K mg "undone" s_undone p_undone) (B : Bi mg) (CF : ClsF K mg C_Field) (C_field_of : Cal P w K mg base "field_of" 44 p_field_of (spP (R_field_of C_Field))) (C_numbers_of : Cal P w K mg base "numbers_of" 45 p_numbers_of (spP (R_numbers_of C_Field)))
    (C_undone_table : Cal P w K mg base "undone_table" 45 p_undone_table (spT [(Pt, qLam "swept_rows")] R_undone_table)) : Cal P w K mg base "undone" 46 p_undone (spT [(Pt, qLam "swept_rows")] (R_undone C_Field)) := by
  refine mkT h sc_undone (fun ds P h => by obtain ⟨_, _, _, _, _, rfl, _⟩ := h; rfl) fun cdv A outer s H Q E f hr => ⟨(tSeq (tAsg (tCall (spP (R_field_of C_Field)) [] E0 (tCons (tVar 0) tNil)) (gName 2))
  (tRet (tCall (spT [(Pt, qLam "swept_rows")] R_undone_table) [] E0 (tCons (tFld K (tVar 2) "p") (tCons (tCall (spP (R_numbers_of C_Field)) [] E0 (tCons (tVar 2) (tCons (tVar 1) tNil))) tNil))))),
  (pss_cons (ps_asg (pe_cal C_field_of (hr.mono (by decide)) rfl (pa_cons (pv 0) pa_nil)) (pg_name (i := 2) sc_undone.nd rfl (by first | exact Or.inl rfl | exact Or.inr rfl)))
  (pss_one (ps_ret (pe_cal C_undone_table (hr.mono (by decide)) rfl (pa_cons (pe_fld (pv 2) rfl) (pa_cons (pe_cal C_numbers_of (hr.mono (by decide)) rfl (pa_cons (pv 2) (pa_cons (pv 1) pa_nil))) pa_nil)))))), fun M ds P' hR hq => ?_⟩
  obtain ⟨F, fd, d, tab, n, rfl, hf, hg, hlen, h1, h2, hw, hok, rfl⟩ := hR
  refine ss_asg (ev_call (ea_cons (ev_var rfl) ea_nil) ⟨F, fd, rfl, hf, rfl⟩) ?_
  exact sd_retR (Ev.r (ev_callT rfl (ea_cons (ev_p CF (Ev.r (ev_var rfl))) (ea_cons (ev_call (ea_cons (ev_var rfl) (ea_cons (ev_var rfl) ea_nil)) ⟨F, d, tab, rfl, hg, by omega, fun r hr => by rw [hw r hr]; omega, rfl⟩) ea_nil)) fun ds e => ⟨F, tab, n, e, hlen, h1, h2, hw, hok, rfl⟩)) hq fun d h => h
end
end E
namespace E
open PySem PySem.Spec PyProof.Rows L2 TL
theorem low_at {a b : Int} (hb : b ≠ 0) {gg : Int} (hg : gg = ((Nat.gcd a.natAbs b.natAbs : Nat) : Int)) : D.tup [.int (a.fdiv (if b < 0 then 0 - gg else gg)), .int (b.fdiv (if b < 0 then 0 - gg else gg))] = encQ (Rat.divInt a b) := by
  subst hg
  by_cases h : b < 0
  · rw [if_pos h]
    have e : ∀ x : Int, x.fdiv (0 - ((Nat.gcd a.natAbs b.natAbs : Nat) : Int)) = (-x).fdiv ((Nat.gcd a.natAbs b.natAbs : Nat) : Int) := fun x => by
      rw [Int.zero_sub, ← Int.neg_fdiv_neg, Int.neg_neg]
    have n := low_neg (a := a) h
    rw [Int.natAbs_neg, Int.natAbs_neg] at n
    rw [e, e]; exact n
  · rw [if_neg h]; exact low_pos (by omega)
section
variable {P : Program} {w : World} {K : PySem.W.Frag} {mg : Str → Option Value} {base : Heap}
abbrev s_l_gcd : Stmt := topS 53
abbrev N_l_gcd : List Str := ["u", "v"]
abbrev p_l_gcd : List Str := ["u", "v"]
theorem sc_l_gcd : FnScope N_l_gcd p_l_gcd (defScope s_l_gcd) := ⟨rfl, rfl, rfl, by decide +kernel, rfl, by decide +kernel, by decide +kernel⟩
abbrev s_l_low : Stmt := topS 54
abbrev N_l_low : List Str := ["u", "v", "g"]
abbrev p_l_low : List Str := ["u", "v"]
theorem sc_l_low : FnScope N_l_low p_l_low (defScope s_l_low) := ⟨rfl, rfl, rfl, by decide +kernel, rfl, by decide +kernel, by decide +kernel⟩
abbrev s_l_num : Stmt := topS 55
abbrev N_l_num : List Str := ["f", "k"]
abbrev p_l_num : List Str := ["f", "k"]
theorem sc_l_num : FnScope N_l_num p_l_num (defScope s_l_num) := ⟨rfl, rfl, rfl, by decide +kernel, rfl, by decide +kernel, by decide +kernel⟩
abbrev s_l_add : Stmt := topS 56
abbrev N_l_add : List Str := ["f", "u", "v"]
abbrev p_l_add : List Str := ["f", "u", "v"]
theorem sc_l_add : FnScope N_l_add p_l_add (defScope s_l_add) := ⟨rfl, rfl, rfl, by decide +kernel, rfl, by decide +kernel, by decide +kernel⟩
abbrev s_l_mul : Stmt := topS 57
abbrev N_l_mul : List Str := ["f", "u", "v"]
abbrev p_l_mul : List Str := ["f", "u", "v"]
theorem sc_l_mul : FnScope N_l_mul p_l_mul (defScope s_l_mul) := ⟨rfl, rfl, rfl, by decide +kernel, rfl, by decide +kernel, by decide +kernel⟩
abbrev s_l_inv : Stmt := topS 58
abbrev N_l_inv : List Str := ["f", "u", "k"]
abbrev p_l_inv : List Str := ["f", "u"]
theorem sc_l_inv : FnScope N_l_inv p_l_inv (defScope s_l_inv) := ⟨rfl, rfl, rfl, by decide +kernel, rfl, by decide +kernel, by decide +kernel⟩
abbrev s_l_less : Stmt := topS 59
abbrev N_l_less : List Str := ["f", "vec", "base", "k", "c", "i"]
abbrev p_l_less : List Str := ["f", "vec", "base", "k"]
theorem sc_l_less : FnScope N_l_less p_l_less (defScope s_l_less) := ⟨rfl, rfl, rfl, by decide +kernel, rfl, by decide +kernel, by decide +kernel⟩
def R_l_gcd (ds : List D) (P : D → Prop) : Prop := ∃ a b : Int, ds = [.int a, .int b] ∧ 0 ≤ a ∧ 0 ≤ b ∧ P = (· = .int ((Nat.gcd a.natAbs b.natAbs : Nat) : Int))
theorem c_l_gcd (h : Has K mg "_law_gcd" s_l_gcd p_l_gcd) (B : Bi mg) : Cal P w K mg base "_law_gcd" 41 p_l_gcd (spP R_l_gcd) := by
  refine mkP h sc_l_gcd (fun ds P h => by obtain ⟨_, _, rfl, _⟩ := h; rfl) fun cdv A outer s H Q E f hr => ⟨(tSeq (tWhile (tTest (tOp rNe (tVar 1) (tC (.int 0)))) (tPar 0 1 (tCons (tVar 1) (tCons (tOp rModI (tCB rInt1 (tCons (tVar 0) tNil)) (tVar 1)) tNil))))
  (tRet (tVar 0))),
  (pss_cons (ps_while PassesOwn.never (pt_cmpR op_ne (pv 1) pe_int (nomark _)) (pss_one (ps_par (i := 0) (j := 1) rfl sc_l_gcd.nd rfl rfl (by decide) rfl rfl (pa_cons (pv 1) (pa_cons (pe_op op_modN (pe_callTy call_int1 (by rfl) B.int (by decide +kernel) (pa_cons (pv 0) pa_nil)) (pv 1)) pa_nil)) (by rfl))))
  (pss_one (ps_ret (pv 0)))), fun M ds P' hR hq => ?_⟩
  obtain ⟨a, b, rfl, ha, hb, rfl⟩ := hR
  refine ss_while (fun m c1 δ1 => c1 = _ ∧ ∃ u v : Int, 0 ≤ u ∧ 0 ≤ v ∧ v.toNat = m ∧ Nat.gcd u.natAbs v.natAbs = Nat.gcd a.natAbs b.natAbs ∧ δ1 = [some (.inl (.int u)), some (.inl (.int v))]) b.toNat ⟨rfl, a, b, ha, hb, rfl, rfl, rfl⟩ ?_
  rintro m c1 δ1 ⟨rfl, u, v, hu, hv, hm, hg, rfl⟩
  refine ⟨_, et_test (Ev.r (ev_op (Ev.r (ev_var rfl)) (Ev.r ev_int) rv_neI)), fun hk => ?_, fun hk => ?_⟩
  · have hv0 : ¬ v = 0 := by
      intro z; rw [decide_eq_true z] at hk; cases hk
    have mm : u.fmod v = u % v := Int.fmod_eq_emod_of_nonneg _ (by omega)
    have m0 : 0 ≤ u % v := Int.emod_nonneg _ hv0
    have m1 : u % v < v := Int.emod_lt_of_pos _ (by omega)
    refine sd_par2 (ea_cons (ev_var rfl) (ea_cons (ev_op (Ev.r (ev_cb (Ev.r (ev_var rfl)) rc_int1)) (Ev.r (ev_var rfl)) (rv_I hv0)) ea_nil)) (nx_I ⟨(u % v).toNat, by omega, rfl, v, u.fmod v, by omega, by rw [mm]; exact m0, by rw [mm], by rw [gcd_step hu (by omega)]; exact hg, rfl⟩)
  · have hv0 : v = 0 := by
      apply Classical.byContradiction
      intro z; rw [decide_eq_false z] at hk; cases hk
    subst hv0
    refine sd_ret (Ev.r (ev_var rfl)) hq ?_
    rw [← hg]
    show D.int u = D.int _
    congr 1
    rw [Int.natAbs_zero, Nat.gcd_zero_right]; omega
def R_l_low (ds : List D) (P : D → Prop) : Prop := ∃ a b : Int, ds = [.int a, .int b] ∧ b ≠ 0 ∧ P = (· = encQ (Rat.divInt a b))
theorem c_l_low (h : Has K mg "_law_low" s_l_low p_l_low) (B : Bi mg) (NS : base.NoSeer) (hP : P.given.tree = none) (C_l_gcd : Cal P w K mg base "_law_gcd" 41 p_l_gcd (spP R_l_gcd)) : Cal P w K mg base "_law_low" 42 p_l_low (spP R_l_low) := by
  refine mkP h sc_l_low (fun ds P h => by obtain ⟨_, _, rfl, _⟩ := h; rfl) fun cdv A outer s H Q E f hr => ⟨(tSeq (tAsg (tCall (spP R_l_gcd) [] E0 (tCons (tCB rAbs (tCons (tVar 0) tNil)) (tCons (tCB rAbs (tCons (tVar 1) tNil)) tNil))) (gName 2))
  (tSeq (tIfS (tTest (tOp rLtI (tVar 1) (tC (.int 0)))) (tAsg (tOp rSubI (tC (.int 0)) (tVar 2)) (gName 2)) tNext)
  (tRet (tTup (tCons (tOp rDivI (tVar 0) (tVar 2)) (tCons (tOp rDivI (tVar 1) (tVar 2)) tNil)))))),
  (pss_cons (ps_asg (pe_cal C_l_gcd (hr.mono (by decide)) rfl (pa_cons (pe_callB call_abs (by rfl) B.abs (by decide +kernel) (pa_cons (pv 0) pa_nil)) (pa_cons (pe_callB call_abs (by rfl) B.abs (by decide +kernel) (pa_cons (pv 1) pa_nil)) pa_nil))) (pg_name (i := 2) sc_l_low.nd rfl (by first | exact Or.inl rfl | exact Or.inr rfl)))
  (pss_cons (ps_if (pt_cmpR op_lt (pv 1) pe_int (nomark _)) (pss_one (ps_asg (pe_op op_sub pe_int (pv 2)) (pg_name (i := 2) sc_l_low.nd rfl (by first | exact Or.inl rfl | exact Or.inr rfl)))) pss_nil)
  (pss_one (ps_ret (pe_tup (pa_cons (pe_op (op_divI ⟨NS, hP, ⟨_, _, rfl, rfl, rfl, rfl, rfl⟩, hr.mono (by decide)⟩) (pv 0) (pv 2)) (pa_cons (pe_op (op_divI ⟨NS, hP, ⟨_, _, rfl, rfl, rfl, rfl, rfl⟩, hr.mono (by decide)⟩) (pv 1) (pv 2)) pa_nil))))))), fun M ds P' hR hq => ?_⟩
  obtain ⟨a, b, rfl, hb, rfl⟩ := hR
  have hg : 0 < Nat.gcd a.natAbs b.natAbs := Nat.gcd_pos_of_pos_right _ (Int.natAbs_pos.mpr hb)
  refine ss_asg ((ev_call (ea_cons ((ev_cb (Ev.r (ev_var rfl)) rc_abs).is (congrArg D.int (abs_val a))) (ea_cons ((ev_cb (Ev.r (ev_var rfl)) rc_abs).is (congrArg D.int (abs_val b))) ea_nil)) ⟨_, _, rfl, by omega, by omega, rfl⟩).is (d' := .int ((Nat.gcd a.natAbs b.natAbs : Nat) : Int)) (by rw [Int.natAbs_natCast, Int.natAbs_natCast])) ?_
  generalize hgg : ((Nat.gcd a.natAbs b.natAbs : Nat) : Int) = gg
  have low := low_at (a := a) hb hgg.symm
  by_cases hn : b < 0
  · rw [if_pos hn] at low
    refine sd_yes ((et_test (Ev.r (ev_op (Ev.r (ev_var rfl)) (Ev.r ev_int) rv_B0))).is (decide_eq_true hn)) ?_
    refine sd_asg (ev_op (Ev.r ev_int) (Ev.r (ev_var rfl)) rv_I0) (sd_nx0 rfl ?_)
    exact sd_ret (Ev.r (ev_tup (ea_cons (ev_op (Ev.r (ev_var rfl)) (Ev.r (ev_var rfl)) (rv_I (by omega))) (ea_cons (ev_op (Ev.r (ev_var rfl)) (Ev.r (ev_var rfl)) (rv_I (by omega))) ea_nil)))) hq low
  · rw [if_neg hn] at low
    refine sd_no ((et_test (Ev.r (ev_op (Ev.r (ev_var rfl)) (Ev.r ev_int) rv_B0))).is (decide_eq_false hn)) ?_
    exact sd_ret (Ev.r (ev_tup (ea_cons (ev_op (Ev.r (ev_var rfl)) (Ev.r (ev_var rfl)) (rv_I (by omega))) (ea_cons (ev_op (Ev.r (ev_var rfl)) (Ev.r (ev_var rfl)) (rv_I (by omega))) ea_nil)))) hq low
def R_l_num (ds : List D) (P : D → Prop) : Prop := ∃ (F : Fm) (k : Int), ds = [.int F.p, .int k] ∧ P = (· = F.enc (F.ofInt k))
theorem c_l_num (h : Has K mg "_law_num" s_l_num p_l_num) (B : Bi mg) : Cal P w K mg base "_law_num" 41 p_l_num (spP R_l_num) := by
  refine mkP h sc_l_num (fun ds P h => by obtain ⟨_, _, rfl, _⟩ := h; rfl) fun cdv A outer s H Q E f hr => ⟨(tRet (tIf (tTest (tOp rEq (tVar 0) (tC (.int 0)))) (tTup (tCons (tVar 1) (tCons (tC (.int 1)) tNil))) (tOp rModI (tCB rInt1 (tCons (tVar 1) tNil)) (tVar 0)))),
  (pss_one (ps_ret (pe_ifExp (pt_cmpR op_eq (pv 0) pe_int (nomark _)) (pe_tup (pa_cons (pv 1) (pa_cons pe_int pa_nil))) (pe_op op_modN (pe_callTy call_int1 (by rfl) B.int (by decide +kernel) (pa_cons (pv 1) pa_nil)) (pv 0))))), fun M ds P' hR hq => ?_⟩
  obtain ⟨F, k, rfl, rfl⟩ := hR
  cases F with
  | q => exact sd_ret (Ev.r (ev_ifT ((et_test (Ev.r (ev_op (Ev.r (ev_var rfl)) (Ev.r ev_int) rv_eqI))).is rfl) (ev_tup (ea_cons (ev_var rfl) (ea_cons ev_int ea_nil))))) hq (encQ_int k).symm
  | z p hp =>
    have hpp := prime_pos hp
    exact sd_ret (Ev.r (ev_ifF ((et_test (Ev.r (ev_op (Ev.r (ev_var rfl)) (Ev.r ev_int) rv_eqI))).is (decide_eq_false (by show ¬ p = 0; omega))) (ev_op (Ev.r (ev_cb (Ev.r (ev_var rfl)) rc_int1)) (Ev.r (ev_var rfl)) (rv_I (by show p ≠ 0; omega))))) hq (enc_mk hp k).symm
theorem pos_p {p : Int} (hp : p ∈ primes) : decide ((0 : Int) < p) = true := decide_eq_true (by have := prime_pos hp; omega)
def R_l_add (ds : List D) (P : D → Prop) : Prop := ∃ (F : Fm) (x y : F.α) (b : Nat), ds = [.int F.p, F.enc x, F.enc y] ∧ EbF b F x ∧ EbF b F y ∧ b ≤ 40000000 ∧ P = (· = F.enc (x + y))
def R_l_mul (ds : List D) (P : D → Prop) : Prop := ∃ (F : Fm) (x y : F.α) (b : Nat), ds = [.int F.p, F.enc x, F.enc y] ∧ EbF b F x ∧ EbF b F y ∧ b ≤ 40000000 ∧ P = (· = F.enc (x * y))
theorem ix0 (x : Rat) : atI [D.int x.num, D.int (x.den : Nat)] 0 = some (.int x.num) := rfl
theorem ix1 (x : Rat) : atI [D.int x.num, D.int (x.den : Nat)] 1 = some (.int (x.den : Nat)) := rfl
theorem c_l_add (h : Has K mg "_law_add" s_l_add p_l_add) (B : Bi mg) (C_l_low : Cal P w K mg base "_law_low" 42 p_l_low (spP R_l_low)) : Cal P w K mg base "_law_add" 43 p_l_add (spP R_l_add) := by
  refine mkP h sc_l_add (fun ds P h => by obtain ⟨_, _, _, _, rfl, _⟩ := h; rfl) fun cdv A outer s H Q E f hr => ⟨(tSeq (tIfS (tTest (tOp rGtI (tVar 0) (tC (.int 0)))) (tRet (tOp rModI (tCB rInt1 (tCons (tOp rAddI (tVar 1) (tVar 2)) tNil)) (tVar 0))) tNext)
  (tRet (tCall (spP R_l_low) [] E0 (tCons (tOp rAddI (tOp rMulI (tOp (rIx K) (tVar 1) (tC (.int 0))) (tOp (rIx K) (tVar 2) (tC (.int 1)))) (tOp rMulI (tOp (rIx K) (tVar 2) (tC (.int 0))) (tOp (rIx K) (tVar 1) (tC (.int 1))))) (tCons (tOp rMulI (tOp (rIx K) (tVar 1) (tC (.int 1))) (tOp (rIx K) (tVar 2) (tC (.int 1)))) tNil))))),
  (pss_cons (ps_if (pt_cmpR op_gt (pv 0) pe_int (nomark _)) (pss_one (ps_ret (pe_op op_modN (pe_callTy call_int1 (by rfl) B.int (by decide +kernel) (pa_cons (pe_op op_add (pv 1) (pv 2)) pa_nil)) (pv 0)))) pss_nil)
  (pss_one (ps_ret (pe_cal C_l_low (hr.mono (by decide)) rfl (pa_cons (pe_op op_add (pe_op op_mulI (pe_ix ix_seq (pv 1) pe_int (fun _ _ => rfl)) (pe_ix ix_seq (pv 2) pe_int (fun _ _ => rfl))) (pe_op op_mulI (pe_ix ix_seq (pv 2) pe_int (fun _ _ => rfl)) (pe_ix ix_seq (pv 1) pe_int (fun _ _ => rfl)))) (pa_cons (pe_op op_mulI (pe_ix ix_seq (pv 1) pe_int (fun _ _ => rfl)) (pe_ix ix_seq (pv 2) pe_int (fun _ _ => rfl))) pa_nil)))))), fun M ds P' hR hq => ?_⟩
  obtain ⟨F, x, y, b, rfl, bx, by', hb, rfl⟩ := hR
  cases F with
  | z p hp =>
    have hpp := prime_pos hp
    refine sd_yes ((et_test (Ev.r (ev_op (Ev.r (ev_var rfl)) (Ev.r ev_int) rv_B0))).is (pos_p hp)) ?_
    exact sd_ret (Ev.r (ev_op (Ev.r (ev_cb (Ev.r (ev_op (Ev.r (ev_var rfl)) (Ev.r (ev_var rfl)) rv_I0)) rc_int1)) (Ev.r (ev_var rfl)) (rv_I (by show p ≠ 0; omega)))) hq (congrArg D.int (zadd_val (h := hp) x y))
  | q =>
    have bx : Eb b x := bx
    have by' : Eb b y := by'
    refine sd_no ((et_test (Ev.r (ev_op (Ev.r (ev_var rfl)) (Ev.r ev_int) rv_B0))).is rfl) ?_
    exact sd_ret (Ev.r (ev_call (ea_cons (ev_op (Ev.r (ev_op (Ev.r (ev_op (Ev.r (ev_var rfl)) (Ev.r ev_int) (rv_ix rfl (ix0 x)))) (Ev.r (ev_op (Ev.r (ev_var rfl)) (Ev.r ev_int) (rv_ix rfl (ix1 y)))) (rv_I (bx.1.cm by'.2 (by omega))))) (Ev.r (ev_op (Ev.r (ev_op (Ev.r (ev_var rfl)) (Ev.r ev_int) (rv_ix rfl (ix0 y)))) (Ev.r (ev_op (Ev.r (ev_var rfl)) (Ev.r ev_int) (rv_ix rfl (ix1 x)))) (rv_I (by'.1.cm bx.2 (by omega))))) rv_I0)
      (ea_cons (ev_op (Ev.r (ev_op (Ev.r (ev_var rfl)) (Ev.r ev_int) (rv_ix rfl (ix1 x)))) (Ev.r (ev_op (Ev.r (ev_var rfl)) (Ev.r ev_int) (rv_ix rfl (ix1 y)))) (rv_I (bx.2.cm by'.2 (by omega)))) ea_nil)) ⟨_, _, rfl, Int.mul_ne_zero (den_ne x) (den_ne y), rfl⟩)) hq (congrArg encQ (q_add (x := x) (y := y)))
theorem c_l_mul (h : Has K mg "_law_mul" s_l_mul p_l_mul) (B : Bi mg) (C_l_low : Cal P w K mg base "_law_low" 42 p_l_low (spP R_l_low)) : Cal P w K mg base "_law_mul" 43 p_l_mul (spP R_l_mul) := by
  refine mkP h sc_l_mul (fun ds P h => by obtain ⟨_, _, _, _, rfl, _⟩ := h; rfl) fun cdv A outer s H Q E f hr => ⟨(tSeq (tIfS (tTest (tOp rGtI (tVar 0) (tC (.int 0)))) (tRet (tOp rModI (tCB rInt1 (tCons (tOp rMulI (tVar 1) (tVar 2)) tNil)) (tVar 0))) tNext)
  (tRet (tCall (spP R_l_low) [] E0 (tCons (tOp rMulI (tOp (rIx K) (tVar 1) (tC (.int 0))) (tOp (rIx K) (tVar 2) (tC (.int 0)))) (tCons (tOp rMulI (tOp (rIx K) (tVar 1) (tC (.int 1))) (tOp (rIx K) (tVar 2) (tC (.int 1)))) tNil))))),
  (pss_cons (ps_if (pt_cmpR op_gt (pv 0) pe_int (nomark _)) (pss_one (ps_ret (pe_op op_modN (pe_callTy call_int1 (by rfl) B.int (by decide +kernel) (pa_cons (pe_op op_mulI (pv 1) (pv 2)) pa_nil)) (pv 0)))) pss_nil)
  (pss_one (ps_ret (pe_cal C_l_low (hr.mono (by decide)) rfl (pa_cons (pe_op op_mulI (pe_ix ix_seq (pv 1) pe_int (fun _ _ => rfl)) (pe_ix ix_seq (pv 2) pe_int (fun _ _ => rfl))) (pa_cons (pe_op op_mulI (pe_ix ix_seq (pv 1) pe_int (fun _ _ => rfl)) (pe_ix ix_seq (pv 2) pe_int (fun _ _ => rfl))) pa_nil)))))), fun M ds P' hR hq => ?_⟩
  obtain ⟨F, x, y, b, rfl, bx, by', hb, rfl⟩ := hR
  cases F with
  | z p hp =>
    have hpp := prime_pos hp
    refine sd_yes ((et_test (Ev.r (ev_op (Ev.r (ev_var rfl)) (Ev.r ev_int) rv_B0))).is (pos_p hp)) ?_
    exact sd_ret (Ev.r (ev_op (Ev.r (ev_cb (Ev.r (ev_op (Ev.r (ev_var rfl)) (Ev.r (ev_var rfl)) (rv_I ((zp_small (h := hp) x).cm (zp_small (h := hp) y) (by decide))))) rc_int1)) (Ev.r (ev_var rfl)) (rv_I (by show p ≠ 0; omega)))) hq (congrArg D.int (zmul_val (h := hp) x y))
  | q =>
    have bx : Eb b x := bx
    have by' : Eb b y := by'
    refine sd_no ((et_test (Ev.r (ev_op (Ev.r (ev_var rfl)) (Ev.r ev_int) rv_B0))).is rfl) ?_
    exact sd_ret (Ev.r (ev_call (ea_cons (ev_op (Ev.r (ev_op (Ev.r (ev_var rfl)) (Ev.r ev_int) (rv_ix rfl (ix0 x)))) (Ev.r (ev_op (Ev.r (ev_var rfl)) (Ev.r ev_int) (rv_ix rfl (ix0 y)))) (rv_I (bx.1.cm by'.1 (by omega))))
      (ea_cons (ev_op (Ev.r (ev_op (Ev.r (ev_var rfl)) (Ev.r ev_int) (rv_ix rfl (ix1 x)))) (Ev.r (ev_op (Ev.r (ev_var rfl)) (Ev.r ev_int) (rv_ix rfl (ix1 y)))) (rv_I (bx.2.cm by'.2 (by omega)))) ea_nil)) ⟨_, _, rfl, Int.mul_ne_zero (den_ne x) (den_ne y), rfl⟩)) hq (congrArg encQ (q_mul (x := x) (y := y)))
end
end E
namespace E
open PySem PySem.Spec PyProof.Rows L2 TL
section
variable {P : Program} {w : World} {K : PySem.W.Frag} {mg : Str → Option Value} {base : Heap}
abbrev s_l_swept : Stmt := topS 60
abbrev N_l_swept : List Str := ["f", "vecs", "wide", "rest", "vec", "zero", "made", "k", "picks", "i", "base", "c", "u"]
abbrev p_l_swept : List Str := ["f", "vecs", "wide"]
theorem sc_l_swept : FnScope N_l_swept p_l_swept (defScope s_l_swept) := ⟨rfl, rfl, rfl, by decide +kernel, rfl, by decide +kernel, by decide +kernel⟩
def R_l_inv (ds : List D) (P : D → Prop) : Prop := ∃ (F : Fm) (x : F.α), ds = [.int F.p, F.enc x] ∧ x ≠ 0 ∧ P = (· = F.enc x⁻¹)
theorem R_l_inv_cases {ds : List D} {P : D → Prop} (h : R_l_inv ds P) : (∃ (p : Int) (hp : p ∈ primes) (x : Zp p hp), ds = [.int p, encZ x] ∧ x ≠ 0 ∧ P = (· = encZ x⁻¹)) ∨ ∃ x : Rat, ds = [.int 0, encQ x] ∧ x ≠ 0 ∧ P = (· = encQ x⁻¹) := by
  obtain ⟨F, x, e, hx, eP⟩ := h
  cases F with
  | z p hp => exact .inl ⟨p, hp, x, e, hx, eP⟩
  | q => exact .inr ⟨x, e, hx, eP⟩
theorem c_l_inv (h : Has K mg "_law_inv" s_l_inv p_l_inv) (B : Bi mg) (C_l_low : Cal P w K mg base "_law_low" 42 p_l_low (spP R_l_low)) : Cal P w K mg base "_law_inv" 43 p_l_inv (spP R_l_inv) := by
  refine mkP h sc_l_inv (fun ds P h => by obtain ⟨_, _, rfl, _⟩ := h; rfl) fun cdv A outer s H Q E f hr => ⟨(tSeq (tIfS (tTest (tOp rGtI (tVar 0) (tC (.int 0)))) (tRet (tOp (rIxL K) (tLc (iRng2 (tCons (tC (.int 1)) (tCons (tVar 0) tNil))) (gName 2) (tTest (tOp rEq (tOp rModI (tCB rInt1 (tCons (tOp rMulI (tVar 2) (tVar 1)) tNil)) (tVar 0)) (tC (.int 1)))) (tVar 2) [2]) (tC (.int 0)))) tNext)
  (tRet (tCall (spP R_l_low) [] E0 (tCons (tOp (rIx K) (tVar 1) (tC (.int 1))) (tCons (tOp (rIx K) (tVar 1) (tC (.int 0))) tNil))))),
  (pss_cons (ps_if (pt_cmpR op_gt (pv 0) pe_int (nomark _)) (pss_one (ps_ret (pe_ix ix_list (pe_lc (own := [("k", 2)]) (g := (gName 2)) (tt := (tTest (tOp rEq (tOp rModI (tCB rInt1 (tCons (tOp rMulI (tVar 2) (tVar 1)) tNil)) (tVar 0)) (tC (.int 1))))) (te := (tVar 2)) rfl sc_l_inv.nd (pi_range2 rfl B.range (pa_cons pe_int (pa_cons (pv 0) pa_nil))) (blkOk_by (own := [("k", 2)]) (N := N_l_inv) (by kernel_rfl)) (fun _ _ _ _ _ => (pg_name (i := 2) sc_l_inv.nd rfl (by first | exact Or.inl rfl | exact Or.inr rfl))) (fun _ _ _ _ _ => (pts_one (pt_cmpR op_eq (pe_op op_modN (pe_callTy call_int1 (by rfl) B.int (by decide +kernel) (pa_cons (pe_op op_mulI (pv 2) (pv 1)) pa_nil)) (pv 0)) pe_int (nomark _)))) (fun _ _ _ _ _ => (pv 2))) pe_int (fun _ _ => rfl)))) pss_nil)
  (pss_one (ps_ret (pe_cal C_l_low (hr.mono (by decide)) rfl (pa_cons (pe_ix ix_seq (pv 1) pe_int (fun _ _ => rfl)) (pa_cons (pe_ix ix_seq (pv 1) pe_int (fun _ _ => rfl)) pa_nil)))))), fun M ds P' hR hq => ?_⟩
  rcases R_l_inv_cases hR with ⟨p, hp, x, rfl, hx, rfl⟩ | ⟨x, rfl, hx, rfl⟩
  · have hpp := prime_pos hp
    obtain ⟨r, hr2⟩ := inv_try x hx
    have e : ((List.range (p - 1).toNat).map fun i => ((1 + (i : Nat) : Int))).map D.int = ranD 1 (p - 1).toNat := by unfold ranD; rw [List.map_map]; rfl
    have key : (((List.range (p - 1).toNat).map fun i => ((1 + (i : Nat) : Int))).filter fun k => decide ((k * x.1).fmod p = 1)).map D.int = encZ x⁻¹ :: r := by
      rw [← hr2, ← e]; exact (List.filter_map (p := invP x) (f := D.int)).symm
    refine sd_yes ((et_test (Ev.r (ev_op (Ev.r (ev_var rfl)) (Ev.r ev_int) rv_B0))).is (pos_p hp)) ?_
    exact sd_ret (Ev.r (ev_op (Ev.r (EvN.evE ((en_lcF ((List.range (p - 1).toNat).map fun i => ((1 + (i : Nat) : Int))) D.int (fun k => decide ((k * x.1).fmod p = 1)) D.int (EvI.o ((ei_rng2 (ea_cons ev_int (ea_cons (ev_var rfl) ea_nil)) (by omega)).is e.symm)) (by simp; omega)
      fun l acc k hk => ⟨[2], _, eg_name, fun _ h => h, et_test (Ev.r (ev_op (Ev.r (ev_op (Ev.r (ev_cb (Ev.r (ev_op (Ev.r (ev_var rfl)) (Ev.r (ev_var rfl)) (rv_I (Bt.cm (a := 8) (b := 8) (by
          obtain ⟨i, hi, rfl⟩ := List.mem_map.mp hk
          have := List.mem_range.mp hi
          show (1 + (i : Int)).natAbs < 2 ^ 8
          omega) (zp_small x) (by decide))))) rc_int1)) (Ev.r (ev_var rfl)) (rv_I (by omega)))) (Ev.r ev_int) rv_eqI)), fun _ => ev_var rfl⟩).is key))) (Ev.r ev_int) (rv_ixL (d := encZ x⁻¹) (atI_nat (j := 0) rfl)))) hq rfl
  · refine sd_no ((et_test (Ev.r (ev_op (Ev.r (ev_var rfl)) (Ev.r ev_int) rv_B0))).is rfl) ?_
    exact sd_ret (Ev.r (ev_call (ea_cons (ev_op (Ev.r (ev_var rfl)) (Ev.r ev_int) (rv_ix rfl (ix1 x))) (ea_cons (ev_op (Ev.r (ev_var rfl)) (Ev.r ev_int) (rv_ix rfl (ix0 x))) ea_nil)) ⟨_, _, rfl, num_ne hx, rfl⟩)) hq (congrArg encQ (q_inv hx))
def R_l_less (ds : List D) (P : D → Prop) : Prop := ∃ (F : Fm) (v o : List F.α) (k b : Nat), ds = [.int F.p, F.rowL v, F.rowL o, nD k] ∧ v.length ≤ 1000 ∧ v.length = o.length ∧ k < v.length ∧ b ≤ 10000000 ∧ (∀ x ∈ v, EbF b F x) ∧ (∀ x ∈ o, EbF b F x) ∧ P = (· = F.rowL (subr (g v k) v o))
theorem R_l_less_cases {ds : List D} {P : D → Prop} (h : R_l_less ds P) : (∃ (p : Int) (hp : p ∈ primes) (v o : List (Zp p hp)) (k : Nat), ds = [.int p, rowZL v, rowZL o, nD k] ∧ v.length ≤ 1000 ∧ v.length = o.length ∧ k < v.length ∧ P = (· = rowZL (subr (g v k) v o))) ∨
    ∃ (v o : List Rat) (k b : Nat), ds = [.int 0, .lst (v.map encQ), .lst (o.map encQ), nD k] ∧ v.length ≤ 1000 ∧ v.length = o.length ∧ k < v.length ∧ b ≤ 10000000 ∧ (∀ x ∈ v, Eb b x) ∧ (∀ x ∈ o, Eb b x) ∧ P = (· = .lst ((subr (g v k) v o).map encQ)) := by
  obtain ⟨F, v, o, k, b, e, hl, hlen, hk, hb, bv, bo, eP⟩ := h
  cases F with
  | z p hp => exact .inl ⟨p, hp, v, o, k, e, hl, hlen, hk, eP⟩
  | q => exact .inr ⟨v, o, k, b, e, hl, hlen, hk, hb, bv, bo, eP⟩
theorem subr_map {α : Type} [Fld α] {f : α → D} {c : α} {v o : List α} (h : v.length = o.length) : (List.range v.length).map (fun i => f (g v i + -(c * g o i))) = (subr c v o).map f := by
  refine List.ext_getElem (by simp [subr_len h]) fun i h1 h2 => ?_
  have hi : i < v.length := by simpa using h1
  rw [List.getElem_map, List.getElem_map, List.getElem_range]
  have e : g (subr c v o) i = (subr c v o)[i]'(by rw [subr_len h]; exact hi) := g_lt _
  rw [← e, g_subr h]
theorem c_l_less (h : Has K mg "_law_less" s_l_less p_l_less) (B : Bi mg) (C_l_add : Cal P w K mg base "_law_add" 43 p_l_add (spP R_l_add)) (C_l_mul : Cal P w K mg base "_law_mul" 43 p_l_mul (spP R_l_mul)) : Cal P w K mg base "_law_less" 44 p_l_less (spP R_l_less) := by
  refine mkP h sc_l_less (fun ds P h => by obtain ⟨_, _, _, _, _, rfl, _⟩ := h; rfl) fun cdv A outer s H Q E f hr => ⟨(tSeq (tIfS (tTest (tOp rGtI (tVar 0) (tC (.int 0)))) (tSeq (tAsg (tOp (rIxL K) (tVar 1) (tVar 3)) (gName 4))
  (tRet (tLc (iRng1 (tCons (tCB (rLenQ K) (tCons (tVar 1) tNil)) tNil)) (gName 5) tYes (tOp rModI (tCB rInt1 (tCons (tOp rSubI (tOp (rIxL K) (tVar 1) (tVar 5)) (tOp rMulI (tVar 4) (tOp (rIxL K) (tVar 2) (tVar 5)))) tNil)) (tVar 0)) [5]))) tNext)
  (tSeq (tIfS (tTest (tOp (rEqD K) (tOp (rIxL K) (tVar 1) (tVar 3)) (tTup (tCons (tC (.int 0)) (tCons (tC (.int 1)) tNil))))) (tRet (tCB (rListQ K) (tCons (tVar 1) tNil))) tNext)
  (tSeq (tAsg (tTup (tCons (tOp rSubI (tC (.int 0)) (tOp (rIx K) (tOp (rIxL K) (tVar 1) (tVar 3)) (tC (.int 0)))) (tCons (tOp (rIx K) (tOp (rIxL K) (tVar 1) (tVar 3)) (tC (.int 1))) tNil))) (gName 4))
  (tRet (tLc (iRng1 (tCons (tCB (rLenQ K) (tCons (tVar 1) tNil)) tNil)) (gName 5) tYes (tCall (spP R_l_add) [] E0 (tCons (tC (.int 0)) (tCons (tOp (rIxL K) (tVar 1) (tVar 5)) (tCons (tCall (spP R_l_mul) [] E0 (tCons (tC (.int 0)) (tCons (tVar 4) (tCons (tOp (rIxL K) (tVar 2) (tVar 5)) tNil)))) tNil)))) [5]))))),
  (pss_cons (ps_if (pt_cmpR op_gt (pv 0) pe_int (nomark _)) (pss_cons (ps_asg (pe_ix ix_list (pv 1) (pv 3) (fun _ _ => rfl)) (pg_name (i := 4) sc_l_less.nd rfl (by first | exact Or.inl rfl | exact Or.inr rfl)))
  (pss_one (ps_ret (pe_lc (own := [("i", 5)]) (g := (gName 5)) (tt := tYes) (te := (tOp rModI (tCB rInt1 (tCons (tOp rSubI (tOp (rIxL K) (tVar 1) (tVar 5)) (tOp rMulI (tVar 4) (tOp (rIxL K) (tVar 2) (tVar 5)))) tNil)) (tVar 0))) rfl sc_l_less.nd (pi_range1 rfl B.range (pa_cons (pe_callB call_len_seq (by rfl) B.len boot_len (pa_cons (pv 1) pa_nil)) pa_nil)) (blkOk_by (own := [("i", 5)]) (N := N_l_less) (by kernel_rfl)) (fun _ _ _ _ _ => (pg_name (i := 5) sc_l_less.nd rfl (by first | exact Or.inl rfl | exact Or.inr rfl))) (fun _ _ _ _ _ => pts_nil) (fun _ _ _ _ _ => (pe_op op_modN (pe_callTy call_int1 (by rfl) B.int (by decide +kernel) (pa_cons (pe_op op_sub (pe_ix ix_list (pv 1) (pv 5) (fun _ _ => rfl)) (pe_op op_mulI (pv 4) (pe_ix ix_list (pv 2) (pv 5) (fun _ _ => rfl)))) pa_nil)) (pv 0))))))) pss_nil)
  (pss_cons (ps_if (pt_cmpR (op_eqD hr.units) (pe_ix ix_list (pv 1) (pv 3) (fun _ _ => rfl)) (pe_tup (pa_cons pe_int (pa_cons pe_int pa_nil))) (nomark _)) (pss_one (ps_ret (pe_callTy call_list_of (by rfl) B.list (by decide +kernel) (pa_cons (pv 1) pa_nil)))) pss_nil)
  (pss_cons (ps_asg (pe_tup (pa_cons (pe_op op_sub pe_int (pe_ix ix_seq (pe_ix ix_list (pv 1) (pv 3) (fun _ _ => rfl)) pe_int (fun _ _ => rfl))) (pa_cons (pe_ix ix_seq (pe_ix ix_list (pv 1) (pv 3) (fun _ _ => rfl)) pe_int (fun _ _ => rfl)) pa_nil))) (pg_name (i := 4) sc_l_less.nd rfl (by first | exact Or.inl rfl | exact Or.inr rfl)))
  (pss_one (ps_ret (pe_lc (own := [("i", 5)]) (g := (gName 5)) (tt := tYes) (te := (tCall (spP R_l_add) [] E0 (tCons (tC (.int 0)) (tCons (tOp (rIxL K) (tVar 1) (tVar 5)) (tCons (tCall (spP R_l_mul) [] E0 (tCons (tC (.int 0)) (tCons (tVar 4) (tCons (tOp (rIxL K) (tVar 2) (tVar 5)) tNil)))) tNil))))) rfl sc_l_less.nd (pi_range1 rfl B.range (pa_cons (pe_callB call_len_seq (by rfl) B.len boot_len (pa_cons (pv 1) pa_nil)) pa_nil)) (blkOk_by (own := [("i", 5)]) (N := N_l_less) (by kernel_rfl)) (fun _ _ _ _ _ => (pg_name (i := 5) sc_l_less.nd rfl (by first | exact Or.inl rfl | exact Or.inr rfl))) (fun _ _ _ _ _ => pts_nil) (fun _ _ _ _ _ => (pe_cal C_l_add (hr.mono (by decide)) rfl (pa_cons pe_int (pa_cons (pe_ix ix_list (pv 1) (pv 5) (fun _ _ => rfl)) (pa_cons (pe_cal C_l_mul (hr.mono (by decide)) rfl (pa_cons pe_int (pa_cons (pv 4) (pa_cons (pe_ix ix_list (pv 2) (pv 5) (fun _ _ => rfl)) pa_nil)))) pa_nil))))))))))), fun M ds P' hR hq => ?_⟩
  rcases R_l_less_cases hR with ⟨p, hp, v, o, k, rfl, hl, hlen, hk, rfl⟩ | ⟨v, o, k, b, rfl, hl, hlen, hk, hb, bv, bo, rfl⟩
  · have hpp := prime_pos hp
    have at_ : ∀ {r : List (Zp p hp)} {i : Nat}, i < r.length → atI (r.map encZ) (i : Int) = some (encZ (g r i)) := fun {r i} hi => atI_nat (by rw [List.getElem?_map, get_getD hi 0]; rfl)
    refine sd_yes ((et_test (Ev.r (ev_op (Ev.r (ev_var rfl)) (Ev.r ev_int) rv_B0))).is (pos_p hp)) ?_
    refine ss_asg (ev_op (Ev.r (ev_var rfl)) (Ev.r (ev_var rfl)) (rv_ixL (at_ hk))) ?_
    refine sd_ret (Ev.r (EvN.evE (en_ran (fun i => encZ (g v i + -(g v k * g o i))) (ea_cons ((ev_cb (Ev.r (ev_var rfl)) (rc_len rfl)).is (by rw [List.length_map])) ea_nil) (by omega) fun l acc i hi => ⟨[5], _, eg_name, fun _ h => h,
      (ev_op (Ev.r (ev_cb (Ev.r (ev_op (Ev.r (ev_op (Ev.r (ev_var rfl)) (Ev.r (ev_var rfl)) (rv_ixL (at_ hi)))) (Ev.r (ev_op (Ev.r (ev_var rfl)) (Ev.r (ev_op (Ev.r (ev_var rfl)) (Ev.r (ev_var rfl)) (rv_ixL (at_ (by omega))))) (rv_I ((zp_small _).cm (zp_small _) (by decide))))) rv_I0)) rc_int1)) (Ev.r (ev_var rfl)) (rv_I (by omega))).is (congrArg D.int (zsub_val (g v i) (g o i) (g v k)))⟩))) hq ?_
    show D.lst _ = D.lst _
    rw [subr_map hlen]
  · have at_ : ∀ {r : List Rat} {i : Nat}, i < r.length → atI (r.map encQ) (i : Int) = some (encQ (g r i)) := fun {r i} hi => atI_nat (by rw [List.getElem?_map, get_getD hi 0]; rfl)
    have gm : ∀ {r : List Rat} {i : Nat}, i < r.length → g r i ∈ r := fun {r i} hi => by rw [g_lt hi]; exact List.getElem_mem hi
    refine sd_no ((et_test (Ev.r (ev_op (Ev.r (ev_var rfl)) (Ev.r ev_int) rv_B0))).is rfl) ?_
    have z1 : D.tup [.int 0, .int 1] = encQ 0 := rfl
    have test : ∀ {c : Ct} {δ : List Sl}, δ[1]? = some (some (.inl (.lst (v.map encQ)))) → δ[3]? = some (some (.inl (nD k))) → EvT c (tTest (tOp (rEqD K) (tOp (rIxL K) (tVar 1) (tVar 3)) (tTup (tCons (tC (.int 0)) (tCons (tC (.int 1)) tNil))))) δ (· = decide (g v k = 0)) := fun {c δ} h1 h3 =>
      (et_test (Ev.r (ev_op (Ev.r (ev_op (Ev.r (ev_var h1)) (Ev.r (ev_var h3)) (rv_ixL (at_ hk)))) (Ev.r ((ev_tup (ea_cons ev_int (ea_cons ev_int ea_nil))).is z1)) (rv_eqD (okD_encQ _) (okD_encQ _))))).is (eqv_encQ _ _)
    by_cases h0 : g v k = 0
    · refine sd_yes ((test rfl rfl).is (decide_eq_true h0)) ?_
      refine sd_ret (Ev.r (EvN.evE (en_list (Ev.r (ev_var rfl)) rfl))) hq ?_
      rw [h0, subr_zero hlen]
    · refine sd_no ((test rfl rfl).is (decide_eq_false h0)) ?_
      refine ss_asg ((ev_tup (ea_cons (ev_op (Ev.r ev_int) (Ev.r (ev_op (Ev.r (ev_op (Ev.r (ev_var rfl)) (Ev.r (ev_var rfl)) (rv_ixL (at_ hk)))) (Ev.r ev_int) (rv_ix rfl (ix0 _)))) rv_I0) (ea_cons (ev_op (Ev.r (ev_op (Ev.r (ev_var rfl)) (Ev.r (ev_var rfl)) (rv_ixL (at_ hk)))) (Ev.r ev_int) (rv_ix rfl (ix1 _))) ea_nil))).is (d' := encQ (-(g v k))) (q_neg_num _).symm) ?_
      refine sd_ret (Ev.r (EvN.evE (en_ran (fun i => encQ (g v i + -(g v k * g o i))) (ea_cons ((ev_cb (Ev.r (ev_var rfl)) (rc_len rfl)).is (by rw [List.length_map])) ea_nil) (by omega) fun l acc i hi => ⟨[5], _, eg_name, fun _ h => h,
        (ev_call (ea_cons ev_int (ea_cons (ev_op (Ev.r (ev_var rfl)) (Ev.r (ev_var rfl)) (rv_ixL (at_ hi))) (ea_cons (ev_call (ea_cons ev_int (ea_cons (ev_var rfl) (ea_cons (ev_op (Ev.r (ev_var rfl)) (Ev.r (ev_var rfl)) (rv_ixL (at_ (by omega)))) ea_nil))) ⟨.q, (-(g v k) : Rat), (g o i : Rat), b, rfl, neg_eb (bv _ (gm hk)), bo _ (gm (by omega)), by omega, rfl⟩) ea_nil)))
          ⟨.q, (g v i : Rat), (-(g v k) * g o i : Rat), b + b, rfl, eb_mono (bv _ (gm hi)) (by omega), eb_mul (neg_eb (bv _ (gm hk))) (bo _ (gm (by omega))), by omega, rfl⟩).is (congrArg encQ (by rw [Rat.neg_mul]; rfl))⟩))) hq ?_
      show D.lst _ = D.lst _
      rw [subr_map hlen]
end
end E
namespace E
open PySem PySem.Spec PyProof.Rows L2 TL
theorem cdf_eb {b : Nat} {F : Fm} {r : List F.α} (h : CdF b F r) : ∀ x ∈ r, EbF b F x := fun x hx => by
  cases F with
  | q => exact Cd.eb h x hx
  | z p hp => trivial
theorem ebf_inv {b : Nat} {F : Fm} {x : F.α} (h : EbF b F x) (hx : x ≠ 0) : EbF b F x⁻¹ := by
  cases F with
  | q => exact eb_inv h hx
  | z p hp => trivial
theorem ebf_mono {a b : Nat} {F : Fm} {x : F.α} (h : EbF a F x) (k : a ≤ b) : EbF b F x := by
  cases F with
  | q => exact eb_mono h k
  | z p hp => trivial
theorem perm_er {α : Type} : ∀ {l : List α} {i : Nat} (h : i < l.length), l.Perm (l[i] :: l.eraseIdx i)
  | [], _, h => by simp at h
  | a :: l, 0, _ => List.Perm.refl _
  | a :: l, i + 1, h => ((perm_er (l := l) (i := i) (by simpa using h)).cons a).trans (List.Perm.swap _ _ _)
theorem map_er {α β : Type} (f : α → β) : ∀ (l : List α) (i : Nat), (l.map f).eraseIdx i = (l.eraseIdx i).map f
  | [], _ => rfl
  | _ :: _, 0 => rfl
  | a :: l, i + 1 => congrArg (f a :: ·) (map_er f l i)
/-- rows as lists or tuples of numbers -/
def Raw (F : Fm) (d : D) (tab : List (List F.α)) : Prop := ∃ zs : List (D × List F.α), seqD d = some (zs.map (·.1)) ∧ tab = zs.map (·.2) ∧ ∀ z ∈ zs, seqD z.1 = some (z.2.map F.enc)
section
variable {P : Program} {w : World} {K : PySem.W.Frag} {mg : Str → Option Value} {base : Heap}
def R_l_swept (ds : List D) (P : D → Prop) : Prop := ∃ (F : Fm) (d : D) (rows : List (List F.α)) (n b : Nat), ds = [.int F.p, d, nD n] ∧ Raw F d rows ∧ n ≤ 64 ∧ rows.length ≤ 100 ∧ (∀ r ∈ rows, r.length = n) ∧ min rows.length n ≤ 6 ∧ b ≤ 200 ∧ (∀ r ∈ rows, CdF b F r) ∧
  P = fun d => ∃ (T : List (List F.α)) (ls : List Nat), d = .lst (T.map F.row) ∧ Sw n T ls ∧ SameSp T rows ∧ T.length ≤ rows.length ∧ ∀ r ∈ T, CdF 13000 F r
theorem fresh_own {c : Ct} {δ : List Sl} {σ : L2.St} {H H1 : Hp} {l : Addr} {ds : List D} {W : List Addr} (s : Sta c δ σ H) (hk : (H1, W) ∈ c.kp) (hl : (l, ds) ∈ c.own) : l ∈ W ∨ H1 l = none := by
  obtain ⟨_, _, _, x, _⟩ := s.own _ hl
  exact x _ hk
theorem ofInt0 (F : Fm) : F.ofInt 0 = 0 := by
  cases F with
  | q => rfl
  | z p h => rfl
theorem c_l_swept (h : Has K mg "_law_swept" s_l_swept p_l_swept) (B : Bi mg) (C_l_num : Cal P w K mg base "_law_num" 41 p_l_num (spP R_l_num)) (C_l_inv : Cal P w K mg base "_law_inv" 43 p_l_inv (spP R_l_inv)) (C_l_mul : Cal P w K mg base "_law_mul" 43 p_l_mul (spP R_l_mul))
    (C_l_less : Cal P w K mg base "_law_less" 44 p_l_less (spP R_l_less)) : Cal P w K mg base "_law_swept" 45 p_l_swept (spP R_l_swept) := by
  refine mkP h sc_l_swept (fun ds P h => by obtain ⟨_, _, _, _, _, rfl, _⟩ := h; rfl) fun cdv A outer s H Q E f hr => ⟨(tSeq (tAsg (tLc (iSeq K (tVar 1)) (gName 4) tYes (tCB (rListQ K) (tCons (tVar 4) tNil)) [4]) (gName 3))
  (tSeq (tAsg (tCall (spP R_l_num) [] E0 (tCons (tVar 0) (tCons (tC (.int 0)) tNil))) (gName 5))
  (tSeq (tAsg (tLst tNil) (gName 6))
  (tSeq (tFor (iRng1 (tCons (tVar 2) tNil)) (gName 7) (tSeq (tAsg (tLc (iRng1 (tCons (tCB (rLenQ K) (tCons (tVar 3) tNil)) tNil)) (gName 9) (tTest (tOp (rNeD K) (tOp (rIxL K) (tOp (rIxL K) (tVar 3) (tVar 9)) (tVar 7)) (tVar 5))) (tVar 9) [9]) (gName 8))
  (tIfS (tTest (tOp (rNeD K) (tVar 8) (tLst tNil))) (tSeq (tAsg (tBM K "list" rPopAt (tVar 3) (tCons (tOp (rIxL K) (tVar 8) (tUn rNegI (tC (.int 1)))) tNil)) (gName 10))
  (tSeq (tAsg (tCall (spP R_l_inv) [] E0 (tCons (tVar 0) (tCons (tOp (rIxL K) (tVar 10) (tVar 7)) tNil))) (gName 11))
  (tSeq (tAsg (tLc (iList K (tVar 10)) (gName 12) tYes (tCall (spP R_l_mul) [] E0 (tCons (tVar 0) (tCons (tVar 11) (tCons (tVar 12) tNil)))) [12]) (gName 10))
  (tSeq (tAsg (tLc (iList K (tVar 3)) (gName 4) tYes (tCall (spP R_l_less) [] E0 (tCons (tVar 0) (tCons (tVar 4) (tCons (tVar 10) (tCons (tVar 7) tNil))))) [4]) (gName 3))
  (tSeq (tAsg (tLc (iList K (tVar 6)) (gName 4) tYes (tCall (spP R_l_less) [] E0 (tCons (tVar 0) (tCons (tVar 4) (tCons (tVar 10) (tCons (tVar 7) tNil))))) [4]) (gName 6))
  (tDrop (tBM K "list" rAppend (tVar 6) (tCons (tVar 10) tNil)))))))) tNext)))
  (tRet (tLc (iList K (tVar 6)) (gName 4) tYes (tCB (rTupQ K) (tCons (tVar 4) tNil)) [4])))))),
  (pss_cons (ps_asg (pe_lc (own := [("vec", 4)]) (g := (gName 4)) (tt := tYes) (te := (tCB (rListQ K) (tCons (tVar 4) tNil))) rfl sc_l_swept.nd (pi_seq (pv 1)) (blkOk_by (own := [("vec", 4)]) (N := N_l_swept) (by kernel_rfl)) (fun _ _ _ _ _ => (pg_name (i := 4) sc_l_swept.nd rfl (by first | exact Or.inl rfl | exact Or.inr rfl))) (fun _ _ _ _ _ => pts_nil) (fun _ _ _ _ _ => (pe_callTy call_list_of (by rfl) B.list (by decide +kernel) (pa_cons (pv 4) pa_nil)))) (pg_name (i := 3) sc_l_swept.nd rfl (by first | exact Or.inl rfl | exact Or.inr rfl)))
  (pss_cons (ps_asg (pe_cal C_l_num (hr.mono (by decide)) rfl (pa_cons (pv 0) (pa_cons pe_int pa_nil))) (pg_name (i := 5) sc_l_swept.nd rfl (by first | exact Or.inl rfl | exact Or.inr rfl)))
  (pss_cons (ps_asg (pe_lst pa_nil) (pg_name (i := 6) sc_l_swept.nd rfl (by first | exact Or.inl rfl | exact Or.inr rfl)))
  (pss_cons (ps_for PassesOwn.never rfl (pi_range1 rfl B.range (pa_cons (pv 2) pa_nil)) (pg_name (i := 7) sc_l_swept.nd rfl (by first | exact Or.inl rfl | exact Or.inr rfl)) (pss_cons (ps_setLc (i := 8) (own := [("i", 9)]) (g := (gName 9)) (tt := (tTest (tOp (rNeD K) (tOp (rIxL K) (tOp (rIxL K) (tVar 3) (tVar 9)) (tVar 7)) (tVar 5)))) (te := (tVar 9)) rfl sc_l_swept.nd rfl rfl (sw_true rfl rfl rfl (by decide +kernel)) (pi_range1 rfl B.range (pa_cons (pe_callB call_len_seq (by rfl) B.len boot_len (pa_cons (pv 3) pa_nil)) pa_nil)) (blkOk_by (own := [("i", 9)]) (N := N_l_swept) (by kernel_rfl)) (fun _ _ _ _ _ => (pg_name (i := 9) sc_l_swept.nd rfl (by first | exact Or.inl rfl | exact Or.inr rfl))) (fun _ _ _ _ _ => (pts_one (pt_cmpR (op_neD hr.units) (pe_ix ix_list (pe_ix ix_list (pv 3) (pv 9) (fun _ _ => rfl)) (pv 7) (fun _ _ => rfl)) (pv 5) (nomark _)))) (fun _ _ _ _ _ => (pv 9)))
  (pss_one (ps_if (pt_cmpR (op_neD hr.units) (pv 8) (pe_lst pa_nil) (nomark _)) (pss_cons (ps_asg (pe_bm PySem.F.plainAttrs_list PySem.F.slot_list_pop PySem.F.type_list_pop mt_popAt (pv 3) (pa_cons (pe_ix ix_list (pv 8) (pe_un un_neg pe_int) (fun _ _ => rfl)) pa_nil)) (pg_name (i := 10) sc_l_swept.nd rfl (by first | exact Or.inl rfl | exact Or.inr rfl)))
  (pss_cons (ps_asg (pe_cal C_l_inv (hr.mono (by decide)) rfl (pa_cons (pv 0) (pa_cons (pe_ix ix_list (pv 10) (pv 7) (fun _ _ => rfl)) pa_nil))) (pg_name (i := 11) sc_l_swept.nd rfl (by first | exact Or.inl rfl | exact Or.inr rfl)))
  (pss_cons (ps_asg (pe_lc (own := [("u", 12)]) (g := (gName 12)) (tt := tYes) (te := (tCall (spP R_l_mul) [] E0 (tCons (tVar 0) (tCons (tVar 11) (tCons (tVar 12) tNil))))) rfl sc_l_swept.nd (pi_list (pv 10)) (blkOk_by (own := [("u", 12)]) (N := N_l_swept) (by kernel_rfl)) (fun _ _ _ _ _ => (pg_name (i := 12) sc_l_swept.nd rfl (by first | exact Or.inl rfl | exact Or.inr rfl))) (fun _ _ _ _ _ => pts_nil) (fun _ _ _ _ _ => (pe_cal C_l_mul (hr.mono (by decide)) rfl (pa_cons (pv 0) (pa_cons (pv 11) (pa_cons (pv 12) pa_nil)))))) (pg_name (i := 10) sc_l_swept.nd rfl (by first | exact Or.inl rfl | exact Or.inr rfl)))
  (pss_cons (ps_asg (pe_lc (own := [("vec", 4)]) (g := (gName 4)) (tt := tYes) (te := (tCall (spP R_l_less) [] E0 (tCons (tVar 0) (tCons (tVar 4) (tCons (tVar 10) (tCons (tVar 7) tNil)))))) rfl sc_l_swept.nd (pi_list (pv 3)) (blkOk_by (own := [("vec", 4)]) (N := N_l_swept) (by kernel_rfl)) (fun _ _ _ _ _ => (pg_name (i := 4) sc_l_swept.nd rfl (by first | exact Or.inl rfl | exact Or.inr rfl))) (fun _ _ _ _ _ => pts_nil) (fun _ _ _ _ _ => (pe_cal C_l_less (hr.mono (by decide)) rfl (pa_cons (pv 0) (pa_cons (pv 4) (pa_cons (pv 10) (pa_cons (pv 7) pa_nil))))))) (pg_name (i := 3) sc_l_swept.nd rfl (by first | exact Or.inl rfl | exact Or.inr rfl)))
  (pss_cons (ps_setLc (i := 6) (own := [("vec", 4)]) (g := (gName 4)) (tt := tYes) (te := (tCall (spP R_l_less) [] E0 (tCons (tVar 0) (tCons (tVar 4) (tCons (tVar 10) (tCons (tVar 7) tNil)))))) rfl sc_l_swept.nd rfl rfl (sw_true rfl rfl rfl (by decide +kernel)) (pi_list (pv 6)) (blkOk_by (own := [("vec", 4)]) (N := N_l_swept) (by kernel_rfl)) (fun _ _ _ _ _ => (pg_name (i := 4) sc_l_swept.nd rfl (by first | exact Or.inl rfl | exact Or.inr rfl))) (fun _ _ _ _ _ => pts_nil) (fun _ _ _ _ _ => (pe_cal C_l_less (hr.mono (by decide)) rfl (pa_cons (pv 0) (pa_cons (pv 4) (pa_cons (pv 10) (pa_cons (pv 7) pa_nil)))))))
  (pss_one (ps_expr (pe_bm PySem.F.plainAttrs_list PySem.F.slot_list_append PySem.F.type_list_append mt_append (pv 6) (pa_cons (pv 10) pa_nil))))))))) pss_nil))))
  (pss_one (ps_ret (pe_lc (own := [("vec", 4)]) (g := (gName 4)) (tt := tYes) (te := (tCB (rTupQ K) (tCons (tVar 4) tNil))) rfl sc_l_swept.nd (pi_list (pv 6)) (blkOk_by (own := [("vec", 4)]) (N := N_l_swept) (by kernel_rfl)) (fun _ _ _ _ _ => (pg_name (i := 4) sc_l_swept.nd rfl (by first | exact Or.inl rfl | exact Or.inr rfl))) (fun _ _ _ _ _ => pts_nil) (fun _ _ _ _ _ => (pe_callTy call_tuple_of (by rfl) B.tuple (by decide +kernel) (pa_cons (pv 4) pa_nil)))))))))), fun M ds P' hR hq => ?_⟩
  obtain ⟨F, d, rows, n, b, rfl, ⟨zs, hz1, hz2, hz3⟩, hn, hrl, hw, hmin, hb, hcd, rfl⟩ := hR
  have zl : zs.length = rows.length := by rw [hz2, List.length_map]
  refine ss_asgN (en_lcM zs (·.1) (fun z => F.rowL z.2) (EvI.o (ei_seq (ev_var rfl) hz1)) (by omega) fun l acc z hz => ⟨[4], _, eg_name, fun _ h => h, EvN.evE (en_list (Ev.r (ev_var rfl)) (hz3 z hz))⟩) fun lr0 ds e0 nr => ?_
  have e0 : ds = rows.map F.rowL := by rw [e0, hz2, List.map_map]; rfl
  subst e0
  refine ss_asg ((ev_call (ea_cons (ev_var rfl) (ea_cons ev_int ea_nil)) ⟨F, 0, rfl, rfl⟩).is (congrArg F.enc (ofInt0 F))) ?_
  refine ss_asgN (en_lst ea_nil) fun lm0 ds e0 nm => ?_
  subst e0
  refine ss_for (ei_rng (n := n) (ea_cons (ev_var rfl) ea_nil) (by omega)) (fun H1 k c1 δ1 => ∃ (S R : List (List F.α)) (ls : List Nat) (lm lr : Addr) (M1 : List Addr) (x4 x7 x8 x9 x10 x11 x12 : Sl), c1 = ⟨H, [], M, none, [], M1, [(lm, S.map F.rowL), (lr, R.map F.rowL)], [(H1, [lm0, lr0])]⟩ ∧ (∀ b ∈ M1, b ∈ lm0 :: lr0 :: M ∨ H1 b = none) ∧
      Sl2 n k S R ls rows ∧ (∀ r ∈ S, CdF (cb b S.length) F r) ∧ (∀ r ∈ R, CdF (cb b S.length) F r) ∧
      δ1 = [some (.inl (.int F.p)), some (.inl d), some (.inl (nD n)), some (.inr lr), x4, some (.inl (F.enc 0)), some (.inr lm), x7, x8, x9, x10, x11, x12])
    (fun H1 => ⟨[], rows, [], lm0, lr0, lm0 :: lr0 :: M, none, none, none, none, none, none, none, rfl, (fun b hb => .inl hb), Sl2.start hw, (fun r hr => by cases hr), hcd, rfl⟩)
    (fun H1 k c1 δ1 hI => by obtain ⟨S, R, ls, lm, lr, M1, _, _, _, _, _, _, _, rfl, hM, _⟩ := hI; exact ⟨rfl, hM⟩) ?_ ?_
  · rintro H1 k dk c1 δ1 hd ⟨S, R, ls, lm, lr, M1, x4, x7, x8, x9, x10, x11, x12, rfl, hM, hs, hcS, hcR, rfl⟩
    have hk : k < n := by have := (List.getElem?_eq_some_iff.mp hd).1; simpa using this
    have ed : dk = nD k := by
      rw [List.getElem?_map, List.getElem?_range hk] at hd
      exact (Option.some.inj hd).symm
    subst ed
    have cnt := hs.cnt
    have lSn : S.length ≤ n := by rw [hs.sw.len]; exact nodup_len (hs.sw.up.imp fun h => Nat.ne_of_lt h) hs.sw.lt
    refine ⟨[7], _, eg_name, ?_⟩
    have rowat : ∀ i, i < R.length → atI (R.map F.rowL) (i : Int) = some (F.rowL (R.getD i [])) := fun i hi => atI_nat (by rw [List.getElem?_map, get_getD hi []]; rfl)
    have wid : ∀ i, i < R.length → (R.getD i []).length = n := fun i hi => hs.wid _ (mem_getD hi [])
    have at_ : ∀ {r : List F.α} {i : Nat}, i < r.length → atI (r.map F.enc) (i : Int) = some (F.enc (g r i)) := fun {r i} hi => atI_nat (by rw [List.getElem?_map, get_getD hi 0]; rfl)
    refine ss_asg (EvN.evE (en_lcF (List.range R.length) nD (fun i => !decide (g (R.getD i []) k = 0)) nD (EvI.o (ei_rng (n := R.length) (ea_cons ((ev_cb (evr_own (l := lr) rfl (by simp)) (rc_len (ds := R.map F.rowL) rfl)).is (by rw [List.length_map])) ea_nil) (by omega))) (by simp; omega)
      fun l acc i hi => ⟨[9], _, eg_name, fun _ h => h, (et_test (Ev.r (ev_op (Ev.r (ev_op (Ev.r (ev_op (evr_own (l := lr) rfl (List.mem_cons_of_mem _ (by simp))) (Ev.r (ev_var rfl)) (rv_ixL (rowat i (List.mem_range.mp hi))))) (Ev.r (ev_var rfl)) (rv_ixL (at_ (by rw [wid i (List.mem_range.mp hi)]; exact hk))))) (Ev.r (ev_var rfl)) (rv_neD (okD_enc F _) (okD_enc F _))))).is (by rw [eqv_enc]), fun _ => ev_var rfl⟩)) ?_
    generalize hpk : (List.range R.length).filter (fun i => !decide (g (R.getD i []) k = 0)) = picks
    have okp : okD (.lst (picks.map nD)) = true := (okK_lst (okK_map okK_nD picks)).ok
    have ok0 : okD (.lst (([] : List Nat).map nD)) = true := (okK_lst (okK_map okK_nD [])).ok
    cases hpl : picks.getLast? with
    | none =>
      have hp0 : picks = [] := List.getLast?_eq_none_iff.mp hpl
      refine sd_ifE (k := false) ((et_test (Ev.r (ev_op (Ev.r (ev_var rfl)) (Ev.r (EvN.evE ((en_lst ea_nil).is (d' := ([] : List Nat).map nD) rfl))) (rv_neD okp ok0)))).is (by rw [(eqv_lst eqv_nD _ _).mpr hp0]; rfl)) (fun e => by cases e) fun _ => sd_next (nx_I ⟨S, R, ls, lm, lr, M1, _, _, _, _, _, _, _, rfl, hM, hs.skip fun r hr => ?_, hcS, hcR, rfl⟩)
      obtain ⟨i, hi⟩ := List.mem_iff_getElem?.mp hr
      have hil := (List.getElem?_eq_some_iff.mp hi).1
      apply Classical.byContradiction
      intro hz
      have : i ∈ picks := by
        rw [← hpk]
        refine List.mem_filter.mpr ⟨List.mem_range.mpr hil, ?_⟩
        rw [List.getD_eq_getElem?_getD, hi]
        simpa using hz
      rw [hp0] at this; cases this
    | some i0 =>
      have hmem : i0 ∈ picks := List.mem_of_getLast? hpl
      have hi0 := hmem
      rw [← hpk] at hi0
      obtain ⟨hi0, hne⟩ := List.mem_filter.mp hi0
      have hi0 := List.mem_range.mp hi0
      have hne : g (R.getD i0 []) k ≠ 0 := by simpa using hne
      have hpne : picks ≠ [] := fun z => by rw [z] at hmem; cases hmem
      obtain ⟨pre, hpre⟩ : ∃ pre, picks = pre ++ [i0] := List.getLast?_eq_some_iff.mp hpl
      have eget := get_getD hi0 ([] : List F.α)
      have hperm : R.Perm (R.getD i0 [] :: R.eraseIdx i0) := by
        have e : R.getD i0 [] = R[i0] := by rw [List.getD_eq_getElem?_getD, List.getElem?_eq_getElem hi0]; rfl
        rw [e]
        exact perm_er hi0
      have cr0 := hcR _ (mem_getD hi0 [])
      have wr0 := wid i0 hi0
      generalize R.getD i0 [] = r0 at *
      have hRlen : (R.eraseIdx i0).length + 1 = R.length := by have := hperm.length_eq; simpa using this.symm
      have mR1 : ∀ r ∈ R.eraseIdx i0, r ∈ R := fun r hr => hperm.mem_iff.mpr (List.mem_cons_of_mem _ hr)
      refine sd_ifE (k := true) ((et_test (Ev.r (ev_op (Ev.r (ev_var rfl)) (Ev.r (EvN.evE ((en_lst ea_nil).is (d' := ([] : List Nat).map nD) rfl))) (rv_neD okp ok0)))).is (by
        cases q : PyData.eqv (py (.lst (picks.map nD))) (py (.lst (([] : List Nat).map nD))) with
        | false => rfl
        | true => exact absurd ((eqv_lst eqv_nD _ _).mp q) hpne)) (fun _ => ?_) fun e => by cases e
      refine sd_perm (own' := [(lr, R.map F.rowL), (lm, S.map F.rowL)]) (List.Perm.swap _ _ _) ?_
      refine ss_pop (z := (i0 : Int)) (k := i0) (d := F.rowL r0) rfl rfl (ev_op (Ev.r (ev_var rfl)) (Ev.r (ev_un (Ev.r ev_int))) (rv_ixL (d := nD i0) (by rw [hpre, List.map_append]; exact L2.atI_last _ _))) (by omega) (by
        unfold seqIndex?
        have h1 : ¬ ((i0 : Int) < 0) := by omega
        simp only [if_neg h1, List.length_map]
        have h2 : (decide ((0 : Int) ≤ (i0 : Int)) && decide ((i0 : Int) < (R.length : Int))) = true := by simp; omega
        simp [h2]; omega) (by rw [List.getElem?_map, eget]; rfl) ?_
      show Sd ⟨H, [], M, none, [], M1, [(lr, (R.map F.rowL).eraseIdx i0), (lm, S.map F.rowL)], [(H1, [lm0, lr0])]⟩ _ _ _
      refine ss_asg (ev_call (ea_cons (ev_var rfl) (ea_cons (ev_op (Ev.r (ev_var rfl)) (Ev.r (ev_var rfl)) (rv_ixL (at_ (r := r0) (by omega)))) ea_nil)) ⟨F, g r0 k, rfl, hne, rfl⟩) ?_
      have er0 : EbF (cb b S.length) F (g r0 k) := cdf_eb cr0 _ (by rw [g_lt (by omega)]; exact List.getElem_mem _)
      have cbS : cb b S.length ≤ 13000 := cb_le hb (by omega)
      have einv := ebf_inv er0 hne
      have cv := cr0.norm (by omega) hne
      have gv : ∀ i, g (r0.map ((g r0 k)⁻¹ * ·)) i = (g r0 k)⁻¹ * g r0 i := fun i => g_mapL _ i
      have inz : (g r0 k)⁻¹ ≠ 0 := fun z => by
        have := Fld.mulI _ hne
        rw [z, mul0] at this
        exact Fld.ne01 this.symm
      have one : g (r0.map ((g r0 k)⁻¹ * ·)) k = 1 := by rw [gv, Fld.mulC, Fld.mulI _ hne]
      generalize hcc : (g r0 k)⁻¹ = cc at *
      refine ss_asg (EvN.evE ((en_lst' r0 F.enc (fun u => F.enc (cc * u)) (ev_var rfl) (by omega) fun l acc u hu => ⟨[12], _, eg_name, fun _ h => h, ev_call (ea_cons (ev_var rfl) (ea_cons (ev_var rfl) (ea_cons (ev_var rfl) ea_nil))) ⟨F, cc, u, cb b S.length, rfl, einv, cdf_eb cr0 u hu, by omega, rfl⟩⟩).is (show _ = (r0.map (cc * ·)).map F.enc by rw [List.map_map]; rfl))) ?_
      have wv : (r0.map (cc * ·)).length = n := by rw [List.length_map]; exact wr0
      generalize hvv : r0.map (cc * ·) = v at *
      refine ss_asgN (en_lcM (R.eraseIdx i0) F.rowL (fun r => F.rowL (subr (g r k) r v)) ((ei_own (l := lr) rfl List.mem_cons_self).is (map_er F.rowL R i0)) (by omega) fun l acc r hr => ⟨[4], _, eg_name, fun _ h => h, ev_call (ea_cons (ev_var rfl) (ea_cons (ev_var rfl) (ea_cons (ev_var rfl) (ea_cons (ev_var rfl) ea_nil)))) ⟨F, r, v, k, cb b S.length, rfl, by rw [hs.wid r (mR1 r hr)]; omega, by rw [hs.wid r (mR1 r hr), wv], by rw [hs.wid r (mR1 r hr)]; exact hk, by omega, cdf_eb (hcR r (mR1 r hr)), cdf_eb cv, rfl⟩⟩) fun lr' ds e0 nr' => ?_
      subst e0
      show Sd ⟨H, [], M, none, [], lr' :: M1, [(lr', (R.eraseIdx i0).map fun r => F.rowL (subr (g r k) r v)), (lr, (R.map F.rowL).eraseIdx i0), (lm, S.map F.rowL)], [(H1, [lm0, lr0])]⟩ _ _ _
      refine ss_asgN (en_lcM S F.rowL (fun r => F.rowL (subr (g r k) r v)) (ei_own (l := lm) rfl (List.mem_cons_of_mem _ (List.mem_cons_of_mem _ List.mem_cons_self))) (by omega) fun l acc r hr => ⟨[4], _, eg_name, fun _ h => h, ev_call (ea_cons (ev_var rfl) (ea_cons (ev_var rfl) (ea_cons (ev_var rfl) (ea_cons (ev_var rfl) ea_nil)))) ⟨F, r, v, k, cb b S.length, rfl, by rw [hs.sw.wid r hr]; omega, by rw [hs.sw.wid r hr, wv], by rw [hs.sw.wid r hr]; exact hk, by omega, cdf_eb (hcS r hr), cdf_eb cv, rfl⟩⟩) fun lm' ds e0 nm' => ?_
      subst e0
      show Sd ⟨H, [], M, none, [], lm' :: lr' :: M1, [(lm', S.map fun r => F.rowL (subr (g r k) r v)), (lr', (R.eraseIdx i0).map fun r => F.rowL (subr (g r k) r v)), (lr, (R.map F.rowL).eraseIdx i0), (lm, S.map F.rowL)], [(H1, [lm0, lr0])]⟩ _ _ _
      refine sd_app rfl rfl (ev_var rfl) (by rw [List.length_map]; omega) fun d e => ?_
      subst e
      refine nx_drop (own' := [(lm', S.map (fun r => F.rowL (subr (g r k) r v)) ++ [F.rowL v]), (lr', (R.eraseIdx i0).map fun r => F.rowL (subr (g r k) r v))]) (by
        refine List.Sublist.cons_cons _ (List.Sublist.cons_cons _ (List.nil_sublist _))) ?_
      show Nx ⟨H, [], M, none, [], lm' :: lr' :: M1, [(lm', S.map (fun r => F.rowL (subr (g r k) r v)) ++ [F.rowL v]), (lr', (R.eraseIdx i0).map fun r => F.rowL (subr (g r k) r v))], [(H1, [lm0, lr0])]⟩ _ _
      refine nx_Is fun σ2 H2 st => ?_
      have e1 : S.map (fun r => F.rowL (subr (g r k) r v)) ++ [F.rowL v] = (S.map (fun s => subr (g s k) s v) ++ [v]).map F.rowL := by rw [List.map_append, List.map_map]; rfl
      have e2 : (R.eraseIdx i0).map (fun r => F.rowL (subr (g r k) r v)) = ((R.eraseIdx i0).map fun r => subr (g r k) r v).map F.rowL := by rw [List.map_map]; rfl
      have piv := hs.pivot hk hperm inz wv gv one
      have eL : (S.map (fun s => subr (g s k) s v) ++ [v]).length = S.length + 1 := by simp
      have up : cb b S.length + cb b S.length + 1 ≤ cb b (S.length + 1) := by simp only [cb]; omega
      refine ⟨_, _, ls ++ [k], lm', lr', lm' :: lr' :: M1, _, _, _, _, _, _, _, ?_, fun b hb => ?_, piv, fun r hr => ?_, fun r hr => ?_, rfl⟩
      · rw [← e1, ← e2]
      · rcases List.mem_cons.mp hb with z | z
        · subst z
          rcases fresh_own st List.mem_cons_self (List.mem_cons_self) with q | q
          · exact .inl (by simp at q ⊢; rcases q with q | q <;> simp [q])
          · exact .inr q
        · rcases List.mem_cons.mp z with z | z
          · subst z
            rcases fresh_own st List.mem_cons_self (List.mem_cons_of_mem _ List.mem_cons_self) with q | q
            · exact .inl (by simp at q ⊢; rcases q with q | q <;> simp [q])
            · exact .inr q
          · exact hM b z
      · rw [eL]
        rcases List.mem_append.mp hr with z | z
        · obtain ⟨s, hs2, rfl⟩ := List.mem_map.mp z
          exact ((hcS s hs2).less cv (by rw [hs.sw.wid s hs2, wv]) (by rw [hs.sw.wid s hs2]; exact hk)).mono up
        · rw [List.mem_singleton.mp z]; exact cv.mono (cb_up b _)
      · rw [eL]
        obtain ⟨s, hs2, rfl⟩ := List.mem_map.mp hr
        exact ((hcR s (mR1 s hs2)).less cv (by rw [hs.wid s (mR1 s hs2), wv]) (by rw [hs.wid s (mR1 s hs2)]; exact hk)).mono up
  · rintro H1 c1 δ1 ⟨S, R, ls, lm, lr, M1, x4, x7, x8, x9, x10, x11, x12, rfl, hM, hs, hcS, hcR, rfl⟩
    rw [List.length_map, List.length_range] at hs
    obtain ⟨sw, sp, le⟩ := hs.done
    have lSn : S.length ≤ n := by rw [sw.len]; exact nodup_len (sw.up.imp fun h => Nat.ne_of_lt h) sw.lt
    refine sd_ret (Ev.r (EvN.evE (en_lcM S F.rowL F.row (ei_own (l := lm) rfl (by simp)) (by omega) fun l acc r hr => ⟨[4], _, eg_name, fun _ h => h, ev_cb (Ev.r (ev_var rfl)) (rc_tuple rfl)⟩))) hq ⟨S, ls, rfl, sw, sp, le, fun r hr => (hcS r hr).mono (cb_le hb (by omega))⟩
end
end E
namespace E
open PySem PySem.Spec PyProof.Rows L2 TL
theorem ofInt1 (F : Fm) : F.ofInt 1 = 1 := by
  cases F with
  | q => rfl
  | z p h => rfl
theorem ebf_zero {b : Nat} {F : Fm} (hb : 1 ≤ b) : EbF b F 0 := by
  cases F with
  | q =>
    have : (2 : Nat) ≤ 2 ^ b := by have := Nat.pow_le_pow_right (n := 2) (by decide) hb; simpa using this
    exact ⟨by show (0 : Int).natAbs < _; simp; omega, by show (((1 : Nat) : Int)).natAbs < _; simp; omega⟩
  | z p h => trivial
theorem ebf_mul {a b : Nat} {F : Fm} {x y : F.α} (h : EbF a F x) (k : EbF b F y) : EbF (a + b) F (x * y) := by
  cases F with
  | q => exact eb_mul h k
  | z p hp => trivial
theorem eb_add {a b : Nat} {x y : Rat} (h : Eb a x) (k : Eb b y) : Eb (a + b + 1) (x + y) := by
  rw [← q_add]
  refine Eb.of (Int.mul_ne_zero (den_ne x) (den_ne y)) (Bt.add (h.1.mul k.2) ?_) ((h.2.mul k.2).mono (by omega))
  have := k.1.mul h.2
  rw [Nat.add_comm] at this; exact this
theorem ebf_add {a b : Nat} {F : Fm} {x y : F.α} (h : EbF a F x) (k : EbF b F y) : EbF (a + b + 1) F (x + y) := by
  cases F with
  | q => exact eb_add h k
  | z p hp => trivial
section
variable {P : Program} {w : World} {K : PySem.W.Frag} {mg : Str → Option Value} {base : Heap}
abbrev s_l_units : Stmt := topS 66
abbrev N_l_units : List Str := ["f", "wide", "i", "j"]
abbrev p_l_units : List Str := ["f", "wide"]
theorem sc_l_units : FnScope N_l_units p_l_units (defScope s_l_units) := ⟨rfl, rfl, rfl, by decide +kernel, rfl, by decide +kernel, by decide +kernel⟩
abbrev s_l_led : Stmt := topS 67
abbrev N_l_led : List Str := ["f", "vec", "tab", "wide", "made", "k", "i"]
abbrev p_l_led : List Str := ["f", "vec", "tab", "wide"]
theorem sc_l_led : FnScope N_l_led p_l_led (defScope s_l_led) := ⟨rfl, rfl, rfl, by decide +kernel, rfl, by decide +kernel, by decide +kernel⟩
abbrev s_l_product : Stmt := topS 70
abbrev N_l_product : List Str := ["f", "tab", "other_tab", "wide", "vec"]
abbrev p_l_product : List Str := ["f", "tab", "other_tab", "wide"]
theorem sc_l_product : FnScope N_l_product p_l_product (defScope s_l_product) := ⟨rfl, rfl, rfl, by decide +kernel, rfl, by decide +kernel, by decide +kernel⟩
def R_l_units (ds : List D) (P : D → Prop) : Prop := ∃ (F : Fm) (n : Nat), ds = [.int F.p, nD n] ∧ n ≤ 64 ∧ P = (· = .lst ((unitL F.α n).map F.rowL))
theorem c_l_units (h : Has K mg "_law_units" s_l_units p_l_units) (B : Bi mg) (C_l_num : Cal P w K mg base "_law_num" 41 p_l_num (spP R_l_num)) : Cal P w K mg base "_law_units" 42 p_l_units (spP R_l_units) := by
  refine mkP h sc_l_units (fun ds P h => by obtain ⟨_, _, rfl, _⟩ := h; rfl) fun cdv A outer s H Q E f hr => ⟨(tRet (tLc (iRng1 (tCons (tVar 1) tNil)) (gName 2) tYes (tLc (iRng1 (tCons (tVar 1) tNil)) (gName 3) tYes (tCall (spP R_l_num) [] E0 (tCons (tVar 0) (tCons (tCB rInt1 (tCons (tOp rEq (tVar 2) (tVar 3)) tNil)) tNil))) [3]) [2])),
  (pss_one (ps_ret (pe_lc (own := [("i", 2)]) (g := (gName 2)) (tt := tYes) (te := (tLc (iRng1 (tCons (tVar 1) tNil)) (gName 3) tYes (tCall (spP R_l_num) [] E0 (tCons (tVar 0) (tCons (tCB rInt1 (tCons (tOp rEq (tVar 2) (tVar 3)) tNil)) tNil))) [3])) rfl sc_l_units.nd (pi_range1 rfl B.range (pa_cons (pv 1) pa_nil)) (blkOk_by (own := [("i", 2)]) (N := N_l_units) (by kernel_rfl)) (fun _ _ _ _ _ => (pg_name (i := 2) sc_l_units.nd rfl (by first | exact Or.inl rfl | exact Or.inr rfl))) (fun _ _ _ _ _ => pts_nil) (fun _ _ _ _ _ => (pe_lc (own := [("j", 3)]) (g := (gName 3)) (tt := tYes) (te := (tCall (spP R_l_num) [] E0 (tCons (tVar 0) (tCons (tCB rInt1 (tCons (tOp rEq (tVar 2) (tVar 3)) tNil)) tNil)))) rfl sc_l_units.nd (pi_range1 rfl B.range (pa_cons (pv 1) pa_nil)) (blkOk_by (own := [("j", 3)]) (N := N_l_units) (by kernel_rfl)) (fun _ _ _ _ _ => (pg_name (i := 3) sc_l_units.nd rfl (by first | exact Or.inl rfl | exact Or.inr rfl))) (fun _ _ _ _ _ => pts_nil) (fun _ _ _ _ _ => (pe_cal C_l_num (hr.mono (by decide)) rfl (pa_cons (pv 0) (pa_cons (pe_callTy call_int1 (by rfl) B.int (by decide +kernel) (pa_cons (pe_cmpR op_eq (pv 2) (pv 3) (nomark _)) pa_nil)) pa_nil))))))))), fun M ds P' hR hq => ?_⟩
  obtain ⟨F, n, rfl, hn, rfl⟩ := hR
  refine sd_ret (Ev.r (EvN.evE (en_ran (fun k => F.rowL ((List.range n).map fun i => if i = k then (1 : F.α) else 0)) (ea_cons (ev_var rfl) ea_nil) (by omega) fun l acc k hk => ⟨[2], _, eg_name, fun _ h => h,
    (EvN.evE (en_ran (fun i => F.enc (if i = k then (1 : F.α) else 0)) (ea_cons (ev_var rfl) ea_nil) (by omega) fun l2 acc2 i hi => ⟨[3], _, eg_name, fun _ h => h,
      (ev_call (ea_cons (ev_var rfl) (ea_cons (ev_cb (Ev.r (ev_op (Ev.r (ev_var rfl)) (Ev.r (ev_var rfl)) rv_eqI)) rc_intB) ea_nil)) ⟨F, _, rfl, rfl⟩).is (by
        by_cases q : i = k
        · subst q; rw [if_pos rfl, decide_eq_true rfl]; exact congrArg F.enc (ofInt1 F)
        · rw [if_neg q, decide_eq_false (by omega : ¬ ((k : Nat) : Int) = ((i : Nat) : Int))]; exact congrArg F.enc (ofInt0 F))⟩)).is (by show D.lst _ = D.lst _; rw [List.map_map]; rfl)⟩))) hq ?_
  show D.lst _ = D.lst _
  unfold unitL
  rw [List.map_map]; rfl
def R_l_led (ds : List D) (P : D → Prop) : Prop := ∃ (F : Fm) (v : List F.α) (tab : List (List F.α)) (n b : Nat), ds = [.int F.p, F.rowL v, .lst (tab.map F.rowL), nD n] ∧ n ≤ 64 ∧ v.length ≤ 64 ∧ v.length = tab.length ∧ (∀ t ∈ tab, t.length = n) ∧ b ≤ 20000 ∧ (∀ x ∈ v, EbF b F x) ∧ (∀ t ∈ tab, ∀ x ∈ t, EbF b F x) ∧ P = (· = F.rowL (lrow n tab v))
theorem c_l_led (h : Has K mg "_law_led" s_l_led p_l_led) (B : Bi mg) (C_l_num : Cal P w K mg base "_law_num" 41 p_l_num (spP R_l_num)) (C_l_add : Cal P w K mg base "_law_add" 43 p_l_add (spP R_l_add)) (C_l_mul : Cal P w K mg base "_law_mul" 43 p_l_mul (spP R_l_mul)) : Cal P w K mg base "_law_led" 44 p_l_led (spP R_l_led) := by
  refine mkP h sc_l_led (fun ds P h => by obtain ⟨_, _, _, _, _, rfl, _⟩ := h; rfl) fun cdv A outer s H Q E f hr => ⟨(tSeq (tAsg (tLc (iRng1 (tCons (tVar 3) tNil)) (gName 5) tYes (tCall (spP R_l_num) [] E0 (tCons (tVar 0) (tCons (tC (.int 0)) tNil))) [5]) (gName 4))
  (tSeq (tFor (iRng1 (tCons (tCB (rLenQ K) (tCons (tVar 1) tNil)) tNil)) (gName 6) (tIfS (tTest (tOp (rNeD K) (tOp (rIxL K) (tVar 1) (tVar 6)) (tCall (spP R_l_num) [] E0 (tCons (tVar 0) (tCons (tC (.int 0)) tNil))))) (tAsg (tLc (iRng1 (tCons (tVar 3) tNil)) (gName 5) tYes (tCall (spP R_l_add) [] E0 (tCons (tVar 0) (tCons (tOp (rIxL K) (tVar 4) (tVar 5)) (tCons (tCall (spP R_l_mul) [] E0 (tCons (tVar 0) (tCons (tOp (rIxL K) (tVar 1) (tVar 6)) (tCons (tOp (rIxL K) (tOp (rIxL K) (tVar 2) (tVar 6)) (tVar 5)) tNil)))) tNil)))) [5]) (gName 4)) tNext))
  (tRet (tVar 4)))),
  (pss_cons (ps_asg (pe_lc (own := [("k", 5)]) (g := (gName 5)) (tt := tYes) (te := (tCall (spP R_l_num) [] E0 (tCons (tVar 0) (tCons (tC (.int 0)) tNil)))) rfl sc_l_led.nd (pi_range1 rfl B.range (pa_cons (pv 3) pa_nil)) (blkOk_by (own := [("k", 5)]) (N := N_l_led) (by kernel_rfl)) (fun _ _ _ _ _ => (pg_name (i := 5) sc_l_led.nd rfl (by first | exact Or.inl rfl | exact Or.inr rfl))) (fun _ _ _ _ _ => pts_nil) (fun _ _ _ _ _ => (pe_cal C_l_num (hr.mono (by decide)) rfl (pa_cons (pv 0) (pa_cons pe_int pa_nil))))) (pg_name (i := 4) sc_l_led.nd rfl (by first | exact Or.inl rfl | exact Or.inr rfl)))
  (pss_cons (ps_for PassesOwn.never rfl (pi_range1 rfl B.range (pa_cons (pe_callB call_len_seq (by rfl) B.len boot_len (pa_cons (pv 1) pa_nil)) pa_nil)) (pg_name (i := 6) sc_l_led.nd rfl (by first | exact Or.inl rfl | exact Or.inr rfl)) (pss_one (ps_if (pt_cmpR (op_neD hr.units) (pe_ix ix_list (pv 1) (pv 6) (fun _ _ => rfl)) (pe_cal C_l_num (hr.mono (by decide)) rfl (pa_cons (pv 0) (pa_cons pe_int pa_nil))) (nomark _)) (pss_one (ps_asg (pe_lc (own := [("k", 5)]) (g := (gName 5)) (tt := tYes) (te := (tCall (spP R_l_add) [] E0 (tCons (tVar 0) (tCons (tOp (rIxL K) (tVar 4) (tVar 5)) (tCons (tCall (spP R_l_mul) [] E0 (tCons (tVar 0) (tCons (tOp (rIxL K) (tVar 1) (tVar 6)) (tCons (tOp (rIxL K) (tOp (rIxL K) (tVar 2) (tVar 6)) (tVar 5)) tNil)))) tNil))))) rfl sc_l_led.nd (pi_range1 rfl B.range (pa_cons (pv 3) pa_nil)) (blkOk_by (own := [("k", 5)]) (N := N_l_led) (by kernel_rfl)) (fun _ _ _ _ _ => (pg_name (i := 5) sc_l_led.nd rfl (by first | exact Or.inl rfl | exact Or.inr rfl))) (fun _ _ _ _ _ => pts_nil) (fun _ _ _ _ _ => (pe_cal C_l_add (hr.mono (by decide)) rfl (pa_cons (pv 0) (pa_cons (pe_ix ix_list (pv 4) (pv 5) (fun _ _ => rfl)) (pa_cons (pe_cal C_l_mul (hr.mono (by decide)) rfl (pa_cons (pv 0) (pa_cons (pe_ix ix_list (pv 1) (pv 6) (fun _ _ => rfl)) (pa_cons (pe_ix ix_list (pe_ix ix_list (pv 2) (pv 6) (fun _ _ => rfl)) (pv 5) (fun _ _ => rfl)) pa_nil)))) pa_nil)))))) (pg_name (i := 4) sc_l_led.nd rfl (by first | exact Or.inl rfl | exact Or.inr rfl)))) pss_nil)))
  (pss_one (ps_ret (pv 4))))), fun M ds P' hR hq => ?_⟩
  obtain ⟨F, v, tab, n, b, rfl, hn, hl, hlen, hw, hb, bv, bt, rfl⟩ := hR
  have at_ : ∀ {r : List F.α} {i : Nat}, i < r.length → atI (r.map F.enc) (i : Int) = some (F.enc (g r i)) := fun {r i} hi => atI_nat (by rw [List.getElem?_map, get_getD hi 0]; rfl)
  refine ss_asg ((EvN.evE (en_ran (fun _ => F.enc (0 : F.α)) (ea_cons (ev_var rfl) ea_nil) (by omega) fun l acc k hk => ⟨[5], _, eg_name, fun _ h => h, (ev_call (ea_cons (ev_var rfl) (ea_cons ev_int ea_nil)) ⟨F, 0, rfl, rfl⟩).is (congrArg F.enc (ofInt0 F))⟩)).is (d' := F.rowL ((List.range n).map fun _ => (0 : F.α))) (by show D.lst _ = D.lst _; rw [List.map_map]; rfl)) ?_
  refine ss_for (ei_rng (n := v.length) (ea_cons ((ev_cb (Ev.r (ev_var rfl)) (rc_len (ds := v.map F.enc) rfl)).is (by rw [List.length_map])) ea_nil) (by omega)) (fun H1 i c1 δ1 => c1 = Ct.loop _ H1 ∧ ∃ (m : List F.α) (x5 x6 : Sl), m.length = n ∧ (∀ x ∈ m, EbF (i * (2 * b + 1) + 1) F x) ∧ (∀ k, k < n → g m k + lin (v.drop i) (tab.drop i) k = lin v tab k) ∧
      δ1 = [some (.inl (.int F.p)), some (.inl (F.rowL v)), some (.inl (.lst (tab.map F.rowL))), some (.inl (nD n)), some (.inl (F.rowL m)), x5, x6])
    (fun H1 => ⟨rfl, _, none, none, by simp, (fun x hx => by obtain ⟨_, _, rfl⟩ := List.mem_map.mp hx; exact ebf_zero (by omega)), (fun k hk => by rw [g_range hk, zadd]; rfl), rfl⟩) (fun H1 i c1 δ1 hI => by obtain ⟨rfl, _⟩ := hI; exact ⟨rfl, fun b hb => .inl hb⟩) ?_ ?_
  · rintro H1 i d c1 δ1 hd ⟨rfl, m, x5, x6, hm, hbm, hsum, rfl⟩
    have hi : i < v.length := by have := (List.getElem?_eq_some_iff.mp hd).1; simpa using this
    have ed : d = nD i := by
      rw [List.getElem?_map, List.getElem?_range hi] at hd
      exact (Option.some.inj hd).symm
    subst ed
    have hit : i < tab.length := by omega
    have e1 : v.drop i = v[i] :: v.drop (i + 1) := List.drop_eq_getElem_cons hi
    have e2 : tab.drop i = tab[i] :: tab.drop (i + 1) := List.drop_eq_getElem_cons hit
    have gvi : g v i = v[i] := g_lt hi
    have bvi := bv v[i] (List.getElem_mem hi)
    have wt := hw tab[i] (List.getElem_mem hit)
    have bti := bt tab[i] (List.getElem_mem hit)
    have hsum : ∀ k, k < n → g m k + (v[i] * g tab[i] k + lin (v.drop (i + 1)) (tab.drop (i + 1)) k) = lin v tab k := fun k hk => by
      have := hsum k hk
      rw [e1, e2] at this; exact this
    have ti : atI (tab.map F.rowL) (i : Int) = some (F.rowL tab[i]) := atI_nat (by rw [List.getElem?_map, List.getElem?_eq_getElem hit]; rfl)
    have vi := at_ (r := v) hi
    rw [gvi] at vi
    generalize v[i] = x at *
    generalize tab[i] = t at *
    have hi64 : i * (2 * b + 1) ≤ 64 * 40001 := Nat.mul_le_mul (by omega) (by omega)
    generalize htt : i * (2 * b + 1) = tt at *
    have et1 : (i + 1) * (2 * b + 1) = tt + 2 * b + 1 := by rw [Nat.add_mul, htt]; omega
    refine ⟨[6], _, eg_name, ?_⟩
    by_cases h0 : x = 0
    · refine sd_ifE (k := false) ((et_test (Ev.r (ev_op (Ev.r (ev_op (Ev.r (ev_var rfl)) (Ev.r (ev_var rfl)) (rv_ixL vi))) (Ev.r ((ev_call (ea_cons (ev_var rfl) (ea_cons ev_int ea_nil)) ⟨F, 0, rfl, rfl⟩).is (congrArg F.enc (ofInt0 F)))) (rv_neD (okD_enc F _) (okD_enc F _))))).is (by rw [eqv_enc, decide_eq_true h0]; rfl)) (fun e => by cases e) fun _ => sd_next (nx_I ⟨rfl, m, _, _, hm, (fun y hy => ebf_mono (hbm y hy) (by omega)), (fun k hk => ?_), rfl⟩)
      rw [← hsum k hk, h0, zmul, zadd]
    · refine sd_ifE (k := true) ((et_test (Ev.r (ev_op (Ev.r (ev_op (Ev.r (ev_var rfl)) (Ev.r (ev_var rfl)) (rv_ixL vi))) (Ev.r ((ev_call (ea_cons (ev_var rfl) (ea_cons ev_int ea_nil)) ⟨F, 0, rfl, rfl⟩).is (congrArg F.enc (ofInt0 F)))) (rv_neD (okD_enc F _) (okD_enc F _))))).is (by rw [eqv_enc, decide_eq_false h0]; rfl)) (fun _ => ?_) fun e => by cases e
      have gm : ∀ k, k < n → EbF (tt + 1) F (g m k) := fun k hk => by rw [g_lt (by omega)]; exact hbm _ (List.getElem_mem _)
      have gt : ∀ k, k < n → EbF b F (g t k) := fun k hk => by rw [g_lt (by omega)]; exact bti _ (List.getElem_mem _)
      refine sd_asg ((EvN.evE (en_ran (fun k => F.enc (g m k + x * g t k)) (ea_cons (ev_var rfl) ea_nil) (by omega) fun l acc k hk => ⟨[5], _, eg_name, fun _ h => h, ev_call (ea_cons (ev_var rfl) (ea_cons (ev_op (Ev.r (ev_var rfl)) (Ev.r (ev_var rfl)) (rv_ixL (at_ (by omega)))) (ea_cons (ev_call (ea_cons (ev_var rfl) (ea_cons (ev_op (Ev.r (ev_var rfl)) (Ev.r (ev_var rfl)) (rv_ixL vi)) (ea_cons (ev_op (Ev.r (ev_op (Ev.r (ev_var rfl)) (Ev.r (ev_var rfl)) (rv_ixL ti))) (Ev.r (ev_var rfl)) (rv_ixL (at_ (by omega)))) ea_nil))) ⟨F, x, g t k, b, rfl, bvi, gt k hk, by omega, rfl⟩) ea_nil)))
        ⟨F, g m k, x * g t k, tt + 1 + (b + b), rfl, ebf_mono (gm k hk) (by omega), ebf_mono (ebf_mul bvi (gt k hk)) (by omega), by omega, rfl⟩⟩)).is (d' := F.rowL ((List.range n).map fun k => g m k + x * g t k)) (by show D.lst _ = D.lst _; rw [List.map_map]; rfl)) ?_
      refine nx_I ⟨rfl, _, _, _, by simp, (fun y hy => ?_), (fun k hk => ?_), rfl⟩
      · obtain ⟨k, hk, rfl⟩ := List.mem_map.mp hy
        have hk := List.mem_range.mp hk
        rw [et1]
        exact ebf_mono (ebf_add (gm k hk) (ebf_mul bvi (gt k hk))) (by omega)
      · rw [g_range hk, ← hsum k hk, Fld.addA]
  · rintro H1 c1 δ1 ⟨rfl, m, x5, x6, hm, hbm, hsum, rfl⟩
    refine sd_ret (Ev.r (ev_var rfl)) hq ?_
    have : m = lrow n tab v := by
      refine g_ext hm (by simp [lrow]) fun k hk => ?_
      have := hsum k hk
      rw [List.length_map, List.length_range, List.drop_length, lin_nil, Fld.add0] at this
      rw [this]; unfold lrow; rw [g_range hk]
    rw [this]
def R_l_product (ds : List D) (P : D → Prop) : Prop := ∃ (F : Fm) (tab other : List (List F.α)) (n b : Nat), ds = [.int F.p, .lst (tab.map F.rowL), .lst (other.map F.rowL), nD n] ∧ n ≤ 64 ∧ tab.length ≤ 1000 ∧ other.length ≤ 64 ∧ (∀ r ∈ tab, r.length = other.length) ∧ (∀ t ∈ other, t.length = n) ∧ b ≤ 20000 ∧ (∀ t ∈ tab, ∀ x ∈ t, EbF b F x) ∧ (∀ t ∈ other, ∀ x ∈ t, EbF b F x) ∧ P = (· = tabD F (tab.map (lrow n other)))
theorem c_l_product (h : Has K mg "_law_product" s_l_product p_l_product) (B : Bi mg) (C_l_led : Cal P w K mg base "_law_led" 44 p_l_led (spP R_l_led)) : Cal P w K mg base "_law_product" 45 p_l_product (spP R_l_product) := by
  refine mkP h sc_l_product (fun ds P h => by obtain ⟨_, _, _, _, _, rfl, _⟩ := h; rfl) fun cdv A outer s H Q E f hr => ⟨(tRet (tCB (rTupQ K) (tCons (tLc (iList K (tVar 1)) (gName 4) tYes (tCB (rTupQ K) (tCons (tCall (spP R_l_led) [] E0 (tCons (tVar 0) (tCons (tVar 4) (tCons (tVar 2) (tCons (tVar 3) tNil))))) tNil)) [4]) tNil))),
  (pss_one (ps_ret (pe_callTy call_tuple_of (by rfl) B.tuple (by decide +kernel) (pa_cons (pe_lc (own := [("vec", 4)]) (g := (gName 4)) (tt := tYes) (te := (tCB (rTupQ K) (tCons (tCall (spP R_l_led) [] E0 (tCons (tVar 0) (tCons (tVar 4) (tCons (tVar 2) (tCons (tVar 3) tNil))))) tNil))) rfl sc_l_product.nd (pi_list (pv 1)) (blkOk_by (own := [("vec", 4)]) (N := N_l_product) (by kernel_rfl)) (fun _ _ _ _ _ => (pg_name (i := 4) sc_l_product.nd rfl (by first | exact Or.inl rfl | exact Or.inr rfl))) (fun _ _ _ _ _ => pts_nil) (fun _ _ _ _ _ => (pe_callTy call_tuple_of (by rfl) B.tuple (by decide +kernel) (pa_cons (pe_cal C_l_led (hr.mono (by decide)) rfl (pa_cons (pv 0) (pa_cons (pv 4) (pa_cons (pv 2) (pa_cons (pv 3) pa_nil))))) pa_nil)))) pa_nil)))), fun M ds P' hR hq => ?_⟩
  obtain ⟨F, tab, other, n, b, rfl, hn, hl, ho, hlen, hw, hb, b1, b2, rfl⟩ := hR
  refine sd_ret (Ev.r (ev_cb (Ev.r (EvN.evE (en_lst' tab F.rowL (fun r => F.row (lrow n other r)) (ev_var rfl) (by omega) fun l acc r hr => ⟨[4], _, eg_name, fun _ h => h, ev_cb (Ev.r (ev_call (ea_cons (ev_var rfl) (ea_cons (ev_var rfl) (ea_cons (ev_var rfl) (ea_cons (ev_var rfl) ea_nil)))) ⟨F, r, other, n, b, rfl, hn, by rw [hlen r hr]; exact ho, hlen r hr, hw, hb, b1 r hr, b2, rfl⟩)) (rc_tuple rfl)⟩))) (rc_tuple rfl))) hq ?_
  show D.tup _ = D.tup _
  rw [List.map_map]; rfl
end
end E
namespace E
open PySem PySem.Spec PyProof.Rows L2 TL
theorem map_range_getD {α : Type} (l : List α) (d : α) (f : α → D) : (List.range l.length).map (fun i => f (l.getD i d)) = l.map f := by
  refine List.ext_getElem (by simp) fun i h1 h2 => ?_
  have hi : i < l.length := by simpa using h1
  rw [List.getElem_map, List.getElem_map, List.getElem_range, List.getD_eq_getElem?_getD, List.getElem?_eq_getElem hi]; rfl
section
variable {P : Program} {w : World} {K : PySem.W.Frag} {mg : Str → Option Value} {base : Heap}
abbrev s_l_inverse : Stmt := topS 71
abbrev N_l_inverse : List Str := ["f", "tab", "wide", "units", "made", "i", "vec"]
abbrev p_l_inverse : List Str := ["f", "tab"]
theorem sc_l_inverse : FnScope N_l_inverse p_l_inverse (defScope s_l_inverse) := ⟨rfl, rfl, rfl, by decide +kernel, rfl, by decide +kernel, by decide +kernel⟩
def R_l_inverse (ds : List D) (P : D → Prop) : Prop := ∃ (F : Fm) (tab : List (List F.α)) (n b : Nat), ds = [.int F.p, .lst (tab.map F.rowL)] ∧ tab.length = n ∧ 1 ≤ n ∧ n ≤ 6 ∧ (∀ t ∈ tab, t.length = n) ∧ b ≤ 200 ∧ (∀ r ∈ aug n tab, CdF b F r) ∧
  P = fun d => ∃ (T : List (List F.α)) (ls : List Nat), Sw (2 * n) T ls ∧ SameSp T (aug n tab) ∧ T.length = n ∧ (∀ r ∈ T, CdF 13000 F r) ∧ d = if ls = List.range n then tabD F (T.map fun r => r.drop n) else .non
theorem c_l_inverse (h : Has K mg "_law_inverse" s_l_inverse p_l_inverse) (B : Bi mg) (C_l_units : Cal P w K mg base "_law_units" 42 p_l_units (spP R_l_units)) (C_l_swept : Cal P w K mg base "_law_swept" 45 p_l_swept (spP R_l_swept)) : Cal P w K mg base "_law_inverse" 46 p_l_inverse (spP R_l_inverse) := by
  refine mkP h sc_l_inverse (fun ds P h => by obtain ⟨_, _, _, _, rfl, _⟩ := h; rfl) fun cdv A outer s H Q E f hr => ⟨(tSeq (tAsg (tCB (rLenQ K) (tCons (tVar 1) tNil)) (gName 2))
  (tSeq (tAsg (tCall (spP R_l_units) [] E0 (tCons (tVar 0) (tCons (tVar 2) tNil))) (gName 3))
  (tSeq (tAsg (tCall (spP R_l_swept) [] E0 (tCons (tVar 0) (tCons (tLc (iRng1 (tCons (tVar 2) tNil)) (gName 5) tYes (tOp rCat (tCB (rListQ K) (tCons (tOp (rIxL K) (tVar 1) (tVar 5)) tNil)) (tOp (rIxL K) (tVar 3) (tVar 5))) [5]) (tCons (tOp rMulI (tC (.int 2)) (tVar 2)) tNil)))) (gName 4))
  (tSeq (tIfS (tTest (tOp (rNeD K) (tLc (iRng1 (tCons (tVar 2) tNil)) (gName 5) (tTest (tOp (rNeD K) (tCB (rListQ K) (tCons (tSl (rSlT K) (tOp (rIxL K) (tVar 4) (tVar 5)) tNoPart (tPart (tVar 2))) tNil)) (tOp (rIxL K) (tVar 3) (tVar 5)))) (tC (.int 1)) [5]) (tLst tNil))) (tRet (tC .non)) tNext)
  (tRet (tCB (rTupQ K) (tCons (tLc (iList K (tVar 4)) (gName 6) tYes (tCB (rTupQ K) (tCons (tSl (rSlT K) (tVar 6) (tPart (tVar 2)) tNoPart) tNil)) [6]) tNil))))))),
  (pss_cons (ps_asg (pe_callB call_len_seq (by rfl) B.len boot_len (pa_cons (pv 1) pa_nil)) (pg_name (i := 2) sc_l_inverse.nd rfl (by first | exact Or.inl rfl | exact Or.inr rfl)))
  (pss_cons (ps_asg (pe_cal C_l_units (hr.mono (by decide)) rfl (pa_cons (pv 0) (pa_cons (pv 2) pa_nil))) (pg_name (i := 3) sc_l_inverse.nd rfl (by first | exact Or.inl rfl | exact Or.inr rfl)))
  (pss_cons (ps_asg (pe_cal C_l_swept (hr.mono (by decide)) rfl (pa_cons (pv 0) (pa_cons (pe_lc (own := [("i", 5)]) (g := (gName 5)) (tt := tYes) (te := (tOp rCat (tCB (rListQ K) (tCons (tOp (rIxL K) (tVar 1) (tVar 5)) tNil)) (tOp (rIxL K) (tVar 3) (tVar 5)))) rfl sc_l_inverse.nd (pi_range1 rfl B.range (pa_cons (pv 2) pa_nil)) (blkOk_by (own := [("i", 5)]) (N := N_l_inverse) (by kernel_rfl)) (fun _ _ _ _ _ => (pg_name (i := 5) sc_l_inverse.nd rfl (by first | exact Or.inl rfl | exact Or.inr rfl))) (fun _ _ _ _ _ => pts_nil) (fun _ _ _ _ _ => (pe_op op_cat (pe_callTy call_list_of (by rfl) B.list (by decide +kernel) (pa_cons (pe_ix ix_list (pv 1) (pv 5) (fun _ _ => rfl)) pa_nil)) (pe_ix ix_list (pv 3) (pv 5) (fun _ _ => rfl))))) (pa_cons (pe_op op_mulI pe_int (pv 2)) pa_nil)))) (pg_name (i := 4) sc_l_inverse.nd rfl (by first | exact Or.inl rfl | exact Or.inr rfl)))
  (pss_cons (ps_if (pt_cmpR (op_neD hr.units) (pe_lc (own := [("i", 5)]) (g := (gName 5)) (tt := (tTest (tOp (rNeD K) (tCB (rListQ K) (tCons (tSl (rSlT K) (tOp (rIxL K) (tVar 4) (tVar 5)) tNoPart (tPart (tVar 2))) tNil)) (tOp (rIxL K) (tVar 3) (tVar 5))))) (te := (tC (.int 1))) rfl sc_l_inverse.nd (pi_range1 rfl B.range (pa_cons (pv 2) pa_nil)) (blkOk_by (own := [("i", 5)]) (N := N_l_inverse) (by kernel_rfl)) (fun _ _ _ _ _ => (pg_name (i := 5) sc_l_inverse.nd rfl (by first | exact Or.inl rfl | exact Or.inr rfl))) (fun _ _ _ _ _ => (pts_one (pt_cmpR (op_neD hr.units) (pe_callTy call_list_of (by rfl) B.list (by decide +kernel) (pa_cons (pe_slice sl_tup (pe_ix ix_list (pv 4) (pv 5) (fun _ _ => rfl)) po_none (po_some (pv 2))) pa_nil)) (pe_ix ix_list (pv 3) (pv 5) (fun _ _ => rfl)) (nomark _)))) (fun _ _ _ _ _ => pe_int)) (pe_lst pa_nil) (nomark _)) (pss_one (ps_ret pe_non)) pss_nil)
  (pss_one (ps_ret (pe_callTy call_tuple_of (by rfl) B.tuple (by decide +kernel) (pa_cons (pe_lc (own := [("vec", 6)]) (g := (gName 6)) (tt := tYes) (te := (tCB (rTupQ K) (tCons (tSl (rSlT K) (tVar 6) (tPart (tVar 2)) tNoPart) tNil))) rfl sc_l_inverse.nd (pi_list (pv 4)) (blkOk_by (own := [("vec", 6)]) (N := N_l_inverse) (by kernel_rfl)) (fun _ _ _ _ _ => (pg_name (i := 6) sc_l_inverse.nd rfl (by first | exact Or.inl rfl | exact Or.inr rfl))) (fun _ _ _ _ _ => pts_nil) (fun _ _ _ _ _ => (pe_callTy call_tuple_of (by rfl) B.tuple (by decide +kernel) (pa_cons (pe_slice sl_tup (pv 6) (po_some (pv 2)) po_none) pa_nil)))) pa_nil)))))))), fun M ds P' hR hq => ?_⟩
  obtain ⟨F, tab, n, b, rfl, hlen, h1, h6, hw, hb, hcd, rfl⟩ := hR
  have ul := unitL_len (α := F.α) n
  have alen := aug_len (α := F.α) (tab := tab) hlen
  refine ss_asg ((ev_cb (Ev.r (ev_var rfl)) (rc_len (ds := tab.map F.rowL) rfl)).is (d' := nD n) (by rw [List.length_map, hlen]; rfl)) ?_
  refine ss_asg (ev_call (ea_cons (ev_var rfl) (ea_cons (ev_var rfl) ea_nil)) ⟨F, n, rfl, by omega, rfl⟩) ?_
  refine ss_asgR (ev_call (ds := [.int F.p, .lst ((aug n tab).map F.rowL), nD (2 * n)]) (ea_cons (ev_var rfl) (ea_cons ((EvN.evE (en_ran (n := n) (fun i => F.rowL ((aug n tab).getD i [])) (ea_cons (ev_var rfl) ea_nil) (by omega) fun l acc i hi => ⟨[5], _, eg_name, fun _ h => h, by
      have e1 := List.getElem?_eq_getElem (l := tab) (i := i) (by omega)
      obtain ⟨u, hu⟩ := unit_get (α := F.α) hi
      have ea := aug_at e1 hu
      have wt := hw _ (List.mem_of_getElem? e1)
      have wu := unitL_wid u (List.mem_of_getElem? hu)
      exact (EvN.evE (en_cat (xs := tab[i].map F.enc) (ys := u.map F.enc) (Ev.r (EvN.evE (en_list (Ev.r (ev_op (Ev.r (ev_var rfl)) (Ev.r (ev_var rfl)) (rv_ixL (d := F.rowL tab[i]) (atI_nat (by rw [List.getElem?_map, e1]; rfl))))) rfl))) (Ev.r (ev_op (Ev.r (ev_var rfl)) (Ev.r (ev_var rfl)) (rv_ixL (d := F.rowL u) (atI_nat (by rw [List.getElem?_map, hu]; rfl))))) (by simp; omega))).is (by
        rw [List.getD_eq_getElem?_getD, ea]; show D.lst _ = D.lst _; rw [← List.map_append]; rfl)⟩)).is (by have q := map_range_getD (aug n tab) [] F.rowL; rw [alen] at q; rw [q])) (ea_cons ((ev_op (Ev.r ev_int) (Ev.r (ev_var rfl)) (rv_I (Bt.cm (a := 2) (b := 6) (by show (2 : Int).natAbs < 2 ^ 2; decide) (by show ((n : Nat) : Int).natAbs < 64; omega) (by decide)))).is (d' := nD (2 * n)) (by show D.int _ = D.int _; congr 1)) ea_nil)))
    ⟨F, _, aug n tab, 2 * n, b, rfl, ⟨(aug n tab).map fun r => (F.rowL r, r), by rw [List.map_map]; rfl, by rw [List.map_map]; exact (List.map_id _).symm, fun z hz => by obtain ⟨r, _, rfl⟩ := List.mem_map.mp hz; rfl⟩, by omega, by omega, aug_wid hw, by omega, hb, hcd, rfl⟩) ?_
  rintro d ⟨T, ls, rfl, sw, sp, le, hT⟩
  have hTn : T.length = n := by have := aug_full hlen hw sw sp; omega
  have at_ : ∀ i, i < n → ∃ t u, T[i]? = some t ∧ (unitL F.α n)[i]? = some u ∧ t.length = 2 * n ∧ u.length = n := fun i hi => by
    have e1 := List.getElem?_eq_getElem (l := T) (i := i) (by omega)
    obtain ⟨u, hu⟩ := unit_get (α := F.α) hi
    exact ⟨_, u, e1, hu, sw.wid _ (List.mem_of_getElem? e1), unitL_wid u (List.mem_of_getElem? hu)⟩
  have eqF : ∀ x y : F.α, PyData.eqv (py (F.enc x)) (py (F.enc y)) = true ↔ x = y := fun x y => by rw [eqv_enc, decide_eq_true_eq]
  have okr : ∀ r : List F.α, okD (.lst (r.map F.enc)) = true := fun r => (okK_lst (okK_map okK_enc r)).ok
  have okn : ∀ l : List Nat, okD (.lst (l.map fun _ => D.int 1)) = true := fun l => (okK_lst (okK_map (fun _ => okK_int 1) l)).ok
  have nil : ∀ l : List Nat, PyData.eqv (py (.lst (l.map fun _ => D.int 1))) (py (.lst [])) = decide (l = []) := fun l => by cases l <;> rfl
  have ok0 : okD (.lst []) = true := (okK_lst (k := 0) (xs := []) (by simp)).ok
  have iff1 : ls = List.range n ↔ (List.range n).filter (fun i => !decide ((T.getD i []).take n = (unitL F.α n).getD i [])) = [] := by
    rw [leads_iff sw hTn, List.filter_eq_nil_iff]
    refine ⟨fun h i hi => ?_, fun h k r u hr hu => ?_⟩
    · have hi := List.mem_range.mp hi
      obtain ⟨t, u, e1, e2, _, _⟩ := at_ i hi
      have := h i t u e1 e2
      rw [List.getD_eq_getElem?_getD, e1, List.getD_eq_getElem?_getD, e2]
      simp [this]
    · have := h k (List.mem_range.mpr (unit_lt hu))
      rw [List.getD_eq_getElem?_getD, hr, List.getD_eq_getElem?_getD, hu] at this
      simpa using this
  have test : EvT ⟨H, [], M, none, [], M, [], []⟩ (tTest (tOp (rNeD K) (tLc (iRng1 (tCons (tVar 2) tNil)) (gName 5) (tTest (tOp (rNeD K) (tCB (rListQ K) (tCons (tSl (rSlT K) (tOp (rIxL K) (tVar 4) (tVar 5)) tNoPart (tPart (tVar 2))) tNil)) (tOp (rIxL K) (tVar 3) (tVar 5)))) (tC (.int 1)) [5]) (tLst tNil)))
      [some (.inl (.int F.p)), some (.inl (.lst (tab.map F.rowL))), some (.inl (nD n)), some (.inl (.lst ((unitL F.α n).map F.rowL))), some (.inl (.lst (T.map F.row))), none, none] (· = !decide (ls = List.range n)) :=
    EvT.is (et_test (Ev.r (ev_op (Ev.r (EvN.evE (en_lcF (List.range n) nD (fun i => !decide ((T.getD i []).take n = (unitL F.α n).getD i [])) (fun _ => D.int 1) (EvI.o (ei_rng (n := n) (ea_cons (ev_var rfl) ea_nil) (by omega))) (by simp; omega) fun l acc i hi => by
      obtain ⟨t, u, e1, e2, wt, wu⟩ := at_ i (List.mem_range.mp hi)
      refine ⟨[5], _, eg_name, fun _ h => h, ?_, fun _ => ev_int⟩
      have s1 : HT.sIx (t.map F.enc).length 0 none = 0 := HT.sIx_none _ _
      have s2 : HT.sIx (t.map F.enc).length (t.map F.enc).length (some (n : Int)) = n := by rw [HT.sIx_nat, List.length_map]; omega
      refine EvT.is (et_test (Ev.r (ev_op (Ev.r (EvN.evE (en_list (ds := (t.take n).map F.enc) (Ev.r ((ev_slT (Ev.r (ev_op (Ev.r (ev_var rfl)) (Ev.r (ev_var rfl)) (rv_ixL (d := F.row t) (atI_nat (by rw [List.getElem?_map, e1]; rfl))))) ep_no (ep_some (Ev.r (ev_var (d := nD n) rfl))) (fun z => by rw [s2, List.length_map] at z; omega)).is (d' := .tup ((t.take n).map F.enc)) (by
        show D.tup _ = D.tup _
        unfold cutD
        rw [s1, s2, List.drop_zero, Nat.sub_zero, List.map_take]))) rfl))) (Ev.r (ev_op (Ev.r (ev_var rfl)) (Ev.r (ev_var rfl)) (rv_ixL (d := F.rowL u) (atI_nat (by rw [List.getElem?_map, e2]; rfl))))) (rv_neD (okr _) (okr _))))) ?_
      rw [List.getD_eq_getElem?_getD, e1, List.getD_eq_getElem?_getD, e2]
      congr 1
      show PyData.eqv (py (.lst ((t.take n).map F.enc))) (py (.lst (u.map F.enc))) = decide (t.take n = u)
      by_cases q : t.take n = u
      · rw [decide_eq_true q, (eqv_lst eqF _ _).mpr q]
      · rw [decide_eq_false q]
        cases z : PyData.eqv (py (.lst ((t.take n).map F.enc))) (py (.lst (u.map F.enc))) with
        | false => rfl
        | true => exact absurd ((eqv_lst eqF _ _).mp z) q))) (Ev.r (EvN.evE (en_lst ea_nil))) (rv_neD (okn _) ok0)))) (by rw [nil]; congr 1; exact decide_eq_decide.mpr iff1.symm)
  by_cases hls : ls = List.range n
  · refine sd_no (test.is (by rw [decide_eq_true hls]; rfl)) ?_
    refine sd_ret (Ev.r (ev_cb (Ev.r (EvN.evE (en_lst' T F.row (fun r => F.row (r.drop n)) (ev_var rfl) (by omega) fun l acc r hr => ⟨[6], _, eg_name, fun _ h => h, by
      have lr := sw.wid r hr
      have s1 : HT.sIx (r.map F.enc).length 0 (some (n : Int)) = n := by rw [HT.sIx_nat, List.length_map]; omega
      have s2 : HT.sIx (r.map F.enc).length (r.map F.enc).length none = (r.map F.enc).length := HT.sIx_none _ _
      exact ev_cb (Ev.r ((ev_slT (Ev.r (ev_var (d := F.row r) rfl)) (ep_some (Ev.r (ev_var (d := nD n) rfl))) ep_no (fun z => by rw [s1] at z; omega)).is (d' := .tup ((r.drop n).map F.enc)) (by
        show D.tup _ = D.tup _
        unfold cutD
        rw [s1, s2, List.map_drop, List.take_of_length_le (by simp)]))) (rc_tuple rfl)⟩))) (rc_tuple rfl))) hq ⟨T, ls, sw, sp, hTn, hT, ?_⟩
    rw [if_pos hls]
    show D.tup _ = D.tup _
    rw [List.map_map]; rfl
  · refine sd_yes (test.is (by rw [decide_eq_false hls]; rfl)) ?_
    exact sd_ret (Ev.r ev_non) hq ⟨T, ls, sw, sp, hTn, hT, by rw [if_neg hls]⟩
end
end E
namespace E
open PySem PySem.Spec PyProof.Rows L2 TL
section
variable {P : Program} {w : World} {K : PySem.W.Frag} {mg : Str → Option Value} {base : Heap}
abbrev s_l_draw : Stmt := topS 50
abbrev N_l_draw : List Str := ["jar", "many", "cell", "digit"]
abbrev p_l_draw : List Str := ["jar", "many"]
theorem sc_l_draw : FnScope N_l_draw p_l_draw (defScope s_l_draw) := ⟨rfl, rfl, rfl, by decide +kernel, rfl, by decide +kernel, by decide +kernel⟩
abbrev s_l_pick : Stmt := topS 51
abbrev N_l_pick : List Str := ["jar", "menu"]
abbrev p_l_pick : List Str := ["jar", "menu"]
theorem sc_l_pick : FnScope N_l_pick p_l_pick (defScope s_l_pick) := ⟨rfl, rfl, rfl, by decide +kernel, rfl, by decide +kernel, by decide +kernel⟩
abbrev s_l_field : Stmt := topS 61
abbrev N_l_field : List Str := ["jar", "primes"]
abbrev p_l_field : List Str := ["jar"]
theorem sc_l_field : FnScope N_l_field p_l_field (defScope s_l_field) := ⟨rfl, rfl, rfl, by decide +kernel, rfl, by decide +kernel, by decide +kernel⟩
def R_l_draw (ds : List D) (P : D → Prop) : Prop := ∃ n : Int, ds = [.int n] ∧ 1 ≤ n ∧ P = fun d => ∃ i : Nat, d = nD i ∧ (i : Int) < n
theorem mod_bd {x n : Int} (h : 1 ≤ n) : 0 ≤ x.fmod n ∧ x.fmod n < n := by
  rw [Int.fmod_eq_emod_of_nonneg _ (by omega)]
  exact ⟨Int.emod_nonneg _ (by omega), Int.emod_lt_of_pos _ (by omega)⟩
theorem mod_nD {x n : Int} (h : 1 ≤ n) : ∃ i : Nat, D.int (x.fmod n) = nD i ∧ (i : Int) < n := by
  have q := mod_bd (x := x) h
  exact ⟨(x.fmod n).toNat, by show D.int _ = D.int _; congr 1; omega, by omega⟩
theorem c_l_draw (h : Has K mg "_law_draw" s_l_draw p_l_draw) (B : Bi mg) (NS : base.NoSeer) (hP : P.given.tree = none) : Cal P w K mg base "_law_draw" 41 p_l_draw (spJ R_l_draw) := by
  refine mkDraw h sc_l_draw (fun ds P h => by obtain ⟨_, rfl, _⟩ := h; rfl) (by decide) fun cdv A outer s H Q E f hr => ⟨(tSeq (tAsg (tOp rAddI (tOp (rIxL K) (tVar 0) (tC (.int 3))) (tC (.int 1))) (gSub (tVar 0) (tC (.int 3)) rSetL))
  (tSeq (tAsg (tOp (rIxL K) (tVar 0) (tC (.int 3))) (gName 2))
  (tSeq (tIfS (tAnd (tTest (tOp rEq (tOp (rIxL K) (tVar 0) (tC (.int 2))) (tC (.int 0)))) (tTest (tOp (rNeD K) (tOp (rIxL K) (tVar 0) (tC (.int 0))) (tLst tNil)))) (tSeq (tAsg (tOp (rIxL K) (tOp (rIxL K) (tVar 0) (tC (.int 0))) (tOp rModI (tCB rInt1 (tCons (tOp (rIxL K) (tVar 0) (tC (.int 1))) tNil)) (tCB (rLenQ K) (tCons (tOp (rIxL K) (tVar 0) (tC (.int 0))) tNil)))) (gName 2))
  (tSeq (tIfS (tAnd (tTest (tOp rLtI (tOp (rIxL K) (tVar 0) (tC (.int 1))) (tCB (rLenQ K) (tCons (tOp (rIxL K) (tVar 0) (tC (.int 0))) tNil)))) (tTest (tOp rGeI (tVar 2) (tOp rPowI (tC (.int 10)) (tC (.int 18)))))) (tAsg (tVar 2) (gSub (tVar 0) (tC (.int 2)) rSetL)) tNext)
  (tAsg (tOp rAddI (tOp (rIxL K) (tVar 0) (tC (.int 1))) (tC (.int 1))) (gSub (tVar 0) (tC (.int 1)) rSetL)))) tNext)
  (tSeq (tIfS (tTest (tOp rGtI (tOp (rIxL K) (tVar 0) (tC (.int 2))) (tC (.int 0)))) (tSeq (tAsg (tOp rModI (tCB rInt1 (tCons (tOp (rIxL K) (tVar 0) (tC (.int 2))) tNil)) (tVar 1)) (gName 3))
  (tSeq (tAsg (tOp rDivI (tOp (rIxL K) (tVar 0) (tC (.int 2))) (tVar 1)) (gSub (tVar 0) (tC (.int 2)) rSetL))
  (tRet (tVar 3)))) tNext)
  (tSeq (tAsg (tOp rModI (tCB rInt1 (tCons (tOp rAddI (tOp rAddI (tOp rMulS (tOp (rIxL K) (tVar 0) (tC (.int 4))) (tC (.int 48271))) (tOp rMulS (tOp rModI (tCB rInt1 (tCons (tVar 2) tNil)) (tC (.int 999999937))) (tC (.int 69621)))) (tOp rMulS (tOp (rIxL K) (tVar 0) (tC (.int 3))) (tC (.int 40693)))) tNil)) (tC (.int 2147483647))) (gSub (tVar 0) (tC (.int 4)) rSetL))
  (tRet (tOp rModI (tOp rDivI (tOp rModI (tCB rInt1 (tCons (tOp rAddI (tOp rMulS (tOp (rIxL K) (tVar 0) (tC (.int 4))) (tC (.int 16807))) (tOp rMulS (tOp (rIxL K) (tVar 0) (tC (.int 3))) (tC (.int 1299709)))) tNil)) (tC (.int 2147483629))) (tC (.int 16))) (tVar 1)))))))),
  (pss_cons (ps_asg (pe_op op_add (pe_ix ix_list (pv 0) pe_int (fun _ _ => rfl)) pe_int) (pg_sub (pv 0) pe_int set_list))
  (pss_cons (ps_asg (pe_ix ix_list (pv 0) pe_int (fun _ _ => rfl)) (pg_name (i := 2) sc_l_draw.nd rfl (by first | exact Or.inl rfl | exact Or.inr rfl)))
  (pss_cons (ps_if (PW.pt (pw_and (pt_cmpR op_eq (pe_ix ix_list (pv 0) pe_int (fun _ _ => rfl)) pe_int (nomark _)) (pw_and1 (pt_cmpR (op_neD hr.units) (pe_ix ix_list (pv 0) pe_int (fun _ _ => rfl)) (pe_lst pa_nil) (nomark _))))) (pss_cons (ps_asg (pe_ix ix_list (pe_ix ix_list (pv 0) pe_int (fun _ _ => rfl)) (pe_op op_modN (pe_callTy call_int1 (by rfl) B.int (by decide +kernel) (pa_cons (pe_ix ix_list (pv 0) pe_int (fun _ _ => rfl)) pa_nil)) (pe_callB call_len_seq (by rfl) B.len boot_len (pa_cons (pe_ix ix_list (pv 0) pe_int (fun _ _ => rfl)) pa_nil))) (fun _ _ => rfl)) (pg_name (i := 2) sc_l_draw.nd rfl (by first | exact Or.inl rfl | exact Or.inr rfl)))
  (pss_cons (ps_if (PW.pt (pw_and (pt_cmpR op_lt (pe_ix ix_list (pv 0) pe_int (fun _ _ => rfl)) (pe_callB call_len_seq (by rfl) B.len boot_len (pa_cons (pe_ix ix_list (pv 0) pe_int (fun _ _ => rfl)) pa_nil)) (nomark _)) (pw_and1 (pt_cmpR op_ge (pv 2) (pe_op op_pow pe_int pe_int) (nomark _))))) (pss_one (ps_asg (pv 2) (pg_sub (pv 0) pe_int set_list))) pss_nil)
  (pss_one (ps_asg (pe_op op_add (pe_ix ix_list (pv 0) pe_int (fun _ _ => rfl)) pe_int) (pg_sub (pv 0) pe_int set_list))))) pss_nil)
  (pss_cons (ps_if (pt_cmpR op_gt (pe_ix ix_list (pv 0) pe_int (fun _ _ => rfl)) pe_int (nomark _)) (pss_cons (ps_asg (pe_op op_modN (pe_callTy call_int1 (by rfl) B.int (by decide +kernel) (pa_cons (pe_ix ix_list (pv 0) pe_int (fun _ _ => rfl)) pa_nil)) (pv 1)) (pg_name (i := 3) sc_l_draw.nd rfl (by first | exact Or.inl rfl | exact Or.inr rfl)))
  (pss_cons (ps_asg (pe_op (op_divI ⟨NS, hP, ⟨_, _, rfl, rfl, rfl, rfl, rfl⟩, hr.mono (by decide)⟩) (pe_ix ix_list (pv 0) pe_int (fun _ _ => rfl)) (pv 1)) (pg_sub (pv 0) pe_int set_list))
  (pss_one (ps_ret (pv 3))))) pss_nil)
  (pss_cons (ps_asg (pe_op op_modN (pe_callTy call_int1 (by rfl) B.int (by decide +kernel) (pa_cons (pe_op op_add (pe_op op_add (pe_op op_mul (pe_ix ix_list (pv 0) pe_int (fun _ _ => rfl)) pe_int) (pe_op op_mul (pe_op op_modN (pe_callTy call_int1 (by rfl) B.int (by decide +kernel) (pa_cons (pv 2) pa_nil)) pe_int) pe_int)) (pe_op op_mul (pe_ix ix_list (pv 0) pe_int (fun _ _ => rfl)) pe_int)) pa_nil)) pe_int) (pg_sub (pv 0) pe_int set_list))
  (pss_one (ps_ret (pe_op op_modN (pe_op (op_divI ⟨NS, hP, ⟨_, _, rfl, rfl, rfl, rfl, rfl⟩, hr.mono (by decide)⟩) (pe_op op_modN (pe_callTy call_int1 (by rfl) B.int (by decide +kernel) (pa_cons (pe_op op_add (pe_op op_mul (pe_ix ix_list (pv 0) pe_int (fun _ _ => rfl)) pe_int) (pe_op op_mul (pe_ix ix_list (pv 0) pe_int (fun _ _ => rfl)) pe_int)) pa_nil)) pe_int) pe_int) (pv 1))))))))), fun H0 M ds P' j ns a b k m hR hB hq => ?_⟩
  obtain ⟨n, rfl, hn, rfl⟩ := hR
  refine ss_setL rfl (ev_op (Ev.r (ej rfl rfl)) (Ev.r ev_int) rv_I0) rfl (fun _ _ => ev_int) rfl fun d e => ?_
  subst e
  show Sd (jCt H0 M j (jarD ns a b (k + 1) m)) _ _ _
  have hB : JarB ns a b (k + 1) m := ⟨hB.len, hB.a0, hB.b0, by have := hB.k0; omega, hB.m0, hB.m1⟩
  generalize k + 1 = k at hB ⊢
  refine ss_asg (ej rfl rfl) ?_
  have okns : okD (.lst (ns.map D.int)) = true := (okK_lst (okK_map okK_int ns)).ok
  have ok0 : okD (.lst []) = true := (okK_lst (k := 0) (xs := []) (by simp)).ok
  refine ss_ifJ (fun c1 δ1 => ∃ a b z, JarB ns a b k m ∧ c1 = jCt H0 M j (jarD ns a b k m) ∧ δ1 = [some (.inr j), some (.inl (.int n)), some (.inl (.int z)), none]) ?_
    (et_andE (et_test (Ev.r (ev_op (Ev.r (ej rfl rfl)) (Ev.r ev_int) rv_eqI))) (fun _ => (et_test (Ev.r (ev_op (Ev.r (ej rfl rfl)) (Ev.r (EvN.evE (en_lst ea_nil))) (rv_neD okns ok0)))).is (d' := !ns.isEmpty) (by cases ns <;> rfl))) (fun nxt hk => ?_) fun nxt hk => sd_next (nxt _ _ ⟨a, b, _, hB, rfl, rfl⟩)
  · rintro c1 δ1 ⟨a, b, z, hB, rfl, rfl⟩
    have d0 : ∀ {x : Int}, 0 ≤ x → 0 ≤ x.fdiv n := fun hx => Int.fdiv_nonneg hx (by omega)
    refine sd_when (et_test (Ev.r (ev_op (Ev.r (ej rfl rfl)) (Ev.r ev_int) rv_B0))) (fun hk => ?_) fun hk => ?_
    · refine ss_asg (ev_op (Ev.r (ev_cb (Ev.r (ej rfl rfl)) rc_int1)) (Ev.r (ev_var rfl)) (rv_I (by omega))) ?_
      refine ss_setL rfl (ev_op (Ev.r (ej rfl rfl)) (Ev.r (ev_var rfl)) (rv_I (by omega))) rfl (fun _ _ => ev_int) rfl fun d e => ?_
      subst e
      show Sd (jCt H0 M j (jarD ns a (b.fdiv n) k m)) _ _ _
      refine sd_retS (ev_var rfl) fun σ H v d s r p => hq _ σ H v d ns a (b.fdiv n) k m ⟨hB.len, hB.a0, d0 hB.b0, hB.k0, hB.m0, hB.m1⟩ s r ?_
      obtain ⟨i, ei, hi⟩ := mod_nD (x := b) hn
      exact ⟨i, by rw [p, ei], hi⟩
    · have sm : ∀ {x : Int} {y : Int}, -(2 ^ 64) < y ∧ y < 2 ^ 64 → CMul x y := fun h => .inr h
      have q := mod_bd (x := m * 48271 + z.fmod 999999937 * 69621 + k * 40693) (n := 2147483647) (by omega)
      refine ss_setL rfl (ev_op (Ev.r (ev_cb (Ev.r (ev_op (Ev.r (ev_op (Ev.r (ev_op (Ev.r (ej rfl rfl)) (Ev.r ev_int) (rv_I (sm (by omega))))) (Ev.r (ev_op (Ev.r (ev_op (Ev.r (ev_cb (Ev.r (ev_var rfl)) rc_int1)) (Ev.r ev_int) (rv_I (by omega)))) (Ev.r ev_int) (rv_I (sm (by omega))))) rv_I0)) (Ev.r (ev_op (Ev.r (ej rfl rfl)) (Ev.r ev_int) (rv_I (sm (by omega))))) rv_I0)) rc_int1)) (Ev.r ev_int) (rv_I (by omega))) rfl (fun _ _ => ev_int) rfl fun d e => ?_
      subst e
      generalize (m * 48271 + z.fmod 999999937 * 69621 + k * 40693).fmod 2147483647 = m' at q ⊢
      show Sd (jCt H0 M j (jarD ns a b k m')) _ _ _
      refine sd_retS (ev_op (Ev.r (ev_op (Ev.r (ev_op (Ev.r (ev_cb (Ev.r (ev_op (Ev.r (ev_op (Ev.r (ej rfl rfl)) (Ev.r ev_int) (rv_I (sm (by omega))))) (Ev.r (ev_op (Ev.r (ej rfl rfl)) (Ev.r ev_int) (rv_I (sm (by omega))))) rv_I0)) rc_int1)) (Ev.r ev_int) (rv_I (by omega)))) (Ev.r ev_int) (rv_I (by omega)))) (Ev.r (ev_var rfl)) (rv_I (by omega))) fun σ H v d s r p => hq _ σ H v d ns a b k m' ⟨hB.len, hB.a0, hB.b0, hB.k0, q.1, q.2⟩ s r ?_
      obtain ⟨i, ei, hi⟩ := mod_nD (x := ((m' * 16807 + k * 1299709).fmod 2147483629).fdiv 16) hn
      exact ⟨i, by rw [p, ei], hi⟩
  · have hne : ns ≠ [] := fun z => by subst z; simp at hk
    have hl : 1 ≤ ns.length := by cases ns with | nil => exact absurd rfl hne | cons x r => simp
    obtain ⟨i, ei, hi⟩ := mod_nD (x := a) (n := (ns.length : Int)) (by omega)
    have ei : a.fmod (ns.length : Int) = (i : Int) := D.int.inj ei
    refine ss_asg (d := .int (ns.getD i 0)) (ev_op (Ev.r (ej rfl rfl)) (Ev.r ((ev_op (Ev.r (ev_cb (Ev.r (ej rfl rfl)) rc_int1)) (Ev.r ((ev_cb (Ev.r (ej rfl rfl)) (rc_len rfl)).is (d' := .int (ns.length : Int)) (by rw [List.length_map]))) (rv_I (by omega))).is (congrArg D.int ei))) (rv_ixL (atI_nat (by rw [List.getElem?_map, get_getD (by omega) 0]; rfl)))) ?_
    generalize ns.getD i 0 = z
    refine ss_ifJ (fun c1 δ1 => ∃ b, JarB ns a b k m ∧ c1 = jCt H0 M j (jarD ns a b k m) ∧ δ1 = [some (.inr j), some (.inl (.int n)), some (.inl (.int z)), none]) ?_
      (et_andE (et_test (Ev.r (ev_op (Ev.r (ej rfl rfl)) (Ev.r ((ev_cb (Ev.r (ej rfl rfl)) (rc_len rfl)).is (d' := .int (ns.length : Int)) (by rw [List.length_map]))) rv_B0))) (fun _ => et_test (Ev.r (ev_op (Ev.r (ev_var rfl)) (Ev.r (ev_op (Ev.r ev_int) (Ev.r ev_int) (rv_I ⟨by decide, by decide, by decide⟩))) rv_B0)))) (fun nxt2 hk => ?_) fun nxt2 hk => sd_next (nxt2 _ _ ⟨b, hB, rfl, rfl⟩)
    · rintro c1 δ1 ⟨b, hB, rfl, rfl⟩
      refine sd_setL rfl (ev_op (Ev.r (ej rfl rfl)) (Ev.r ev_int) rv_I0) rfl (fun _ _ => ev_int) rfl fun d e => ?_
      subst e
      exact nxt _ _ ⟨a + 1, b, z, ⟨hB.len, by have := hB.a0; omega, hB.b0, hB.k0, hB.m0, hB.m1⟩, rfl, rfl⟩
    · have hz : 0 ≤ z := by
        have := of_decide_eq_true (Bool.and_eq_true_iff.mp hk).2
        have e : ((10 : Int) ^ (18 : Int).toNat) = 1000000000000000000 := by decide
        omega
      refine sd_setL rfl (ev_var rfl) rfl (fun _ _ => ev_int) rfl fun d e => ?_
      subst e
      exact nxt2 _ _ ⟨z, ⟨hB.len, hB.a0, hz, hB.k0, hB.m0, hB.m1⟩, rfl, rfl⟩
end
end E
namespace E
open PySem PySem.Spec PyProof.Rows L2 TL
theorem prime_lt {p : Int} (h : p ∈ primes) : p < 100 := by
  have all : (primes.all fun p => decide (p < 100)) = true := by decide +kernel
  exact of_decide_eq_true (List.all_eq_true.mp all p h)
theorem den1 {x : Rat} (h : x.den = 1) : ((x.num : Int) : Rat) = x := Rat.ext (Rat.num_intCast _) (by rw [Rat.den_intCast, h])
def NumF (s : Int) (b : Nat) : (F : Fm) → F.α → Prop
  | .q, (x : Rat) => ∃ a : Int, a.natAbs ≤ b ∧ x = Rat.divInt a s
  | .z _ _, _ => True
theorem smI_of {b : Nat} {v : Int} (h : Bt b v) (hb : b ≤ 1600) : smI v := Nat.lt_of_lt_of_le h (Nat.le_trans (Nat.pow_le_pow_right (by decide) hb) (by decide +kernel))
theorem bt3 {c : Int} (h : c.natAbs < 16) : Bt 4 c := h
section
variable {c : Ct} {δ : List Sl} {Dn : Ends}
theorem ev_callM {R : List D → (D → Prop) → Prop} {E : XK} {ta : TA} {P1 : List D → Prop} {P : D → Prop} (h : EvA c ta δ P1) (hR : ∀ ds, P1 ds → ∃ P0, R ds P0 ∧ ∀ d, P0 d → P d) : Ev c (tCall (spP R) [] E ta) δ P := fun σ H Q s q => h σ H _ s fun vs H1 ds s1 e1 r1 p1 => by
  obtain ⟨P0, a, b⟩ := hR ds p1
  show spP R (vs ++ []) H1 Q E
  rw [List.append_nil]
  exact ⟨c.M, ds, P0, fun b hb => ⟨s1.good b hb, s1.mt b hb⟩, r1, a, fun v H' d e r p => q v H' d (s1.same e) (e1.trans (Ext.of e)) r (b d p)⟩
theorem ev_callJM {R : List D → (D → Prop) → Prop} {E : XK} {i : Nat} {ta : TA} {P1 : List D → Prop} {P : D → Prop} {j : Addr} (hj : δ[i]? = some (some (.inr j))) (hc : c.jr = some j) (h : EvA c ta δ P1) (hR : ∀ ds, P1 ds → ∃ P0, R ds P0 ∧ ∀ d, P0 d → P d) :
    Ev c (tCall (spJ R) [] E (tCons (tVar i) ta)) δ P := fun σ H Q s q => by
  refine ⟨.ref j, (s.sl.2 i).2 j hj, h σ H _ s fun vs H1 ds s1 e1 r1 p1 => ?_⟩
  show spJ R (.ref j :: vs ++ []) H1 Q E
  rw [List.append_nil]
  obtain ⟨a, b, x, y⟩ := s1.jar j hc
  obtain ⟨P0, hp, mono⟩ := hR ds p1
  refine ⟨c.M, ds, P0, j, vs, rfl, s1.mm j a, fun b hb => ⟨s1.good b hb, s1.mt b hb⟩, y, r1, hp, fun v H' d e z r p => q v H' d (s1.jarred hc e z) (e1.trans (e.sub fun w hw => by rw [List.mem_singleton.mp hw]; exact s1.mm j a)) r (mono d p)⟩
/-- what a draw below n is -/
def Drw (n : Int) (d : D) : Prop := ∃ i : Nat, d = nD i ∧ (i : Int) < n
theorem ev_draw {E : XK} {i : Nat} {j : Addr} {ta : TE} {n : Int} (hj : δ[i]? = some (some (.inr j))) (hc : c.jr = some j) (h : Ev c ta δ (· = .int n)) (hn : 1 ≤ n) : Ev c (tCall (spJ R_l_draw) [] E (tCons (tVar i) (tCons ta tNil))) δ (Drw n) :=
  ev_callJ hj hc (ea_cons h ea_nil) fun ds e => ⟨n, e, hn, rfl⟩
theorem RV.mono {r : R2} {d1 d2 : D} {P P' : D → Prop} (h : RV c r d1 d2 P) (w : ∀ d, P d → P' d) : RV c r d1 d2 P' := fun δ σ H Q x y s hx hy q => h δ σ H Q x y s hx hy fun v H' d e rr p => q v H' d e rr (w d p)
theorem rv_eqDI {K : PySem.W.Frag} {i j : Int} : RV c (rEqD K) (.int i) (.int j) (· = .bl (decide (i = j))) := (rv_eqD (okD_int i) (okD_int j)).mono fun d e => by rw [e]; exact congrArg D.bl (eqv_int i j)
/-- an operation with one drawn side -/
theorem ev_opD {r : R2} {ta tb : TE} {n : Int} {d2 : D} {P : D → Prop} (h1 : Ev c ta δ (Drw n)) (h2 : Ev c tb δ (· = d2)) (h : ∀ i : Nat, (i : Int) < n → RV c r (nD i) d2 P) : Ev c (tOp r ta tb) δ P := ev_opR (Ev.r h1) (Ev.r h2) fun d1 e2 ⟨i, a, b⟩ q => by subst a q; exact h i b
theorem ev_Dop {r : R2} {ta tb : TE} {n : Int} {d1 : D} {P : D → Prop} (h1 : Ev c ta δ (· = d1)) (h2 : Ev c tb δ (Drw n)) (h : ∀ i : Nat, (i : Int) < n → RV c r d1 (nD i) P) : Ev c (tOp r ta tb) δ P := ev_opR (Ev.r h1) (Ev.r h2) fun d1 e2 q ⟨i, a, b⟩ => by subst a q; exact h i b
theorem et_drawEq {ta : TE} {n z : Int} (h : Ev c ta δ (Drw n)) : EvT c (tTest (tOp rEq ta (tC (.int z)))) δ (fun _ => True) := et_testP (Ev.r (ev_opD h ev_int fun i hi => rv_eqI.mono fun d e => ⟨_, e, trivial⟩))
theorem et_drawGt {ta : TE} {n z : Int} (h : Ev c ta δ (Drw n)) : EvT c (tTest (tOp rGtI ta (tC (.int z)))) δ (fun _ => True) := et_testP (Ev.r (ev_opD h ev_int fun i hi => rv_B0.mono fun d e => ⟨_, e, trivial⟩))
theorem sd_whenP {t : TT} {a u : TS} {PB : Bool → Prop} (h : EvT c t δ PB) (h1 : PB true → Sd c a δ { Dn with nx := u Dn }) (h2 : PB false → Sd c u δ Dn) : Sd c (tSeq (tIfS t a tNext) u) δ Dn := sd_if (Dn := { Dn with nx := u Dn }) h h1 h2
theorem ev_fmtI {ta : TE} {a : Int} (h : EvR c ta δ (· = .int a)) (ha : smI a) : Ev c (tFmt ta) δ (· = .str (sI a)) := fun σ H Q s q => h σ H _ s fun v H1 d s1 e1 r1 p1 => by
  subst p1
  cases rdo_int r1
  exact .inr ⟨a, rfl, smI_log ha, q _ H1 _ s1 e1 (.str _) rfl⟩
theorem ev_frac {ta tb : TE} {a b : Int} (h1 : EvR c ta δ (· = .int a)) (h2 : EvR c tb δ (· = .int b)) (ha : smI a) (hb : smI b) : Ev c (tJoin [tFmt ta, tC (.str (Str.ofString "/")), tFmt tb]) δ (· = .str (sI a ++ slash ++ sI b)) := fun σ H Q s q => by
  have la := smI_len ha; have lb := smI_len hb
  have ls : slash.length = 1 := by rw [len_tl, tl_slash]; rfl
  have big : 5000 ≤ sizeLine := by decide
  refine ev_fmtI h1 ha σ H _ s fun v H1 d s1 e1 r1 p1 => ?_
  subst p1; cases r1
  refine ⟨_, rfl, by rw [PySem.Str.empty_append]; omega, _, rfl, ?_, ?_⟩
  · rw [PySem.Str.empty_append]
    show (sI a ++ slash).length ≤ _
    rw [strLen_append]; omega
  refine ev_fmtI h2 hb σ H1 _ s1 fun v2 H2 d2 s2 e2 r2 p2 => ?_
  subst p2; cases r2
  refine ⟨_, rfl, ?_, ?_⟩
  · rw [PySem.Str.empty_append]
    show (sI a ++ slash ++ sI b).length ≤ _
    rw [strLen_append, strLen_append]; omega
  · rw [PySem.Str.empty_append]
    exact q _ H2 _ s2 (e1.trans e2) (.str _) rfl
end
section
variable {P : Program} {w : World} {K : PySem.W.Frag} {mg : Str → Option Value} {base : Heap}
abbrev s_l_word : Stmt := topS 62
abbrev N_l_word : List Str := ["f", "u"]
abbrev p_l_word : List Str := ["f", "u"]
theorem sc_l_word : FnScope N_l_word p_l_word (defScope s_l_word) := ⟨rfl, rfl, rfl, by decide +kernel, rfl, by decide +kernel, by decide +kernel⟩
abbrev s_l_other : Stmt := topS 63
abbrev N_l_other : List Str := ["jar", "f", "u", "k", "c", "v"]
abbrev p_l_other : List Str := ["jar", "f", "u"]
theorem sc_l_other : FnScope N_l_other p_l_other (defScope s_l_other) := ⟨rfl, rfl, rfl, by decide +kernel, rfl, by decide +kernel, by decide +kernel⟩
abbrev s_l_number : Stmt := topS 65
abbrev N_l_number : List Str := ["jar", "f"]
abbrev p_l_number : List Str := ["jar", "f"]
theorem sc_l_number : FnScope N_l_number p_l_number (defScope s_l_number) := ⟨rfl, rfl, rfl, by decide +kernel, rfl, by decide +kernel, by decide +kernel⟩
def R_l_pick (ds : List D) (P : D → Prop) : Prop := ∃ (d : D) (its : List D), ds = [d] ∧ seqD d = some its ∧ 1 ≤ its.length ∧ ∀ x ∈ its, P x
theorem c_l_pick (h : Has K mg "_law_pick" s_l_pick p_l_pick) (B : Bi mg) (C_l_draw : Cal P w K mg base "_law_draw" 41 p_l_draw (spJ R_l_draw)) : Cal P w K mg base "_law_pick" 42 p_l_pick (spJ R_l_pick) := by
  refine mkJ h sc_l_pick (fun ds P h => by obtain ⟨_, _, rfl, _⟩ := h; rfl) (by decide) fun cdv A outer s H Q E f hr => ⟨(tRet (tOp (rIx K) (tVar 1) (tCall (spJ R_l_draw) [] E0 (tCons (tVar 0) (tCons (tCB (rLenQ K) (tCons (tVar 1) tNil)) tNil))))),
  (pss_one (ps_ret (pe_ix ix_seq (pv 1) (pe_cal C_l_draw (hr.mono (by decide)) rfl (pa_cons (pv 0) (pa_cons (pe_callB call_len_seq (by rfl) B.len boot_len (pa_cons (pv 1) pa_nil)) pa_nil))) (fun _ _ => rfl)))), fun M ds P' j hR hq => ?_⟩
  obtain ⟨d, its, rfl, hs, hl, hP⟩ := hR
  exact sd_retR (Ev.r (ev_Dop (ev_var rfl) (ev_draw rfl rfl (ev_cb (Ev.r (ev_var rfl)) (rc_len hs)) (by omega)) fun i hi => (rv_ix hs (atI_nat (List.getElem?_eq_getElem (by omega)))).mono (P' := (· ∈ its)) fun d e => by rw [e]; exact List.getElem_mem _)) hq hP
def R_l_field (ds : List D) (P : D → Prop) : Prop := ds = [] ∧ P = fun d => ∃ F : Fm, d = .int F.p
theorem c_l_field (h : Has K mg "_law_field" s_l_field p_l_field) (B : Bi mg) (C_l_draw : Cal P w K mg base "_law_draw" 41 p_l_draw (spJ R_l_draw)) (C_l_pick : Cal P w K mg base "_law_pick" 42 p_l_pick (spJ R_l_pick)) : Cal P w K mg base "_law_field" 43 p_l_field (spJ R_l_field) := by
  refine mkJ h sc_l_field (fun ds P h => by obtain ⟨rfl, _⟩ := h; rfl) (by decide) fun cdv A outer s H Q E f hr => ⟨(tSeq (tAsg (tLst (tCons (tC (.int 11)) (tCons (tC (.int 13)) (tCons (tC (.int 17)) (tCons (tC (.int 19)) (tCons (tC (.int 23)) (tCons (tC (.int 29)) (tCons (tC (.int 31)) (tCons (tC (.int 37)) (tCons (tC (.int 41)) (tCons (tC (.int 43)) (tCons (tC (.int 47)) (tCons (tC (.int 53)) (tCons (tC (.int 59)) (tCons (tC (.int 61)) (tCons (tC (.int 67)) (tCons (tC (.int 71)) (tCons (tC (.int 73)) (tCons (tC (.int 79)) (tCons (tC (.int 83)) (tCons (tC (.int 89)) (tCons (tC (.int 97)) tNil)))))))))))))))))))))) (gName 1))
  (tRet (tCall (spJ R_l_pick) [] E0 (tCons (tVar 0) (tCons (tLst (tCons (tC (.int 2)) (tCons (tC (.int 3)) (tCons (tC (.int 0)) (tCons (tC (.int 5)) (tCons (tC (.int 7)) (tCons (tOp (rIxL K) (tVar 1) (tCall (spJ R_l_draw) [] E0 (tCons (tVar 0) (tCons (tC (.int 21)) tNil)))) tNil))))))) tNil))))),
  (pss_cons (ps_asg (pe_lst (pa_cons pe_int (pa_cons pe_int (pa_cons pe_int (pa_cons pe_int (pa_cons pe_int (pa_cons pe_int (pa_cons pe_int (pa_cons pe_int (pa_cons pe_int (pa_cons pe_int (pa_cons pe_int (pa_cons pe_int (pa_cons pe_int (pa_cons pe_int (pa_cons pe_int (pa_cons pe_int (pa_cons pe_int (pa_cons pe_int (pa_cons pe_int (pa_cons pe_int (pa_cons pe_int pa_nil)))))))))))))))))))))) (pg_name (i := 1) sc_l_field.nd rfl (by first | exact Or.inl rfl | exact Or.inr rfl)))
  (pss_one (ps_ret (pe_cal C_l_pick (hr.mono (by decide)) rfl (pa_cons (pv 0) (pa_cons (pe_lst (pa_cons pe_int (pa_cons pe_int (pa_cons pe_int (pa_cons pe_int (pa_cons pe_int (pa_cons (pe_ix ix_list (pv 1) (pe_cal C_l_draw (hr.mono (by decide)) rfl (pa_cons (pv 0) (pa_cons pe_int pa_nil))) (fun _ _ => rfl)) pa_nil))))))) pa_nil)))))), fun M ds P' j hR hq => ?_⟩
  obtain ⟨rfl, rfl⟩ := hR
  refine ss_asg (d := .lst ([11, 13, 17, 19, 23, 29, 31, 37, 41, 43, 47, 53, 59, 61, 67, 71, 73, 79, 83, 89, 97].map D.int)) (EvN.evE (en_lst (by repeat (first | exact ea_nil | refine ea_cons ev_int ?_)))) ?_
  have one : ∀ p : Int, p ∈ [11, 13, 17, 19, 23, 29, 31, 37, 41, 43, 47, 53, 59, 61, 67, 71, 73, 79, 83, 89, 97] → p ∈ primes := fun p hp => by
    have all : ([11, 13, 17, 19, 23, 29, 31, 37, 41, 43, 47, 53, 59, 61, 67, 71, 73, 79, 83, 89, 97].all fun p : Int => decide (p ∈ primes)) = true := by decide +kernel
    exact of_decide_eq_true (List.all_eq_true.mp all p hp)
  generalize hL : ([11, 13, 17, 19, 23, 29, 31, 37, 41, 43, 47, 53, 59, 61, 67, 71, 73, 79, 83, 89, 97] : List Int) = L at one ⊢
  have hl : L.length = 21 := by rw [← hL]; rfl
  refine sd_retR (Ev.r (ev_callJ rfl rfl (ea_one (EvN.ev (en_lstR (P := fun ds => ∃ p ∈ primes, ds = [.int 2, .int 3, .int 0, .int 5, .int 7, .int p]) ((ea_consE ev_int (ea_consE ev_int (ea_consE ev_int (ea_consE ev_int (ea_consE ev_int (ea_one
    (ev_Dop (ev_var rfl) (ev_draw rfl rfl ev_int (by decide)) fun i hi => (rv_ixL (d := .int (L.getD i 0)) (atI_nat (by rw [List.getElem?_map, get_getD (by omega) 0]; rfl))).mono (P' := fun d => ∃ p ∈ primes, d = .int p) fun d e => ⟨_, one _ (mem_getD (by omega) 0), e⟩))))))).mono ?_) (fun ds e => ?_)))) fun ds e => ?_)) hq (P := fun d => ∃ p ∈ primes, d ∈ [D.int 2, .int 3, .int 0, .int 5, .int 7, .int p]) fun d hd => ?_
  · rintro es ⟨_, rfl, _, rfl, _, rfl, _, rfl, _, rfl, _, rfl, p, hp, rfl⟩
    exact ⟨p, hp, rfl⟩
  · obtain ⟨p, hp, rfl⟩ := e
    exact (by decide : 6 ≤ 100000)
  · obtain ⟨d, rfl, es, rfl, p, hp, rfl⟩ := e
    refine ⟨_, _, rfl, rfl, (by decide : 1 ≤ 6), fun x hx => ⟨p, hp, hx⟩⟩
  · obtain ⟨p, hp, hd⟩ := hd
    rcases List.mem_cons.mp hd with e | hd
    · exact ⟨.z 2 (by decide), e⟩
    rcases List.mem_cons.mp hd with e | hd
    · exact ⟨.z 3 (by decide), e⟩
    rcases List.mem_cons.mp hd with e | hd
    · exact ⟨.q, e⟩
    rcases List.mem_cons.mp hd with e | hd
    · exact ⟨.z 5 (by decide), e⟩
    rcases List.mem_cons.mp hd with e | hd
    · exact ⟨.z 7 (by decide), e⟩
    · exact ⟨.z p hp, List.mem_singleton.mp hd⟩
def R_l_word (ds : List D) (P : D → Prop) : Prop := ∃ x : Rat, ds = [.int 0, encQ x] ∧ smI x.num ∧ smI (x.den : Nat) ∧ P = fun d => Writ .q d x
theorem qx_self {x : Rat} (h1 : smI x.num) (h2 : smI (x.den : Nat)) : Writ .q (.str (sI x.num ++ slash ++ sI (x.den : Nat))) x := by
  have := Writ.qx x.num (x.den : Nat) (by have := x.den_pos; omega) h1 h2
  rwa [self_div] at this
theorem qt_self (x : Rat) : Writ .q (encQ x) x := by
  have := Writ.qt x.num (x.den : Nat) (den_ne x)
  rwa [self_div] at this
theorem c_l_word (h : Has K mg "_law_word" s_l_word p_l_word) (B : Bi mg) : Cal P w K mg base "_law_word" 41 p_l_word (spP R_l_word) := by
  refine mkP h sc_l_word (fun ds P h => by obtain ⟨_, rfl, _⟩ := h; rfl) fun cdv A outer s H Q E f hr => ⟨(tSeq (tIfS (tTest (tOp rGtI (tVar 0) (tC (.int 0)))) (tRet (tCB rStrI (tCons (tVar 1) tNil))) tNext)
  (tRet (tIf (tTest (tOp (rEqD K) (tOp (rIx K) (tVar 1) (tC (.int 1))) (tC (.int 1)))) (tCB rStrI (tCons (tOp (rIx K) (tVar 1) (tC (.int 0))) tNil)) (tJoin [(tFmt (tOp (rIx K) (tVar 1) (tC (.int 0)))), (tC (.str (Str.ofString "/"))), (tFmt (tOp (rIx K) (tVar 1) (tC (.int 1))))])))),
  (pss_cons (ps_if (pt_cmpR op_gt (pv 0) pe_int (nomark _)) (pss_one (ps_ret (pe_callTy call_str_int (by rfl) B.str (by decide +kernel) (pa_cons (pv 1) pa_nil)))) pss_nil)
  (pss_one (ps_ret (pe_ifExp (pt_cmpR (op_eqD hr.units) (pe_ix ix_seq (pv 1) pe_int (fun _ _ => rfl)) pe_int (nomark _)) (pe_callTy call_str_int (by rfl) B.str (by decide +kernel) (pa_cons (pe_ix ix_seq (pv 1) pe_int (fun _ _ => rfl)) pa_nil)) (pe_joined (.cons (pe_fmt (pe_ix ix_seq (pv 1) pe_int (fun _ _ => rfl))) (.cons pe_str (.cons (pe_fmt (pe_ix ix_seq (pv 1) pe_int (fun _ _ => rfl))) .nil)))))))), fun M ds P' hR hq => ?_⟩
  obtain ⟨x, rfl, h1, h2, rfl⟩ := hR
  refine sd_no ((et_test (Ev.r (ev_op (Ev.r (ev_var rfl)) (Ev.r ev_int) rv_B0))).is rfl) ?_
  refine sd_retR (P := fun d => Writ .q d x) (Ev.r (ev_if (PB := (· = decide (((x.den : Nat) : Int) = 1))) (et_test (Ev.r (ev_op (Ev.r (ev_op (Ev.r (ev_var rfl)) (Ev.r ev_int) (rv_ix rfl (ix1 x)))) (Ev.r ev_int) rv_eqDI))) (fun e => ?_) fun e => ?_)) hq fun d h => h
  · refine (ev_cb (Ev.r (ev_op (Ev.r (ev_var rfl)) (Ev.r ev_int) (rv_ix rfl (ix0 x)))) (rc_strI (smI_log h1))).mono fun d e2 => ?_
    have hd : x.den = 1 := by have := of_decide_eq_true e.symm; omega
    rw [e2]
    have := Writ.qs x.num h1
    rwa [den1 hd] at this
  · refine (ev_frac (Ev.r (ev_op (Ev.r (ev_var rfl)) (Ev.r ev_int) (rv_ix rfl (ix0 x)))) (Ev.r (ev_op (Ev.r (ev_var rfl)) (Ev.r ev_int) (rv_ix rfl (ix1 x)))) h1 h2).mono fun d e2 => ?_
    rw [e2]; exact qx_self h1 h2
def R_l_other (ds : List D) (P : D → Prop) : Prop := ∃ (F : Fm) (x : F.α), ds = [.int F.p, F.enc x] ∧ EbF 1000 F x ∧ P = fun d => Writ F d x
theorem R_l_other_cases {ds : List D} {P : D → Prop} (h : R_l_other ds P) : (∃ (p : Int) (hp : p ∈ primes) (x : Zp p hp), ds = [.int p, encZ x] ∧ P = fun d => Writ (.z p hp) d x) ∨ ∃ x : Rat, ds = [.int 0, encQ x] ∧ Eb 1000 x ∧ P = fun d => Writ .q d x := by
  obtain ⟨F, x, e, hx, eP⟩ := h
  cases F with
  | z p hp => exact .inl ⟨p, hp, x, e, eP⟩
  | q => exact .inr ⟨x, e, hx, eP⟩
theorem zi_self {p : Int} {hp : p ∈ primes} (x : Zp p hp) : Writ (.z p hp) (encZ x) x := by
  have := Writ.zi p hp x.1
  rwa [Zp.mk_self] at this
theorem z_shift {p : Int} {hp : p ∈ primes} (x : Zp p hp) (t : Int) : Zp.mk hp (x.1 + p * t) = x := by
  have := Zp.mk_self x
  rw [← this]
  exact Zp.mk_eq (by rw [Int.add_mul_emod_self_left]; exact congrArg (· % p) (by rw [this]))
theorem c_l_other (h : Has K mg "_law_other" s_l_other p_l_other) (B : Bi mg) (C_l_draw : Cal P w K mg base "_law_draw" 41 p_l_draw (spJ R_l_draw)) (C_l_word : Cal P w K mg base "_law_word" 41 p_l_word (spP R_l_word)) : Cal P w K mg base "_law_other" 42 p_l_other (spJ R_l_other) := by
  refine mkJ h sc_l_other (fun ds P h => by obtain ⟨_, _, rfl, _⟩ := h; rfl) (by decide) fun cdv A outer s H Q E f hr => ⟨(tSeq (tAsg (tCall (spJ R_l_draw) [] E0 (tCons (tVar 0) (tCons (tC (.int 5)) tNil))) (gName 3))
  (tSeq (tAsg (tOp rAddI (tC (.int 1)) (tCall (spJ R_l_draw) [] E0 (tCons (tVar 0) (tCons (tC (.int 3)) tNil)))) (gName 4))
  (tSeq (tIfS (tTest (tOp rGtI (tVar 1) (tC (.int 0)))) (tSeq (tAsg (tOp rAddI (tVar 2) (tOp rMulI (tVar 1) (tOp rSubI (tCall (spJ R_l_draw) [] E0 (tCons (tVar 0) (tCons (tC (.int 5)) tNil))) (tC (.int 2))))) (gName 5))
  (tRet (tIf (tTest (tOp rEq (tVar 3) (tC (.int 0)))) (tCB rStrI (tCons (tVar 5) tNil)) (tIf (tTest (tOp rEq (tVar 3) (tC (.int 1)))) (tVar 5) (tVar 2))))) tNext)
  (tSeq (tIfS (tTest (tOp rEq (tVar 3) (tC (.int 0)))) (tRet (tJoin [(tFmt (tOp rMulI (tOp (rIx K) (tVar 2) (tC (.int 0))) (tVar 4))), (tC (.str (Str.ofString "/"))), (tFmt (tOp rMulI (tOp (rIx K) (tVar 2) (tC (.int 1))) (tVar 4)))])) tNext)
  (tSeq (tIfS (tTest (tOp rEq (tVar 3) (tC (.int 1)))) (tRet (tTup (tCons (tOp rSubI (tC (.int 0)) (tOp rMulI (tOp (rIx K) (tVar 2) (tC (.int 0))) (tVar 4))) (tCons (tOp rSubI (tC (.int 0)) (tOp rMulI (tOp (rIx K) (tVar 2) (tC (.int 1))) (tVar 4))) tNil)))) tNext)
  (tSeq (tIfS (tAnd (tTest (tOp rEq (tVar 3) (tC (.int 2)))) (tTest (tOp (rEqD K) (tOp (rIx K) (tVar 2) (tC (.int 1))) (tC (.int 1))))) (tRet (tOp (rIx K) (tVar 2) (tC (.int 0)))) tNext)
  (tRet (tIf (tTest (tOp rEq (tVar 3) (tC (.int 3)))) (tCall (spP R_l_word) [] E0 (tCons (tC (.int 0)) (tCons (tVar 2) tNil))) (tVar 2))))))))),
  (pss_cons (ps_asg (pe_cal C_l_draw (hr.mono (by decide)) rfl (pa_cons (pv 0) (pa_cons pe_int pa_nil))) (pg_name (i := 3) sc_l_other.nd rfl (by first | exact Or.inl rfl | exact Or.inr rfl)))
  (pss_cons (ps_asg (pe_op op_add pe_int (pe_cal C_l_draw (hr.mono (by decide)) rfl (pa_cons (pv 0) (pa_cons pe_int pa_nil)))) (pg_name (i := 4) sc_l_other.nd rfl (by first | exact Or.inl rfl | exact Or.inr rfl)))
  (pss_cons (ps_if (pt_cmpR op_gt (pv 1) pe_int (nomark _)) (pss_cons (ps_asg (pe_op op_add (pv 2) (pe_op op_mulI (pv 1) (pe_op op_sub (pe_cal C_l_draw (hr.mono (by decide)) rfl (pa_cons (pv 0) (pa_cons pe_int pa_nil))) pe_int))) (pg_name (i := 5) sc_l_other.nd rfl (by first | exact Or.inl rfl | exact Or.inr rfl)))
  (pss_one (ps_ret (pe_ifExp (pt_cmpR op_eq (pv 3) pe_int (nomark _)) (pe_callTy call_str_int (by rfl) B.str (by decide +kernel) (pa_cons (pv 5) pa_nil)) (pe_ifExp (pt_cmpR op_eq (pv 3) pe_int (nomark _)) (pv 5) (pv 2)))))) pss_nil)
  (pss_cons (ps_if (pt_cmpR op_eq (pv 3) pe_int (nomark _)) (pss_one (ps_ret (pe_joined (.cons (pe_fmt (pe_op op_mulI (pe_ix ix_seq (pv 2) pe_int (fun _ _ => rfl)) (pv 4))) (.cons pe_str (.cons (pe_fmt (pe_op op_mulI (pe_ix ix_seq (pv 2) pe_int (fun _ _ => rfl)) (pv 4))) .nil)))))) pss_nil)
  (pss_cons (ps_if (pt_cmpR op_eq (pv 3) pe_int (nomark _)) (pss_one (ps_ret (pe_tup (pa_cons (pe_op op_sub pe_int (pe_op op_mulI (pe_ix ix_seq (pv 2) pe_int (fun _ _ => rfl)) (pv 4))) (pa_cons (pe_op op_sub pe_int (pe_op op_mulI (pe_ix ix_seq (pv 2) pe_int (fun _ _ => rfl)) (pv 4))) pa_nil))))) pss_nil)
  (pss_cons (ps_if (PW.pt (pw_and (pt_cmpR op_eq (pv 3) pe_int (nomark _)) (pw_and1 (pt_cmpR (op_eqD hr.units) (pe_ix ix_seq (pv 2) pe_int (fun _ _ => rfl)) pe_int (nomark _))))) (pss_one (ps_ret (pe_ix ix_seq (pv 2) pe_int (fun _ _ => rfl)))) pss_nil)
  (pss_one (ps_ret (pe_ifExp (pt_cmpR op_eq (pv 3) pe_int (nomark _)) (pe_cal C_l_word (hr.mono (by decide)) rfl (pa_cons pe_int (pa_cons (pv 2) pa_nil))) (pv 2)))))))))), fun M ds P' j hR hq => ?_⟩
  rcases R_l_other_cases hR with ⟨p, hp, x, rfl, rfl⟩ | ⟨x, rfl, hx, rfl⟩
  · have hpp := prime_pos hp
    have xs := zp_small x
    refine ss_asgR (ev_draw rfl rfl ev_int (by decide)) ?_
    rintro _ ⟨k, rfl, hk⟩
    refine ss_asgR (ev_Dop ev_int (ev_draw rfl rfl ev_int (by decide)) fun i hi => rv_I0.mono (P' := fun d => ∃ i : Nat, d = .int (1 + (i : Int)) ∧ (i : Int) < 3) fun d e => ⟨i, e, hi⟩) ?_
    rintro _ ⟨c, rfl, hc⟩
    refine sd_yes ((et_test (Ev.r (ev_op (Ev.r (ev_var rfl)) (Ev.r ev_int) rv_B0))).is (pos_p hp)) ?_
    have pB : Bt 8 p := by show p.natAbs < 2 ^ 8; omega
    refine ss_asgR (ev_opR (P1 := (· = .int x.1)) (Ev.r (ev_var rfl)) (Ev.r (ev_opR (P1 := (· = .int p)) (P2 := fun d => ∃ t : Int, d = .int t ∧ t.natAbs < 16) (P := fun d => ∃ t : Int, d = .int (p * t) ∧ t.natAbs < 16) (Ev.r (ev_var rfl)) (Ev.r (ev_opD (ev_draw rfl rfl ev_int (by decide)) ev_int fun i hi => rv_I0.mono fun d e => ⟨(i : Int) - 2, e, by omega⟩)) fun d1 d2 e1 ⟨t, e2, ht⟩ => by
      subst e1 e2
      exact (rv_I (pB.cm (bt3 ht) (by decide))).mono fun d e => ⟨t, e, ht⟩)) (P := fun d => ∃ t : Int, d = .int (x.1 + p * t) ∧ t.natAbs < 16) fun d1 d2 e1 ⟨t, e2, ht⟩ => by
        subst e1 e2
        exact rv_I0.mono fun d e => ⟨t, e, ht⟩) ?_
    rintro _ ⟨t, rfl, ht⟩
    have vB : Bt 13 (x.1 + p * t) := Bt.add (xs.mono (by decide)) (pB.mul (bt3 ht))
    have sv : smI (x.1 + p * t) := smI_of vB (by decide)
    refine sd_retR (P := fun d => Writ (.z p hp) d x) (Ev.r (ev_if (et_test (Ev.r (ev_op (Ev.r (ev_var rfl)) (Ev.r ev_int) rv_eqI))) (fun e => ?_) fun e => ev_if (et_test (Ev.r (ev_op (Ev.r (ev_var rfl)) (Ev.r ev_int) rv_eqI))) (fun e => ?_) fun e => ?_)) hq fun d h => h
    · refine (ev_cb (Ev.r (ev_var rfl)) (rc_strI (smI_log sv))).mono fun d e => ?_
      rw [e]
      have := Writ.zs p hp _ sv
      rwa [z_shift] at this
    · refine (ev_var rfl).mono fun d e => ?_
      rw [e]
      have := Writ.zi p hp (x.1 + p * t)
      rwa [z_shift] at this
    · refine (ev_var rfl).mono fun d e => ?_
      rw [e]; exact zi_self x
  · refine ss_asgR (ev_draw rfl rfl ev_int (by decide)) ?_
    rintro _ ⟨k, rfl, hk⟩
    refine ss_asgR (ev_Dop ev_int (ev_draw rfl rfl ev_int (by decide)) fun i hi => rv_I0.mono (P' := fun d => ∃ i : Int, d = .int i ∧ 0 < i ∧ i.natAbs < 16) fun d e => ⟨_, e, by omega, by omega⟩) ?_
    rintro _ ⟨c, rfl, hc0, hc⟩
    have cB := bt3 hc
    refine sd_no ((et_test (Ev.r (ev_op (Ev.r (ev_var rfl)) (Ev.r ev_int) rv_B0))).is rfl) ?_
    have n0 : Ev ⟨H, [j], M, some j, [], M, [], []⟩ (tOp (rIx K) (tVar 2) (tC (.int 0))) [some (.inr j), some (.inl (.int 0)), some (.inl (encQ x)), some (.inl (nD k)), some (.inl (.int c)), none] (· = .int x.num) := ev_op (Ev.r (ev_var rfl)) (Ev.r ev_int) (rv_ix rfl (ix0 x))
    have n1 : Ev ⟨H, [j], M, some j, [], M, [], []⟩ (tOp (rIx K) (tVar 2) (tC (.int 1))) [some (.inr j), some (.inl (.int 0)), some (.inl (encQ x)), some (.inl (nD k)), some (.inl (.int c)), none] (· = .int (x.den : Nat)) := ev_op (Ev.r (ev_var rfl)) (Ev.r ev_int) (rv_ix rfl (ix1 x))
    have b0 := hx.1.mul cB
    have b1 := hx.2.mul cB
    have hd := x.den_pos
    have dc : (0 : Int) < (x.den : Nat) * c := Int.mul_pos (by omega) hc0
    have e0 : Rat.divInt (x.num * c) ((x.den : Nat) * c) = x := by rw [Rat.divInt_mul_right (by omega), self_div]
    refine sd_when (et_test (Ev.r (ev_op (Ev.r (ev_var rfl)) (Ev.r ev_int) rv_eqI))) (fun _ => ?_) fun _ => ?_
    · refine sd_ret (Ev.r (ev_frac (Ev.r (ev_op (Ev.r n0) (Ev.r (ev_var rfl)) (rv_I (hx.1.cm cB (by decide))))) (Ev.r (ev_op (Ev.r n1) (Ev.r (ev_var rfl)) (rv_I (hx.2.cm cB (by decide))))) (smI_of b0 (by decide)) (smI_of b1 (by decide)))) hq ?_
      have := Writ.qx _ _ dc (smI_of b0 (by decide)) (smI_of b1 (by decide))
      rwa [e0] at this
    refine sd_when (et_test (Ev.r (ev_op (Ev.r (ev_var rfl)) (Ev.r ev_int) rv_eqI))) (fun _ => ?_) fun _ => ?_
    · refine sd_ret (Ev.r (ev_tup (ea_cons (ev_op (Ev.r ev_int) (Ev.r (ev_op (Ev.r n0) (Ev.r (ev_var rfl)) (rv_I (hx.1.cm cB (by decide))))) rv_I0) (ea_cons (ev_op (Ev.r ev_int) (Ev.r (ev_op (Ev.r n1) (Ev.r (ev_var rfl)) (rv_I (hx.2.cm cB (by decide))))) rv_I0) ea_nil)))) hq ?_
      have := Writ.qt (0 - x.num * c) (0 - (x.den : Nat) * c) (by omega)
      have e1 : Rat.divInt (0 - x.num * c) (0 - (x.den : Nat) * c) = x := by rw [Int.zero_sub, Int.zero_sub, Rat.neg_divInt_neg, e0]
      rw [e1] at this
      exact this
    refine sd_when (et_andE (et_test (Ev.r (ev_op (Ev.r (ev_var rfl)) (Ev.r ev_int) rv_eqI))) fun _ => et_test (Ev.r (ev_op (Ev.r n1) (Ev.r ev_int) rv_eqDI))) (fun e => ?_) fun _ => ?_
    · have hd1 : x.den = 1 := by have := of_decide_eq_true (Bool.and_eq_true_iff.mp e).2; omega
      refine sd_ret (Ev.r n0) hq ?_
      have := Writ.qi x.num
      rwa [den1 hd1] at this
    refine sd_retR (P := fun d => Writ .q d x) (Ev.r (ev_if (et_test (Ev.r (ev_op (Ev.r (ev_var rfl)) (Ev.r ev_int) rv_eqI))) (fun e => ?_) fun e => ?_)) hq fun d h => h
    · exact ev_call (ea_cons ev_int (ea_cons (ev_var rfl) ea_nil)) ⟨x, rfl, smI_of hx.1 (by decide), smI_of hx.2 (by decide), rfl⟩
    · exact (ev_var rfl).mono fun d e => by rw [e]; exact qt_self x
def R_l_number (ds : List D) (P : D → Prop) : Prop := ∃ F : Fm, ds = [.int F.p] ∧ P = fun d => ∃ x : F.α, d = F.enc x ∧ NumF 12 48 F x
theorem R_l_number_cases {ds : List D} {P : D → Prop} (h : R_l_number ds P) : (∃ (p : Int) (hp : p ∈ primes), ds = [.int p] ∧ P = fun d => ∃ x : (Fm.z p hp).α, d = (Fm.z p hp).enc x ∧ NumF 12 48 (.z p hp) x) ∨ (ds = [.int 0] ∧ P = fun d => ∃ x : Fm.q.α, d = Fm.q.enc x ∧ NumF 12 48 .q x) := by
  obtain ⟨F, e, eP⟩ := h
  cases F with
  | z p hp => exact .inl ⟨p, hp, e, eP⟩
  | q => exact .inr ⟨e, eP⟩
theorem numF_zero (F : Fm) {s : Int} {b : Nat} : NumF s b F 0 := by
  cases F with
  | q => exact ⟨0, by simp, (Rat.zero_divInt _).symm⟩
  | z p h => trivial
theorem over12 {a : Int} {j : Nat} (ha : a.natAbs ≤ 4) (hj : j < 4) : ∃ n : Int, n.natAbs ≤ 48 ∧ Rat.divInt a (1 + (j : Int)) = Rat.divInt n 12 := by
  have go : ∀ d t : Int, t ≠ 0 → d * t = 12 → t.natAbs ≤ 12 → ∃ n : Int, n.natAbs ≤ 48 ∧ Rat.divInt a d = Rat.divInt n 12 := fun d t t0 e ht => by
    refine ⟨a * t, ?_, ?_⟩
    · rw [Int.natAbs_mul]
      have := Nat.mul_le_mul ha ht; omega
    · rw [← e, Rat.divInt_mul_right t0]
  match j, hj with
  | 0, _ => exact go _ 12 (by decide) (by decide) (by decide)
  | 1, _ => exact go _ 6 (by decide) (by decide) (by decide)
  | 2, _ => exact go _ 4 (by decide) (by decide) (by decide)
  | 3, _ => exact go _ 3 (by decide) (by decide) (by decide)
theorem c_l_number (h : Has K mg "_law_number" s_l_number p_l_number) (B : Bi mg) (C_l_draw : Cal P w K mg base "_law_draw" 41 p_l_draw (spJ R_l_draw)) (C_l_num : Cal P w K mg base "_law_num" 41 p_l_num (spP R_l_num)) (C_l_low : Cal P w K mg base "_law_low" 42 p_l_low (spP R_l_low)) : Cal P w K mg base "_law_number" 43 p_l_number (spJ R_l_number) := by
  refine mkJ h sc_l_number (fun ds P h => by obtain ⟨_, rfl, _⟩ := h; rfl) (by decide) fun cdv A outer s H Q E f hr => ⟨(tSeq (tIfS (tTest (tOp rEq (tCall (spJ R_l_draw) [] E0 (tCons (tVar 0) (tCons (tC (.int 3)) tNil))) (tC (.int 0)))) (tRet (tCall (spP R_l_num) [] E0 (tCons (tVar 1) (tCons (tC (.int 0)) tNil)))) tNext)
  (tSeq (tIfS (tTest (tOp rGtI (tVar 1) (tC (.int 0)))) (tRet (tCall (spJ R_l_draw) [] E0 (tCons (tVar 0) (tCons (tVar 1) tNil)))) tNext)
  (tRet (tCall (spP R_l_low) [] E0 (tCons (tOp rSubI (tCall (spJ R_l_draw) [] E0 (tCons (tVar 0) (tCons (tC (.int 9)) tNil))) (tC (.int 4))) (tCons (tOp rAddI (tC (.int 1)) (tCall (spJ R_l_draw) [] E0 (tCons (tVar 0) (tCons (tC (.int 4)) tNil)))) tNil)))))),
  (pss_cons (ps_if (pt_cmpR op_eq (pe_cal C_l_draw (hr.mono (by decide)) rfl (pa_cons (pv 0) (pa_cons pe_int pa_nil))) pe_int (nomark _)) (pss_one (ps_ret (pe_cal C_l_num (hr.mono (by decide)) rfl (pa_cons (pv 1) (pa_cons pe_int pa_nil))))) pss_nil)
  (pss_cons (ps_if (pt_cmpR op_gt (pv 1) pe_int (nomark _)) (pss_one (ps_ret (pe_cal C_l_draw (hr.mono (by decide)) rfl (pa_cons (pv 0) (pa_cons (pv 1) pa_nil))))) pss_nil)
  (pss_one (ps_ret (pe_cal C_l_low (hr.mono (by decide)) rfl (pa_cons (pe_op op_sub (pe_cal C_l_draw (hr.mono (by decide)) rfl (pa_cons (pv 0) (pa_cons pe_int pa_nil))) pe_int) (pa_cons (pe_op op_add pe_int (pe_cal C_l_draw (hr.mono (by decide)) rfl (pa_cons (pv 0) (pa_cons pe_int pa_nil)))) pa_nil))))))), fun M ds P' j hR hq => ?_⟩
  have hR0 := hR
  obtain ⟨F, rfl, rfl⟩ := hR0
  refine sd_whenP (et_drawEq (ev_draw rfl rfl ev_int (by decide))) (fun _ => ?_) fun _ => ?_
  · exact sd_ret (Ev.r ((ev_call (ea_cons (ev_var rfl) (ea_cons ev_int ea_nil)) ⟨F, 0, rfl, rfl⟩).is (congrArg F.enc (ofInt0 F)))) hq ⟨0, rfl, numF_zero F⟩
  cases F with
  | z p hp =>
    have hpp := prime_pos hp
    refine sd_yes ((et_test (Ev.r (ev_op (Ev.r (ev_var rfl)) (Ev.r ev_int) rv_B0))).is (pos_p hp)) ?_
    refine sd_retR (Ev.r (ev_draw rfl rfl (ev_var rfl) (by show 1 ≤ p; omega))) hq fun d hd => ?_
    obtain ⟨i, rfl, hi⟩ := hd
    have hi : (i : Int) < p := hi
    exact ⟨(⟨(i : Int), by omega, hi⟩ : Zp p hp), rfl, trivial⟩
  | q =>
    refine sd_no ((et_test (Ev.r (ev_op (Ev.r (ev_var rfl)) (Ev.r ev_int) rv_B0))).is rfl) ?_
    refine sd_retR (P := fun d => ∃ x : Rat, d = encQ x ∧ NumF 12 48 .q x) (Ev.r (ev_callM (ea_consP (P1 := fun d => ∃ a : Int, d = .int a ∧ a.natAbs ≤ 4) (ev_opD (ev_draw rfl rfl ev_int (by decide)) ev_int fun i hi => rv_I0.mono fun d e => ⟨_, e, by omega⟩)
      (ea_one (P1 := fun d => ∃ j : Nat, d = .int (1 + (j : Int)) ∧ j < 4) (ev_Dop ev_int (ev_draw rfl rfl ev_int (by decide)) fun i hi => rv_I0.mono fun d e => ⟨i, e, by omega⟩))) fun ds e => ?_)) hq fun d h => h
    obtain ⟨_, _, rfl, ⟨a, rfl, ha⟩, _, rfl, k, rfl, hk⟩ := e
    obtain ⟨n, hn, en⟩ := over12 ha hk
    exact ⟨_, ⟨a, _, rfl, by omega, rfl⟩, fun d e => ⟨_, e, n, hn, en⟩⟩
end
end E
namespace E
open PySem PySem.Spec PyProof.Rows L2 TL
theorem numF_add {s : Int} {a b : Nat} {F : Fm} {x y : F.α} (h : NumF s a F x) (k : NumF s b F y) : NumF s (a + b) F (x + y) := by
  cases F with
  | q =>
    obtain ⟨n, hn, rfl⟩ := h
    obtain ⟨m, hm, rfl⟩ := k
    refine ⟨n + m, by omega, ?_⟩
    rw [divI, divI, divI, Rat.intCast_add, Rat.add_mul]
    rfl
  | z p hp => trivial
theorem numF_mono {s : Int} {a b : Nat} {F : Fm} {x : F.α} (h : NumF s a F x) (k : a ≤ b) : NumF s b F x := by
  cases F with
  | q => obtain ⟨n, hn, e⟩ := h; exact ⟨n, by omega, e⟩
  | z p hp => trivial
theorem numF_eb {s : Int} {b n : Nat} {F : Fm} {x : F.α} (h : NumF s b F x) (hs : s ≠ 0) (hb : b < 2 ^ n) (hsn : s.natAbs < 2 ^ n) : EbF n F x := by
  cases F with
  | q =>
    obtain ⟨a, ha, rfl⟩ := h
    exact Eb.of hs (Nat.lt_of_le_of_lt ha hb) hsn
  | z p hp => trivial
theorem numF_cd {s : Int} {b n : Nat} {F : Fm} {r : List F.α} (h : ∀ x ∈ r, NumF s b F x) (hs : s ≠ 0) (hb : b < 2 ^ n) (hsn : s.natAbs < 2 ^ n) : CdF n F r := by
  cases F with
  | q =>
    exact cd_of hs hsn fun x hx => by
      obtain ⟨a, ha, e⟩ := h x hx
      exact ⟨a, Nat.lt_of_le_of_lt ha hb, e⟩
  | z p hp => trivial
theorem ix_nat {n j : Nat} (hj : j < n) : ixN n (j : Int) = some j := by
  unfold ixN
  have h0 : ¬ ((j : Int) < 0) := by omega
  simp [h0, hj]
/-- m rows of n numbers over the denominator s, of numerators up to b -/
structure TabOk (F : Fm) (s : Int) (b m n : Nat) (tab : List (List F.α)) : Prop where
  len : tab.length = m
  wid : ∀ t ∈ tab, t.length = n
  num : ∀ t ∈ tab, ∀ x ∈ t, NumF s b F x
theorem TabOk.mono {F : Fm} {s : Int} {a b m n : Nat} {tab : List (List F.α)} (h : TabOk F s a m n tab) (k : a ≤ b) : TabOk F s b m n tab := ⟨h.len, h.wid, fun t ht x hx => numF_mono (h.num t ht x hx) k⟩
theorem TabOk.set {F : Fm} {s : Int} {b m n : Nat} {tab : List (List F.α)} {r : List F.α} (h : TabOk F s b m n tab) (k : Nat) (hr : r.length = n) (hx : ∀ x ∈ r, NumF s b F x) : TabOk F s b m n (tab.set k r) :=
  ⟨by rw [List.length_set]; exact h.len, fun t ht => (List.mem_or_eq_of_mem_set ht).elim (h.wid t) (fun e => by rw [e]; exact hr), fun t ht => (List.mem_or_eq_of_mem_set ht).elim (h.num t) (fun e => by rw [e]; exact hx)⟩
theorem all2_map {β γ : Type} {e : γ → D} {S : γ → Prop} : ∀ {l : List β} {es : List D}, All2 (fun _ d => ∃ x, d = e x ∧ S x) l es → ∃ r : List γ, es = r.map e ∧ r.length = l.length ∧ ∀ x ∈ r, S x
  | _, _, .nil => ⟨[], rfl, rfl, by simp⟩
  | _, _, .cons ⟨x, ex, sx⟩ t => by
    obtain ⟨r, e1, e2, h⟩ := all2_map t
    exact ⟨x :: r, by rw [ex, e1]; rfl, by rw [List.length_cons, List.length_cons, e2], fun y hy => (List.mem_cons.mp hy).elim (fun z => by rw [z]; exact sx) (h y)⟩
theorem all2_pair {γ : Type} {R : γ → D → Prop} : ∀ {l : List γ} {es : List D}, All2 R l es → ∃ ws : List (D × γ), es = ws.map (·.1) ∧ l = ws.map (·.2) ∧ ∀ q ∈ ws, R q.2 q.1
  | _, _, .nil => ⟨[], rfl, rfl, by simp⟩
  | _, _, .cons (a := a) (b := b) h t => by
    obtain ⟨ws, e1, e2, k⟩ := all2_pair t
    exact ⟨(b, a) :: ws, by rw [e1]; rfl, by rw [e2]; rfl, fun q hq => (List.mem_cons.mp hq).elim (fun z => by rw [z]; exact h) (k q)⟩
/-- a row in writings -/
def GivL (F : Fm) (r : List F.α) (d : D) : Prop := ∃ ws : List (D × F.α), d = .lst (ws.map (·.1)) ∧ r = ws.map (·.2) ∧ ∀ q ∈ ws, Writ F q.1 q.2
theorem giv_rows {F : Fm} : ∀ {tab : List (List F.α)} {es : List D}, All2 (GivL F) tab es → ∃ zs : List (D × List (D × F.α)), es = zs.map (·.1) ∧ tab = zs.map (fun z => z.2.map (·.2)) ∧ ∀ z ∈ zs, z.1 = .lst (z.2.map (·.1)) ∧ ∀ q ∈ z.2, Writ F q.1 q.2
  | _, _, .nil => ⟨[], rfl, rfl, by simp⟩
  | _, _, .cons (b := d) ⟨ws, e1, e2, h⟩ t => by
    obtain ⟨zs, a, b, k⟩ := giv_rows t
    exact ⟨(d, ws) :: zs, by rw [a]; rfl, by rw [b, e2]; rfl, fun z hz => (List.mem_cons.mp hz).elim (fun e => by rw [e]; exact ⟨e1, h⟩) (k z)⟩
section
variable {c : Ct} {δ : List Sl} {Dn : Ends}
theorem en_ranR {ta : TA} {g : TG} {te : TE} {vs : List Nat} {n : Nat} (R : Nat → D → Prop) (h : EvA c ta δ (· = [.int (n : Int)])) (hn : n ≤ 100000)
    (hb : ∀ l acc k, k < n → ∃ js δ', EvG g js (wipeD δ vs) (nD k) δ' ∧ (∀ k ∈ js, k ∈ vs) ∧ Ev (c.push l acc) te δ' (R k)) : EvN c (tLc (iRng1 ta) g tYes te vs) δ (fun es => All2 R (List.range n) es) :=
  (en_lcR (PX := (· = List.range n)) nD R (fun σ H R s q => EvI.o (ei_rng h hn) σ H R s fun J H1 its a b e p => q J H1 its a b e ⟨_, p, rfl⟩) (fun xs e => by rw [e]; simpa using hn) fun l acc xs x e hx => hb l acc x (by rw [e] at hx; exact List.mem_range.mp hx)).mono fun es ⟨xs, e, ha⟩ => by rw [← e]; exact ha
theorem en_lstR' {α : Type} {K : PySem.W.Frag} {tl : TE} {g : TG} {te : TE} {vs : List Nat} (xs : List α) (i : α → D) (R : α → D → Prop) (h : Ev c tl δ (· = .lst (xs.map i))) (hn : xs.length ≤ 100000)
    (hb : ∀ l acc x, x ∈ xs → ∃ js δ', EvG g js (wipeD δ vs) (i x) δ' ∧ (∀ k ∈ js, k ∈ vs) ∧ Ev (c.push l acc) te δ' (R x)) : EvN c (tLc (iList K tl) g tYes te vs) δ (fun es => All2 R xs es) :=
  (en_lcR (PX := (· = xs)) i R (fun σ H R s q => EvI.o (ei_list h) σ H R s fun J H1 its a b e p => q J H1 its a b e ⟨_, p, rfl⟩) (fun ys e => by rw [e]; exact hn) fun l acc ys x e hx => hb l acc x (by rw [e] at hx; exact hx)).mono fun es ⟨ys, e, ha⟩ => by rw [← e]; exact ha
theorem ss_ifQ {t : TT} {a b u : TS} {PB : Bool → Prop} (J : Ct → List Sl → Prop) (rest : ∀ c' δ', J c' δ' → Sd c' u δ' Dn) (h : EvT c t δ PB) (h1 : (∀ c' δ', J c' δ' → Nx c' δ' (u Dn)) → PB true → Sd c a δ { Dn with nx := u Dn })
    (h2 : (∀ c' δ', J c' δ' → Nx c' δ' (u Dn)) → PB false → Sd c b δ { Dn with nx := u Dn }) : Sd c (tSeq (tIfS t a b) u) δ Dn := sd_seq (sd_if (Dn := { Dn with nx := u Dn }) h (h1 rest) (h2 rest))
end
section
variable {P : Program} {w : World} {K : PySem.W.Frag} {mg : Str → Option Value} {base : Heap}
abbrev s_l_table : Stmt := topS 68
abbrev N_l_table : List Str := ["jar", "f", "tall", "wide", "made", "i", "j", "k", "t"]
abbrev p_l_table : List Str := ["jar", "f", "tall", "wide"]
theorem sc_l_table : FnScope N_l_table p_l_table (defScope s_l_table) := ⟨rfl, rfl, rfl, by decide +kernel, rfl, by decide +kernel, by decide +kernel⟩
abbrev s_l_given : Stmt := topS 69
abbrev N_l_given : List Str := ["jar", "f", "vecs", "made", "vec", "u"]
abbrev p_l_given : List Str := ["jar", "f", "vecs"]
theorem sc_l_given : FnScope N_l_given p_l_given (defScope s_l_given) := ⟨rfl, rfl, rfl, by decide +kernel, rfl, by decide +kernel, by decide +kernel⟩
def R_l_table (ds : List D) (P : D → Prop) : Prop := ∃ (F : Fm) (m n : Nat), ds = [.int F.p, nD m, nD n] ∧ 1 ≤ m ∧ m ≤ 6 ∧ 1 ≤ n ∧ n ≤ 6 ∧ P = fun d => ∃ tab : List (List F.α), d = .lst (tab.map F.rowL) ∧ TabOk F 12 96 m n tab
theorem at_enc {F : Fm} {r : List F.α} {i : Nat} (hi : i < r.length) : atI (r.map F.enc) (i : Int) = some (F.enc (g r i)) := atI_nat (by rw [List.getElem?_map, get_getD hi 0]; rfl)
theorem at_row {F : Fm} {tab : List (List F.α)} {i : Nat} (hi : i < tab.length) : atI (tab.map F.rowL) (i : Int) = some (F.rowL (tab.getD i [])) := atI_nat (by rw [List.getElem?_map, get_getD hi []]; rfl)
theorem num_g {F : Fm} {s : Int} {b : Nat} {r : List F.α} (h : ∀ x ∈ r, NumF s b F x) (i : Nat) : NumF s b F (g r i) := by
  by_cases hi : i < r.length
  · rw [g_lt hi]; exact h _ (List.getElem_mem _)
  · rw [g_ge (by omega)]; exact numF_zero F
theorem c_l_table (h : Has K mg "_law_table" s_l_table p_l_table) (B : Bi mg) (C_l_draw : Cal P w K mg base "_law_draw" 41 p_l_draw (spJ R_l_draw)) (C_l_number : Cal P w K mg base "_law_number" 43 p_l_number (spJ R_l_number)) (C_l_add : Cal P w K mg base "_law_add" 43 p_l_add (spP R_l_add)) :
    Cal P w K mg base "_law_table" 44 p_l_table (spJ R_l_table) := by
  refine mkJ h sc_l_table (fun ds P h => by obtain ⟨_, _, _, rfl, _⟩ := h; rfl) (by decide) fun cdv A outer s H Q E f hr => ⟨(tSeq (tAsg (tLc (iRng1 (tCons (tVar 2) tNil)) (gName 5) tYes (tLc (iRng1 (tCons (tVar 3) tNil)) (gName 6) tYes (tCall (spJ R_l_number) [] E0 (tCons (tVar 0) (tCons (tVar 1) tNil))) [6]) [5]) (gName 4))
  (tSeq (tIfS (tAnd (tTest (tOp rGtI (tVar 2) (tC (.int 2)))) (tTest (tOp rEq (tCall (spJ R_l_draw) [] E0 (tCons (tVar 0) (tCons (tC (.int 2)) tNil))) (tC (.int 0))))) (tSeq (tAsg (tCall (spJ R_l_draw) [] E0 (tCons (tVar 0) (tCons (tVar 2) tNil))) (gName 7))
  (tAsg (tLc (iRng1 (tCons (tVar 3) tNil)) (gName 8) tYes (tCall (spP R_l_add) [] E0 (tCons (tVar 1) (tCons (tOp (rIxL K) (tOp (rIxL K) (tVar 4) (tOp rModI (tCB rInt1 (tCons (tOp rAddI (tVar 7) (tC (.int 1))) tNil)) (tVar 2))) (tVar 8)) (tCons (tOp (rIxL K) (tOp (rIxL K) (tVar 4) (tOp rModI (tCB rInt1 (tCons (tOp rAddI (tVar 7) (tC (.int 2))) tNil)) (tVar 2))) (tVar 8)) tNil)))) [8]) (gSub (tVar 4) (tVar 7) rSetL))) tNext)
  (tRet (tVar 4)))),
  (pss_cons (ps_asg (pe_lc (own := [("i", 5)]) (g := (gName 5)) (tt := tYes) (te := (tLc (iRng1 (tCons (tVar 3) tNil)) (gName 6) tYes (tCall (spJ R_l_number) [] E0 (tCons (tVar 0) (tCons (tVar 1) tNil))) [6])) rfl sc_l_table.nd (pi_range1 rfl B.range (pa_cons (pv 2) pa_nil)) (blkOk_by (own := [("i", 5)]) (N := N_l_table) (by kernel_rfl)) (fun _ _ _ _ _ => (pg_name (i := 5) sc_l_table.nd rfl (by first | exact Or.inl rfl | exact Or.inr rfl))) (fun _ _ _ _ _ => pts_nil) (fun _ _ _ _ _ => (pe_lc (own := [("j", 6)]) (g := (gName 6)) (tt := tYes) (te := (tCall (spJ R_l_number) [] E0 (tCons (tVar 0) (tCons (tVar 1) tNil)))) rfl sc_l_table.nd (pi_range1 rfl B.range (pa_cons (pv 3) pa_nil)) (blkOk_by (own := [("j", 6)]) (N := N_l_table) (by kernel_rfl)) (fun _ _ _ _ _ => (pg_name (i := 6) sc_l_table.nd rfl (by first | exact Or.inl rfl | exact Or.inr rfl))) (fun _ _ _ _ _ => pts_nil) (fun _ _ _ _ _ => (pe_cal C_l_number (hr.mono (by decide)) rfl (pa_cons (pv 0) (pa_cons (pv 1) pa_nil))))))) (pg_name (i := 4) sc_l_table.nd rfl (by first | exact Or.inl rfl | exact Or.inr rfl)))
  (pss_cons (ps_if (PW.pt (pw_and (pt_cmpR op_gt (pv 2) pe_int (nomark _)) (pw_and1 (pt_cmpR op_eq (pe_cal C_l_draw (hr.mono (by decide)) rfl (pa_cons (pv 0) (pa_cons pe_int pa_nil))) pe_int (nomark _))))) (pss_cons (ps_asg (pe_cal C_l_draw (hr.mono (by decide)) rfl (pa_cons (pv 0) (pa_cons (pv 2) pa_nil))) (pg_name (i := 7) sc_l_table.nd rfl (by first | exact Or.inl rfl | exact Or.inr rfl)))
  (pss_one (ps_asg (pe_lc (own := [("t", 8)]) (g := (gName 8)) (tt := tYes) (te := (tCall (spP R_l_add) [] E0 (tCons (tVar 1) (tCons (tOp (rIxL K) (tOp (rIxL K) (tVar 4) (tOp rModI (tCB rInt1 (tCons (tOp rAddI (tVar 7) (tC (.int 1))) tNil)) (tVar 2))) (tVar 8)) (tCons (tOp (rIxL K) (tOp (rIxL K) (tVar 4) (tOp rModI (tCB rInt1 (tCons (tOp rAddI (tVar 7) (tC (.int 2))) tNil)) (tVar 2))) (tVar 8)) tNil))))) rfl sc_l_table.nd (pi_range1 rfl B.range (pa_cons (pv 3) pa_nil)) (blkOk_by (own := [("t", 8)]) (N := N_l_table) (by kernel_rfl)) (fun _ _ _ _ _ => (pg_name (i := 8) sc_l_table.nd rfl (by first | exact Or.inl rfl | exact Or.inr rfl))) (fun _ _ _ _ _ => pts_nil) (fun _ _ _ _ _ => (pe_cal C_l_add (hr.mono (by decide)) rfl (pa_cons (pv 1) (pa_cons (pe_ix ix_list (pe_ix ix_list (pv 4) (pe_op op_modN (pe_callTy call_int1 (by rfl) B.int (by decide +kernel) (pa_cons (pe_op op_add (pv 7) pe_int) pa_nil)) (pv 2)) (fun _ _ => rfl)) (pv 8) (fun _ _ => rfl)) (pa_cons (pe_ix ix_list (pe_ix ix_list (pv 4) (pe_op op_modN (pe_callTy call_int1 (by rfl) B.int (by decide +kernel) (pa_cons (pe_op op_add (pv 7) pe_int) pa_nil)) (pv 2)) (fun _ _ => rfl)) (pv 8) (fun _ _ => rfl)) pa_nil)))))) (pg_sub (pv 4) (pv 7) set_list)))) pss_nil)
  (pss_one (ps_ret (pv 4))))), fun M ds P' j hR hq => ?_⟩
  obtain ⟨F, m, n, rfl, hm1, hm, hn1, hn, rfl⟩ := hR
  refine ss_asgN ((en_ranR (n := m) (fun _ d => ∃ r : List F.α, d = F.rowL r ∧ (r.length = n ∧ ∀ x ∈ r, NumF 12 48 F x)) (ea_cons (ev_var rfl) ea_nil) (by omega) fun l acc k hk => ⟨[5], _, eg_name, fun _ h => h, (EvN.ev (en_ranR (n := n) (fun _ d => ∃ x : F.α, d = F.enc x ∧ NumF 12 48 F x) (ea_cons (ev_var rfl) ea_nil) (by omega) fun l acc k hk => ⟨[6], _, eg_name, fun _ h => h, ev_callJ rfl rfl (ea_cons (ev_var rfl) ea_nil) fun ds e => ⟨F, e, rfl⟩⟩)).mono fun d ⟨es, e, ha⟩ => by
      obtain ⟨r, e1, e2, hx⟩ := all2_map ha
      exact ⟨r, by rw [e, e1]; rfl, by rw [e2, List.length_range], hx⟩⟩).mono (P' := fun es => ∃ tab : List (List F.α), es = tab.map F.rowL ∧ TabOk F 12 48 m n tab) fun es ha => by
        obtain ⟨tab, e1, e2, hx⟩ := all2_map ha
        exact ⟨tab, e1, by rw [e2, List.length_range], fun t ht => (hx t ht).1, fun t ht => (hx t ht).2⟩) ?_
  rintro l es ⟨tab, rfl, hT⟩ nl
  refine ss_ifQ (fun c1 δ1 => ∃ (tab : List (List F.α)) (x5 x6 x7 x8 : Sl), TabOk F 12 96 m n tab ∧ c1 = ⟨H, [j], M, some j, [], l :: M, [(l, tab.map F.rowL)], []⟩ ∧ δ1 = [some (.inr j), some (.inl (.int F.p)), some (.inl (nD m)), some (.inl (nD n)), some (.inr l), x5, x6, x7, x8]) ?_
    (et_and (P2 := fun _ => True) (et_test (Ev.r (ev_op (Ev.r (ev_var rfl)) (Ev.r ev_int) rv_B0))) (fun _ => et_drawEq (ev_draw rfl rfl ev_int (by decide))) fun _ _ _ => trivial) (fun nxt _ => ?_) fun nxt _ => sd_next (nxt _ _ ⟨tab, _, _, _, _, hT.mono (by decide), rfl, rfl⟩)
  · rintro c1 δ1 ⟨tab, _, _, _, _, hT, rfl, rfl⟩
    exact sd_ret (evr_own (l := l) rfl List.mem_cons_self) hq ⟨tab, rfl, hT⟩
  · refine ss_asgR (ev_draw rfl rfl (ev_var rfl) (by omega)) ?_
    rintro _ ⟨k, rfl, hk⟩
    have hk : k < m := by omega
    obtain ⟨i1, e1, h1⟩ := mod_nD (x := (k : Int) + 1) (n := (m : Int)) (by omega)
    obtain ⟨i2, e2, h2⟩ := mod_nD (x := (k : Int) + 2) (n := (m : Int)) (by omega)
    have hl := hT.len
    have w1 := hT.wid _ (mem_getD (i := i1) (by omega) []); have w2 := hT.wid _ (mem_getD (i := i2) (by omega) [])
    have n1 := hT.num _ (mem_getD (i := i1) (by omega) []); have n2 := hT.num _ (mem_getD (i := i2) (by omega) [])
    have a1 := at_row (F := F) (tab := tab) (i := i1) (by omega); have a2 := at_row (F := F) (tab := tab) (i := i2) (by omega)
    generalize tab.getD i1 [] = r1 at *
    generalize tab.getD i2 [] = r2 at *
    have s1 := fun t => numF_add (num_g n1 t) (num_g n2 t)
    have b1 := fun t => numF_eb (n := 8) (num_g n1 t) (by decide) (by decide) (by decide)
    have b2 := fun t => numF_eb (n := 8) (num_g n2 t) (by decide) (by decide) (by decide)
    refine sd_setL rfl ((EvN.evE (en_ran (n := n) (fun t => F.enc (g r1 t + g r2 t)) (ea_cons (ev_var rfl) ea_nil) (by omega) fun l2 acc t ht => ⟨[8], _, eg_name, fun _ h => h, ev_call (ea_cons (ev_var rfl) (ea_cons
      (ev_op (Ev.r (ev_op (evr_own (l := l) rfl (List.mem_cons_of_mem _ List.mem_cons_self)) (Ev.r ((ev_op (Ev.r (ev_cb (Ev.r (ev_op (Ev.r (ev_var rfl)) (Ev.r ev_int) rv_I0)) rc_int1)) (Ev.r (ev_var rfl)) (rv_I (by omega))).is e1)) (rv_ixL a1))) (Ev.r (ev_var rfl)) (rv_ixL (at_enc (by omega)))) (ea_cons
      (ev_op (Ev.r (ev_op (evr_own (l := l) rfl (List.mem_cons_of_mem _ List.mem_cons_self)) (Ev.r ((ev_op (Ev.r (ev_cb (Ev.r (ev_op (Ev.r (ev_var rfl)) (Ev.r ev_int) rv_I0)) rc_int1)) (Ev.r (ev_var rfl)) (rv_I (by omega))).is e2)) (rv_ixL a2))) (Ev.r (ev_var rfl)) (rv_ixL (at_enc (by omega)))) ea_nil)))
      ⟨F, g r1 t, g r2 t, 8, rfl, b1 t, b2 t, by decide, rfl⟩⟩)).is (d' := F.rowL ((List.range n).map fun t => g r1 t + g r2 t)) (by show D.lst _ = D.lst _; rw [List.map_map]; rfl)) rfl (fun _ _ => ev_var rfl) (ix_nat (j := k) (by rw [List.length_map]; omega)) fun d e => ?_
    subst e
    rw [← List.map_set]
    exact nxt _ _ ⟨_, _, _, _, _, (hT.mono (by decide)).set k (by simp) (fun x hx => by obtain ⟨t, _, rfl⟩ := List.mem_map.mp hx; exact s1 t), rfl, rfl⟩
def R_l_given (ds : List D) (P : D → Prop) : Prop := ∃ (F : Fm) (tab : List (List F.α)), ds = [.int F.p, .lst (tab.map F.rowL)] ∧ tab.length ≤ 1000 ∧ (∀ t ∈ tab, t.length ≤ 1000) ∧ (∀ t ∈ tab, ∀ x ∈ t, EbF 1000 F x) ∧ P = fun d => Giv F d tab
theorem c_l_given (h : Has K mg "_law_given" s_l_given p_l_given) (B : Bi mg) (C_l_draw : Cal P w K mg base "_law_draw" 41 p_l_draw (spJ R_l_draw)) (C_l_other : Cal P w K mg base "_law_other" 42 p_l_other (spJ R_l_other)) : Cal P w K mg base "_law_given" 43 p_l_given (spJ R_l_given) := by
  refine mkJ h sc_l_given (fun ds P h => by obtain ⟨_, _, rfl, _⟩ := h; rfl) (by decide) fun cdv A outer s H Q E f hr => ⟨(tSeq (tAsg (tLc (iList K (tVar 2)) (gName 4) tYes (tLc (iList K (tVar 4)) (gName 5) tYes (tCall (spJ R_l_other) [] E0 (tCons (tVar 0) (tCons (tVar 1) (tCons (tVar 5) tNil)))) [5]) [4]) (gName 3))
  (tRet (tIf (tTest (tOp rEq (tCall (spJ R_l_draw) [] E0 (tCons (tVar 0) (tCons (tC (.int 2)) tNil))) (tC (.int 0)))) (tVar 3) (tCB (rTupQ K) (tCons (tLc (iList K (tVar 3)) (gName 4) tYes (tCB (rTupQ K) (tCons (tVar 4) tNil)) [4]) tNil))))),
  (pss_cons (ps_setLc (i := 3) (own := [("vec", 4)]) (g := (gName 4)) (tt := tYes) (te := (tLc (iList K (tVar 4)) (gName 5) tYes (tCall (spJ R_l_other) [] E0 (tCons (tVar 0) (tCons (tVar 1) (tCons (tVar 5) tNil)))) [5])) rfl sc_l_given.nd rfl rfl (sw_true rfl rfl rfl (by decide +kernel)) (pi_list (pv 2)) (blkOk_by (own := [("vec", 4)]) (N := N_l_given) (by kernel_rfl)) (fun _ _ _ _ _ => (pg_name (i := 4) sc_l_given.nd rfl (by first | exact Or.inl rfl | exact Or.inr rfl))) (fun _ _ _ _ _ => pts_nil) (fun _ _ _ _ _ => (pe_lc (own := [("u", 5)]) (g := (gName 5)) (tt := tYes) (te := (tCall (spJ R_l_other) [] E0 (tCons (tVar 0) (tCons (tVar 1) (tCons (tVar 5) tNil))))) rfl sc_l_given.nd (pi_list (pv 4)) (blkOk_by (own := [("u", 5)]) (N := N_l_given) (by kernel_rfl)) (fun _ _ _ _ _ => (pg_name (i := 5) sc_l_given.nd rfl (by first | exact Or.inl rfl | exact Or.inr rfl))) (fun _ _ _ _ _ => pts_nil) (fun _ _ _ _ _ => (pe_cal C_l_other (hr.mono (by decide)) rfl (pa_cons (pv 0) (pa_cons (pv 1) (pa_cons (pv 5) pa_nil))))))))
  (pss_one (ps_ret (pe_ifExp (pt_cmpR op_eq (pe_cal C_l_draw (hr.mono (by decide)) rfl (pa_cons (pv 0) (pa_cons pe_int pa_nil))) pe_int (nomark _)) (pv 3) (pe_callTy call_tuple_of (by rfl) B.tuple (by decide +kernel) (pa_cons (pe_lc (own := [("vec", 4)]) (g := (gName 4)) (tt := tYes) (te := (tCB (rTupQ K) (tCons (tVar 4) tNil))) rfl sc_l_given.nd (pi_list (pv 3)) (blkOk_by (own := [("vec", 4)]) (N := N_l_given) (by kernel_rfl)) (fun _ _ _ _ _ => (pg_name (i := 4) sc_l_given.nd rfl (by first | exact Or.inl rfl | exact Or.inr rfl))) (fun _ _ _ _ _ => pts_nil) (fun _ _ _ _ _ => (pe_callTy call_tuple_of (by rfl) B.tuple (by decide +kernel) (pa_cons (pv 4) pa_nil)))) pa_nil)))))), fun M ds P' j hR hq => ?_⟩
  obtain ⟨F, tab, rfl, hl, hw, hb, rfl⟩ := hR
  refine ss_asgR (EvN.ev (en_lstR' tab F.rowL (GivL F) (ev_var rfl) (by omega) fun l acc r hr => ⟨[4], _, eg_name, fun _ h => h, (EvN.ev (en_lstR' r F.enc (fun x d => Writ F d x) (ev_var rfl) (by have := hw r hr; omega) fun l acc x hx => ⟨[5], _, eg_name, fun _ h => h, ev_callJ rfl rfl (ea_cons (ev_var rfl) (ea_cons (ev_var rfl) ea_nil)) fun ds e => ⟨F, x, e, hb r hr x hx, rfl⟩⟩)).mono fun d ⟨es, e, ha⟩ => by
    obtain ⟨ws, e1, e2, k⟩ := all2_pair ha
    exact ⟨ws, by rw [e, e1], e2, k⟩⟩)) ?_
  rintro _ ⟨es, rfl, ha⟩
  obtain ⟨zs, rfl, e2, k⟩ := giv_rows ha
  have zl : zs.length = tab.length := by rw [e2, List.length_map]
  refine sd_retR (P := fun d => Giv F d tab) (Ev.r (ev_if (et_drawEq (ev_draw rfl rfl ev_int (by decide))) (fun _ => ?_) fun _ => ?_)) hq fun d h => h
  · exact (ev_var rfl).mono fun d e => ⟨zs, by rw [e]; rfl, e2, fun z hz => ⟨by rw [(k z hz).1]; rfl, (k z hz).2⟩⟩
  · refine (ev_cb (Ev.r (EvN.evE (en_lst' zs (·.1) (fun z => .tup (z.2.map (·.1))) (ev_var rfl) (by omega) fun l acc z hz => ⟨[4], _, eg_name, fun _ h => h, ev_cb (Ev.r (ev_var rfl)) (rc_tuple (by rw [(k z hz).1]; rfl))⟩))) (rc_tuple rfl)).mono fun d e => ?_
    refine ⟨zs.map fun z => (.tup (z.2.map (·.1)), z.2), by rw [e, List.map_map]; rfl, by rw [List.map_map]; exact e2, fun z hz => ?_⟩
    obtain ⟨z0, hz0, rfl⟩ := List.mem_map.mp hz
    exact ⟨rfl, (k z0 hz0).2⟩
end
end E
/-! DMat: tables of one's own whose rows are one's own too. -/
namespace E
open PySem PySem.Spec PyProof.Rows L2
variable {c : Ct} {δ : List Sl} {Dn : Ends}
def Ct.mat (c : Ct) (l : Addr) (rs : List Addr) (rows : List (List D)) : Ct := { c with M := rs.reverse ++ l :: c.M, own := (l, rs.map D.loc) :: (rs.zip rows ++ c.own) }
theorem es_mat {ta : TA} {g : TG} {te : TE} {vs : List Nat} {n : Nat} (rows : Nat → List D) (h : EvA c ta δ (· = [.int (n : Int)])) (hn : n ≤ 100000)
    (hb : ∀ l rs k H3, k < n → rs.length = k → ∃ js δ', EvG g js (wipeD δ vs) (nD k) δ' ∧ (∀ k ∈ js, k ∈ vs) ∧ EvN ((c.mat l rs ((List.range k).map rows)).loop H3) te δ' (· = rows k)) (σ : L2.St) (H : Hp) (Q : VK) (s : Sta c δ σ H)
    (q : ∀ l rs H', rs.length = n → l ∉ c.M → Sta (c.mat l rs ((List.range n).map rows)) δ σ H' → Q (.ref l) H') : (tLc (iRng1 ta) g tYes te vs) σ H Q := by
  refine h σ H _ s fun ws H1 ds s1 e1 r1 p1 => ?_
  subst p1
  cases r1 with
  | cons r0 t0 =>
  cases t0; cases r0
  refine ⟨(n : Int), rfl, by omega, by omega, ?_⟩
  intro Dl hD
  have nD0 : Dl ∉ c.M := fun z => s1.good Dl z hD
  have st0 : Sta (c.mat Dl [] []) δ σ (upd H1 Dl (.lst [])) := s1.mine hD (Same.new hD) upd_same .nil
  refine ⟨fun k m H2 => m = n - k ∧ k ≤ n ∧ ∃ rs : List Addr, rs.length = k ∧ Sta (c.mat Dl rs ((List.range k).map rows)) δ σ H2, ⟨n, rfl, Nat.zero_le _, [], rfl, st0⟩, ?_⟩
  rintro k m H2 ⟨rfl, hk, rs, hrs, st⟩
  by_cases hlt : k < n
  · refine .inr ⟨show k < (n : Int).toNat by omega, fun H3 => ∃ rs : List Addr, rs.length = k + 1 ∧ Sta (c.mat Dl rs ((List.range (k + 1)).map rows)) δ σ H3, fun H3 ⟨rs3, hr3, st3⟩ => ⟨n - (k + 1), by omega, rfl, hlt, rs3, hr3, st3⟩, fun v H3 y => ?_⟩
    obtain ⟨rfl, rfl⟩ := y
    have rd : Rep (c.mat Dl rs ((List.range k).map rows)).M H3 (.int ((0 : Int) + (k : Nat))) (nD k) := by rw [Int.zero_add]; exact .int _
    obtain ⟨js, δ', hg, hjs, he⟩ := hb Dl rs k H3 hlt hrs
    have stw := st.slots (st.sl.wipe vs)
    refine hg _ (wipe σ vs) H3 _ _ stw rd fun σ2 s2 l2 k2 => ⟨wipe_back l2 k2 hjs, et_yes σ2 H3 _ s2.loop fun b H4 s4 e4 eb => ?_⟩
    subst eb
    refine iteT (he σ2 H4 _ s4 fun r H5 ds _ s5 nr e5 pe => ?_)
    subst pe
    have hr2 : H3 r = none := by
      obtain ⟨_, _, _, x, _⟩ := s5.own (r, rows k) List.mem_cons_self
      rcases x (H3, _) List.mem_cons_self with z | z
      · exact absurd (st.wlM r z) nr
      · exact z
    have exM : Ext (r :: (c.mat Dl rs ((List.range k).map rows)).M) H3 H5 := (e4.trans e5).sub fun b hb => List.mem_cons_of_mem _ hb
    have s6 : Sta ((c.mat Dl rs ((List.range k).map rows)).push r (rows k)) δ σ H5 := (s5.unloop rfl).slots ((st.sl.fresh hr2).ext exM)
    have s7 := s6.perm (own' := (Dl, rs.map D.loc) :: (r, rows k) :: (rs.zip ((List.range k).map rows) ++ c.own)) (List.Perm.swap _ _ _)
    obtain ⟨_, _, _, _, acc, eacc, racc⟩ := s7.own (Dl, rs.map D.loc) List.mem_cons_self
    refine ⟨acc, eacc, by rw [racc.len, List.length_map, hrs]; exact Nat.lt_of_lt_of_le hlt (Nat.le_trans hn (by decide)), rs ++ [r], by simp [hrs], ?_⟩
    have s8 := (s7.write rfl (racc.append (.cons (.loc r) .nil))).perm (own' := (Dl, rs.map D.loc ++ [.loc r]) :: (rs.zip ((List.range k).map rows) ++ (r, rows k) :: c.own)) (List.Perm.cons _ List.perm_middle)
    have e1 : (rs ++ [r]).zip ((List.range (k + 1)).map rows) = rs.zip ((List.range k).map rows) ++ [(r, rows k)] := by
      rw [List.range_succ, List.map_append, List.zip_append (by simp [hrs])]; rfl
    have e2 : (c.mat Dl (rs ++ [r]) ((List.range (k + 1)).map rows)) = { (c.mat Dl rs ((List.range k).map rows)).push r (rows k) with own := (Dl, rs.map D.loc ++ [.loc r]) :: (rs.zip ((List.range k).map rows) ++ (r, rows k) :: c.own) } := by
      unfold Ct.mat Ct.push
      rw [e1]
      simp
    rw [e2]
    exact s8
  · have ei : k = n := by omega
    subst ei
    exact .inl ⟨show (k : Int).toNat ≤ k by omega, q Dl rs H2 hrs nD0 st⟩
theorem ss_asgMat {ta : TA} {g : TG} {te : TE} {u : TS} {vs : List Nat} {n i : Nat} (rows : Nat → List D) (h : EvA c ta δ (· = [.int (n : Int)])) (hn : n ≤ 100000)
    (hb : ∀ l rs k H3, k < n → rs.length = k → ∃ js δ', EvG g js (wipeD δ vs) (nD k) δ' ∧ (∀ k ∈ js, k ∈ vs) ∧ EvN ((c.mat l rs ((List.range k).map rows)).loop H3) te δ' (· = rows k))
    (q : ∀ l rs, rs.length = n → l ∉ c.M → Sd (c.mat l rs ((List.range n).map rows)) u (δ.set i (some (.inr l))) Dn) : Sd c (tSeq (tAsg (tLc (iRng1 ta) g tYes te vs) (gName i)) u) δ Dn := fun σ H s =>
  es_mat rows h hn hb σ H (fun v H' => u Dn (σ.set i (some v)) H') s fun l rs H' hr nl s' => q l rs hr nl _ H' (s'.slots (s'.sl.set i (fun d' e => by cases e) fun l e => by cases e; rfl))
theorem perm_set {α : Type} {o : List α} {k : Nat} {x y : α} (h : o[k]? = some x) : o.Perm (x :: o.eraseIdx k) ∧ (o.set k y).Perm (y :: o.eraseIdx k) := by
  obtain ⟨hk, e⟩ := List.getElem?_eq_some_iff.mp h
  refine ⟨by rw [← e]; exact perm_er hk, ?_⟩
  have hk2 : k < (o.set k y).length := by rw [List.length_set]; exact hk
  have p := perm_er hk2
  rw [List.getElem_set_self, List.eraseIdx_set_eq] at p
  exact p
/-- an item of an own row, told by its address, wherever the row stands -/
theorem ew_setK {tc ti : TE} {l : Addr} {ds : List D} {d : D} {z : Int} {j k : Nat} (ho : c.own[k]? = some (l, ds)) (hc : Ev c tc δ (· = .loc l)) (hx : Ev c ti δ (· = .int z)) (hj : ixN ds.length z = some j) :
    EgW c (gSub tc ti rSetL) δ d { c with own := c.own.set k (l, ds.set j d) } δ := fun σ H x Q s rx q => by
  have hm : (l, ds) ∈ c.own := List.mem_of_getElem? ho
  refine hc σ H _ s fun u H1 du s1 e1 r1 p1 => ?_
  subst p1
  cases r1
  refine hx σ H1 _ s1 fun w H2 d2 s2 e2 r2 p2 => ?_
  subst p2
  cases r2
  obtain ⟨a, _, _, _, vs1, e3, r3⟩ := s2.own _ hm
  obtain ⟨p1, p2⟩ := perm_set (y := (l, ds.set j d)) ho
  exact ⟨l, vs1, z, j, rfl, rfl, e3, by rw [r3.len]; exact hj, q σ _ (((s2.perm p1.symm).write rfl (r3.set (rx.ext (e1.trans e2)) j)).perm p2) ((e1.trans e2).trans (Ext.upd a))⟩
theorem ev_ownloc {i : Nat} {l : Addr} (h : δ[i]? = some (some (.inr l))) : Ev c (tVar i) δ (· = .loc l) := fun σ H Q s q => ⟨.ref l, (s.sl.2 i).2 l h, q _ H _ s (Ext.refl _ _) (.loc l) rfl⟩
/-- the items of an own row told by its address -/
theorem ei_loc {K : PySem.W.Frag} {tl : TE} {l : Addr} {ds : List D} (h : Ev c tl δ (· = .loc l)) (ho : (l, ds) ∈ c.own) : EvIO c (iList K tl) δ (· = ds) := fun σ H R s q => h σ H _ s fun v H1 d s1 e1 r1 p1 => by
  subst p1
  cases r1
  obtain ⟨_, _, _, _, vs, e, r⟩ := s1.own _ ho
  refine ⟨l, rfl, ⟨vs, SqL.of e⟩, q _ H1 ds s1 e1 (fun H2 M2 e2 g2 n2 o2 => ?_) rfl⟩
  obtain ⟨vs2, e3, r3⟩ := o2 _ ho
  refine ⟨fun i hi => ⟨?_, fun x H' y => ?_⟩, ⟨_, SqL.of e3, by rw [r3.len]; exact Nat.le_refl _⟩⟩
  · obtain ⟨v, hv, _⟩ := r3.get (List.getElem?_eq_getElem hi)
    exact ⟨_, v, SqL.of e3, hv⟩
  · obtain ⟨rfl, hx⟩ := y
    exact ⟨Same.refl _, rep_of r3 (hx _ (SqL.of e3)) hi⟩
end E
/-! DChg: integer tables with their inverses under simple changes. -/
namespace E
open PySem PySem.Spec PyProof.Rows L2
def qm (A : List (List Int)) : List (List Rat) := A.map ir
def addR (n : Nat) (c : Int) (r s : List Int) : List Int := (List.range n).map fun t => r.getD t 0 + c * s.getD t 0
def colsub (j i : Nat) (c : Int) (r : List Int) : List Int := r.set j (r.getD j 0 - c * r.getD i 0)
def swapc (i j : Nat) (r : List Int) : List Int := (r.set i (r.getD j 0)).set j (r.getD i 0)
def uI (n : Nat) : List (List Int) := (List.range n).map fun k => (List.range n).map fun t => if k = t then 1 else 0
structure Chg (n b : Nat) (A B : List (List Int)) : Prop where
  lenA : A.length = n
  widA : ∀ r ∈ A, r.length = n
  lenB : B.length = n
  widB : ∀ r ∈ B, r.length = n
  bdA : ∀ r ∈ A, ∀ x ∈ r, x.natAbs ≤ b
  bdB : ∀ r ∈ B, ∀ x ∈ r, x.natAbs ≤ b
  inv : InvL n (qm A) (qm B)
theorem lin_col {f : List Int → List Int} {l l1 l2 : Nat} {x y : Rat} : ∀ {cs : List Rat} {B : List (List Int)}, (∀ r ∈ B, g (ir (f r)) l = x * g (ir r) l1 + y * g (ir r) l2) → lin cs (qm (B.map f)) l = x * lin cs (qm B) l1 + y * lin cs (qm B) l2
  | [], B, _ => by rw [lin_nil, lin_nil, lin_nil]; show (0 : Rat) = x * 0 + y * 0; grind
  | c :: cs, [], _ => by
    show lin (c :: cs) ([] : List (List Rat)) l = x * lin (c :: cs) ([] : List (List Rat)) l1 + y * lin (c :: cs) ([] : List (List Rat)) l2
    rw [lin_nil', lin_nil', lin_nil']; show (0 : Rat) = x * 0 + y * 0; grind
  | c :: cs, r :: B, h => by
    have ih := lin_col (cs := cs) (B := B) fun r hr => h r (List.mem_cons_of_mem _ hr)
    have h0 := h r List.mem_cons_self
    show c * g (ir (f r)) l + lin cs (qm (B.map f)) l = x * (c * g (ir r) l1 + lin cs (qm B) l1) + y * (c * g (ir r) l2 + lin cs (qm B) l2)
    rw [ih, h0]
    generalize g (ir r) l1 = a1
    generalize g (ir r) l2 = a2
    generalize lin cs (qm B) l1 = b1
    generalize lin cs (qm B) l2 = b2
    show (c * (x * a1 + y * a2) + (x * b1 + y * b2) : Rat) = x * (c * a1 + b1) + y * (c * a2 + b2)
    grind
theorem getD_bd {r : List Int} {b : Nat} (h : ∀ x ∈ r, x.natAbs ≤ b) (t : Nat) : (r.getD t 0).natAbs ≤ b := by
  by_cases ht : t < r.length
  · exact h _ (mem_getD ht 0)
  · rw [List.getD_eq_getElem?_getD, List.getElem?_eq_none (by omega)]; simp
theorem ir_addR {n : Nat} {c : Int} {r s : List Int} (hr : r.length = n) (hs : s.length = n) : ir (addR n c r s) = addL (ir r) ((ir s).map ((c : Rat) * ·)) := by
  refine g_ext (n := n) (by rw [ir_len]; simp [addR]) (by simp [addL, ir_len, hr, hs]) fun t ht => ?_
  have e1 : (addR n c r s).getD t 0 = r.getD t 0 + c * s.getD t 0 := by
    unfold addR
    rw [List.getD_eq_getElem?_getD, List.getElem?_map, List.getElem?_range ht]; rfl
  rw [g_ir, e1, g_lt (by simp [addL, ir_len, hr, hs]; exact ht)]
  have e2 : (addL (ir r) ((ir s).map ((c : Rat) * ·)))[t]'(by simp [addL, ir_len, hr, hs]; exact ht) = (ir r)[t]'(by rw [ir_len]; omega) + ((c : Rat) * (ir s)[t]'(by rw [ir_len]; omega)) := by
    simp only [addL, List.getElem_zipWith, List.getElem_map]
  rw [e2, ← g_lt (r := ir r), ← g_lt (r := ir s), g_ir, g_ir, Rat.intCast_add, mul_cast]
theorem qm_get {A : List (List Int)} {k : Nat} {a : List Rat} (h : (qm A)[k]? = some a) : ∃ r, A[k]? = some r ∧ a = ir r := by
  unfold qm at h
  rw [List.getElem?_map] at h
  cases e : A[k]? with
  | none => rw [e] at h; cases h
  | some r => rw [e] at h; exact ⟨r, rfl, (Option.some.inj h).symm⟩
theorem qm_at {A : List (List Int)} {k : Nat} {r : List Int} (h : A[k]? = some r) : (qm A)[k]? = some (ir r) := by unfold qm; rw [List.getElem?_map, h]; rfl
theorem Chg.val {n b : Nat} {A B : List (List Int)} (h : Chg n b A B) {k l : Nat} (hk : k < n) (hl : l < n) {r : List Int} (hr : A[k]? = some r) : lin (ir r) (qm B) l = if l = k then 1 else 0 := by
  obtain ⟨u, hu⟩ := unit_get (α := Rat) hk
  rw [h.inv k (ir r) u (qm_at hr) hu l hl, g_unit hu hl]
theorem g_colsub {i j l : Nat} {c : Int} {r : List Int} (hj : j < r.length) : g (ir (colsub j i c r)) l = if l = j then g (ir r) j + -((c : Rat) * g (ir r) i) else g (ir r) l := by
  rw [g_ir, g_ir, g_ir, g_ir]
  unfold colsub
  by_cases h : l = j
  · subst h
    rw [if_pos rfl, List.getD_eq_getElem?_getD, List.getElem?_set_self hj]
    show ((r.getD l 0 - c * r.getD i 0 : Int) : Rat) = _
    rw [Int.sub_eq_add_neg, Rat.intCast_add, Rat.intCast_neg, mul_cast]
  · rw [if_neg h, List.getD_eq_getElem?_getD, List.getElem?_set_ne (fun z => h z.symm), ← List.getD_eq_getElem?_getD]
theorem g_swapc {i j l : Nat} {r : List Int} (hi : i < r.length) (hj : j < r.length) : g (ir (swapc i j r)) l = g (ir r) (if l = j then i else if l = i then j else l) := by
  rw [g_ir, g_ir]
  congr 1
  unfold swapc
  by_cases h : l = j
  · subst h
    rw [if_pos rfl, List.getD_eq_getElem?_getD, List.getElem?_set_self (by simpa using hj)]; rfl
  · rw [if_neg h, List.getD_eq_getElem?_getD, List.getElem?_set_ne (fun z => h z.symm)]
    by_cases h2 : l = i
    · subst h2
      rw [if_pos rfl, List.getElem?_set_self hi]; rfl
    · rw [if_neg h2, List.getElem?_set_ne (fun z => h2 z.symm), ← List.getD_eq_getElem?_getD]
theorem rat_id (a b : Rat) : a = 1 * a + 0 * b := by grind
theorem Chg.add {n b m : Nat} {A B : List (List Int)} (h : Chg n b A B) {i j : Nat} {c : Int} (hi : i < n) (hj : j < n) (hij : i ≠ j) (hc : c.natAbs ≤ m) : Chg n (b + m * b) (A.set i (addR n c (A.getD i []) (A.getD j []))) (B.map (colsub j i c)) := by
  have li := h.lenA
  have ei := get_getD (r := A) (i := i) (by omega) []
  have ej := get_getD (r := A) (i := j) (by omega) []
  have wi := h.widA _ (mem_getD (r := A) (i := i) (by omega) [])
  have wj := h.widA _ (mem_getD (r := A) (i := j) (by omega) [])
  have bi := h.bdA _ (mem_getD (r := A) (i := i) (by omega) [])
  have bj := h.bdA _ (mem_getD (r := A) (i := j) (by omega) [])
  generalize A.getD i [] = ri at *
  generalize A.getD j [] = rj at *
  refine ⟨by rw [List.length_set]; exact li, fun r hr => (List.mem_or_eq_of_mem_set hr).elim (h.widA r) fun e => by rw [e]; simp [addR], by rw [List.length_map]; exact h.lenB, fun r hr => ?_, fun r hr => (List.mem_or_eq_of_mem_set hr).elim (fun z x hx => Nat.le_trans (h.bdA r z x hx) (Nat.le_add_right _ _)) fun e x hx => ?_, fun r hr x hx => ?_, fun k a u ha hu l hl => ?_⟩
  · obtain ⟨s, hs, rfl⟩ := List.mem_map.mp hr
    unfold colsub; rw [List.length_set]; exact h.widB s hs
  · subst e
    obtain ⟨t, _, rfl⟩ := List.mem_map.mp hx
    have := getD_bd bi t
    have q := Nat.mul_le_mul hc (getD_bd bj t)
    rw [← Int.natAbs_mul] at q
    omega
  · obtain ⟨s, hs, rfl⟩ := List.mem_map.mp hr
    unfold colsub at hx
    rcases List.mem_or_eq_of_mem_set hx with z | z
    · exact Nat.le_trans (h.bdB s hs x z) (Nat.le_add_right _ _)
    · subst z
      have := getD_bd (h.bdB s hs) j
      have q := Nat.mul_le_mul hc (getD_bd (h.bdB s hs) i)
      rw [← Int.natAbs_mul] at q
      omega
  · have hk := unit_lt hu
    obtain ⟨r, hr, rfl⟩ := qm_get ha
    rw [g_unit hu hl]
    -- the columns
    have cl : ∀ cs : List Rat, lin cs (qm (B.map (colsub j i c))) l = if l = j then lin cs (qm B) j + -((c : Rat) * lin cs (qm B) i) else lin cs (qm B) l := fun cs => by
      by_cases e : l = j
      · subst e
        rw [if_pos rfl, lin_col (x := 1) (y := -(c : Rat)) (l1 := l) (l2 := i) fun r hr => by
          rw [g_colsub (by rw [h.widB r hr]; exact hl), if_pos rfl]
          generalize g (ir r) l = p
          generalize g (ir r) i = q
          show (p + -((c : Rat) * q) : Rat) = 1 * p + -(c : Rat) * q
          grind]
        generalize lin cs (qm B) l = p
        generalize lin cs (qm B) i = q
        show (1 * p + -(c : Rat) * q : Rat) = p + -((c : Rat) * q)
        grind
      · rw [if_neg e, lin_col (x := 1) (y := 0) (l1 := l) (l2 := l) fun r hr => by
          rw [g_colsub (by rw [h.widB r hr]; exact hj), if_neg e]
          exact rat_id _ _]
        exact (rat_id _ _).symm
    -- the rows
    have rl : ∀ t, t < n → lin (ir r) (qm B) t = if k = i then (if t = i then 1 else 0) + (c : Rat) * (if t = j then 1 else 0) else if t = k then 1 else 0 := fun t ht => by
      by_cases e : k = i
      · subst e
        rw [List.getElem?_set_self (by omega)] at hr
        have hr := Option.some.inj hr
        subst hr
        rw [if_pos rfl, ir_addR wi wj, lin_add (by rw [List.length_map, ir_len, ir_len]; omega), lin_smul, h.val hk ht ei, h.val hj ht ej]
      · rw [List.getElem?_set_ne (fun z => e z.symm)] at hr
        rw [if_neg e, h.val hk ht hr]
    rw [cl]
    by_cases e : l = j
    · subst e
      rw [if_pos rfl, rl l hl, rl i hi]
      by_cases e2 : k = i
      · subst e2
        rw [if_pos rfl, if_pos rfl, if_neg (fun z => hij z.symm), if_pos rfl, if_pos rfl, if_neg hij]
        show ((0 + (c : Rat) * 1) + -((c : Rat) * (1 + (c : Rat) * 0)) : Rat) = 0
        grind
      · rw [if_neg e2, if_neg e2, if_neg (fun z : i = k => e2 z.symm)]
        generalize (if l = k then (1 : Rat) else 0) = p
        show (p + -((c : Rat) * 0) : Rat) = p
        grind
    · rw [if_neg e, rl l hl]
      by_cases e2 : k = i
      · subst e2
        rw [if_pos rfl, if_neg e]
        generalize (if l = k then (1 : Rat) else 0) = p
        show (p + (c : Rat) * 0 : Rat) = p
        grind
      · rw [if_neg e2]
theorem Chg.swap {n b : Nat} {A B : List (List Int)} (h : Chg n b A B) {i j : Nat} (hi : i < n) (hj : j < n) : Chg n b ((A.set i (A.getD j [])).set j (A.getD i [])) (B.map (swapc i j)) := by
  have li := h.lenA
  have ei := get_getD (r := A) (i := i) (by omega) []
  have ej := get_getD (r := A) (i := j) (by omega) []
  have mi := mem_getD (r := A) (i := i) (by omega) []
  have mj := mem_getD (r := A) (i := j) (by omega) []
  generalize A.getD i [] = ri at *
  generalize A.getD j [] = rj at *
  have inA : ∀ r ∈ (A.set i rj).set j ri, r ∈ A := fun r hr => (List.mem_or_eq_of_mem_set hr).elim (fun z => (List.mem_or_eq_of_mem_set z).elim id fun e => by rw [e]; exact mj) fun e => by rw [e]; exact mi
  refine ⟨by simp [li], fun r hr => h.widA r (inA r hr), by simp [h.lenB], fun r hr => ?_, fun r hr => h.bdA r (inA r hr), fun r hr x hx => ?_, fun k a u ha hu l hl => ?_⟩
  · obtain ⟨s, hs, rfl⟩ := List.mem_map.mp hr
    unfold swapc; rw [List.length_set, List.length_set]; exact h.widB s hs
  · obtain ⟨s, hs, rfl⟩ := List.mem_map.mp hr
    unfold swapc at hx
    rcases List.mem_or_eq_of_mem_set hx with z | z
    · rcases List.mem_or_eq_of_mem_set z with z | z
      · exact h.bdB s hs x z
      · rw [z]; exact getD_bd (h.bdB s hs) j
    · rw [z]; exact getD_bd (h.bdB s hs) i
  · have hk := unit_lt hu
    obtain ⟨r, hr, rfl⟩ := qm_get ha
    rw [g_unit hu hl, lin_col (x := 1) (y := 0) (l1 := if l = j then i else if l = i then j else l) (l2 := l) fun s hs => by
      rw [g_swapc (by rw [h.widB s hs]; exact hi) (by rw [h.widB s hs]; exact hj)]
      exact rat_id _ _]
    refine (rat_id _ _).symm.trans ?_
    have hl2 : (if l = j then i else if l = i then j else l) < n := by
      split
      · exact hi
      · split <;> omega
    have hr2 : A[if k = j then i else if k = i then j else k]? = some r := by
      by_cases e : k = j
      · subst e
        rw [List.getElem?_set_self (by simp; omega)] at hr
        rw [if_pos rfl, ei]; exact hr
      · rw [List.getElem?_set_ne (fun z => e z.symm)] at hr
        rw [if_neg e]
        by_cases e2 : k = i
        · subst e2
          rw [List.getElem?_set_self (by omega)] at hr
          rw [if_pos rfl, ej]; exact hr
        · rw [List.getElem?_set_ne (fun z => e2 z.symm)] at hr
          rw [if_neg e2]; exact hr
    have hk2 : (if k = j then i else if k = i then j else k) < n := by
      split
      · exact hi
      · split <;> omega
    rw [h.val hk2 hl2 hr2]
    have : ((if l = j then i else if l = i then j else l) = if k = j then i else if k = i then j else k) ↔ l = k := by
      constructor
      · intro e
        repeat' split at e
        all_goals omega
      · intro e; rw [e]
    by_cases q : l = k
    · rw [if_pos (this.mpr q), if_pos q]
    · rw [if_neg fun z => q (this.mp z), if_neg q]
theorem Chg.mono {n a b : Nat} {A B : List (List Int)} (h : Chg n a A B) (k : a ≤ b) : Chg n b A B := ⟨h.lenA, h.widA, h.lenB, h.widB, fun r hr x hx => Nat.le_trans (h.bdA r hr x hx) k, fun r hr x hx => Nat.le_trans (h.bdB r hr x hx) k, h.inv⟩
theorem qm_uI (n : Nat) : qm (uI n) = unitL Rat n := by
  unfold qm uI unitL
  rw [List.map_map]
  refine List.map_congr_left fun k _ => ?_
  show ir ((List.range n).map _) = _
  unfold ir
  rw [List.map_map]
  refine List.map_congr_left fun t _ => ?_
  show (((if k = t then 1 else 0 : Int)) : Rat) = if t = k then 1 else 0
  by_cases h : k = t
  · subst h; rw [if_pos rfl, if_pos rfl]; rfl
  · rw [if_neg h, if_neg (fun z => h z.symm)]; rfl
theorem uI_chg (n : Nat) : Chg n 1 (uI n) (uI n) := by
  have w : ∀ r ∈ uI n, r.length = n := fun r hr => by
    obtain ⟨k, _, rfl⟩ := List.mem_map.mp hr
    simp
  have bd : ∀ r ∈ uI n, ∀ x ∈ r, x.natAbs ≤ 1 := fun r hr x hx => by
    obtain ⟨k, _, rfl⟩ := List.mem_map.mp hr
    obtain ⟨t, _, rfl⟩ := List.mem_map.mp hx
    split <;> decide
  refine ⟨by simp [uI], w, by simp [uI], w, bd, bd, fun k a u ha hu l hl => ?_⟩
  rw [qm_uI] at ha ⊢
  have e : a = u := Option.some.inj (ha.symm.trans hu)
  subst e
  exact lin_unit (unitL_wid a (List.mem_of_getElem? ha)) hl
end E
namespace E
open PySem PySem.Spec PyProof.Rows L2 TL
theorem reps_locs {M : List Addr} {H : Hp} : ∀ {rs : List Addr} {vs : List V}, Reps M H vs (rs.map D.loc) → vs = rs.map V.ref
  | [], _, h => by cases h; rfl
  | n :: ns, _, h => by
    cases h with
    | cons r t => cases r; rw [reps_locs t]; rfl
theorem RC.mono {c : Ct} {r : List V → Hp → VK → Prop} {ds : List D} {P P' : D → Prop} (h : RC c r ds P) (w : ∀ d, P d → P' d) : RC c r ds P' := fun δ σ H Q vs s hp q => h δ σ H Q vs s hp fun v H' d e rr p => q v H' d e rr (w d p)
theorem other_ne {n i e : Nat} (hi : i < n) (he : (e : Int) < n - 1) : ∃ jj : Nat, D.int (((i : Int) + 1 + (e : Int)).fmod (n : Int)) = nD jj ∧ jj < n ∧ jj ≠ i := by
  rw [Int.fmod_eq_emod_of_nonneg _ (by omega)]
  have e0 : ((i : Int) + 1 + (e : Int)) = ((i + 1 + e : Nat) : Int) := by omega
  rw [e0, ← Int.natCast_emod]
  refine ⟨(i + 1 + e) % n, rfl, Nat.mod_lt _ (by omega), ?_⟩
  by_cases h : i + 1 + e < n
  · rw [Nat.mod_eq_of_lt h]; omega
  · rw [Nat.mod_eq_sub_mod (by omega), Nat.mod_eq_of_lt (by omega)]; omega
theorem unit01 (k t : Nat) : D.int (if decide (((k : Nat) : Int) = ((t : Nat) : Int)) = true then 1 else 0) = D.int (if k = t then 1 else 0) := by
  by_cases h : k = t
  · subst h; simp
  · have : ¬ ((k : Int) = (t : Int)) := by omega
    simp [h, this]
def mixT (f : List Int → List Int) (B : List (List Int)) (t : Nat) : List (List Int) := (B.take t).map f ++ B.drop t
theorem mixT_get {f : List Int → List Int} {B : List (List Int)} {t : Nat} {r : List Int} (h : B[t]? = some r) : (mixT f B t)[t]? = some r := by
  have ht := (List.getElem?_eq_some_iff.mp h).1
  unfold mixT
  rw [List.getElem?_append_right (by simp; omega)]
  have : t - (List.map f (List.take t B)).length = 0 := by simp; omega
  rw [this, List.getElem?_drop]; simpa using h
theorem mixT_set {f : List Int → List Int} {B : List (List Int)} {t : Nat} {r : List Int} (h : B[t]? = some r) : (mixT f B t).set t (f r) = mixT f B (t + 1) := by
  have ht := (List.getElem?_eq_some_iff.mp h).1
  have hr := (List.getElem?_eq_some_iff.mp h).2
  unfold mixT
  rw [List.set_append_right _ _ (by simp; omega)]
  have : t - (List.map f (List.take t B)).length = 0 := by simp; omega
  rw [this, List.drop_eq_getElem_cons ht, List.set_cons_zero, List.take_add_one, h]
  simp
theorem mixT_all {f : List Int → List Int} {B : List (List Int)} {n : Nat} (h : B.length = n) : mixT f B n = B.map f := by
  subst h; unfold mixT; simp
theorem mixT_len {f : List Int → List Int} {B : List (List Int)} {t : Nat} : (mixT f B t).length = B.length := by
  unfold mixT
  simp
  omega
theorem zip_set {α β : Type} : ∀ {xs : List α} {ys : List β} {t : Nat} {x : α} {y : β}, xs[t]? = some x → (xs.zip ys).set t (x, y) = xs.zip (ys.set t y)
  | [], _, _, _, _, h => by simp at h
  | _ :: _, [], _, _, _, _ => by simp
  | a :: xs, b :: ys, 0, x, y, h => by
    have : a = x := by simpa using h
    subst this; rfl
  | a :: xs, b :: ys, t + 1, x, y, h => by
    show (a, b) :: (xs.zip ys).set t (x, y) = (a, b) :: xs.zip (ys.set t y)
    rw [zip_set (by simpa using h)]
theorem zip_at2 {α β : Type} {xs : List α} {ys : List β} {t : Nat} {x : α} {y : β} (h1 : xs[t]? = some x) (h2 : ys[t]? = some y) : (xs.zip ys)[t]? = some (x, y) := by
  rw [List.getElem?_zip_eq_some]; exact ⟨h1, h2⟩
theorem at_rI {A : List (List Int)} {i : Nat} (hi : i < A.length) : atI (A.map rowI) (i : Int) = some (rowI (A.getD i [])) := atI_nat (by rw [List.getElem?_map, get_getD hi []]; rfl)
theorem at_I {r : List Int} {i : Nat} (hi : i < r.length) : atI (r.map D.int) (i : Int) = some (.int (r.getD i 0)) := atI_nat (by rw [List.getElem?_map, get_getD hi 0]; rfl)
theorem at_loc {rs : List Addr} {i : Nat} {r : Addr} (h : rs[i]? = some r) : atI (rs.map D.loc) (i : Int) = some (.loc r) := atI_nat (by rw [List.getElem?_map, h]; rfl)
def spChg : L2.Sp := fun vs H Q _ => ∃ (M : List Addr) (j : Addr) (n m : Nat) (menu : List Int) (mv : V), vs = [.ref j, .int n, .int m, mv] ∧ j ∈ M ∧ (∀ b ∈ M, H b ≠ none ∧ Mut H b) ∧ JarAt M H j ∧ Rep M H mv (.tup (menu.map D.int)) ∧ menu ≠ [] ∧ (∀ x ∈ menu, x.natAbs ≤ 2) ∧ 1 ≤ n ∧ n ≤ 6 ∧ m ≤ 6 ∧
  ∀ v H' lt lb rs A B, Ext [j] H H' → JarAt (rs.reverse ++ lb :: lt :: M) H' j → (lt :: lb :: rs).Nodup → (∀ b ∈ lt :: lb :: rs, H b = none) → rs.length = n → Chg n (3 ^ m) A B →
    (∃ vs, H' lt = some (.lst vs) ∧ Reps (rs.reverse ++ lb :: lt :: M) H' vs (A.map rowI)) → H' lb = some (.lst (rs.map V.ref)) → (∀ q ∈ rs.zip B, H' q.1 = some (.lst (q.2.map V.int))) →
    Rep (rs.reverse ++ lb :: lt :: M) H' v (.tup [.loc lt, .loc lb]) → Q v H'
section
variable {P : Program} {w : World} {K : PySem.W.Frag} {mg : Str → Option Value} {base : Heap}
abbrev s_l_change : Stmt := topS 64
abbrev N_l_change : List Str := ["jar", "wide", "many", "menu", "to", "i", "j", "back", "k", "c", "t"]
abbrev p_l_change : List Str := ["jar", "wide", "many", "menu"]
theorem sc_l_change : FnScope N_l_change p_l_change (defScope s_l_change) := ⟨rfl, rfl, rfl, by decide +kernel, rfl, by decide +kernel, by decide +kernel⟩
theorem c_l_change (h : Has K mg "_law_change" s_l_change p_l_change) (B : Bi mg) (C_l_draw : Cal P w K mg base "_law_draw" 41 p_l_draw (spJ R_l_draw)) (C_l_pick : Cal P w K mg base "_law_pick" 42 p_l_pick (spJ R_l_pick)) : Cal P w K mg base "_law_change" 43 p_l_change spChg := by
  obtain ⟨f, fd, F, hm, bd⟩ := h.ex
  refine ⟨f, fd, F.ok sc_l_change (fun vs H Q E h => by obtain ⟨_, _, _, _, _, _, rfl, _⟩ := h; rfl) (fun cdv A outer s H vs Q E hr h => ⟨(tSeq (tAsg (tLc (iRng1 (tCons (tVar 1) tNil)) (gName 5) tYes (tLc (iRng1 (tCons (tVar 1) tNil)) (gName 6) tYes (tCB rInt1 (tCons (tOp rEq (tVar 5) (tVar 6)) tNil)) [6]) [5]) (gName 4))
  (tSeq (tAsg (tLc (iRng1 (tCons (tVar 1) tNil)) (gName 5) tYes (tLc (iRng1 (tCons (tVar 1) tNil)) (gName 6) tYes (tCB rInt1 (tCons (tOp rEq (tVar 5) (tVar 6)) tNil)) [6]) [5]) (gName 7))
  (tSeq (tFor (iRng1 (tCons (tIf (tTest (tOp rGtI (tVar 1) (tC (.int 1)))) (tVar 2) (tC (.int 0))) tNil)) (gName 8) (tSeq (tAsg (tCall (spJ R_l_draw) [] E0 (tCons (tVar 0) (tCons (tVar 1) tNil))) (gName 5))
  (tSeq (tAsg (tOp rModI (tCB rInt1 (tCons (tOp rAddI (tOp rAddI (tVar 5) (tC (.int 1))) (tCall (spJ R_l_draw) [] E0 (tCons (tVar 0) (tCons (tOp rSubI (tVar 1) (tC (.int 1))) tNil)))) tNil)) (tVar 1)) (gName 6))
  (tSeq (tAsg (tCall (spJ R_l_pick) [] E0 (tCons (tVar 0) (tCons (tVar 3) tNil))) (gName 9))
  (tIfS (tTest (tOp rGtI (tCall (spJ R_l_draw) [] E0 (tCons (tVar 0) (tCons (tC (.int 4)) tNil))) (tC (.int 0)))) (tSeq (tAsg (tLc (iRng1 (tCons (tVar 1) tNil)) (gName 10) tYes (tOp rAddI (tOp (rIxL K) (tOp (rIxL K) (tVar 4) (tVar 5)) (tVar 10)) (tOp rMulI (tVar 9) (tOp (rIxL K) (tOp (rIxL K) (tVar 4) (tVar 6)) (tVar 10)))) [10]) (gSub (tVar 4) (tVar 5) rSetL))
  (tFor (iRng1 (tCons (tVar 1) tNil)) (gName 10) (tAsg (tOp rSubI (tOp (rIxL K) (tOp (rIxL K) (tVar 7) (tVar 10)) (tVar 6)) (tOp rMulI (tVar 9) (tOp (rIxL K) (tOp (rIxL K) (tVar 7) (tVar 10)) (tVar 5)))) (gSub (tOp (rIxL K) (tVar 7) (tVar 10)) (tVar 6) rSetL)))) (tSeq (tAsg (tTup (tCons (tOp (rIxL K) (tVar 4) (tVar 6)) (tCons (tOp (rIxL K) (tVar 4) (tVar 5)) tNil))) (gTup K 2 (gCons (gSub (tVar 4) (tVar 5) rSetL) (gCons (gSub (tVar 4) (tVar 6) rSetL) gNil))))
  (tFor (iRng1 (tCons (tVar 1) tNil)) (gName 10) (tAsg (tTup (tCons (tOp (rIxL K) (tOp (rIxL K) (tVar 7) (tVar 10)) (tVar 6)) (tCons (tOp (rIxL K) (tOp (rIxL K) (tVar 7) (tVar 10)) (tVar 5)) tNil))) (gTup K 2 (gCons (gSub (tOp (rIxL K) (tVar 7) (tVar 10)) (tVar 5) rSetL) (gCons (gSub (tOp (rIxL K) (tVar 7) (tVar 10)) (tVar 6) rSetL) gNil)))))))))))
  (tRet (tTup (tCons (tVar 4) (tCons (tVar 7) tNil))))))),
  (pss_cons (ps_asg (pe_lc (own := [("i", 5)]) (g := (gName 5)) (tt := tYes) (te := (tLc (iRng1 (tCons (tVar 1) tNil)) (gName 6) tYes (tCB rInt1 (tCons (tOp rEq (tVar 5) (tVar 6)) tNil)) [6])) rfl sc_l_change.nd (pi_range1 rfl B.range (pa_cons (pv 1) pa_nil)) (blkOk_by (own := [("i", 5)]) (N := N_l_change) (by kernel_rfl)) (fun _ _ _ _ _ => (pg_name (i := 5) sc_l_change.nd rfl (by first | exact Or.inl rfl | exact Or.inr rfl))) (fun _ _ _ _ _ => pts_nil) (fun _ _ _ _ _ => (pe_lc (own := [("j", 6)]) (g := (gName 6)) (tt := tYes) (te := (tCB rInt1 (tCons (tOp rEq (tVar 5) (tVar 6)) tNil))) rfl sc_l_change.nd (pi_range1 rfl B.range (pa_cons (pv 1) pa_nil)) (blkOk_by (own := [("j", 6)]) (N := N_l_change) (by kernel_rfl)) (fun _ _ _ _ _ => (pg_name (i := 6) sc_l_change.nd rfl (by first | exact Or.inl rfl | exact Or.inr rfl))) (fun _ _ _ _ _ => pts_nil) (fun _ _ _ _ _ => (pe_callTy call_int1 (by rfl) B.int (by decide +kernel) (pa_cons (pe_cmpR op_eq (pv 5) (pv 6) (nomark _)) pa_nil)))))) (pg_name (i := 4) sc_l_change.nd rfl (by first | exact Or.inl rfl | exact Or.inr rfl)))
  (pss_cons (ps_setLc (i := 7) (own := [("i", 5)]) (g := (gName 5)) (tt := tYes) (te := (tLc (iRng1 (tCons (tVar 1) tNil)) (gName 6) tYes (tCB rInt1 (tCons (tOp rEq (tVar 5) (tVar 6)) tNil)) [6])) rfl sc_l_change.nd rfl rfl (sw_true rfl rfl rfl (by decide +kernel)) (pi_range1 rfl B.range (pa_cons (pv 1) pa_nil)) (blkOk_by (own := [("i", 5)]) (N := N_l_change) (by kernel_rfl)) (fun _ _ _ _ _ => (pg_name (i := 5) sc_l_change.nd rfl (by first | exact Or.inl rfl | exact Or.inr rfl))) (fun _ _ _ _ _ => pts_nil) (fun _ _ _ _ _ => (pe_lc (own := [("j", 6)]) (g := (gName 6)) (tt := tYes) (te := (tCB rInt1 (tCons (tOp rEq (tVar 5) (tVar 6)) tNil))) rfl sc_l_change.nd (pi_range1 rfl B.range (pa_cons (pv 1) pa_nil)) (blkOk_by (own := [("j", 6)]) (N := N_l_change) (by kernel_rfl)) (fun _ _ _ _ _ => (pg_name (i := 6) sc_l_change.nd rfl (by first | exact Or.inl rfl | exact Or.inr rfl))) (fun _ _ _ _ _ => pts_nil) (fun _ _ _ _ _ => (pe_callTy call_int1 (by rfl) B.int (by decide +kernel) (pa_cons (pe_cmpR op_eq (pv 5) (pv 6) (nomark _)) pa_nil))))))
  (pss_cons (ps_for PassesOwn.never rfl (pi_range1 rfl B.range (pa_cons (pe_ifExp (pt_cmpR op_gt (pv 1) pe_int (nomark _)) (pv 2) pe_int) pa_nil)) (pg_name (i := 8) sc_l_change.nd rfl (by first | exact Or.inl rfl | exact Or.inr rfl)) (pss_cons (ps_asg (pe_cal C_l_draw (hr.mono (by decide)) rfl (pa_cons (pv 0) (pa_cons (pv 1) pa_nil))) (pg_name (i := 5) sc_l_change.nd rfl (by first | exact Or.inl rfl | exact Or.inr rfl)))
  (pss_cons (ps_asg (pe_op op_modN (pe_callTy call_int1 (by rfl) B.int (by decide +kernel) (pa_cons (pe_op op_add (pe_op op_add (pv 5) pe_int) (pe_cal C_l_draw (hr.mono (by decide)) rfl (pa_cons (pv 0) (pa_cons (pe_op op_sub (pv 1) pe_int) pa_nil)))) pa_nil)) (pv 1)) (pg_name (i := 6) sc_l_change.nd rfl (by first | exact Or.inl rfl | exact Or.inr rfl)))
  (pss_cons (ps_asg (pe_cal C_l_pick (hr.mono (by decide)) rfl (pa_cons (pv 0) (pa_cons (pv 3) pa_nil))) (pg_name (i := 9) sc_l_change.nd rfl (by first | exact Or.inl rfl | exact Or.inr rfl)))
  (pss_one (ps_if (pt_cmpR op_gt (pe_cal C_l_draw (hr.mono (by decide)) rfl (pa_cons (pv 0) (pa_cons pe_int pa_nil))) pe_int (nomark _)) (pss_cons (ps_asg (pe_lc (own := [("t", 10)]) (g := (gName 10)) (tt := tYes) (te := (tOp rAddI (tOp (rIxL K) (tOp (rIxL K) (tVar 4) (tVar 5)) (tVar 10)) (tOp rMulI (tVar 9) (tOp (rIxL K) (tOp (rIxL K) (tVar 4) (tVar 6)) (tVar 10))))) rfl sc_l_change.nd (pi_range1 rfl B.range (pa_cons (pv 1) pa_nil)) (blkOk_by (own := [("t", 10)]) (N := N_l_change) (by kernel_rfl)) (fun _ _ _ _ _ => (pg_name (i := 10) sc_l_change.nd rfl (by first | exact Or.inl rfl | exact Or.inr rfl))) (fun _ _ _ _ _ => pts_nil) (fun _ _ _ _ _ => (pe_op op_add (pe_ix ix_list (pe_ix ix_list (pv 4) (pv 5) (fun _ _ => rfl)) (pv 10) (fun _ _ => rfl)) (pe_op op_mulI (pv 9) (pe_ix ix_list (pe_ix ix_list (pv 4) (pv 6) (fun _ _ => rfl)) (pv 10) (fun _ _ => rfl)))))) (pg_sub (pv 4) (pv 5) set_list))
  (pss_one (ps_for PassesOwn.never rfl (pi_range1 rfl B.range (pa_cons (pv 1) pa_nil)) (pg_name (i := 10) sc_l_change.nd rfl (by first | exact Or.inl rfl | exact Or.inr rfl)) (pss_one (ps_asg (pe_op op_sub (pe_ix ix_list (pe_ix ix_list (pv 7) (pv 10) (fun _ _ => rfl)) (pv 6) (fun _ _ => rfl)) (pe_op op_mulI (pv 9) (pe_ix ix_list (pe_ix ix_list (pv 7) (pv 10) (fun _ _ => rfl)) (pv 5) (fun _ _ => rfl)))) (pg_sub (pe_ix ix_list (pv 7) (pv 10) (fun _ _ => rfl)) (pv 6) set_list)))))) (pss_cons (ps_asg (pe_tup (pa_cons (pe_ix ix_list (pv 4) (pv 6) (fun _ _ => rfl)) (pa_cons (pe_ix ix_list (pv 4) (pv 5) (fun _ _ => rfl)) pa_nil))) (pg_tup rfl (pgs_cons (pg_sub (pv 4) (pv 5) set_list) (pgs_cons (pg_sub (pv 4) (pv 6) set_list) pgs_nil))))
  (pss_one (ps_for PassesOwn.never rfl (pi_range1 rfl B.range (pa_cons (pv 1) pa_nil)) (pg_name (i := 10) sc_l_change.nd rfl (by first | exact Or.inl rfl | exact Or.inr rfl)) (pss_one (ps_asg (pe_tup (pa_cons (pe_ix ix_list (pe_ix ix_list (pv 7) (pv 10) (fun _ _ => rfl)) (pv 6) (fun _ _ => rfl)) (pa_cons (pe_ix ix_list (pe_ix ix_list (pv 7) (pv 10) (fun _ _ => rfl)) (pv 5) (fun _ _ => rfl)) pa_nil))) (pg_tup rfl (pgs_cons (pg_sub (pe_ix ix_list (pv 7) (pv 10) (fun _ _ => rfl)) (pv 5) set_list) (pgs_cons (pg_sub (pe_ix ix_list (pv 7) (pv 10) (fun _ _ => rfl)) (pv 6) set_list) pgs_nil))))))))))))))
  (pss_one (ps_ret (pe_tup (pa_cons (pv 4) (pa_cons (pv 7) pa_nil)))))))), ?_⟩), hm, F.kp, bd⟩
  obtain ⟨M, j, n, m, menu, mv, rfl, hj, gd, jar, rm, hne, hmenu, hn1, hn, hm6, hq⟩ := h
  have s0 : Sta ⟨H, [j], M, some j, [], M, [], []⟩ [some (.inr j), some (.inl (nD n)), some (.inl (nD m)), some (.inl (.tup (menu.map D.int))), none, none, none, none, none, none, none] (L2.start N_l_change [.ref j, .int n, .int m, mv]) H :=
    ⟨fun b hb => (gd b hb).1, fun _ hb => hb, (fun b hb => by rw [List.mem_singleton.mp hb]; exact hj), (fun q hq => by simp at hq), Ext.refl _ _, (fun q hq => by simp at hq), (fun p hp => by simp at hp), List.nodup_nil, (fun j2 ej => by cases ej; exact ⟨hj, List.mem_singleton.mpr rfl, (fun q hq => by simp at hq), jar⟩),
      start_jar (.cons (.int _) (.cons (.int _) (.cons rm .nil))) N_l_change (by decide), fun b hb => (gd b hb).2, fun p hp => by cases hp⟩
  suffices hh : Sd ⟨H, [j], M, some j, [], M, [], []⟩ _ [some (.inr j), some (.inl (nD n)), some (.inl (nD m)), some (.inl (.tup (menu.map D.int))), none, none, none, none, none, none, none] { nx := fun _ H' => Q .non H', rt := Q } from hh _ H s0
  refine ss_asgN ((en_ran (n := n) (fun k => rowI ((List.range n).map fun t => if k = t then 1 else 0)) (ea_cons (ev_var rfl) ea_nil) (by omega) fun l acc k hk => ⟨[5], _, eg_name, fun _ h => h, (EvN.evE (en_ran (n := n) (fun t => D.int (if k = t then 1 else 0)) (ea_cons (ev_var rfl) ea_nil) (by omega) fun l2 acc2 t ht => ⟨[6], _, eg_name, fun _ h => h, (ev_cb (Ev.r (ev_op (Ev.r (ev_var rfl)) (Ev.r (ev_var rfl)) rv_eqI)) rc_intB).is (unit01 k t)⟩)).is (by show D.lst _ = D.lst _; rw [List.map_map]; rfl)⟩).is (d' := (uI n).map rowI) (by unfold uI; rw [List.map_map]; rfl)) fun lt ds e nlt => ?_
  subst e
  refine ss_asgMat (n := n) (fun k => (List.range n).map fun t => D.int (if k = t then 1 else 0)) (ea_cons (ev_var rfl) ea_nil) (by omega) (fun l rs k H3 hk hrs => ⟨[5], _, eg_name, fun _ h => h, en_ran (n := n) (fun t => D.int (if k = t then 1 else 0)) (ea_cons (ev_var rfl) ea_nil) (by omega) fun l2 acc2 t ht => ⟨[6], _, eg_name, fun _ h => h, (ev_cb (Ev.r (ev_op (Ev.r (ev_var rfl)) (Ev.r (ev_var rfl)) rv_eqI)) rc_intB).is (unit01 k t)⟩⟩) fun lb rs hrs nlb => ?_
  have eR : ((List.range n).map fun k => (List.range n).map fun t => D.int (if k = t then 1 else 0)) = (uI n).map fun r => r.map D.int := by
    unfold uI; rw [List.map_map]
    exact List.map_congr_left fun k _ => by show _ = List.map _ (List.map _ _); rw [List.map_map]; rfl
  rw [eR]
  refine sd_perm (own' := (lt, (uI n).map rowI) :: (lb, rs.map D.loc) :: rs.zip ((uI n).map fun r => r.map D.int)) ((List.Perm.swap _ _ _).trans (List.Perm.cons _ (List.perm_append_singleton _ _).symm)) ?_
  show Sd ⟨H, [j], M, some j, [], rs.reverse ++ lb :: lt :: M, (lt, (uI n).map rowI) :: (lb, rs.map D.loc) :: rs.zip ((uI n).map fun r => r.map D.int), []⟩ _ _ _
  generalize hM1 : rs.reverse ++ lb :: lt :: M = M1 at hq
  refine ss_for (its := (List.range (if 1 < n then m else 0)).map nD) (ei_rng (n := if 1 < n then m else 0) (ea_cons (ev_if (PB := (· = decide (1 < (n : Int)))) (et_test (Ev.r (ev_op (Ev.r (ev_var rfl)) (Ev.r ev_int) rv_B0))) (fun e => (ev_var rfl).is (by
      have := of_decide_eq_true e.symm
      show D.int (m : Int) = D.int _
      rw [if_pos (by omega)])) fun e => ev_int.is (by
      have := of_decide_eq_false e.symm
      show D.int 0 = D.int _
      rw [if_neg (by omega)]; rfl)) ea_nil) (by split <;> omega))
    (fun H1 k c1 δ1 => ∃ (A Bm : List (List Int)) (x5 x6 x8 x9 x10 : Sl), Chg n (3 ^ k) A Bm ∧ c1 = ⟨H, [j], M, some j, [], M1, (lt, A.map rowI) :: (lb, rs.map D.loc) :: rs.zip (Bm.map fun r => r.map D.int), [(H1, Ct.wl ⟨H, [j], M, some j, [], M1, (lt, (uI n).map rowI) :: (lb, rs.map D.loc) :: rs.zip ((uI n).map fun r => r.map D.int), []⟩)]⟩ ∧
      δ1 = [some (.inr j), some (.inl (nD n)), some (.inl (nD m)), some (.inl (.tup (menu.map D.int))), some (.inr lt), x5, x6, some (.inr lb), x8, x9, x10])
    (fun H1 => ⟨uI n, uI n, _, _, _, _, _, uI_chg n, rfl, rfl⟩) (fun H1 k c1 δ1 hI => by obtain ⟨A, Bm, _, _, _, _, _, _, rfl, _⟩ := hI; exact ⟨rfl, fun b hb => .inl hb⟩) ?_ ?_
  · rintro H1 k dk c1 δ1 hd ⟨A, Bm, x5, x6, x8, x9, x10, hC, rfl, rfl⟩
    generalize Ct.wl ⟨H, [j], M, some j, [], M1, (lt, (uI n).map rowI) :: (lb, rs.map D.loc) :: rs.zip ((uI n).map fun r => r.map D.int), []⟩ = W1
    have hk : k < (if 1 < n then m else 0) := by have := (List.getElem?_eq_some_iff.mp hd).1; simpa using this
    have hn2 : 1 < n := by
      apply Classical.byContradiction
      intro z; rw [if_neg z] at hk; omega
    rw [if_pos hn2] at hk
    have ed : dk = nD k := by
      rw [List.getElem?_map, List.getElem?_range (by rw [if_pos hn2]; exact hk)] at hd
      exact (Option.some.inj hd).symm
    subst ed
    refine ⟨[8], _, eg_name, ?_⟩
    refine ss_asgR (ev_draw rfl rfl (ev_var rfl) (by omega)) ?_
    rintro _ ⟨i, rfl, hi⟩
    have hi : i < n := by omega
    refine ss_asgR (P := fun d => ∃ jj : Nat, d = nD jj ∧ jj < n ∧ jj ≠ i) (ev_opR (P1 := fun d => ∃ e : Nat, d = .int ((i : Int) + 1 + (e : Int)) ∧ (e : Int) < n - 1) (P2 := (· = nD n)) (Ev.r (ev_cb1 (P1 := fun d => ∃ e : Nat, d = .int ((i : Int) + 1 + (e : Int)) ∧ (e : Int) < n - 1) (Ev.r (ev_Dop (ev_op (Ev.r (ev_var rfl)) (Ev.r ev_int) rv_I0) (ev_draw rfl rfl (ev_op (Ev.r (ev_var rfl)) (Ev.r ev_int) rv_I0) (by omega)) fun e he => rv_I0.mono fun d q => ⟨e, q, he⟩)) fun d hd => by
        obtain ⟨e, rfl, he⟩ := hd
        exact rc_int1.mono fun d q => ⟨e, q, he⟩)) (Ev.r (ev_var rfl)) fun d1 d2 ⟨e, e1, he⟩ e2 => by
        subst e1 e2
        exact (rv_I (by omega)).mono fun d q => by rw [q]; exact other_ne hi he) ?_
    rintro _ ⟨jj, rfl, hjj, hne2⟩
    refine ss_asgR (P := fun d => ∃ c : Int, d = .int c ∧ c.natAbs ≤ 2) (ev_callJ rfl rfl (ea_cons (ev_var rfl) ea_nil) fun ds e => ⟨_, menu.map D.int, e, rfl, by rw [List.length_map]; cases menu with | nil => exact absurd rfl hne | cons _ _ => simp, fun x hx => by obtain ⟨c, hc, rfl⟩ := List.mem_map.mp hx; exact ⟨c, rfl, hmenu c hc⟩⟩) ?_
    rintro _ ⟨c, rfl, hc⟩
    have p3 : 3 ^ k ≤ 729 := Nat.le_trans (Nat.pow_le_pow_right (by decide) (show k ≤ 6 by omega)) (by decide)
    have cB : Bt 2 c := Nat.lt_of_le_of_lt hc (by decide)
    have eB : ∀ {r : List Int} {t : Nat}, (∀ x ∈ r, x.natAbs ≤ 3 ^ k) → Bt 10 (r.getD t 0) := fun {r t} h => Nat.lt_of_le_of_lt (Nat.le_trans (getD_bd h t) p3) (by decide)
    have lA := hC.lenA; have lB := hC.lenB
    have wi := hC.widA _ (mem_getD (r := A) (i := i) (by omega) []); have wj := hC.widA _ (mem_getD (r := A) (i := jj) (by omega) [])
    have bi := hC.bdA _ (mem_getD (r := A) (i := i) (by omega) []); have bj := hC.bdA _ (mem_getD (r := A) (i := jj) (by omega) [])
    have ai := at_rI (A := A) (i := i) (by omega); have aj := at_rI (A := A) (i := jj) (by omega)
    refine sd_if (et_drawGt (ev_draw rfl rfl ev_int (by decide))) (fun _ => ?_) fun _ => ?_
    · have hC2 := hC.add (m := 2) hi hjj (fun z => hne2 z.symm) hc
      refine ss_asgW (d := rowI (addR n c (A.getD i []) (A.getD jj []))) ((EvN.evE (en_ran (n := n) (fun t => D.int ((A.getD i []).getD t 0 + c * (A.getD jj []).getD t 0)) (ea_cons (ev_var rfl) ea_nil) (by omega) fun l acc t ht => ⟨[10], _, eg_name, fun _ h => h,
          ev_op (Ev.r (ev_op (Ev.r (ev_op (evr_own (l := lt) rfl (List.mem_cons_of_mem _ List.mem_cons_self)) (Ev.r (ev_var rfl)) (rv_ixL ai))) (Ev.r (ev_var rfl)) (rv_ixL (at_I (by omega))))) (Ev.r (ev_op (Ev.r (ev_var rfl)) (Ev.r (ev_op (Ev.r (ev_op (evr_own (l := lt) rfl (List.mem_cons_of_mem _ List.mem_cons_self)) (Ev.r (ev_var rfl)) (rv_ixL aj))) (Ev.r (ev_var rfl)) (rv_ixL (at_I (by omega))))) (rv_I (cB.cm (eB bj) (by decide))))) rv_I0⟩)).is (by show D.lst _ = D.lst _; unfold addR; rw [List.map_map]; rfl))
        (ew_setK (k := 0) (z := (i : Int)) (j := i) rfl (ev_ownloc rfl) (ev_var rfl) (ix_nat (by rw [List.length_map]; omega))) ?_
      show Sd ⟨H, [j], M, some j, [], M1, (lt, (A.map rowI).set i (rowI (addR n c (A.getD i []) (A.getD jj [])))) :: (lb, rs.map D.loc) :: rs.zip (Bm.map fun r => r.map D.int), [(H1, W1)]⟩ _ _ _
      rw [← List.map_set]
      generalize A.set i (addR n c (A.getD i []) (A.getD jj [])) = A2 at hC2 ⊢
      refine sd_for (its := (List.range n).map nD) (ei_rng (n := n) (ea_cons (ev_var rfl) ea_nil) (by omega)) (fun H2 t c2 δ2 => ∃ x10 : Sl, c2 = ⟨H, [j], M, some j, [], M1, (lt, A2.map rowI) :: (lb, rs.map D.loc) :: rs.zip ((mixT (colsub jj i c) Bm t).map fun r => r.map D.int), [(H2, Ct.wl ⟨H, [j], M, some j, [], M1, (lt, A2.map rowI) :: (lb, rs.map D.loc) :: rs.zip (Bm.map fun r => r.map D.int), [(H1, W1)]⟩), (H1, W1)]⟩ ∧
          δ2 = [some (.inr j), some (.inl (nD n)), some (.inl (nD m)), some (.inl (.tup (menu.map D.int))), some (.inr lt), some (.inl (nD i)), some (.inl (nD jj)), some (.inr lb), some (.inl (nD k)), some (.inl (.int c)), x10])
        (fun H2 => ⟨_, rfl, rfl⟩) (fun H2 t c2 δ2 hI => by obtain ⟨_, rfl, _⟩ := hI; exact ⟨rfl, fun b hb => .inl hb⟩) ?_ ?_
      · rintro H2 t dt c2 δ2 hd ⟨x10, rfl, rfl⟩
        have ht : t < n := by have := (List.getElem?_eq_some_iff.mp hd).1; simpa using this
        have ed : dt = nD t := by
          rw [List.getElem?_map, List.getElem?_range ht] at hd
          exact (Option.some.inj hd).symm
        subst ed
        have er := List.getElem?_eq_getElem (l := rs) (i := t) (by omega)
        have eb := List.getElem?_eq_getElem (l := Bm) (i := t) (by omega)
        have wb := hC.widB _ (List.mem_of_getElem? eb)
        have bb := hC.bdB _ (List.mem_of_getElem? eb)
        generalize rs[t] = r at er
        generalize Bm[t] = b at eb wb bb
        have eo : (rs.zip ((mixT (colsub jj i c) Bm t).map fun r => r.map D.int))[t]? = some (r, b.map D.int) := zip_at2 er (by rw [List.getElem?_map, mixT_get eb]; rfl)
        have al := at_loc er
        refine ⟨[10], _, eg_name, ?_⟩
        have bt : ∀ {x : Nat}, x < n → Ev ⟨H, [j], M, some j, [], M1, (lt, A2.map rowI) :: (lb, rs.map D.loc) :: rs.zip ((mixT (colsub jj i c) Bm t).map fun r => r.map D.int), [(H2, Ct.wl ⟨H, [j], M, some j, [], M1, (lt, A2.map rowI) :: (lb, rs.map D.loc) :: rs.zip (Bm.map fun r => r.map D.int), [(H1, W1)]⟩), (H1, W1)]⟩ (tOp (rIxL K) (tVar 7) (tVar 10))
            [some (.inr j), some (.inl (nD n)), some (.inl (nD m)), some (.inl (.tup (menu.map D.int))), some (.inr lt), some (.inl (nD i)), some (.inl (nD jj)), some (.inr lb), some (.inl (nD k)), some (.inl (.int c)), some (.inl (nD t))] (· = .loc r) := fun _ => ev_op (evr_own (l := lb) rfl (List.mem_cons_of_mem _ List.mem_cons_self)) (Ev.r (ev_var rfl)) (rv_ixL al)
        have mo : (r, b.map D.int) ∈ (lt, A2.map rowI) :: (lb, rs.map D.loc) :: rs.zip ((mixT (colsub jj i c) Bm t).map fun r => r.map D.int) := List.mem_cons_of_mem _ (List.mem_cons_of_mem _ (List.mem_of_getElem? eo))
        refine sd_asgW (d := .int (b.getD jj 0 - c * b.getD i 0)) (ev_op (Ev.r (ev_op (evr_loc (bt ht) mo) (Ev.r (ev_var rfl)) (rv_ixL (at_I (by omega))))) (Ev.r (ev_op (Ev.r (ev_var rfl)) (Ev.r (ev_op (evr_loc (bt ht) mo) (Ev.r (ev_var rfl)) (rv_ixL (at_I (by omega))))) (rv_I (cB.cm (eB bb) (by decide))))) rv_I0)
          (ew_setK (k := t + 2) (z := (jj : Int)) (j := jj) eo (bt ht) (ev_var rfl) (ix_nat (by rw [List.length_map]; omega))) (nx_I ⟨_, ?_, rfl⟩)
        have e1 : (b.map D.int).set jj (.int (b.getD jj 0 - c * b.getD i 0)) = (colsub jj i c b).map D.int := by unfold colsub; rw [List.map_set]
        show (⟨H, [j], M, some j, [], M1, (lt, A2.map rowI) :: (lb, rs.map D.loc) :: (rs.zip ((mixT (colsub jj i c) Bm t).map fun r => r.map D.int)).set t (r, (b.map D.int).set jj (.int (b.getD jj 0 - c * b.getD i 0))), _⟩ : Ct) = _
        rw [zip_set er, e1, ← List.map_set (f := fun r : List Int => r.map D.int), mixT_set eb]
      · rintro H2 c2 δ2 ⟨x10, rfl, rfl⟩
        rw [List.length_map, List.length_range, mixT_all lB]
        have e3 : 3 ^ k + 2 * 3 ^ k = 3 ^ (k + 1) := by rw [Nat.pow_succ]; omega
        rw [e3] at hC2
        exact nx_I ⟨_, _, _, _, _, _, _, hC2, rfl, rfl⟩
    · have hC2 := hC.swap (i := i) (j := jj) hi hjj
      refine ss_asgW (d := .tup [rowI (A.getD jj []), rowI (A.getD i [])]) (ev_tup (ea_cons (ev_op (evr_own (l := lt) rfl List.mem_cons_self) (Ev.r (ev_var rfl)) (rv_ixL aj)) (ea_cons (ev_op (evr_own (l := lt) rfl List.mem_cons_self) (Ev.r (ev_var rfl)) (rv_ixL ai)) ea_nil)))
        (ew_tup2 (ew_setK (k := 0) (z := (i : Int)) (j := i) rfl (ev_ownloc rfl) (ev_var rfl) (ix_nat (by rw [List.length_map]; omega))) rfl (ew_setK (k := 0) (z := (jj : Int)) (j := jj) rfl (ev_ownloc rfl) (ev_var rfl) (ix_nat (by rw [List.length_set, List.length_map]; omega)))) ?_
      show Sd ⟨H, [j], M, some j, [], M1, (lt, ((A.map rowI).set i (rowI (A.getD jj []))).set jj (rowI (A.getD i []))) :: (lb, rs.map D.loc) :: rs.zip (Bm.map fun r => r.map D.int), [(H1, W1)]⟩ _ _ _
      rw [← List.map_set, ← List.map_set]
      generalize (A.set i (A.getD jj [])).set jj (A.getD i []) = A2 at hC2 ⊢
      refine sd_for (its := (List.range n).map nD) (ei_rng (n := n) (ea_cons (ev_var rfl) ea_nil) (by omega)) (fun H2 t c2 δ2 => ∃ x10 : Sl, c2 = ⟨H, [j], M, some j, [], M1, (lt, A2.map rowI) :: (lb, rs.map D.loc) :: rs.zip ((mixT (swapc i jj) Bm t).map fun r => r.map D.int), [(H2, Ct.wl ⟨H, [j], M, some j, [], M1, (lt, A2.map rowI) :: (lb, rs.map D.loc) :: rs.zip (Bm.map fun r => r.map D.int), [(H1, W1)]⟩), (H1, W1)]⟩ ∧
          δ2 = [some (.inr j), some (.inl (nD n)), some (.inl (nD m)), some (.inl (.tup (menu.map D.int))), some (.inr lt), some (.inl (nD i)), some (.inl (nD jj)), some (.inr lb), some (.inl (nD k)), some (.inl (.int c)), x10])
        (fun H2 => ⟨_, rfl, rfl⟩) (fun H2 t c2 δ2 hI => by obtain ⟨_, rfl, _⟩ := hI; exact ⟨rfl, fun b hb => .inl hb⟩) ?_ ?_
      · rintro H2 t dt c2 δ2 hd ⟨x10, rfl, rfl⟩
        have ht : t < n := by have := (List.getElem?_eq_some_iff.mp hd).1; simpa using this
        have ed : dt = nD t := by
          rw [List.getElem?_map, List.getElem?_range ht] at hd
          exact (Option.some.inj hd).symm
        subst ed
        have er := List.getElem?_eq_getElem (l := rs) (i := t) (by omega)
        have eb := List.getElem?_eq_getElem (l := Bm) (i := t) (by omega)
        have wb := hC.widB _ (List.mem_of_getElem? eb)
        have bb := hC.bdB _ (List.mem_of_getElem? eb)
        generalize rs[t] = r at er
        generalize Bm[t] = b at eb wb bb
        have eo : (rs.zip ((mixT (swapc i jj) Bm t).map fun r => r.map D.int))[t]? = some (r, b.map D.int) := zip_at2 er (by rw [List.getElem?_map, mixT_get eb]; rfl)
        have al := at_loc er
        refine ⟨[10], _, eg_name, ?_⟩
        have bt : ∀ {x : Nat}, x < n → Ev ⟨H, [j], M, some j, [], M1, (lt, A2.map rowI) :: (lb, rs.map D.loc) :: rs.zip ((mixT (swapc i jj) Bm t).map fun r => r.map D.int), [(H2, Ct.wl ⟨H, [j], M, some j, [], M1, (lt, A2.map rowI) :: (lb, rs.map D.loc) :: rs.zip (Bm.map fun r => r.map D.int), [(H1, W1)]⟩), (H1, W1)]⟩ (tOp (rIxL K) (tVar 7) (tVar 10))
            [some (.inr j), some (.inl (nD n)), some (.inl (nD m)), some (.inl (.tup (menu.map D.int))), some (.inr lt), some (.inl (nD i)), some (.inl (nD jj)), some (.inr lb), some (.inl (nD k)), some (.inl (.int c)), some (.inl (nD t))] (· = .loc r) := fun _ => ev_op (evr_own (l := lb) rfl (List.mem_cons_of_mem _ List.mem_cons_self)) (Ev.r (ev_var rfl)) (rv_ixL al)
        have mo : (r, b.map D.int) ∈ (lt, A2.map rowI) :: (lb, rs.map D.loc) :: rs.zip ((mixT (swapc i jj) Bm t).map fun r => r.map D.int) := List.mem_cons_of_mem _ (List.mem_cons_of_mem _ (List.mem_of_getElem? eo))
        refine sd_asgW (d := .tup [.int (b.getD jj 0), .int (b.getD i 0)]) (ev_tup (ea_cons (ev_op (evr_loc (bt ht) mo) (Ev.r (ev_var rfl)) (rv_ixL (at_I (by omega)))) (ea_cons (ev_op (evr_loc (bt ht) mo) (Ev.r (ev_var rfl)) (rv_ixL (at_I (by omega)))) ea_nil)))
          (ew_tup2 (ew_setK (k := t + 2) (z := (i : Int)) (j := i) eo (bt ht) (ev_var rfl) (ix_nat (by rw [List.length_map]; omega))) rfl
            (ew_setK (k := t + 2) (l := r) (ds := (b.map D.int).set i (.int (b.getD jj 0))) (z := (jj : Int)) (j := jj) (by
              show ((rs.zip ((mixT (swapc i jj) Bm t).map fun r => r.map D.int)).set t (r, (b.map D.int).set i (.int (b.getD jj 0))))[t]? = _
              rw [List.getElem?_set_self (List.getElem?_eq_some_iff.mp eo).1]) (ev_op (evr_own (l := lb) rfl (List.mem_cons_of_mem _ List.mem_cons_self)) (Ev.r (ev_var rfl)) (rv_ixL al)) (ev_var rfl) (ix_nat (by rw [List.length_set, List.length_map]; omega)))) (nx_I ⟨_, ?_, rfl⟩)
        have e1 : ((b.map D.int).set i (.int (b.getD jj 0))).set jj (.int (b.getD i 0)) = (swapc i jj b).map D.int := by unfold swapc; rw [List.map_set, List.map_set]
        show (⟨H, [j], M, some j, [], M1, (lt, A2.map rowI) :: (lb, rs.map D.loc) :: ((rs.zip ((mixT (swapc i jj) Bm t).map fun r => r.map D.int)).set t (r, (b.map D.int).set i (.int (b.getD jj 0)))).set t (r, ((b.map D.int).set i (.int (b.getD jj 0))).set jj (.int (b.getD i 0))), _⟩ : Ct) = _
        rw [List.set_set, zip_set er, e1, ← List.map_set (f := fun r : List Int => r.map D.int), mixT_set eb]
      · rintro H2 c2 δ2 ⟨x10, rfl, rfl⟩
        rw [List.length_map, List.length_range, mixT_all lB]
        exact nx_I ⟨_, _, _, _, _, _, _, hC2.mono (Nat.pow_le_pow_right (by decide) (Nat.le_succ k)), rfl, rfl⟩
  · rintro H1 c1 δ1 ⟨A, Bm, x5, x6, x8, x9, x10, hC, rfl, rfl⟩
    rw [List.length_map, List.length_range] at hC
    refine sd_retS (ev_tup (ea_cons (ev_ownloc rfl) (ea_cons (ev_ownloc rfl) ea_nil))) fun σ H' v d s r p => ?_
    subst p
    subst hM1
    have lB := hC.lenB
    have ez : ((lt, A.map rowI) :: (lb, rs.map D.loc) :: rs.zip (Bm.map fun r => r.map D.int)).map (·.1) = lt :: lb :: rs := by
      rw [List.map_cons, List.map_cons, List.map_fst_zip (by rw [List.length_map]; omega)]
    have nd := s.nd
    refine hq v H' lt lb rs A Bm s.keep (s.jar j rfl).2.2.2 (by rw [← ez]; exact nd) (fun b hb => ?_) hrs (hC.mono (Nat.pow_le_pow_right (by decide) (by split <;> omega))) ?_ ?_ (fun q hqz => ?_) r
    · rw [← ez] at hb
      obtain ⟨p, hp, e⟩ := List.mem_map.mp hb
      rw [← (show p.1 = b from e)]
      exact (s.own p hp).2.2.1
    · obtain ⟨_, _, _, _, vs, e, rr⟩ := s.own (lt, A.map rowI) List.mem_cons_self
      exact ⟨vs, e, rr⟩
    · obtain ⟨_, _, _, _, vs, e, rr⟩ := s.own (lb, rs.map D.loc) (List.mem_cons_of_mem _ List.mem_cons_self)
      rw [e, reps_locs rr]
    · have hm2 : (q.1, q.2.map D.int) ∈ rs.zip (Bm.map fun r => r.map D.int) := by
        rw [List.zip_map_right]
        exact List.mem_map.mpr ⟨q, hqz, rfl⟩
      obtain ⟨_, _, _, _, vs, e, rr⟩ := s.own _ (List.mem_cons_of_mem _ (List.mem_cons_of_mem _ hm2))
      rw [e, reps_intsV rr]
end
end E
/-! DAdp: lists that a call has made become one's own. -/
namespace E
open PySem PySem.Spec PyProof.Rows L2
theorem Rep.freshN {N M : List Addr} {H : Hp} {v : V} {d : D} (h : Rep M H v d) (hn : ∀ b ∈ N, H b = none) : Rep (N ++ M) H v d := h.map fun a o n q => ⟨fun z => (List.mem_append.mp z).elim (fun z => by rw [hn a z] at q; cases q) n, q⟩
theorem Reps.freshN {N M : List Addr} {H : Hp} {v : List V} {d : List D} (h : Reps M H v d) (hn : ∀ b ∈ N, H b = none) : Reps (N ++ M) H v d := h.map fun a o n q => ⟨fun z => (List.mem_append.mp z).elim (fun z => by rw [hn a z] at q; cases q) n, q⟩
theorem SlotOk.freshN {N M : List Addr} {H : Hp} {δ : List Sl} {σ : L2.St} (h : SlotOk M H δ σ) (hn : ∀ b ∈ N, H b = none) : SlotOk (N ++ M) H δ σ :=
  ⟨h.1, fun i => ⟨fun d q => let ⟨v, a, r⟩ := (h.2 i).1 d q; ⟨v, a, r.freshN hn⟩, (h.2 i).2⟩⟩
theorem TabAt.freshN {N M : List Addr} {H : Hp} {p : Addr × Str} (h : TabAt M H p) (hn : ∀ b ∈ N, H b = none) : TabAt (N ++ M) H p := by
  obtain ⟨ps, e, t, f⟩ := h
  exact ⟨ps, e, t, fun pos cv hc => let ⟨k, a, b, d⟩ := f pos cv hc; ⟨k, a, fun z => (List.mem_append.mp z).elim (fun e => by rw [hn k e] at d; cases d) b, d⟩⟩
theorem Sta.adopt {c : Ct} {δ : List Sl} {σ : L2.St} {H1 H' : Hp} {j : Addr} (s1 : Sta c δ σ H1) (hj : c.jr = some j) (e : Ext [j] H1 H') (N : List Addr) (L : List (Addr × List D)) (hN : ∀ p ∈ L, p.1 ∈ N) (hN2 : ∀ b ∈ N, ∃ p ∈ L, p.1 = b) (hn : ∀ b ∈ N, H1 b = none) (nd : (L.map (·.1)).Nodup)
    (hv : ∀ p ∈ L, ∃ vs, H' p.1 = some (.lst vs) ∧ Reps (N ++ c.M) H' vs p.2) (hJ : JarAt (N ++ c.M) H' j) : Sta { c with M := N ++ c.M, own := L ++ c.own } δ σ H' := by
  have hJ0 : JarAt c.M H' j := hJ.less fun b hb => List.mem_append_right _ hb
  have s2 := s1.jarred hj e hJ0
  have jM : j ∈ c.M := s1.mm j (s1.jar j hj).1
  have exM : Ext (N ++ c.M) H1 H' := e.sub fun b hb => by rw [List.mem_singleton.mp hb]; exact List.mem_append_right _ jM
  have notM : ∀ b ∈ N, b ∉ c.M := fun b hb z => s1.good b z (hn b hb)
  refine ⟨fun b hb => ?_, fun b hb => List.mem_append_right _ (s1.mm b hb), s1.wm, fun q hq b hb => List.mem_append_right _ (s1.kw q hq b hb), s2.keep, s2.kps, fun p hp => ?_, ?_, fun j2 ej => ?_, (s1.sl.freshN hn).ext exM, fun b hb => ?_, fun p hp => ?_⟩
  · rcases List.mem_append.mp hb with z | z
    · obtain ⟨p, hp, rfl⟩ := hN2 b z
      obtain ⟨vs, ev, _⟩ := hv p hp
      rw [ev]; exact fun z => nomatch z
    · exact s2.good b z
  · rcases List.mem_append.mp hp with z | z
    · have hb := hN p z
      exact ⟨List.mem_append_left _ hb, fun y => notM _ hb (s1.mm _ y), none_of s1.keep (fun b hb => s1.good b (s1.mm b (s1.wm b hb))) (hn _ hb), fun q hq => .inr (none_of (s1.kps q hq) (fun b hb => s1.good b (s1.kw q hq b hb)) (hn _ hb)), hv p z⟩
    · obtain ⟨a, b, b', x, vs, e1, r1⟩ := s1.own p z
      have hpj : p.1 ≠ j := fun y => b (y ▸ (s1.jar j hj).1)
      exact ⟨List.mem_append_right _ a, b, b', x, vs, e _ _ (by simpa using hpj) e1, (r1.freshN hn).ext exM⟩
  · rw [List.map_append]
    refine List.nodup_append.mpr ⟨nd, s1.nd, fun a ha b hb hab => ?_⟩
    obtain ⟨p, hp, ep⟩ := List.mem_map.mp ha
    obtain ⟨q, hq, eq⟩ := List.mem_map.mp hb
    have h1 := notM _ (hN p hp)
    have h2 := (s1.own q hq).1
    have : p.1 = q.1 := by rw [show p.1 = a from ep, show q.1 = b from eq]; exact hab
    rw [this] at h1
    exact h1 h2
  · have ej' : c.jr = some j2 := ej
    have : j2 = j := Option.some.inj (ej'.symm.trans hj)
    subst this
    obtain ⟨a, b, x, _⟩ := s1.jar j2 hj
    exact ⟨a, b, x, hJ⟩
  · rcases List.mem_append.mp hb with z | z
    · obtain ⟨p, hp, rfl⟩ := hN2 b z
      obtain ⟨vs, ev, _⟩ := hv p hp
      exact mut_lst ev
    · exact s2.mt b z
  · obtain ⟨a, b, x, y⟩ := s1.tab p hp
    obtain ⟨ps, e1, t, f⟩ := id y
    have hpj : p.1 ≠ j := fun z => by
      obtain ⟨sc, ns, a1, a2, a3, a4, e2, _⟩ := (s1.jar j hj).2.2.2
      rw [z, e2] at e1; cases e1
    exact ⟨a, b, x, (y.freshN hn).ext exM (by rw [e _ _ (by simpa using hpj) e1, e1])⟩
variable {c : Ct} {δ : List Sl} {Dn : Ends}
/-- what a call of _law_change asks of its arguments -/
def ChgA (n m : Nat) (ds : List D) : Prop := ∃ menu : List Int, ds = [nD n, nD m, .tup (menu.map D.int)] ∧ menu ≠ [] ∧ (∀ x ∈ menu, x.natAbs ≤ 2) ∧ 1 ≤ n ∧ n ≤ 6 ∧ m ≤ 6
theorem rows_rep {M : List Addr} {H : Hp} : ∀ {rs : List Addr} {B : List (List Int)}, rs.length = B.length → (∀ r ∈ rs, r ∉ M) → (∀ q ∈ rs.zip B, H q.1 = some (.lst (q.2.map V.int))) → Reps M H (rs.map V.ref) (B.map rowI)
  | [], [], _, _, _ => .nil
  | [], _ :: _, h, _, _ => by simp at h
  | _ :: _, [], h, _, _ => by simp at h
  | r :: rs, b :: B, h, hn, hq => .cons (.lst (hn r List.mem_cons_self) (hq (r, b) List.mem_cons_self) (reps_ints b)) (rows_rep (by simpa using h) (fun r hr => hn r (List.mem_cons_of_mem _ hr)) fun q hq2 => hq q (List.mem_cons_of_mem _ hq2))
/-- the answer as data -/
theorem ev_chg {E : XK} {i : Nat} {j : Addr} {ta : TA} {n : Nat} {P1 : List D → Prop} (hj : δ[i]? = some (some (.inr j))) (hc : c.jr = some j) (h : EvA c ta δ P1) (hP : ∀ ds, P1 ds → ∃ m, ChgA n m ds) : Ev c (tCall spChg [] E (tCons (tVar i) ta)) δ (fun d => ∃ A B, d = .tup [.lst (A.map rowI), .lst (B.map rowI)] ∧ Chg n 729 A B) := fun σ H Q s q => by
  refine ⟨.ref j, (s.sl.2 i).2 j hj, h σ H _ s fun vs H1 ds s1 e1 r1 p1 => ?_⟩
  show spChg (.ref j :: vs ++ []) H1 Q E
  rw [List.append_nil]
  obtain ⟨m, menu, rfl, hne, hm, h1, h6, hm6⟩ := hP ds p1
  obtain ⟨a, b, x, y⟩ := s1.jar j hc
  cases r1 with
  | cons ra r1 => cases r1 with
    | cons rb r1 => cases r1 with
      | cons rc r1 =>
        cases r1; cases ra; cases rb
        refine ⟨c.M, j, n, m, menu, _, rfl, s1.mm j a, fun b hb => ⟨s1.good b hb, s1.mt b hb⟩, y, rc, hne, hm, h1, h6, hm6, fun v H' lt lb rs A B e hJ nd hn hrs hC hlt hlb hrows rv => ?_⟩
        have jM := s1.mm j a
        have nM : ∀ b ∈ lt :: lb :: rs, b ∉ c.M := fun b hb z => s1.good b z (hn b hb)
        have sub : ∀ b ∈ c.M, b ∈ rs.reverse ++ lb :: lt :: c.M := fun b hb => List.mem_append_right _ (List.mem_cons_of_mem _ (List.mem_cons_of_mem _ hb))
        cases rv with
        | @tup p vs _ np ep rp =>
          cases rp with
          | cons r1 t => cases t with
            | cons r2 t =>
              cases t; cases r1; cases r2
              obtain ⟨vt, et, rt⟩ := hlt
              refine q _ H' _ (s1.jarred hc e (hJ.less sub)) (e1.trans (e.sub fun b hb => by rw [List.mem_singleton.mp hb]; exact jM)) (.tup (fun z => np (sub _ z)) ep (.cons (.lst (nM lt List.mem_cons_self) et (rt.less sub)) (.cons (.lst (nM lb (List.mem_cons_of_mem _ List.mem_cons_self)) hlb (rows_rep (by rw [hrs, hC.lenB]) (fun r hr => nM r (List.mem_cons_of_mem _ (List.mem_cons_of_mem _ hr))) hrows)) .nil))) ⟨A, B, rfl, hC.mono (Nat.le_trans (Nat.pow_le_pow_right (by decide) hm6) (by decide))⟩
/-- a, b = _law_change(..): both one's own, the second with its rows -/
theorem ss_chg {K : PySem.W.Frag} {E : XK} {i i1 i2 : Nat} {j : Addr} {ta : TA} {u : TS} {n : Nat} {P1 : List D → Prop} (hj : δ[i]? = some (some (.inr j))) (hc : c.jr = some j) (h : EvA c ta δ P1) (hP : ∀ ds, P1 ds → ∃ m, ChgA n m ds)
    (k : ∀ (lt lb : Addr) (rs : List Addr) (A B : List (List Int)), rs.length = n → Chg n 729 A B → Sd { c with M := rs.reverse ++ lb :: lt :: c.M, own := (lt, A.map rowI) :: (lb, rs.map D.loc) :: (rs.zip (B.map fun r => r.map D.int) ++ c.own) } u ((δ.set i1 (some (.inr lt))).set i2 (some (.inr lb))) Dn) :
    Sd c (tSeq (tAsg (tCall spChg [] E (tCons (tVar i) ta)) (gTup K 2 (gCons (gName i1) (gCons (gName i2) gNil)))) u) δ Dn := fun σ H s => by
  refine ⟨.ref j, (s.sl.2 i).2 j hj, h σ H _ s fun vs H1 ds s1 e1 r1 p1 => ?_⟩
  show spChg (.ref j :: vs ++ []) H1 _ E
  rw [List.append_nil]
  obtain ⟨m, menu, rfl, hne, hm, h1, h6, hm6⟩ := hP ds p1
  obtain ⟨a, b, x, y⟩ := s1.jar j hc
  cases r1 with
  | cons ra r1 => cases r1 with
    | cons rb r1 => cases r1 with
      | cons rc r1 =>
        cases r1; cases ra; cases rb
        refine ⟨c.M, j, n, m, menu, _, rfl, s1.mm j a, fun b hb => ⟨s1.good b hb, s1.mt b hb⟩, y, rc, hne, hm, h1, h6, hm6, fun v H' lt lb rs A B e hJ nd hn hrs hC hlt hlb hrows rv => ?_⟩
        have eN : rs.reverse ++ lb :: lt :: c.M = (rs.reverse ++ [lb, lt]) ++ c.M := by simp
        rw [eN] at hJ hlt rv
        have inN : ∀ b, b ∈ rs.reverse ++ [lb, lt] ↔ b ∈ lt :: lb :: rs := fun b => by simp; constructor <;> (intro h; rcases h with h | h | h <;> simp [h])
        have ez : ((lt, A.map rowI) :: (lb, rs.map D.loc) :: rs.zip (B.map fun r => r.map D.int)).map (·.1) = lt :: lb :: rs := by
          have := hC.lenB
          rw [List.map_cons, List.map_cons, List.map_fst_zip (by rw [List.length_map]; omega)]
        have ad := s1.adopt hc e (rs.reverse ++ [lb, lt]) ((lt, A.map rowI) :: (lb, rs.map D.loc) :: rs.zip (B.map fun r => r.map D.int)) (fun p hp => (inN _).mpr (by rw [← ez]; exact List.mem_map_of_mem (f := (·.1)) hp)) (fun b hb => by
            have := (inN b).mp hb
            rw [← ez] at this
            exact List.mem_map.mp this) (fun b hb => hn b ((inN b).mp hb)) (by rw [ez]; exact nd) (fun p hp => ?_) hJ
        · cases rv with
          | @tup p vs _ np ep rp =>
            cases rp with
            | cons r1 t => cases t with
              | cons r2 t =>
                cases t; cases r1; cases r2
                refine ⟨p, _, rfl, SqT.of ep, rfl, _, _, rfl, _, _, rfl, rfl, ?_⟩
                have kk := k lt lb rs A B hrs (hC.mono (Nat.le_trans (Nat.pow_le_pow_right (by decide) hm6) (by decide)))
                rw [eN] at kk
                exact kk _ H' (ad.slots ((ad.sl.set i1 (fun d' e => by cases e) (fun l e => by cases e; rfl)).set i2 (fun d' e => by cases e) (fun l e => by cases e; rfl)))
        · rcases List.mem_cons.mp hp with z | hp
          · subst z
            exact hlt
          rcases List.mem_cons.mp hp with z | hp
          · subst z
            refine ⟨_, hlb, ?_⟩

            have go : ∀ (N : List Addr) (rs : List Addr), Reps N H' (rs.map V.ref) (rs.map D.loc) := fun N rs => by
              induction rs with
              | nil => exact .nil
              | cons r rs ih => exact .cons (.loc r) ih
            exact go _ rs
          · rw [List.zip_map_right] at hp
            obtain ⟨q, hq, rfl⟩ := List.mem_map.mp hp
            exact ⟨_, hrows q hq, reps_ints q.2⟩
end E
namespace E
open PySem PySem.Spec PyProof.Rows L2 TL
theorem numF_int {F : Fm} {b : Nat} {k : Int} (h : k.natAbs ≤ b) : NumF 12 (12 * b) F (F.ofInt k) := by
  cases F with
  | q =>
    refine ⟨12 * k, by rw [Int.natAbs_mul]; exact Nat.mul_le_mul_left 12 h, ?_⟩
    exact div_of (by decide) (by rw [mul_cast]; rfl)
  | z p hp => trivial
theorem numF_mul {F : Fm} {s : Int} {b : Nat} {c : Int} {x : F.α} (h : NumF s b F x) (hc : F.p = 0 → c.natAbs ≤ 3) : NumF s (b * 3) F (F.ofInt c * x) := by
  cases F with
  | q =>
    obtain ⟨a, ha, rfl⟩ := h
    refine ⟨c * a, ?_, ?_⟩
    · rw [Int.natAbs_mul, Nat.mul_comm]; exact Nat.mul_le_mul ha (hc rfl)
    · show ((c : Rat) * Rat.divInt a s : Rat) = _
      rw [divI, divI, mul_cast, Rat.mul_assoc]
  | z p hp => trivial
theorem ofInt_eb {F : Fm} {b : Nat} {k : Int} (h : F.p = 0 → k.natAbs < 2 ^ b) (hb : 1 ≤ b) : EbF b F (F.ofInt k) := by
  cases F with
  | q =>
    have : (2 : Nat) ≤ 2 ^ b := by have := Nat.pow_le_pow_right (n := 2) (by decide) hb; simpa using this
    refine ⟨?_, ?_⟩
    · show Bt b ((k : Rat)).num
      rw [Rat.num_intCast]; exact h rfl
    · show Bt b (((k : Rat)).den : Nat)
      rw [Rat.den_intCast]; show (((1 : Nat) : Int)).natAbs < _; simp; omega
  | z p hp => trivial
section
variable {c : Ct} {δ : List Sl} {Dn : Ends}
theorem ev_menu : Ev c (tTup (tCons (tC (.int 1)) (tCons (tUn rNegI (tC (.int 1))) (tCons (tC (.int 2)) (tCons (tUn rNegI (tC (.int 2))) tNil))))) δ (· = .tup ([1, -1, 2, -2].map D.int)) := ev_tup (ea_cons ev_int (ea_cons (ev_un (Ev.r ev_int)) (ea_cons ev_int (ea_cons (ev_un (Ev.r ev_int)) ea_nil))))
theorem chgA_menu {n m : Nat} {ds : List D} (h1 : 1 ≤ n) (h6 : n ≤ 6) (hm : m ≤ 6) (e : ds = [nD n, nD m, .tup ([1, -1, 2, -2].map D.int)]) : ChgA n m ds := ⟨_, e, by simp, by decide, h1, h6, hm⟩
end
theorem p_ge {F : Fm} (h : F.p ≠ 0) : 2 ≤ F.p := by
  cases F with
  | q => exact absurd rfl h
  | z p hp => exact (prime_pos hp).1
section
variable {c : Ct} {δ : List Sl} {Dn : Ends}
theorem en_listR {K : PySem.W.Frag} {ta : TE} {P1 : D → Prop} {P2 : List D → Prop} (h : EvR c ta δ P1) (hs : ∀ d, P1 d → ∃ ds, seqD d = some ds ∧ P2 ds) :
    EvN c (tCB (fun xs H Q => ∃ p ys, xs = [.ref p] ∧ (SqL K H p ys ∨ SqT K H p ys) ∧ ∀ l, H l = none → Q (.ref l) (upd H l (.lst ys))) (tCons ta tNil)) δ P2 := fun σ H Q s q => h σ H _ s fun v H1 d s1 e1 r1 p1 => by
  obtain ⟨ds, hd, p2⟩ := hs d p1
  have fin : ∀ (a : Addr) (vs : List V), Reps c.M H1 vs ds → ∀ l, H1 l = none → Q (.ref l) (upd H1 l (.lst vs)) := fun a vs r l hl =>
    q l _ ds (s1.same (Same.new hl)) (s1.mine hl (Same.new hl) upd_same ((r.fresh hl).ext (Ext.of (Same.new hl)))) (fun z => s1.good l z hl) (e1.trans (Ext.of (Same.new hl))) p2
  cases d with
  | lst xs =>
    cases hd
    obtain ⟨a, vs, rfl, e, r⟩ := rdo_lst s1 r1
    exact ⟨a, vs, rfl, .inl (SqL.of e), fin a vs r⟩
  | tup xs =>
    cases hd
    obtain ⟨a, vs, rfl, _, e, r⟩ := rdo_tup r1
    exact ⟨a, vs, rfl, .inr (SqT.of e), fin a vs r⟩
  | _ => cases hd
end
section
variable {P : Program} {w : World} {K : PySem.W.Frag} {mg : Str → Option Value} {base : Heap}
abbrev s_l_square : Stmt := topS 72
abbrev N_l_square : List Str := ["jar", "f", "wide", "form", "made", "line", "k", "i", "c", "u", "t"]
abbrev p_l_square : List Str := ["jar", "f", "wide"]
theorem sc_l_square : FnScope N_l_square p_l_square (defScope s_l_square) := ⟨rfl, rfl, rfl, by decide +kernel, rfl, by decide +kernel, by decide +kernel⟩
abbrev sqB : Nat := 12754584
def R_l_square (ds : List D) (P : D → Prop) : Prop := ∃ (F : Fm) (n : Nat), ds = [.int F.p, nD n] ∧ 1 ≤ n ∧ n ≤ 6 ∧ P = fun d => ∃ tab : List (List F.α), d = .lst (tab.map F.rowL) ∧ TabOk F 12 sqB n n tab
theorem c_l_square (h : Has K mg "_law_square" s_l_square p_l_square) (B : Bi mg) (C_l_draw : Cal P w K mg base "_law_draw" 41 p_l_draw (spJ R_l_draw)) (C_l_num : Cal P w K mg base "_law_num" 41 p_l_num (spP R_l_num)) (C_l_add : Cal P w K mg base "_law_add" 43 p_l_add (spP R_l_add)) (C_l_mul : Cal P w K mg base "_law_mul" 43 p_l_mul (spP R_l_mul))
    (C_l_change : Cal P w K mg base "_law_change" 43 p_l_change spChg) (C_l_table : Cal P w K mg base "_law_table" 44 p_l_table (spJ R_l_table)) : Cal P w K mg base "_law_square" 45 p_l_square (spJ R_l_square) := by
  refine mkJ h sc_l_square (fun ds P h => by obtain ⟨_, _, rfl, _⟩ := h; rfl) (by decide) fun cdv A outer s H Q E f hr => ⟨(tSeq (tAsg (tCall (spJ R_l_draw) [] E0 (tCons (tVar 0) (tCons (tC (.int 5)) tNil))) (gName 3))
  (tSeq (tIfS (tTest (tOp rEq (tVar 3) (tC (.int 0)))) (tRet (tCall (spJ R_l_table) [] E0 (tCons (tVar 0) (tCons (tVar 1) (tCons (tVar 2) (tCons (tVar 2) tNil)))))) tNext)
  (tSeq (tAsg (tLc (iList K (tOp (rIxT K) (tCall spChg [] E0 (tCons (tVar 0) (tCons (tVar 2) (tCons (tOp rAddI (tC (.int 2)) (tCall (spJ R_l_draw) [] E0 (tCons (tVar 0) (tCons (tC (.int 5)) tNil)))) (tCons (tTup (tCons (tC (.int 1)) (tCons (tUn rNegI (tC (.int 1))) (tCons (tC (.int 2)) (tCons (tUn rNegI (tC (.int 2))) tNil))))) tNil))))) (tC (.int 0)))) (gName 5) tYes (tLc (iList K (tVar 5)) (gName 6) tYes (tCall (spP R_l_num) [] E0 (tCons (tVar 1) (tCons (tVar 6) tNil))) [6]) [5]) (gName 4))
  (tSeq (tFor (iRng1 (tCons (tVar 2) tNil)) (gName 7) (tSeq (tAsg (tCall (spP R_l_num) [] E0 (tCons (tVar 1) (tCons (tOp rAddI (tC (.int 1)) (tCall (spJ R_l_draw) [] E0 (tCons (tVar 0) (tCons (tIf (tTest (tOp rEq (tVar 1) (tC (.int 0)))) (tC (.int 3)) (tCB rMin2 (tCons (tOp rSubI (tVar 1) (tC (.int 1))) (tCons (tC (.int 9)) tNil)))) tNil)))) tNil))) (gName 8))
  (tAsg (tLc (iList K (tOp (rIxL K) (tVar 4) (tVar 7))) (gName 9) tYes (tCall (spP R_l_mul) [] E0 (tCons (tVar 1) (tCons (tVar 8) (tCons (tVar 9) tNil)))) [9]) (gSub (tVar 4) (tVar 7) rSetL))))
  (tSeq (tAsg (tCall (spJ R_l_draw) [] E0 (tCons (tVar 0) (tCons (tVar 2) tNil))) (gName 7))
  (tSeq (tIfS (tAnd (tTest (tOp rEq (tVar 3) (tC (.int 1)))) (tTest (tOp rGtI (tVar 2) (tC (.int 1))))) (tAsg (tCB (rListQ K) (tCons (tOp (rIxL K) (tVar 4) (tOp rModI (tCB rInt1 (tCons (tOp rAddI (tOp rAddI (tVar 7) (tC (.int 1))) (tCall (spJ R_l_draw) [] E0 (tCons (tVar 0) (tCons (tOp rSubI (tVar 2) (tC (.int 1))) tNil)))) tNil)) (tVar 2))) tNil)) (gSub (tVar 4) (tVar 7) rSetL)) tNext)
  (tSeq (tIfS (tAnd (tTest (tOp rEq (tVar 3) (tC (.int 2)))) (tTest (tOp rGtI (tVar 2) (tC (.int 2))))) (tAsg (tLc (iRng1 (tCons (tVar 2) tNil)) (gName 10) tYes (tCall (spP R_l_add) [] E0 (tCons (tVar 1) (tCons (tOp (rIxL K) (tOp (rIxL K) (tVar 4) (tOp rModI (tCB rInt1 (tCons (tOp rAddI (tVar 7) (tC (.int 1))) tNil)) (tVar 2))) (tVar 10)) (tCons (tOp (rIxL K) (tOp (rIxL K) (tVar 4) (tOp rModI (tCB rInt1 (tCons (tOp rAddI (tVar 7) (tC (.int 2))) tNil)) (tVar 2))) (tVar 10)) tNil)))) [10]) (gSub (tVar 4) (tVar 7) rSetL)) tNext)
  (tSeq (tIfS (tAnd (tTest (tOp rEq (tVar 3) (tC (.int 3)))) (tTest (tOp rEq (tCall (spJ R_l_draw) [] E0 (tCons (tVar 0) (tCons (tC (.int 2)) tNil))) (tC (.int 0))))) (tAsg (tLc (iList K (tVar 4)) (gName 5) tYes (tLc (iRng1 (tCons (tVar 2) tNil)) (gName 10) tYes (tIf (tTest (tOp rEq (tVar 10) (tVar 7))) (tCall (spP R_l_num) [] E0 (tCons (tVar 1) (tCons (tC (.int 0)) tNil))) (tOp (rIxL K) (tVar 5) (tVar 10))) [10]) [5]) (gName 4)) tNext)
  (tRet (tVar 4)))))))))),
  (pss_cons (ps_asg (pe_cal C_l_draw (hr.mono (by decide)) rfl (pa_cons (pv 0) (pa_cons pe_int pa_nil))) (pg_name (i := 3) sc_l_square.nd rfl (by first | exact Or.inl rfl | exact Or.inr rfl)))
  (pss_cons (ps_if (pt_cmpR op_eq (pv 3) pe_int (nomark _)) (pss_one (ps_ret (pe_cal C_l_table (hr.mono (by decide)) rfl (pa_cons (pv 0) (pa_cons (pv 1) (pa_cons (pv 2) (pa_cons (pv 2) pa_nil))))))) pss_nil)
  (pss_cons (ps_asg (pe_lc (own := [("line", 5)]) (g := (gName 5)) (tt := tYes) (te := (tLc (iList K (tVar 5)) (gName 6) tYes (tCall (spP R_l_num) [] E0 (tCons (tVar 1) (tCons (tVar 6) tNil))) [6])) rfl sc_l_square.nd (pi_list (pe_ix ix_tup (pe_cal C_l_change (hr.mono (by decide)) rfl (pa_cons (pv 0) (pa_cons (pv 2) (pa_cons (pe_op op_add pe_int (pe_cal C_l_draw (hr.mono (by decide)) rfl (pa_cons (pv 0) (pa_cons pe_int pa_nil)))) (pa_cons (pe_tup (pa_cons pe_int (pa_cons (pe_un un_neg pe_int) (pa_cons pe_int (pa_cons (pe_un un_neg pe_int) pa_nil))))) pa_nil))))) pe_int (fun _ _ => rfl))) (blkOk_by (own := [("line", 5)]) (N := N_l_square) (by kernel_rfl)) (fun _ _ _ _ _ => (pg_name (i := 5) sc_l_square.nd rfl (by first | exact Or.inl rfl | exact Or.inr rfl))) (fun _ _ _ _ _ => pts_nil) (fun _ _ _ _ _ => (pe_lc (own := [("k", 6)]) (g := (gName 6)) (tt := tYes) (te := (tCall (spP R_l_num) [] E0 (tCons (tVar 1) (tCons (tVar 6) tNil)))) rfl sc_l_square.nd (pi_list (pv 5)) (blkOk_by (own := [("k", 6)]) (N := N_l_square) (by kernel_rfl)) (fun _ _ _ _ _ => (pg_name (i := 6) sc_l_square.nd rfl (by first | exact Or.inl rfl | exact Or.inr rfl))) (fun _ _ _ _ _ => pts_nil) (fun _ _ _ _ _ => (pe_cal C_l_num (hr.mono (by decide)) rfl (pa_cons (pv 1) (pa_cons (pv 6) pa_nil))))))) (pg_name (i := 4) sc_l_square.nd rfl (by first | exact Or.inl rfl | exact Or.inr rfl)))
  (pss_cons (ps_for PassesOwn.never rfl (pi_range1 rfl B.range (pa_cons (pv 2) pa_nil)) (pg_name (i := 7) sc_l_square.nd rfl (by first | exact Or.inl rfl | exact Or.inr rfl)) (pss_cons (ps_asg (pe_cal C_l_num (hr.mono (by decide)) rfl (pa_cons (pv 1) (pa_cons (pe_op op_add pe_int (pe_cal C_l_draw (hr.mono (by decide)) rfl (pa_cons (pv 0) (pa_cons (pe_ifExp (pt_cmpR op_eq (pv 1) pe_int (nomark _)) pe_int (pe_callB (call_min2 rfl) (by rfl) B.min (by decide +kernel) (pa_cons (pe_op op_sub (pv 1) pe_int) (pa_cons pe_int pa_nil)))) pa_nil)))) pa_nil))) (pg_name (i := 8) sc_l_square.nd rfl (by first | exact Or.inl rfl | exact Or.inr rfl)))
  (pss_one (ps_asg (pe_lc (own := [("u", 9)]) (g := (gName 9)) (tt := tYes) (te := (tCall (spP R_l_mul) [] E0 (tCons (tVar 1) (tCons (tVar 8) (tCons (tVar 9) tNil))))) rfl sc_l_square.nd (pi_list (pe_ix ix_list (pv 4) (pv 7) (fun _ _ => rfl))) (blkOk_by (own := [("u", 9)]) (N := N_l_square) (by kernel_rfl)) (fun _ _ _ _ _ => (pg_name (i := 9) sc_l_square.nd rfl (by first | exact Or.inl rfl | exact Or.inr rfl))) (fun _ _ _ _ _ => pts_nil) (fun _ _ _ _ _ => (pe_cal C_l_mul (hr.mono (by decide)) rfl (pa_cons (pv 1) (pa_cons (pv 8) (pa_cons (pv 9) pa_nil)))))) (pg_sub (pv 4) (pv 7) set_list)))))
  (pss_cons (ps_asg (pe_cal C_l_draw (hr.mono (by decide)) rfl (pa_cons (pv 0) (pa_cons (pv 2) pa_nil))) (pg_name (i := 7) sc_l_square.nd rfl (by first | exact Or.inl rfl | exact Or.inr rfl)))
  (pss_cons (ps_if (PW.pt (pw_and (pt_cmpR op_eq (pv 3) pe_int (nomark _)) (pw_and1 (pt_cmpR op_gt (pv 2) pe_int (nomark _))))) (pss_one (ps_asg (pe_callTy call_list_of (by rfl) B.list (by decide +kernel) (pa_cons (pe_ix ix_list (pv 4) (pe_op op_modN (pe_callTy call_int1 (by rfl) B.int (by decide +kernel) (pa_cons (pe_op op_add (pe_op op_add (pv 7) pe_int) (pe_cal C_l_draw (hr.mono (by decide)) rfl (pa_cons (pv 0) (pa_cons (pe_op op_sub (pv 2) pe_int) pa_nil)))) pa_nil)) (pv 2)) (fun _ _ => rfl)) pa_nil)) (pg_sub (pv 4) (pv 7) set_list))) pss_nil)
  (pss_cons (ps_if (PW.pt (pw_and (pt_cmpR op_eq (pv 3) pe_int (nomark _)) (pw_and1 (pt_cmpR op_gt (pv 2) pe_int (nomark _))))) (pss_one (ps_asg (pe_lc (own := [("t", 10)]) (g := (gName 10)) (tt := tYes) (te := (tCall (spP R_l_add) [] E0 (tCons (tVar 1) (tCons (tOp (rIxL K) (tOp (rIxL K) (tVar 4) (tOp rModI (tCB rInt1 (tCons (tOp rAddI (tVar 7) (tC (.int 1))) tNil)) (tVar 2))) (tVar 10)) (tCons (tOp (rIxL K) (tOp (rIxL K) (tVar 4) (tOp rModI (tCB rInt1 (tCons (tOp rAddI (tVar 7) (tC (.int 2))) tNil)) (tVar 2))) (tVar 10)) tNil))))) rfl sc_l_square.nd (pi_range1 rfl B.range (pa_cons (pv 2) pa_nil)) (blkOk_by (own := [("t", 10)]) (N := N_l_square) (by kernel_rfl)) (fun _ _ _ _ _ => (pg_name (i := 10) sc_l_square.nd rfl (by first | exact Or.inl rfl | exact Or.inr rfl))) (fun _ _ _ _ _ => pts_nil) (fun _ _ _ _ _ => (pe_cal C_l_add (hr.mono (by decide)) rfl (pa_cons (pv 1) (pa_cons (pe_ix ix_list (pe_ix ix_list (pv 4) (pe_op op_modN (pe_callTy call_int1 (by rfl) B.int (by decide +kernel) (pa_cons (pe_op op_add (pv 7) pe_int) pa_nil)) (pv 2)) (fun _ _ => rfl)) (pv 10) (fun _ _ => rfl)) (pa_cons (pe_ix ix_list (pe_ix ix_list (pv 4) (pe_op op_modN (pe_callTy call_int1 (by rfl) B.int (by decide +kernel) (pa_cons (pe_op op_add (pv 7) pe_int) pa_nil)) (pv 2)) (fun _ _ => rfl)) (pv 10) (fun _ _ => rfl)) pa_nil)))))) (pg_sub (pv 4) (pv 7) set_list))) pss_nil)
  (pss_cons (ps_if (PW.pt (pw_and (pt_cmpR op_eq (pv 3) pe_int (nomark _)) (pw_and1 (pt_cmpR op_eq (pe_cal C_l_draw (hr.mono (by decide)) rfl (pa_cons (pv 0) (pa_cons pe_int pa_nil))) pe_int (nomark _))))) (pss_one (ps_asg (pe_lc (own := [("line", 5)]) (g := (gName 5)) (tt := tYes) (te := (tLc (iRng1 (tCons (tVar 2) tNil)) (gName 10) tYes (tIf (tTest (tOp rEq (tVar 10) (tVar 7))) (tCall (spP R_l_num) [] E0 (tCons (tVar 1) (tCons (tC (.int 0)) tNil))) (tOp (rIxL K) (tVar 5) (tVar 10))) [10])) rfl sc_l_square.nd (pi_list (pv 4)) (blkOk_by (own := [("line", 5)]) (N := N_l_square) (by kernel_rfl)) (fun _ _ _ _ _ => (pg_name (i := 5) sc_l_square.nd rfl (by first | exact Or.inl rfl | exact Or.inr rfl))) (fun _ _ _ _ _ => pts_nil) (fun _ _ _ _ _ => (pe_lc (own := [("t", 10)]) (g := (gName 10)) (tt := tYes) (te := (tIf (tTest (tOp rEq (tVar 10) (tVar 7))) (tCall (spP R_l_num) [] E0 (tCons (tVar 1) (tCons (tC (.int 0)) tNil))) (tOp (rIxL K) (tVar 5) (tVar 10)))) rfl sc_l_square.nd (pi_range1 rfl B.range (pa_cons (pv 2) pa_nil)) (blkOk_by (own := [("t", 10)]) (N := N_l_square) (by kernel_rfl)) (fun _ _ _ _ _ => (pg_name (i := 10) sc_l_square.nd rfl (by first | exact Or.inl rfl | exact Or.inr rfl))) (fun _ _ _ _ _ => pts_nil) (fun _ _ _ _ _ => (pe_ifExp (pt_cmpR op_eq (pv 10) (pv 7) (nomark _)) (pe_cal C_l_num (hr.mono (by decide)) rfl (pa_cons (pv 1) (pa_cons pe_int pa_nil))) (pe_ix ix_list (pv 5) (pv 10) (fun _ _ => rfl))))))) (pg_name (i := 4) sc_l_square.nd rfl (by first | exact Or.inl rfl | exact Or.inr rfl)))) pss_nil)
  (pss_one (ps_ret (pv 4))))))))))), fun M ds P' j hR hq => ?_⟩
  obtain ⟨F, n, rfl, hn1, hn, rfl⟩ := hR
  refine ss_asgR (ev_draw rfl rfl ev_int (by decide)) ?_
  rintro _ ⟨form, rfl, hform⟩
  refine sd_whenP (et_test (Ev.r (ev_op (Ev.r (ev_var rfl)) (Ev.r ev_int) rv_eqI))) (fun _ => ?_) fun _ => ?_
  · refine sd_retR (Ev.r (ev_callJ rfl rfl (ea_cons (ev_var rfl) (ea_cons (ev_var rfl) (ea_cons (ev_var rfl) ea_nil))) fun ds e => ⟨F, n, n, e, hn1, hn, hn1, hn, rfl⟩)) hq fun d ⟨tab, e, hT⟩ => ⟨tab, e, hT.mono (by decide)⟩
  have src : EvI ⟨H, [j], M, some j, [], M, [], []⟩ (iList K (tOp (rIxT K) (tCall spChg [] E0 (tCons (tVar 0) (tCons (tVar 2) (tCons (tOp rAddI (tC (.int 2)) (tCall (spJ R_l_draw) [] E0 (tCons (tVar 0) (tCons (tC (.int 5)) tNil)))) (tCons (tTup (tCons (tC (.int 1)) (tCons (tUn rNegI (tC (.int 1))) (tCons (tC (.int 2)) (tCons (tUn rNegI (tC (.int 2))) tNil))))) tNil))))) (tC (.int 0))))
      [some (.inr j), some (.inl (.int F.p)), some (.inl (nD n)), some (.inl (nD form)), none, none, none, none, none, none, none] (fun its => ∃ xs, its = xs.map rowI ∧ ∃ B, Chg n 729 xs B) := by
    refine ei_listR (P := fun its => ∃ xs, its = xs.map rowI ∧ ∃ B, Chg n 729 xs B) (ev_opR (P1 := fun d => ∃ A B, d = .tup [.lst (A.map rowI), .lst (B.map rowI)] ∧ Chg n 729 A B) (P2 := (· = .int 0)) (Ev.r (ev_chg (n := n) rfl rfl (ea_consE (ev_var rfl) (ea_consP (P1 := fun d => ∃ m : Nat, d = nD m ∧ m ≤ 6) (ev_Dop ev_int (ev_draw rfl rfl ev_int (by decide)) fun i hi => rv_I0.mono fun d e => ⟨2 + i, by rw [e]; show D.int _ = D.int _; congr 1, by omega⟩) (ea_one ev_menu))) fun ds e => ?_)) (Ev.r ev_int) fun d1 d2 ⟨A, Bm, e1, hC⟩ e2 => ?_)
    · obtain ⟨_, rfl, _, _, rfl, ⟨m, rfl, hm⟩, _, rfl, e⟩ := e
      exact ⟨m, chgA_menu hn1 hn hm (by rw [e])⟩
    · subst e1 e2
      exact (rv_ixT (d := .lst (A.map rowI)) rfl).mono fun d e => ⟨_, e, A, rfl, Bm, hC⟩
  have conv : ∀ es : List D, (∃ xs : List (List Int), (∃ B, Chg n 729 xs B) ∧ All2 (fun r d => d = F.rowL (r.map F.ofInt)) xs es) → ∃ tab : List (List F.α), es = tab.map F.rowL ∧ TabOk F 12 8748 n n tab := fun es ⟨A, ⟨Bm, hC⟩, ha⟩ => by
    refine ⟨A.map fun r => r.map F.ofInt, by rw [ha.map, List.map_map]; rfl, by rw [List.length_map]; exact hC.lenA, fun t ht => ?_, fun t ht x hx => ?_⟩
    · obtain ⟨r, hr, rfl⟩ := List.mem_map.mp ht
      rw [List.length_map]; exact hC.widA r hr
    · obtain ⟨r, hr, rfl⟩ := List.mem_map.mp ht
      obtain ⟨k, hk, rfl⟩ := List.mem_map.mp hx
      exact numF_mono (numF_int (b := 729) (hC.bdA r hr k hk)) (by decide)
  refine ss_asgN ((en_lcR rowI (PX := fun A => ∃ B, Chg n 729 A B) (fun r d => d = F.rowL (r.map F.ofInt)) (EvI.o src) (fun A ⟨_, hC⟩ => by rw [hC.lenA]; omega) fun l acc A r ⟨_, hC⟩ hr => ⟨[5], _, eg_name, fun _ h => h,
        (EvN.evE (en_lst' r D.int (fun k => F.enc (F.ofInt k)) (ev_var rfl) (by rw [hC.widA r hr]; omega) fun l2 acc2 k hk => ⟨[6], _, eg_name, fun _ h => h, ev_call (ea_cons (ev_var rfl) (ea_cons (ev_var rfl) ea_nil)) ⟨F, k, rfl, rfl⟩⟩)).is (by show D.lst _ = D.lst _; rw [List.map_map]; rfl)⟩).mono conv) ?_
  rintro la _ ⟨tab0, rfl, hT0⟩ nla
  refine ss_for (ei_rng (n := n) (ea_cons (ev_var rfl) ea_nil) (by omega)) (fun H1 i c1 δ1 => ∃ (tab : List (List F.α)) (x5 x6 x7 x8 x9 x10 : Sl), TabOk F 12 (8748 * 3 ^ i) n n tab ∧ c1 = ⟨H, [j], M, some j, [], la :: M, [(la, tab.map F.rowL)], [(H1, [la, j])]⟩ ∧ δ1 = [some (.inr j), some (.inl (.int F.p)), some (.inl (nD n)), some (.inl (nD form)), some (.inr la), x5, x6, x7, x8, x9, x10])
    (fun H1 => ⟨tab0, _, _, _, _, _, _, hT0.mono (by decide), rfl, rfl⟩) (fun H1 i c1 δ1 hI => by obtain ⟨_, _, _, _, _, _, _, _, rfl, _⟩ := hI; exact ⟨rfl, fun b hb => .inl hb⟩) ?_ ?_
  · rintro H1 i d c1 δ1 hd ⟨tab, x5, x6, x7, x8, x9, x10, hT, rfl, rfl⟩
    have hi : i < n := by have := (List.getElem?_eq_some_iff.mp hd).1; simpa using this
    have ed : d = nD i := by
      rw [List.getElem?_map, List.getElem?_range hi] at hd
      exact (Option.some.inj hd).symm
    subst ed
    have p3 : 3 ^ i ≤ 729 := Nat.le_trans (Nat.pow_le_pow_right (by decide) (show i ≤ 6 by omega)) (by decide)
    refine ⟨[7], _, eg_name, ?_⟩
    refine ss_asgR (P := fun d => ∃ c0 : Int, d = F.enc (F.ofInt c0) ∧ (F.p = 0 → c0.natAbs ≤ 3)) (ev_callM (ea_consE (ev_var rfl) (ea_one (P1 := fun d => ∃ c0 : Int, d = .int c0 ∧ (F.p = 0 → c0.natAbs ≤ 3)) (ev_opR (P1 := (· = .int 1)) (P2 := fun d => ∃ i : Nat, d = nD i ∧ (F.p = 0 → i < 3)) (Ev.r ev_int)
      (Ev.r (ev_callJM rfl rfl (ea_one (P1 := fun d => ∃ N : Int, d = .int N ∧ 1 ≤ N ∧ (F.p = 0 → N = 3)) (ev_if (PB := (· = decide (F.p = 0))) (et_test (Ev.r (ev_op (Ev.r (ev_var rfl)) (Ev.r ev_int) rv_eqI))) (fun e => ev_int.mono fun d e2 => ⟨3, e2, by decide, fun _ => rfl⟩) (fun e => (ev_cb2 (Ev.r (ev_op (Ev.r (ev_var rfl)) (Ev.r ev_int) rv_I0)) (Ev.r ev_int) rc_min).mono fun d e2 => ⟨_, e2, by have := p_ge (of_decide_eq_false e.symm); split <;> omega, fun z => absurd z (of_decide_eq_false e.symm)⟩)))
        fun ds e => by
          obtain ⟨_, rfl, N, rfl, h1, h3⟩ := e
          exact ⟨_, ⟨N, rfl, h1, rfl⟩, fun d ⟨i, e, hi⟩ => ⟨i, e, fun z => by have := h3 z; omega⟩⟩)) fun d1 d2 e1 ⟨i, e2, hi⟩ => by
        subst e1 e2
        exact rv_I0.mono fun d e => ⟨_, e, fun z => by have := hi z; omega⟩))) fun ds e => by
          obtain ⟨_, rfl, _, rfl, c0, rfl, h3⟩ := e
          exact ⟨_, ⟨F, c0, rfl, rfl⟩, fun d e => ⟨c0, e, h3⟩⟩) ?_
    rintro _ ⟨c0, rfl, h3⟩
    have hl := hT.len
    have wi := hT.wid _ (mem_getD (r := tab) (i := i) (by omega) [])
    have ni := hT.num _ (mem_getD (r := tab) (i := i) (by omega) [])
    have ai := at_row (F := F) (tab := tab) (i := i) (by omega)
    generalize tab.getD i [] = r at *
    refine sd_setL rfl ((EvN.evE (en_lst' r F.enc (fun u => F.enc (F.ofInt c0 * u)) (ev_op (evr_own (l := la) rfl List.mem_cons_self) (Ev.r (ev_var rfl)) (rv_ixL ai)) (by omega) fun l acc u hu => ⟨[9], _, eg_name, fun _ h => h, ev_call (ea_cons (ev_var rfl) (ea_cons (ev_var rfl) (ea_cons (ev_var rfl) ea_nil))) ⟨F, F.ofInt c0, u, 30, rfl, ofInt_eb (fun z => Nat.lt_of_le_of_lt (h3 z) (by decide)) (by decide), numF_eb (n := 30) (ni u hu) (by decide) (Nat.lt_of_le_of_lt (Nat.mul_le_mul_left 8748 p3) (by decide)) (by decide), by decide, rfl⟩⟩)).is (d' := F.rowL (r.map (F.ofInt c0 * ·))) (by show D.lst _ = D.lst _; rw [List.map_map]; rfl)) rfl (fun _ _ => ev_var rfl) (ix_nat (j := i) (by rw [List.length_map]; omega)) fun d e => ?_
    subst e
    rw [← List.map_set]
    have e3 : 8748 * 3 ^ (i + 1) = 8748 * 3 ^ i * 3 := by rw [Nat.pow_succ, Nat.mul_assoc]
    refine nx_I ⟨_, _, _, _, _, _, _, ?_, rfl, rfl⟩
    rw [e3]
    exact (hT.mono (by omega)).set i (by rw [List.length_map]; exact wi) fun x hx => by
      obtain ⟨u, hu, rfl⟩ := List.mem_map.mp hx
      exact numF_mul (ni u hu) h3
  · rintro H1 c1 δ1 ⟨tab, x5, x6, x7, x8, x9, x10, hT, rfl, rfl⟩
    rw [List.length_map, List.length_range] at hT
    have hT := hT.mono (b := 6377292) (Nat.le_trans (Nat.mul_le_mul_left 8748 (Nat.pow_le_pow_right (by decide) hn)) (by decide))
    refine ss_asgR (ev_draw rfl rfl (ev_var rfl) (by omega)) ?_
    rintro _ ⟨i, rfl, hi⟩
    have hi : i < n := by omega
    have eb : ∀ {r : List F.α} {t : Nat}, (∀ x ∈ r, NumF 12 6377292 F x) → EbF 30 F (g r t) := fun {r t} h => numF_eb (n := 30) (num_g h t) (by decide) (by decide) (by decide)
    -- a row once more
    refine ss_ifQ (fun c' δ' => ∃ (tab : List (List F.α)) (x5 x6 x8 x9 x10 : Sl), TabOk F 12 6377292 n n tab ∧ c' = ⟨H, [j], M, some j, [], la :: M, [(la, tab.map F.rowL)], []⟩ ∧ δ' = [some (.inr j), some (.inl (.int F.p)), some (.inl (nD n)), some (.inl (nD form)), some (.inr la), x5, x6, some (.inl (nD i)), x8, x9, x10]) ?_
      (et_andE (et_test (Ev.r (ev_op (Ev.r (ev_var rfl)) (Ev.r ev_int) rv_eqI))) fun _ => et_test (Ev.r (ev_op (Ev.r (ev_var rfl)) (Ev.r ev_int) rv_B0))) (fun nxt e => ?_) fun nxt _ => sd_next (nxt _ _ ⟨tab, _, _, _, _, _, hT, rfl, rfl⟩)
    · clear hT
      rintro c1 δ1 ⟨tab, x5, x6, x8, x9, x10, hT, rfl, rfl⟩
      -- a row the sum of two
      refine ss_ifQ (fun c' δ' => ∃ (tab : List (List F.α)) (x5 x6 x8 x9 x10 : Sl), TabOk F 12 sqB n n tab ∧ c' = ⟨H, [j], M, some j, [], la :: M, [(la, tab.map F.rowL)], []⟩ ∧ δ' = [some (.inr j), some (.inl (.int F.p)), some (.inl (nD n)), some (.inl (nD form)), some (.inr la), x5, x6, some (.inl (nD i)), x8, x9, x10]) ?_
        (et_andE (et_test (Ev.r (ev_op (Ev.r (ev_var rfl)) (Ev.r ev_int) rv_eqI))) fun _ => et_test (Ev.r (ev_op (Ev.r (ev_var rfl)) (Ev.r ev_int) rv_B0))) (fun nxt e => ?_) fun nxt _ => sd_next (nxt _ _ ⟨tab, _, _, _, _, _, hT.mono (by decide), rfl, rfl⟩)
      · clear hT
        rintro c1 δ1 ⟨tab, x5, x6, x8, x9, x10, hT, rfl, rfl⟩
        -- a column of zeros
        refine ss_ifQ (fun c' δ' => ∃ (l : Addr) (M1 : List Addr) (ow : List (Addr × List D)) (tab : List (List F.α)), TabOk F 12 sqB n n tab ∧ c' = ⟨H, [j], M, some j, [], M1, (l, tab.map F.rowL) :: ow, []⟩ ∧ δ'[4]? = some (some (.inr l))) ?_
          (et_and (P2 := fun _ => True) (et_test (Ev.r (ev_op (Ev.r (ev_var rfl)) (Ev.r ev_int) rv_eqI))) (fun _ => et_drawEq (ev_draw rfl rfl ev_int (by decide))) fun _ _ _ => trivial) (fun nxt _ => ?_) fun nxt _ => sd_next (nxt _ _ ⟨la, _, _, tab, hT, rfl, rfl⟩)
        · clear hT
          rintro c1 δ1 ⟨l, M1, ow, tab, hT, rfl, h4⟩
          exact sd_ret (evr_own h4 List.mem_cons_self) hq ⟨tab, rfl, hT⟩
        · have lt := hT.len
          refine sd_asgN (en_lcM tab F.rowL (fun r => F.rowL ((List.range n).map fun t => if t = i then (0 : F.α) else g r t)) (ei_own (l := la) rfl List.mem_cons_self) (by omega) fun l acc r hr => ⟨[5], _, eg_name, fun _ h => h,
            (EvN.evE (en_ran (n := n) (fun t => F.enc (if t = i then (0 : F.α) else g r t)) (ea_cons (ev_var rfl) ea_nil) (by omega) fun l2 acc2 t ht => ⟨[10], _, eg_name, fun _ h => h, ev_if (PB := (· = decide ((t : Int) = (i : Int)))) (et_test (Ev.r (ev_op (Ev.r (ev_var rfl)) (Ev.r (ev_var rfl)) rv_eqI)))
              (fun e => (ev_call (ea_cons (ev_var rfl) (ea_cons ev_int ea_nil)) ⟨F, 0, rfl, rfl⟩).is (by
                have := of_decide_eq_true e.symm
                rw [if_pos (by omega)]; exact congrArg F.enc (ofInt0 F)))
              (fun e => (ev_op (Ev.r (ev_var rfl)) (Ev.r (ev_var rfl)) (rv_ixL (at_enc (by rw [hT.wid r hr]; exact ht)))).is (by
                have := of_decide_eq_false e.symm
                rw [if_neg (by omega)]))⟩)).is (by show D.lst _ = D.lst _; rw [List.map_map]; rfl)⟩) fun l ds e nl => ?_
          subst e
          refine nxt _ _ ⟨l, l :: la :: M, [(la, tab.map F.rowL)], tab.map fun r => (List.range n).map fun t => if t = i then (0 : F.α) else g r t, ⟨by rw [List.length_map]; exact lt, fun t ht => ?_, fun t ht x hx => ?_⟩, ?_, rfl⟩
          · obtain ⟨r, _, rfl⟩ := List.mem_map.mp ht
            simp
          · obtain ⟨r, hr, rfl⟩ := List.mem_map.mp ht
            obtain ⟨k, _, rfl⟩ := List.mem_map.mp hx
            split
            · exact numF_zero F
            · exact num_g (hT.num r hr) k
          · show (⟨_, _, _, _, _, _, (l, _) :: _, _⟩ : Ct) = _
            rw [List.map_map]; rfl
      · have h2n : 2 < n := by have := of_decide_eq_true (Bool.and_eq_true_iff.mp e.symm).2; omega
        obtain ⟨i1, e1, h1⟩ := mod_nD (x := (i : Int) + 1) (n := (n : Int)) (by omega)
        obtain ⟨i2, e2, h2⟩ := mod_nD (x := (i : Int) + 2) (n := (n : Int)) (by omega)
        have hl := hT.len
        have w1 := hT.wid _ (mem_getD (i := i1) (by omega) []); have w2 := hT.wid _ (mem_getD (i := i2) (by omega) [])
        have n1 := hT.num _ (mem_getD (i := i1) (by omega) []); have n2 := hT.num _ (mem_getD (i := i2) (by omega) [])
        have a1 := at_row (F := F) (tab := tab) (i := i1) (by omega); have a2 := at_row (F := F) (tab := tab) (i := i2) (by omega)
        generalize tab.getD i1 [] = r1 at *
        generalize tab.getD i2 [] = r2 at *
        have s1 := fun t => numF_add (num_g n1 t) (num_g n2 t)
        refine sd_setL rfl ((EvN.evE (en_ran (n := n) (fun t => F.enc (g r1 t + g r2 t)) (ea_cons (ev_var rfl) ea_nil) (by omega) fun l2 acc t ht => ⟨[10], _, eg_name, fun _ h => h, ev_call (ea_cons (ev_var rfl) (ea_cons
          (ev_op (Ev.r (ev_op (evr_own (l := la) rfl (List.mem_cons_of_mem _ List.mem_cons_self)) (Ev.r ((ev_op (Ev.r (ev_cb (Ev.r (ev_op (Ev.r (ev_var rfl)) (Ev.r ev_int) rv_I0)) rc_int1)) (Ev.r (ev_var rfl)) (rv_I (by omega))).is e1)) (rv_ixL a1))) (Ev.r (ev_var rfl)) (rv_ixL (at_enc (by omega)))) (ea_cons
          (ev_op (Ev.r (ev_op (evr_own (l := la) rfl (List.mem_cons_of_mem _ List.mem_cons_self)) (Ev.r ((ev_op (Ev.r (ev_cb (Ev.r (ev_op (Ev.r (ev_var rfl)) (Ev.r ev_int) rv_I0)) rc_int1)) (Ev.r (ev_var rfl)) (rv_I (by omega))).is e2)) (rv_ixL a2))) (Ev.r (ev_var rfl)) (rv_ixL (at_enc (by omega)))) ea_nil)))
          ⟨F, g r1 t, g r2 t, 30, rfl, eb n1, eb n2, by decide, rfl⟩⟩)).is (d' := F.rowL ((List.range n).map fun t => g r1 t + g r2 t)) (by show D.lst _ = D.lst _; rw [List.map_map]; rfl)) rfl (fun _ _ => ev_var rfl) (ix_nat (j := i) (by rw [List.length_map]; omega)) fun d e => ?_
        subst e
        rw [← List.map_set]
        exact nxt _ _ ⟨_, _, _, _, _, _, (hT.mono (by decide)).set i (by simp) (fun x hx => by obtain ⟨t, _, rfl⟩ := List.mem_map.mp hx; exact numF_mono (s1 t) (by decide)), rfl, rfl⟩
    · have h1n : 1 < n := by have := of_decide_eq_true (Bool.and_eq_true_iff.mp e.symm).2; omega
      have hl := hT.len
      refine sd_setL (P := fun d => ∃ r : List F.α, d = F.rowL r ∧ r.length = n ∧ ∀ x ∈ r, NumF 12 6377292 F x) rfl ((EvN.ev (en_listR (P1 := fun d => ∃ r : List F.α, d = F.rowL r ∧ r.length = n ∧ ∀ x ∈ r, NumF 12 6377292 F x) (P2 := fun ds => ∃ r : List F.α, ds = r.map F.enc ∧ r.length = n ∧ ∀ x ∈ r, NumF 12 6377292 F x) (Ev.r (ev_opR (P1 := (· = .lst (tab.map F.rowL))) (P2 := fun d => ∃ jj : Nat, d = nD jj ∧ jj < n ∧ jj ≠ i) (evr_own (l := la) rfl List.mem_cons_self)
          (Ev.r (ev_opR (P1 := fun d => ∃ e : Nat, d = .int ((i : Int) + 1 + (e : Int)) ∧ (e : Int) < n - 1) (P2 := (· = nD n)) (Ev.r (ev_cb1 (P1 := fun d => ∃ e : Nat, d = .int ((i : Int) + 1 + (e : Int)) ∧ (e : Int) < n - 1) (Ev.r (ev_Dop (ev_op (Ev.r (ev_var rfl)) (Ev.r ev_int) rv_I0) (ev_draw rfl rfl (ev_op (Ev.r (ev_var rfl)) (Ev.r ev_int) rv_I0) (by omega)) fun e he => rv_I0.mono fun d q => ⟨e, q, he⟩)) fun d hd => by
            obtain ⟨e, rfl, he⟩ := hd
            exact rc_int1.mono fun d q => ⟨e, q, he⟩)) (Ev.r (ev_var rfl)) fun d1 d2 ⟨e, e1, he⟩ e2 => by
            subst e1 e2
            exact (rv_I (by omega)).mono fun d q => by rw [q]; exact other_ne hi he)) fun d1 d2 e1 ⟨jj, e2, hjj, _⟩ => by
            subst e1 e2
            exact (rv_ixL (at_row (by omega))).mono fun d e => ⟨_, e, hT.wid _ (mem_getD (by omega) []), hT.num _ (mem_getD (by omega) [])⟩)) fun d ⟨r, e, a, b⟩ => ⟨r.map F.enc, by rw [e]; rfl, r, rfl, a, b⟩)).mono fun d ⟨ds, e, r, e2, a, b⟩ => ⟨r, by rw [e, e2]; rfl, a, b⟩) rfl (fun _ _ => ev_var rfl) (ix_nat (j := i) (by rw [List.length_map]; omega)) fun d ⟨r, e, a, b⟩ => ?_
      subst e
      rw [← List.map_set]
      exact nxt _ _ ⟨_, _, _, _, _, _, hT.set i a b, rfl, rfl⟩
end
end E
namespace E
open PySem PySem.Spec PyProof.Rows L2 TL
section
variable {c : Ct} {δ : List Sl} {Dn : Ends}
/-- a for over a source told by a relation -/
theorem ss_forR {wi : TI} {g : TG} {tb u : TS} {PI : List D → Prop} (hi : EvI c wi δ PI) (I : List D → Hp → Nat → Ct → List Sl → Prop) (h0 : ∀ its H1, PI its → I its H1 0 (c.loop H1) δ)
    (hk : ∀ its H1 i c1 δ1, I its H1 i c1 δ1 → c1.kp = (H1, c.wl) :: c.kp ∧ (∀ b ∈ c1.M, b ∈ c.M ∨ H1 b = none))
    (hs : ∀ its H1 i d c1 δ1, PI its → its[i]? = some d → I its H1 i c1 δ1 → ∃ js δ2, EvG g js δ1 d δ2 ∧ Sd c1 tb δ2 { Dn with nx := NxI (I its H1 (i + 1)), ct := NxI (I its H1 (i + 1)), bk := u Dn })
    (hd : ∀ its H1 c1 δ1, PI its → I its H1 its.length c1 δ1 → Sd { c1 with kp := c.kp } u δ1 Dn) : Sd c (tSeq (tFor wi g tb) u) δ Dn := fun σ H s => hi σ H _ s fun J H1 its' s1 e1 src p => by
  refine ⟨fun i m σ H => m = its'.length - i ∧ i ≤ its'.length ∧ ∃ c1 δ1, I its' H1 i c1 δ1 ∧ Sta c1 δ1 σ H, ⟨its'.length, rfl, Nat.zero_le _, c.loop H1, δ, h0 its' H1 p, s1.loop⟩, ?_⟩
  rintro i m σ2 H2 ⟨rfl, hi2, c1, δ1, hI, st⟩
  obtain ⟨k1, k2⟩ := hk its' H1 i c1 δ1 hI
  have ex : Ext c.M H1 H2 := (st.kps (H1, c.wl) (by rw [k1]; exact List.mem_cons_self)).sub s1.wlM
  obtain ⟨go, stop⟩ := src H2 c1.M ex st.good k2
  by_cases hlt : i < its'.length
  · obtain ⟨go1, go2⟩ := go i hlt
    refine .inr ⟨go1, NxI (I its' H1 (i + 1)), fun σ3 H3 ⟨c3, δ3, i3, s3⟩ => ⟨its'.length - (i + 1), by omega, rfl, hlt, c3, δ3, i3, s3⟩, fun x H3 y => ?_⟩
    obtain ⟨sm, d, hdd, rd⟩ := go2 x H3 y
    obtain ⟨js, δ2, hg, hb⟩ := hs its' H1 i d c1 δ1 p hdd hI
    exact hg c1 σ2 H3 x _ (st.same sm) rd fun σ4 s4 _ _ => hb σ4 H3 s4
  · have ei : i = its'.length := by omega
    subst ei
    exact .inl ⟨stop, hd its' H1 c1 δ1 p hI σ2 H2 (st.unloop k1)⟩
theorem ei_rngR {ta : TA} {PN : Nat → Prop} (h : EvA c ta δ (fun ds => ∃ n : Nat, ds = [nD n] ∧ PN n)) (hn : ∀ n, PN n → n ≤ 100000) : EvI c (iRng1 ta) δ (fun its => ∃ n : Nat, its = (List.range n).map nD ∧ PN n) := fun σ H R s q => h σ H _ s fun vs H1 ds s1 e1 r1 p1 => by
  obtain ⟨n, rfl, pn⟩ := p1
  have := hn n pn
  cases r1 with
  | cons a t =>
    cases t; cases a
    exact ⟨(n : Int), rfl, by omega, by omega, q _ H1 _ s1 e1 (src_ran c H1 0 (n : Int).toNat) ⟨n, by rw [← ran_nD]; rfl, pn⟩⟩
end
theorem next_ne {n i : Nat} (hi : i < n) (hn : 2 ≤ n) : ∃ jj : Nat, D.int (((i : Int) + 1).fmod (n : Int)) = nD jj ∧ jj < n ∧ jj ≠ i := by
  have := other_ne (e := 0) hi (by omega)
  simpa using this
theorem rowL_qm (A : List (List Int)) : D.lst ((qm A).map Fm.q.rowL) = D.lst (A.map fun r => D.lst (r.map fun k : Int => encQ (k : Rat))) := by
  have e : ((A.map ir).map fun r : List Rat => D.lst (r.map encQ)) = A.map fun r => D.lst (r.map fun k : Int => encQ (k : Rat)) := by
    rw [List.map_map]
    exact List.map_congr_left fun r _ => by show D.lst ((r.map _).map _) = _; rw [List.map_map]; rfl
  exact congrArg D.lst e
theorem row_qm (A : List (List Int)) : tabD .q (qm A) = D.tup (A.map fun r => D.tup (r.map fun k : Int => encQ (k : Rat))) := by
  have e : ((A.map ir).map fun r : List Rat => D.tup (r.map encQ)) = A.map fun r => D.tup (r.map fun k : Int => encQ (k : Rat)) := by
    rw [List.map_map]
    exact List.map_congr_left fun r _ => by show D.tup ((r.map _).map _) = _; rw [List.map_map]; rfl
  exact congrArg D.tup e
theorem b10 : Bt 34 ((10 : Int) ^ (10 : Int).toNat - 33) := by show ((10 : Int) ^ (10 : Int).toNat - 33).natAbs < 2 ^ 34; decide
section
variable {P : Program} {w : World} {K : PySem.W.Frag} {mg : Str → Option Value} {base : Heap}
abbrev s_l_long : Stmt := topS 73
abbrev N_l_long : List Str := ["jar", "wide", "great", "k", "to", "back", "i", "j", "t", "line"]
abbrev p_l_long : List Str := ["jar", "wide"]
theorem sc_l_long : FnScope N_l_long p_l_long (defScope s_l_long) := ⟨rfl, rfl, rfl, by decide +kernel, rfl, by decide +kernel, by decide +kernel⟩
def R_l_long (ds : List D) (P : D → Prop) : Prop := ∃ n : Nat, ds = [nD n] ∧ 2 ≤ n ∧ n ≤ 3 ∧ P = fun d => ∃ A Bm, d = .tup [.lst ((qm A).map Fm.q.rowL), tabD .q (qm Bm)] ∧ Chg n (729 + 2 ^ 211 * 729) A Bm
theorem c_l_long (h : Has K mg "_law_long" s_l_long p_l_long) (B : Bi mg) (C_l_draw : Cal P w K mg base "_law_draw" 41 p_l_draw (spJ R_l_draw)) (C_l_change : Cal P w K mg base "_law_change" 43 p_l_change spChg) : Cal P w K mg base "_law_long" 44 p_l_long (spJ R_l_long) := by
  refine mkJ h sc_l_long (fun ds P h => by obtain ⟨_, rfl, _⟩ := h; rfl) (by decide) fun cdv A outer s H Q E f hr => ⟨(tSeq (tAsg (tC (.int 1)) (gName 2))
  (tSeq (tFor (iRng1 (tCons (tOp rAddI (tC (.int 1)) (tCall (spJ R_l_draw) [] E0 (tCons (tVar 0) (tCons (tC (.int 6)) tNil)))) tNil)) (gName 3) (tAsg (tOp rAddI (tOp rMulI (tVar 2) (tOp rSubI (tOp rPowI (tC (.int 10)) (tC (.int 10))) (tC (.int 33)))) (tCall (spJ R_l_draw) [] E0 (tCons (tVar 0) (tCons (tC (.int 9999999967)) tNil)))) (gName 2)))
  (tSeq (tAsg (tCall spChg [] E0 (tCons (tVar 0) (tCons (tVar 1) (tCons (tOp rAddI (tC (.int 1)) (tCall (spJ R_l_draw) [] E0 (tCons (tVar 0) (tCons (tC (.int 2)) tNil)))) (tCons (tTup (tCons (tC (.int 1)) (tCons (tUn rNegI (tC (.int 1))) (tCons (tC (.int 2)) (tCons (tUn rNegI (tC (.int 2))) tNil))))) tNil))))) (gTup K 2 (gCons (gName 4) (gCons (gName 5) gNil))))
  (tSeq (tAsg (tCall (spJ R_l_draw) [] E0 (tCons (tVar 0) (tCons (tVar 1) tNil))) (gName 6))
  (tSeq (tAsg (tOp rModI (tCB rInt1 (tCons (tOp rAddI (tVar 6) (tC (.int 1))) tNil)) (tVar 1)) (gName 7))
  (tSeq (tAsg (tLc (iRng1 (tCons (tVar 1) tNil)) (gName 8) tYes (tOp rAddI (tOp (rIxL K) (tOp (rIxL K) (tVar 4) (tVar 6)) (tVar 8)) (tOp rMulI (tVar 2) (tOp (rIxL K) (tOp (rIxL K) (tVar 4) (tVar 7)) (tVar 8)))) [8]) (gSub (tVar 4) (tVar 6) rSetL))
  (tSeq (tFor (iRng1 (tCons (tVar 1) tNil)) (gName 8) (tAsg (tOp rSubI (tOp (rIxL K) (tOp (rIxL K) (tVar 5) (tVar 8)) (tVar 7)) (tOp rMulI (tVar 2) (tOp (rIxL K) (tOp (rIxL K) (tVar 5) (tVar 8)) (tVar 6)))) (gSub (tOp (rIxL K) (tVar 5) (tVar 8)) (tVar 7) rSetL)))
  (tRet (tTup (tCons (tLc (iList K (tVar 4)) (gName 9) tYes (tLc (iList K (tVar 9)) (gName 3) tYes (tTup (tCons (tVar 3) (tCons (tC (.int 1)) tNil))) [3]) [9]) (tCons (tCB (rTupQ K) (tCons (tLc (iList K (tVar 5)) (gName 9) tYes (tCB (rTupQ K) (tCons (tLc (iList K (tVar 9)) (gName 3) tYes (tTup (tCons (tVar 3) (tCons (tC (.int 1)) tNil))) [3]) tNil)) [9]) tNil)) tNil))))))))))),
  (pss_cons (ps_asg pe_int (pg_name (i := 2) sc_l_long.nd rfl (by first | exact Or.inl rfl | exact Or.inr rfl)))
  (pss_cons (ps_for PassesOwn.never rfl (pi_range1 rfl B.range (pa_cons (pe_op op_add pe_int (pe_cal C_l_draw (hr.mono (by decide)) rfl (pa_cons (pv 0) (pa_cons pe_int pa_nil)))) pa_nil)) (pg_name (i := 3) sc_l_long.nd rfl (by first | exact Or.inl rfl | exact Or.inr rfl)) (pss_one (ps_asg (pe_op op_add (pe_op op_mulI (pv 2) (pe_op op_sub (pe_op op_pow pe_int pe_int) pe_int)) (pe_cal C_l_draw (hr.mono (by decide)) rfl (pa_cons (pv 0) (pa_cons pe_int pa_nil)))) (pg_name (i := 2) sc_l_long.nd rfl (by first | exact Or.inl rfl | exact Or.inr rfl)))))
  (pss_cons (ps_asg (pe_cal C_l_change (hr.mono (by decide)) rfl (pa_cons (pv 0) (pa_cons (pv 1) (pa_cons (pe_op op_add pe_int (pe_cal C_l_draw (hr.mono (by decide)) rfl (pa_cons (pv 0) (pa_cons pe_int pa_nil)))) (pa_cons (pe_tup (pa_cons pe_int (pa_cons (pe_un un_neg pe_int) (pa_cons pe_int (pa_cons (pe_un un_neg pe_int) pa_nil))))) pa_nil))))) (pg_tup rfl (pgs_cons (pg_name (i := 4) sc_l_long.nd rfl (by first | exact Or.inl rfl | exact Or.inr rfl)) (pgs_cons (pg_name (i := 5) sc_l_long.nd rfl (by first | exact Or.inl rfl | exact Or.inr rfl)) pgs_nil))))
  (pss_cons (ps_asg (pe_cal C_l_draw (hr.mono (by decide)) rfl (pa_cons (pv 0) (pa_cons (pv 1) pa_nil))) (pg_name (i := 6) sc_l_long.nd rfl (by first | exact Or.inl rfl | exact Or.inr rfl)))
  (pss_cons (ps_asg (pe_op op_modN (pe_callTy call_int1 (by rfl) B.int (by decide +kernel) (pa_cons (pe_op op_add (pv 6) pe_int) pa_nil)) (pv 1)) (pg_name (i := 7) sc_l_long.nd rfl (by first | exact Or.inl rfl | exact Or.inr rfl)))
  (pss_cons (ps_asg (pe_lc (own := [("t", 8)]) (g := (gName 8)) (tt := tYes) (te := (tOp rAddI (tOp (rIxL K) (tOp (rIxL K) (tVar 4) (tVar 6)) (tVar 8)) (tOp rMulI (tVar 2) (tOp (rIxL K) (tOp (rIxL K) (tVar 4) (tVar 7)) (tVar 8))))) rfl sc_l_long.nd (pi_range1 rfl B.range (pa_cons (pv 1) pa_nil)) (blkOk_by (own := [("t", 8)]) (N := N_l_long) (by kernel_rfl)) (fun _ _ _ _ _ => (pg_name (i := 8) sc_l_long.nd rfl (by first | exact Or.inl rfl | exact Or.inr rfl))) (fun _ _ _ _ _ => pts_nil) (fun _ _ _ _ _ => (pe_op op_add (pe_ix ix_list (pe_ix ix_list (pv 4) (pv 6) (fun _ _ => rfl)) (pv 8) (fun _ _ => rfl)) (pe_op op_mulI (pv 2) (pe_ix ix_list (pe_ix ix_list (pv 4) (pv 7) (fun _ _ => rfl)) (pv 8) (fun _ _ => rfl)))))) (pg_sub (pv 4) (pv 6) set_list))
  (pss_cons (ps_for PassesOwn.never rfl (pi_range1 rfl B.range (pa_cons (pv 1) pa_nil)) (pg_name (i := 8) sc_l_long.nd rfl (by first | exact Or.inl rfl | exact Or.inr rfl)) (pss_one (ps_asg (pe_op op_sub (pe_ix ix_list (pe_ix ix_list (pv 5) (pv 8) (fun _ _ => rfl)) (pv 7) (fun _ _ => rfl)) (pe_op op_mulI (pv 2) (pe_ix ix_list (pe_ix ix_list (pv 5) (pv 8) (fun _ _ => rfl)) (pv 6) (fun _ _ => rfl)))) (pg_sub (pe_ix ix_list (pv 5) (pv 8) (fun _ _ => rfl)) (pv 7) set_list))))
  (pss_one (ps_ret (pe_tup (pa_cons (pe_lc (own := [("line", 9)]) (g := (gName 9)) (tt := tYes) (te := (tLc (iList K (tVar 9)) (gName 3) tYes (tTup (tCons (tVar 3) (tCons (tC (.int 1)) tNil))) [3])) rfl sc_l_long.nd (pi_list (pv 4)) (blkOk_by (own := [("line", 9)]) (N := N_l_long) (by kernel_rfl)) (fun _ _ _ _ _ => (pg_name (i := 9) sc_l_long.nd rfl (by first | exact Or.inl rfl | exact Or.inr rfl))) (fun _ _ _ _ _ => pts_nil) (fun _ _ _ _ _ => (pe_lc (own := [("k", 3)]) (g := (gName 3)) (tt := tYes) (te := (tTup (tCons (tVar 3) (tCons (tC (.int 1)) tNil)))) rfl sc_l_long.nd (pi_list (pv 9)) (blkOk_by (own := [("k", 3)]) (N := N_l_long) (by kernel_rfl)) (fun _ _ _ _ _ => (pg_name (i := 3) sc_l_long.nd rfl (by first | exact Or.inl rfl | exact Or.inr rfl))) (fun _ _ _ _ _ => pts_nil) (fun _ _ _ _ _ => (pe_tup (pa_cons (pv 3) (pa_cons pe_int pa_nil))))))) (pa_cons (pe_callTy call_tuple_of (by rfl) B.tuple (by decide +kernel) (pa_cons (pe_lc (own := [("line", 9)]) (g := (gName 9)) (tt := tYes) (te := (tCB (rTupQ K) (tCons (tLc (iList K (tVar 9)) (gName 3) tYes (tTup (tCons (tVar 3) (tCons (tC (.int 1)) tNil))) [3]) tNil))) rfl sc_l_long.nd (pi_list (pv 5)) (blkOk_by (own := [("line", 9)]) (N := N_l_long) (by kernel_rfl)) (fun _ _ _ _ _ => (pg_name (i := 9) sc_l_long.nd rfl (by first | exact Or.inl rfl | exact Or.inr rfl))) (fun _ _ _ _ _ => pts_nil) (fun _ _ _ _ _ => (pe_callTy call_tuple_of (by rfl) B.tuple (by decide +kernel) (pa_cons (pe_lc (own := [("k", 3)]) (g := (gName 3)) (tt := tYes) (te := (tTup (tCons (tVar 3) (tCons (tC (.int 1)) tNil)))) rfl sc_l_long.nd (pi_list (pv 9)) (blkOk_by (own := [("k", 3)]) (N := N_l_long) (by kernel_rfl)) (fun _ _ _ _ _ => (pg_name (i := 3) sc_l_long.nd rfl (by first | exact Or.inl rfl | exact Or.inr rfl))) (fun _ _ _ _ _ => pts_nil) (fun _ _ _ _ _ => (pe_tup (pa_cons (pv 3) (pa_cons pe_int pa_nil))))) pa_nil)))) pa_nil)) pa_nil)))))))))))), fun M ds P' j hR hq => ?_⟩
  obtain ⟨n, rfl, hn2, hn3, rfl⟩ := hR
  refine ss_asg ev_int ?_
  refine ss_forR (ei_rngR (PN := fun m => m ≤ 6) (ea_one (P1 := fun d => ∃ m : Nat, d = nD m ∧ m ≤ 6) (ev_Dop ev_int (ev_draw rfl rfl ev_int (by decide)) fun i hi => rv_I0.mono fun d e => ⟨1 + i, by rw [e]; show D.int _ = D.int _; congr 1, by omega⟩) |>.mono fun ds ⟨d, e, m, e2, hm⟩ => ⟨m, by rw [e, e2], hm⟩) (fun m hm => by omega))
    (fun its H1 k c1 δ1 => ∃ (G : Int) (x3 : Sl), Bt (1 + 35 * k) G ∧ c1 = Ct.loop ⟨H, [j], M, some j, [], M, [], []⟩ H1 ∧ δ1 = [some (.inr j), some (.inl (nD n)), some (.inl (.int G)), x3, none, none, none, none, none, none])
    (fun its H1 _ => ⟨1, _, by show (1 : Int).natAbs < _; decide, rfl, rfl⟩) (fun its H1 k c1 δ1 hI => by obtain ⟨_, _, _, rfl, _⟩ := hI; exact ⟨rfl, fun b hb => .inl hb⟩) ?_ ?_
  · rintro its H1 k d c1 δ1 ⟨m, rfl, hm⟩ hd ⟨G, x3, hG, rfl, rfl⟩
    have hk : k < m := by have := (List.getElem?_eq_some_iff.mp hd).1; simpa using this
    refine ⟨[3], _, eg_name, ?_⟩
    refine sd_asgR (ev_Dop (ev_op (Ev.r (ev_var rfl)) (Ev.r (ev_op (Ev.r (ev_op (Ev.r ev_int) (Ev.r ev_int) (rv_I ⟨by decide, by decide, by decide⟩))) (Ev.r ev_int) rv_I0)) (rv_I (hG.cm b10 (by omega)))) (ev_draw rfl rfl ev_int (by decide)) fun i hi => rv_I0.mono (P' := fun d => ∃ G : Int, d = .int G ∧ Bt (1 + 35 * (k + 1)) G) fun d e => ⟨_, e, ?_⟩) fun d ⟨G, e, hG⟩ => by
      subst e
      exact nx_I ⟨G, _, hG, rfl, rfl⟩
    have hi2 : Bt (1 + 35 * k + 34) (i : Int) := by
      have : Bt 34 (i : Int) := by show ((i : Nat) : Int).natAbs < 2 ^ 34; omega
      exact this.mono (by omega)
    exact (Bt.add (hG.mul b10) hi2).mono (by omega)
  · rintro its H1 c1 δ1 ⟨m, rfl, hm⟩ ⟨G, x3, hG, rfl, rfl⟩
    rw [List.length_map, List.length_range] at hG
    have hG := hG.mono (b := 211) (by omega)
    refine ss_chg (n := n) (P1 := fun ds => ∃ m : Nat, ds = [nD n, nD m, .tup ([1, -1, 2, -2].map D.int)] ∧ m ≤ 6) rfl rfl ((ea_consE (ev_var rfl) (ea_consP (P1 := fun d => ∃ m : Nat, d = nD m ∧ m ≤ 6) (ev_Dop ev_int (ev_draw rfl rfl ev_int (by decide)) fun i hi => rv_I0.mono fun d e => ⟨1 + i, by rw [e]; show D.int _ = D.int _; congr 1, by omega⟩) (ea_one ev_menu))).mono fun ds e => by
      obtain ⟨_, rfl, _, _, rfl, ⟨m, rfl, hm⟩, _, rfl, e⟩ := e
      exact ⟨m, by rw [e], hm⟩) (fun ds ⟨m, e, hm⟩ => ⟨m, chgA_menu (by omega) (by omega) hm e⟩) fun lt lb rs A Bm hrs hC => ?_
    show Sd ⟨H, [j], M, some j, [], rs.reverse ++ lb :: lt :: M, (lt, A.map rowI) :: (lb, rs.map D.loc) :: (rs.zip (Bm.map fun r => r.map D.int) ++ []), []⟩ _ _ _
    rw [List.append_nil]
    generalize rs.reverse ++ lb :: lt :: M = M1
    refine ss_asgR (ev_draw rfl rfl (ev_var rfl) (by omega)) ?_
    rintro _ ⟨i, rfl, hi⟩
    have hi : i < n := by omega
    obtain ⟨jj, ej, hjj, hne2⟩ := next_ne hi hn2
    refine ss_asg ((ev_op (Ev.r (ev_cb (Ev.r (ev_op (Ev.r (ev_var rfl)) (Ev.r ev_int) rv_I0)) rc_int1)) (Ev.r (ev_var rfl)) (rv_I (by omega))).is ej) ?_
    have eB : ∀ {r : List Int} {t : Nat}, (∀ x ∈ r, x.natAbs ≤ 729) → Bt 10 (r.getD t 0) := fun {r t} h => Nat.lt_of_le_of_lt (getD_bd h t) (by decide)
    have lA := hC.lenA; have lB := hC.lenB
    have wi := hC.widA _ (mem_getD (r := A) (i := i) (by omega) []); have wj := hC.widA _ (mem_getD (r := A) (i := jj) (by omega) [])
    have bi := hC.bdA _ (mem_getD (r := A) (i := i) (by omega) []); have bj := hC.bdA _ (mem_getD (r := A) (i := jj) (by omega) [])
    have ai := at_rI (A := A) (i := i) (by omega); have aj := at_rI (A := A) (i := jj) (by omega)
    have hC2 := hC.add (m := 2 ^ 211) hi hjj (fun z => hne2 z.symm) (Nat.le_of_lt hG)
    refine ss_asgW (d := rowI (addR n G (A.getD i []) (A.getD jj []))) ((EvN.evE (en_ran (n := n) (fun t => D.int ((A.getD i []).getD t 0 + G * (A.getD jj []).getD t 0)) (ea_cons (ev_var rfl) ea_nil) (by omega) fun l acc t ht => ⟨[8], _, eg_name, fun _ h => h,
          ev_op (Ev.r (ev_op (Ev.r (ev_op (evr_own (l := lt) rfl (List.mem_cons_of_mem _ List.mem_cons_self)) (Ev.r (ev_var rfl)) (rv_ixL ai))) (Ev.r (ev_var rfl)) (rv_ixL (at_I (by omega))))) (Ev.r (ev_op (Ev.r (ev_var rfl)) (Ev.r (ev_op (Ev.r (ev_op (evr_own (l := lt) rfl (List.mem_cons_of_mem _ List.mem_cons_self)) (Ev.r (ev_var rfl)) (rv_ixL aj))) (Ev.r (ev_var rfl)) (rv_ixL (at_I (by omega))))) (rv_I (hG.cm (eB bj) (by decide))))) rv_I0⟩)).is (by show D.lst _ = D.lst _; unfold addR; rw [List.map_map]; rfl))
        (ew_setK (k := 0) (z := (i : Int)) (j := i) rfl (ev_ownloc rfl) (ev_var rfl) (ix_nat (by rw [List.length_map]; omega))) ?_
    show Sd ⟨H, [j], M, some j, [], M1, (lt, (A.map rowI).set i (rowI (addR n G (A.getD i []) (A.getD jj [])))) :: (lb, rs.map D.loc) :: rs.zip (Bm.map fun r => r.map D.int), []⟩ _ _ _
    rw [← List.map_set]
    generalize A.set i (addR n G (A.getD i []) (A.getD jj [])) = A2 at hC2 ⊢
    refine ss_for (its := (List.range n).map nD) (ei_rng (n := n) (ea_cons (ev_var rfl) ea_nil) (by omega)) (fun H2 t c2 δ2 => ∃ x8 : Sl, c2 = ⟨H, [j], M, some j, [], M1, (lt, A2.map rowI) :: (lb, rs.map D.loc) :: rs.zip ((mixT (colsub jj i G) Bm t).map fun r => r.map D.int), [(H2, Ct.wl ⟨H, [j], M, some j, [], M1, (lt, A2.map rowI) :: (lb, rs.map D.loc) :: rs.zip (Bm.map fun r => r.map D.int), []⟩)]⟩ ∧
          δ2 = [some (.inr j), some (.inl (nD n)), some (.inl (.int G)), x3, some (.inr lt), some (.inr lb), some (.inl (nD i)), some (.inl (nD jj)), x8, none])
        (fun H2 => ⟨_, rfl, rfl⟩) (fun H2 t c2 δ2 hI => by obtain ⟨_, rfl, _⟩ := hI; exact ⟨rfl, fun b hb => .inl hb⟩) ?_ ?_
    · rintro H2 t dt c2 δ2 hd ⟨x8, rfl, rfl⟩
      have ht : t < n := by have := (List.getElem?_eq_some_iff.mp hd).1; simpa using this
      have ed : dt = nD t := by
        rw [List.getElem?_map, List.getElem?_range ht] at hd
        exact (Option.some.inj hd).symm
      subst ed
      have er := List.getElem?_eq_getElem (l := rs) (i := t) (by omega)
      have eb := List.getElem?_eq_getElem (l := Bm) (i := t) (by omega)
      have wb := hC.widB _ (List.mem_of_getElem? eb)
      have bb := hC.bdB _ (List.mem_of_getElem? eb)
      generalize rs[t] = r at er
      generalize Bm[t] = b at eb wb bb
      have eo : (rs.zip ((mixT (colsub jj i G) Bm t).map fun r => r.map D.int))[t]? = some (r, b.map D.int) := zip_at2 er (by rw [List.getElem?_map, mixT_get eb]; rfl)
      have al := at_loc er
      generalize Ct.wl ⟨H, [j], M, some j, [], M1, (lt, A2.map rowI) :: (lb, rs.map D.loc) :: rs.zip (Bm.map fun r => r.map D.int), []⟩ = W2
      refine ⟨[8], _, eg_name, ?_⟩
      have bt : ∀ {x : Nat}, x < n → Ev ⟨H, [j], M, some j, [], M1, (lt, A2.map rowI) :: (lb, rs.map D.loc) :: rs.zip ((mixT (colsub jj i G) Bm t).map fun r => r.map D.int), [(H2, W2)]⟩ (tOp (rIxL K) (tVar 5) (tVar 8))
            [some (.inr j), some (.inl (nD n)), some (.inl (.int G)), x3, some (.inr lt), some (.inr lb), some (.inl (nD i)), some (.inl (nD jj)), some (.inl (nD t)), none] (· = .loc r) := fun _ => ev_op (evr_own (l := lb) rfl (List.mem_cons_of_mem _ List.mem_cons_self)) (Ev.r (ev_var rfl)) (rv_ixL al)
      have mo : (r, b.map D.int) ∈ (lt, A2.map rowI) :: (lb, rs.map D.loc) :: rs.zip ((mixT (colsub jj i G) Bm t).map fun r => r.map D.int) := List.mem_cons_of_mem _ (List.mem_cons_of_mem _ (List.mem_of_getElem? eo))
      refine sd_asgW (d := .int (b.getD jj 0 - G * b.getD i 0)) (ev_op (Ev.r (ev_op (evr_loc (bt ht) mo) (Ev.r (ev_var rfl)) (rv_ixL (at_I (by omega))))) (Ev.r (ev_op (Ev.r (ev_var rfl)) (Ev.r (ev_op (evr_loc (bt ht) mo) (Ev.r (ev_var rfl)) (rv_ixL (at_I (by omega))))) (rv_I (hG.cm (eB bb) (by decide))))) rv_I0)
          (ew_setK (k := t + 2) (z := (jj : Int)) (j := jj) eo (bt ht) (ev_var rfl) (ix_nat (by rw [List.length_map]; omega))) (nx_I ⟨_, ?_, rfl⟩)
      have e1 : (b.map D.int).set jj (.int (b.getD jj 0 - G * b.getD i 0)) = (colsub jj i G b).map D.int := by unfold colsub; rw [List.map_set]
      show (⟨H, [j], M, some j, [], M1, (lt, A2.map rowI) :: (lb, rs.map D.loc) :: (rs.zip ((mixT (colsub jj i G) Bm t).map fun r => r.map D.int)).set t (r, (b.map D.int).set jj (.int (b.getD jj 0 - G * b.getD i 0))), _⟩ : Ct) = _
      rw [zip_set er, e1, ← List.map_set (f := fun r : List Int => r.map D.int), mixT_set eb]
    · rintro H2 c2 δ2 ⟨x8, rfl, rfl⟩
      rw [List.length_map, List.length_range, mixT_all lB]
      generalize Bm.map (colsub jj i G) = Bf at hC2 ⊢
      have lF := hC2.lenB
      show Sd ⟨H, [j], M, some j, [], M1, (lt, A2.map rowI) :: (lb, rs.map D.loc) :: rs.zip (Bf.map fun r => r.map D.int), []⟩ _ _ _
      refine sd_ret (Ev.r (ev_tup (ea_cons ((EvN.evE (en_lcM A2 rowI (fun r => D.lst (r.map fun k : Int => encQ (k : Rat))) (ei_own (l := lt) rfl List.mem_cons_self) (by rw [hC2.lenA]; omega) fun l acc r hr => ⟨[9], _, eg_name, fun _ h => h, (EvN.evE (en_lst' r D.int (fun k : Int => encQ (k : Rat)) (ev_var rfl) (by rw [hC2.widA r hr]; omega) fun l2 acc2 k hk => ⟨[3], _, eg_name, fun _ h => h, (ev_tup (ea_cons (ev_var rfl) (ea_cons ev_int ea_nil))).is (encQ_int k).symm⟩))⟩)).is (d' := .lst ((qm A2).map Fm.q.rowL)) (rowL_qm A2).symm)
        (ea_cons ((ev_cb (Ev.r (EvN.evE (en_lcM (rs.zip Bf) (fun q => D.loc q.1) (fun q => D.tup (q.2.map fun k : Int => encQ (k : Rat))) ((ei_own (l := lb) rfl (List.mem_cons_of_mem _ List.mem_cons_self)).is (by
            have e : (rs.zip Bf).map (D.loc ∘ (·.1)) = rs.map D.loc := by rw [← List.map_map, List.map_fst_zip (by omega)]
            exact e.symm)) (by rw [List.length_zip]; omega) fun l acc q hqz => ⟨[9], _, eg_name, fun _ h => h, by
              have hm2 : (q.1, q.2.map D.int) ∈ rs.zip (Bf.map fun r => r.map D.int) := by
                rw [List.zip_map_right]
                exact List.mem_map.mpr ⟨q, hqz, rfl⟩
              have hq2 : q.2 ∈ Bf := (List.of_mem_zip hqz).2
              exact (ev_cb (Ev.r (EvN.evE (en_lcM q.2 D.int (fun k : Int => encQ (k : Rat)) (ei_loc (l := q.1) (ev_var rfl) (List.mem_cons_of_mem _ (List.mem_cons_of_mem _ (List.mem_cons_of_mem _ hm2)))) (by rw [hC2.widB _ hq2]; omega) fun l2 acc2 k hk => ⟨[3], _, eg_name, fun _ h => h, (ev_tup (ea_cons (ev_var rfl) (ea_cons ev_int ea_nil))).is (encQ_int k).symm⟩))) (rc_tuple rfl))⟩))) (rc_tuple rfl)).is (d' := tabD .q (qm Bf)) (by
                have e : (rs.zip Bf).map ((fun r : List Int => D.tup (r.map fun k : Int => encQ (k : Rat))) ∘ (·.2)) = Bf.map fun r => D.tup (r.map fun k : Int => encQ (k : Rat)) := by rw [← List.map_map, List.map_snd_zip (by omega)]
                exact (congrArg D.tup e).trans (row_qm Bf).symm)) ea_nil)))) hq ⟨A2, Bf, rfl, hC2⟩
end
end E
namespace E
open PySem PySem.Spec PyProof.Rows L2 TL
/-- plain data of depth n -/
def Pl : Nat → D → Prop
  | _, .non => True
  | _, .bl _ => True
  | _, .int _ => True
  | n + 1, .lst ds => ds.length ≤ 1000 ∧ ∀ d ∈ ds, Pl n d
  | n + 1, .tup ds => ds.length ≤ 1000 ∧ ∀ d ∈ ds, Pl n d
  | _, _ => False
def Rsame : Nat → List D → (D → Prop) → Prop
  | 0, _, _ => False
  | n + 1, ds, P => ∃ d, ds = [d, d] ∧ Pl n d ∧ P = (· = .bl true)
section
variable {P : Program} {w : World} {K : PySem.W.Frag} {mg : Str → Option Value} {base : Heap}
abbrev s_l_same : Stmt := topS 52
abbrev N_l_same : List Str := ["told", "due", "spot", "k"]
abbrev p_l_same : List Str := ["told", "due"]
theorem sc_l_same : FnScope N_l_same p_l_same (defScope s_l_same) := ⟨rfl, rfl, rfl, by decide +kernel, rfl, by decide +kernel, by decide +kernel⟩
theorem c_l_same0 (h : Has K mg "_law_same" s_l_same p_l_same) : Cal P w K mg base "_law_same" 41 p_l_same (spP (Rsame 0)) := by
  refine mkP h sc_l_same (fun ds P h => by cases h) fun cdv A outer s H Q E f hr => ⟨_, pss_cons ps_never (pss_cons ps_never (pss_cons ps_never (pss_cons ps_never (pss_cons ps_never (pss_one ps_never))))), fun M ds P' hR hq => by cases hR⟩
theorem c_l_sameS (h : Has K mg "_law_same" s_l_same p_l_same) (B : Bi mg) {lv m : Nat} (C_l_same : Cal P w K mg base "_law_same" lv p_l_same (spP (Rsame m))) : Cal P w K mg base "_law_same" (lv + 1) p_l_same (spP (Rsame (m + 1))) := by
  refine mkP h sc_l_same (fun ds P h => by obtain ⟨_, rfl, _⟩ := h; rfl) fun cdv A outer s H Q E f hr => ⟨(tSeq (tIfS (tB (tCB (rIsi K) (tCons (tVar 1) (tCons (tC (.ty "bool")) tNil)))) (tRet (tAndV (tCB (rIsi K) (tCons (tVar 0) (tCons (tC (.ty "bool")) tNil))) (tOp (rEqD K) (tVar 0) (tVar 1)))) tNext)
  (tSeq (tIfS (tB (tCB (rIsi K) (tCons (tVar 1) (tCons (tC (.ty "int")) tNil)))) (tRet (tAndV (tCB (rIsi K) (tCons (tVar 0) (tCons (tC (.ty "int")) tNil))) (tAndV (tNotV (tCB (rIsi K) (tCons (tVar 0) (tCons (tC (.ty "bool")) tNil)))) (tOp (rEqD K) (tVar 0) (tVar 1))))) tNext)
  (tSeq (tIfS (tB (tCB (rIsi K) (tCons (tVar 1) (tCons (tC (.ty "str")) tNil)))) (tRet (tAndV (tCB (rIsi K) (tCons (tVar 0) (tCons (tC (.ty "str")) tNil))) (tOp (rEqD K) (tVar 0) (tVar 1)))) tNext)
  (tSeq (tIfS (tB (tCB (rIsi K) (tCons (tVar 1) (tCons (tC (.ty "dict")) tNil)))) (tSeq tNever tNever) tNext)
  (tSeq (tIfS (tOr (tB (tCB (rIsi K) (tCons (tVar 1) (tCons (tC (.ty "list")) tNil)))) (tB (tCB (rIsi K) (tCons (tVar 1) (tCons (tC (.ty "tuple")) tNil))))) (tSeq (tIfS (tOr (tTest (tOp rNe (tCB (rIsi K) (tCons (tVar 0) (tCons (tC (.ty "list")) tNil))) (tCB (rIsi K) (tCons (tVar 1) (tCons (tC (.ty "list")) tNil))))) (tOr (tTest (tOp rNe (tCB (rIsi K) (tCons (tVar 0) (tCons (tC (.ty "tuple")) tNil))) (tCB (rIsi K) (tCons (tVar 1) (tCons (tC (.ty "tuple")) tNil))))) (tTest (tOp rNe (tCB (rLenQ K) (tCons (tVar 0) tNil)) (tCB (rLenQ K) (tCons (tVar 1) tNil)))))) (tRet (tC (.bl false))) tNext)
  (tRet (tOp (rEqD K) (tLc (iRng1 (tCons (tCB (rLenQ K) (tCons (tVar 1) tNil)) tNil)) (gName 3) (tNot (tB (tCall (spP (Rsame m)) [] E0 (tCons (tOp (rIx K) (tVar 0) (tVar 3)) (tCons (tOp (rIx K) (tVar 1) (tVar 3)) tNil))))) (tC (.int 1)) [3]) (tLst tNil)))) tNext)
  (tRet (tAndV (tIsN (tVar 1)) (tIsN (tVar 0))))))))),
  (pss_cons (ps_if (pt_val (pe_callB call_isi (by rfl) B.isinstance (by decide +kernel) (pa_cons (pv 1) (pa_cons (pe_bltn (by rfl) B.bool (by decide +kernel) rfl) pa_nil)))) (pss_one (ps_ret (pe_and (pe_callB call_isi (by rfl) B.isinstance (by decide +kernel) (pa_cons (pv 0) (pa_cons (pe_bltn (by rfl) B.bool (by decide +kernel) rfl) pa_nil))) (pe_one (pe_cmpR (op_eqD hr.units) (pv 0) (pv 1) (nomark _)))))) pss_nil)
  (pss_cons (ps_if (pt_val (pe_callB call_isi (by rfl) B.isinstance (by decide +kernel) (pa_cons (pv 1) (pa_cons (pe_bltn (by rfl) B.int (by decide +kernel) rfl) pa_nil)))) (pss_one (ps_ret (pe_and (pe_callB call_isi (by rfl) B.isinstance (by decide +kernel) (pa_cons (pv 0) (pa_cons (pe_bltn (by rfl) B.int (by decide +kernel) rfl) pa_nil))) (pe_and (pe_not (pe_callB call_isi (by rfl) B.isinstance (by decide +kernel) (pa_cons (pv 0) (pa_cons (pe_bltn (by rfl) B.bool (by decide +kernel) rfl) pa_nil)))) (pe_one (pe_cmpR (op_eqD hr.units) (pv 0) (pv 1) (nomark _))))))) pss_nil)
  (pss_cons (ps_if (pt_val (pe_callB call_isi (by rfl) B.isinstance (by decide +kernel) (pa_cons (pv 1) (pa_cons (pe_bltn (by rfl) B.str (by decide +kernel) rfl) pa_nil)))) (pss_one (ps_ret (pe_and (pe_callB call_isi (by rfl) B.isinstance (by decide +kernel) (pa_cons (pv 0) (pa_cons (pe_bltn (by rfl) B.str (by decide +kernel) rfl) pa_nil))) (pe_one (pe_cmpR (op_eqD hr.units) (pv 0) (pv 1) (nomark _)))))) pss_nil)
  (pss_cons (ps_if (pt_val (pe_callB call_isi (by rfl) B.isinstance (by decide +kernel) (pa_cons (pv 1) (pa_cons (pe_bltn (by rfl) B.dict (by decide +kernel) rfl) pa_nil)))) (pss_cons ps_never (pss_one ps_never)) pss_nil)
  (pss_cons (ps_if (PW.pt (pw_or (pt_val (pe_callB call_isi (by rfl) B.isinstance (by decide +kernel) (pa_cons (pv 1) (pa_cons (pe_bltn (by rfl) B.list (by decide +kernel) rfl) pa_nil)))) (pw_or1 (pt_val (pe_callB call_isi (by rfl) B.isinstance (by decide +kernel) (pa_cons (pv 1) (pa_cons (pe_bltn (by rfl) B.tuple (by decide +kernel) rfl) pa_nil))))))) (pss_cons (ps_if (PW.pt (pw_or (pt_cmpR op_ne (pe_callB call_isi (by rfl) B.isinstance (by decide +kernel) (pa_cons (pv 0) (pa_cons (pe_bltn (by rfl) B.list (by decide +kernel) rfl) pa_nil))) (pe_callB call_isi (by rfl) B.isinstance (by decide +kernel) (pa_cons (pv 1) (pa_cons (pe_bltn (by rfl) B.list (by decide +kernel) rfl) pa_nil))) (nomark _)) (pw_or (pt_cmpR op_ne (pe_callB call_isi (by rfl) B.isinstance (by decide +kernel) (pa_cons (pv 0) (pa_cons (pe_bltn (by rfl) B.tuple (by decide +kernel) rfl) pa_nil))) (pe_callB call_isi (by rfl) B.isinstance (by decide +kernel) (pa_cons (pv 1) (pa_cons (pe_bltn (by rfl) B.tuple (by decide +kernel) rfl) pa_nil))) (nomark _)) (pw_or1 (pt_cmpR op_ne (pe_callB call_len_seq (by rfl) B.len boot_len (pa_cons (pv 0) pa_nil)) (pe_callB call_len_seq (by rfl) B.len boot_len (pa_cons (pv 1) pa_nil)) (nomark _)))))) (pss_one (ps_ret pe_bl)) pss_nil)
  (pss_one (ps_ret (pe_cmpR (op_eqD hr.units) (pe_lc (own := [("k", 3)]) (g := (gName 3)) (tt := (tNot (tB (tCall (spP (Rsame m)) [] E0 (tCons (tOp (rIx K) (tVar 0) (tVar 3)) (tCons (tOp (rIx K) (tVar 1) (tVar 3)) tNil)))))) (te := (tC (.int 1))) rfl sc_l_same.nd (pi_range1 rfl B.range (pa_cons (pe_callB call_len_seq (by rfl) B.len boot_len (pa_cons (pv 1) pa_nil)) pa_nil)) (blkOk_by (own := [("k", 3)]) (N := N_l_same) (by kernel_rfl)) (fun _ _ _ _ _ => (pg_name (i := 3) sc_l_same.nd rfl (by first | exact Or.inl rfl | exact Or.inr rfl))) (fun _ _ _ _ _ => (pts_one (pt_not (pt_val (pe_cal C_l_same hr rfl (pa_cons (pe_ix ix_seq (pv 0) (pv 3) (fun _ _ => rfl)) (pa_cons (pe_ix ix_seq (pv 1) (pv 3) (fun _ _ => rfl)) pa_nil))))))) (fun _ _ _ _ _ => pe_int)) (pe_lst pa_nil) (nomark _))))) pss_nil)
  (pss_one (ps_ret (pe_and (pe_cmp (pc_isN (pv 1))) (pe_one (pe_cmp (pc_isN (pv 0)))))))))))), fun M ds P' hR hq => ?_⟩
  obtain ⟨d, rfl, hd, rfl⟩ := hR
  have isD : ∀ {n : String} {b : Bool}, plainD d = true → kitB (tyD d) n = some b → EvT ⟨H, [], M, none, [], M, [], []⟩ (tB (tCB (rIsi K) (tCons (tVar 1) (tCons (tC (.ty n)) tNil)))) [some (.inl d), some (.inl d), none, none] (· = b) := fun hp hk => et_B (Ev.r (ev_isi (Ev.r (ev_var rfl)) hp hk))
  have isE : ∀ {n : String} {b : Bool} {i : Nat}, i < 2 → plainD d = true → kitB (tyD d) n = some b → Ev ⟨H, [], M, none, [], M, [], []⟩ (tCB (rIsi K) (tCons (tVar i) (tCons (tC (.ty n)) tNil))) [some (.inl d), some (.inl d), none, none] (· = .bl b) := fun {n b i} hi hp hk => ev_isi (Ev.r (ev_var (by match i, hi with | 0, _ => rfl | 1, _ => rfl))) hp hk
  have seq : ∀ ds : List D, seqD d = some ds → ds.length ≤ 1000 → (∀ x ∈ ds, Rsame m [x, x] (· = .bl true)) → ∀ Dn : Ends, Rt ⟨H, [], M, none, [], M, [], []⟩ Dn.rt (· = .bl true) → Sd ⟨H, [], M, none, [], M, [], []⟩ (tRet (tOp (rEqD K) (tLc (iRng1 (tCons (tCB (rLenQ K) (tCons (tVar 1) tNil)) tNil)) (gName 3) (tNot (tB (tCall (spP (Rsame m)) [] E0 (tCons (tOp (rIx K) (tVar 0) (tVar 3)) (tCons (tOp (rIx K) (tVar 1) (tVar 3)) tNil))))) (tC (.int 1)) [3]) (tLst tNil))) [some (.inl d), some (.inl d), none, none] Dn := fun ds hs hl hx Dn hq => by
    have e0 : (List.range ds.length).filter (fun _ => false) = [] := List.filter_eq_nil_iff.mpr fun _ _ h => by cases h
    refine sd_ret (Ev.r (ev_op (Ev.r (EvN.evE ((en_lcF (List.range ds.length) nD (fun _ => false) (fun _ => D.int 1) (EvI.o (ei_rng (n := ds.length) (ea_cons (ev_cb (Ev.r (ev_var rfl)) (rc_len hs)) ea_nil) (by omega))) (by simp; omega) fun l acc k hk => ?_).is (d' := []) (by rw [e0]; rfl)))) (Ev.r (EvN.evE (en_lst ea_nil))) (rv_eqD (okK_lst (k := 0) (xs := []) (by simp)).ok (okK_lst (k := 0) (xs := []) (by simp)).ok))) hq rfl
    have hk := List.mem_range.mp hk
    have ek := List.getElem?_eq_getElem hk
    exact ⟨[3], _, eg_name, fun _ h => h, (et_not (et_B (Ev.r (ev_call (ea_cons (ev_op (Ev.r (ev_var rfl)) (Ev.r (ev_var rfl)) (rv_ix hs (atI_nat ek))) (ea_cons (ev_op (Ev.r (ev_var rfl)) (Ev.r (ev_var rfl)) (rv_ix hs (atI_nat ek))) ea_nil)) (hx _ (List.getElem_mem hk)))))).is rfl, fun e => by cases e⟩
  have un : ∀ {x : D}, Pl m x → Rsame (m + 1) [x, x] (· = .bl true) := fun hx => ⟨_, rfl, hx, rfl⟩
  have lenE : ∀ {i : Nat} {ds : List D}, i < 2 → seqD d = some ds → Ev ⟨H, [], M, none, [], M, [], []⟩ (tCB (rLenQ K) (tCons (tVar i) tNil)) [some (.inl d), some (.inl d), none, none] (· = .int ds.length) := fun {i ds} hi hs => ev_cb (Ev.r (ev_var (by match i, hi with | 0, _ => rfl | 1, _ => rfl))) (rc_len hs)
  cases d with
  | non =>
    refine sd_no (isD rfl rfl) (sd_no (isD rfl rfl) (sd_no (isD rfl rfl) (sd_no (isD rfl rfl) (sd_no ((et_orE (a := false) (b := false) (isD rfl rfl) fun _ => isD rfl rfl).is rfl) ?_))))
    exact sd_ret (Ev.r (ev_andV (Ev.r (ev_isN (Ev.r (ev_var rfl)))) fun _ => ev_isN (Ev.r (ev_var rfl)))) hq rfl
  | bl b =>
    refine sd_yes (isD (b := true) rfl rfl) ?_
    refine sd_ret (Ev.r (ev_andV (Ev.r (isE (by decide) rfl rfl)) fun _ => ev_op (Ev.r (ev_var rfl)) (Ev.r (ev_var rfl)) (rv_eqD (okK_bl b).ok (okK_bl b).ok))) hq ?_
    cases b <;> rfl
  | int i =>
    refine sd_no (isD rfl rfl) (sd_yes (isD (b := true) rfl rfl) ?_)
    refine sd_ret (Ev.r (ev_andV (Ev.r (isE (by decide) rfl rfl)) fun _ => ev_andV (Ev.r (ev_notV (Ev.r (isE (by decide) rfl rfl)))) fun _ => ev_op (Ev.r (ev_var rfl)) (Ev.r (ev_var rfl)) rv_eqDI)) hq ?_
    show D.bl _ = D.bl _
    rw [decide_eq_true rfl]; rfl
  | str x => cases m <;> cases hd
  | obj _ _ _ => cases m <;> cases hd
  | loc _ => cases m <;> cases hd
  | lst ds =>
    cases m with
    | zero => cases hd
    | succ m =>
      refine sd_no (isD rfl rfl) (sd_no (isD rfl rfl) (sd_no (isD rfl rfl) (sd_no (isD rfl rfl) (sd_yes ((et_orE (isD rfl rfl) fun _ => isD rfl rfl).is (d' := true) rfl) ?_))))
      refine sd_no ((et_orE (et_test (Ev.r (ev_op (Ev.r (isE (by decide) rfl rfl)) (Ev.r (isE (by decide) rfl rfl)) rv_neB))) fun _ => et_orE (et_test (Ev.r (ev_op (Ev.r (isE (by decide) rfl rfl)) (Ev.r (isE (by decide) rfl rfl)) rv_neB))) fun _ => et_test (Ev.r (ev_op (Ev.r (lenE (by decide) rfl)) (Ev.r (lenE (by decide) rfl)) rv_neI))).is (by simp)) ?_
      exact seq ds rfl hd.1 (fun x hx => ⟨_, rfl, hd.2 x hx, rfl⟩) _ hq
  | tup ds =>
    cases m with
    | zero => cases hd
    | succ m =>
      refine sd_no (isD rfl rfl) (sd_no (isD rfl rfl) (sd_no (isD rfl rfl) (sd_no (isD rfl rfl) (sd_yes ((et_orE (isD rfl rfl) fun _ => isD rfl rfl).is (d' := true) rfl) ?_))))
      refine sd_no ((et_orE (et_test (Ev.r (ev_op (Ev.r (isE (by decide) rfl rfl)) (Ev.r (isE (by decide) rfl rfl)) rv_neB))) fun _ => et_orE (et_test (Ev.r (ev_op (Ev.r (isE (by decide) rfl rfl)) (Ev.r (isE (by decide) rfl rfl)) rv_neB))) fun _ => et_test (Ev.r (ev_op (Ev.r (lenE (by decide) rfl)) (Ev.r (lenE (by decide) rfl)) rv_neI))).is (by simp)) ?_
      exact seq ds rfl hd.1 (fun x hx => ⟨_, rfl, hd.2 x hx, rfl⟩) _ hq
theorem c_l_same (h : Has K mg "_law_same" s_l_same p_l_same) (B : Bi mg) : Cal P w K mg base "_law_same" 47 p_l_same (spP (Rsame 6)) := c_l_sameS h B (c_l_sameS h B (c_l_sameS h B (c_l_sameS h B (c_l_sameS h B (c_l_sameS h B (c_l_same0 h))))))
end
end E
/-! DPln: inverses and ranks by the sweep: what the law's two sides have in common. -/
namespace E
open PySem PySem.Spec PyProof.Rows L2
section
variable {α : Type} [Fld α]
open Fld
/-- swept rows with the same leads, the second ones in the span of the first -/
theorem Sw.same_of {n : Nat} {S T : List (List α)} {ls : List Nat} (w : Sw n S ls) (x : Sw n T ls) (h : ∀ t ∈ T, Sp S (g t)) : S = T := by
  refine List.ext_getElem? fun k => ?_
  by_cases hk : k < ls.length
  · have hl : ls[k]? = some ls[k] := List.getElem?_eq_getElem hk
    obtain ⟨s, hs⟩ := get_of w.len hl
    obtain ⟨t, ht⟩ := get_of x.len hl
    rw [hs, ht]
    congr 1
    refine g_ext (w.wid s (List.mem_of_getElem? hs)) (x.wid t (List.mem_of_getElem? ht)) fun i _ => ?_
    have sp : Sp S (fun i => g s i + -(g t i)) := sp_add (sp_mem (List.mem_of_getElem? hs)) (sp_neg (h t (List.mem_of_getElem? ht)))
    have z := w.zero sp (fun l hl' => ?_) i
    · have q : g s i + -(g t i) + g t i = 0 + g t i := by rw [z]
      rw [addA, nadd, add0, zadd] at q
      exact q
    · obtain ⟨j, hj⟩ := List.getElem?_of_mem hl'
      show g s l + -(g t l) = 0
      by_cases e : k = j
      · subst e
        rw [w.one k s l hs hj, x.one k t l ht hj, addN]
      · rw [w.off k j s l hs hj e, x.off k j t l ht hj e, neg0, add0]
  · rw [List.getElem?_eq_none (by have := w.len; omega), List.getElem?_eq_none (by have := x.len; omega)]
theorem sorted_full {ls : List Nat} {n : Nat} (up : ls.Pairwise (· < ·)) (hl : ls.length = n) (h : ∀ m, m < n → m ∈ ls) : ls = List.range n := by
  have e : ls.filter (fun x => decide (x < n)) = List.range n := sorted_eq (up.filter _) List.pairwise_lt_range fun x => by
    rw [List.mem_filter, List.mem_range, decide_eq_true_eq]
    exact ⟨fun z => z.2, fun z => ⟨h x z, z⟩⟩
  have e2 : (ls.filter (fun x => decide (x < n))).length = ls.length := by rw [e, List.length_range, hl]
  have e3 : ls.filter (fun x => decide (x < n)) = ls := List.filter_eq_self.mpr (List.length_filter_eq_length_iff.mp e2)
  rw [← e3, e]
theorem lin_ge {n i : Nat} {cs : List α} {rs : List (List α)} (hw : ∀ r ∈ rs, r.length = n) (hi : n ≤ i) : lin cs rs i = 0 := lin_far hw hi
/-- A B = 1: the rows (1 | A) lie in the span of (B | 1) -/
theorem half_sp {n : Nat} {A B : List (List α)} (wA : ∀ t ∈ A, t.length = n) (hB : B.length = n) (wB : ∀ t ∈ B, t.length = n) (AB : InvL n A B) : ∀ r ∈ augL n A, Sp (aug n B) (g r) := fun r hr => by
  have ul := unitL_len (α := α) n
  obtain ⟨k, hk⟩ := List.mem_iff_getElem?.mp hr
  obtain ⟨a, u, h1, h2, rfl⟩ := augL_get hk
  have wu := unitL_wid u (List.mem_of_getElem? h2)
  have wa := wA a (List.mem_of_getElem? h1)
  refine sp_pair (n := n) (cs := a) (by omega) wB unitL_wid (by rw [List.length_append]; omega) (by omega) (fun i hi => ?_) fun i hi => ?_
  · rw [g_left wu hi]; exact (AB k a u h1 h2 i hi).symm
  · rw [g_right wu, lin_unit wa hi]
/-- then the sweep of (B | 1) is (1 | A) -/
theorem half_sw [DecidableEq α] {n : Nat} {A B T : List (List α)} {ls : List Nat} (hA : A.length = n) (wA : ∀ t ∈ A, t.length = n) (hB : B.length = n) (wB : ∀ t ∈ B, t.length = n) (AB : InvL n A B) (sw : Sw (2 * n) T ls) (sp : SameSp T (aug n B)) (hT : T.length = n) : ls = List.range n ∧ T = augL n A := by
  have aw := augL_sw hA wA
  have inT : ∀ r ∈ augL n A, Sp T (g r) := fun r hr => sp_trans sp.2 (half_sp wA hB wB AB r hr)
  have el : ls = List.range n := sorted_full sw.up (by rw [← sw.len, hT]) fun m hm => sw.leads aw inT (List.mem_range.mpr hm)
  subst el
  exact ⟨rfl, sw.same_of aw inT⟩
theorem augL_drop {n : Nat} {A : List (List α)} (hA : A.length = n) : (augL n A).map (·.drop n) = A := by
  refine List.ext_getElem (by unfold augL; rw [List.length_map, List.length_zipWith, unitL_len]; omega) fun k h1 h2 => ?_
  have e := List.getElem?_eq_getElem h1
  rw [List.getElem?_map] at e
  cases q : (augL n A)[k]? with
  | none => rw [q] at e; cases e
  | some r =>
    rw [q] at e
    obtain ⟨a, u, e1, e2, rfl⟩ := augL_get q
    have wu := unitL_wid u (List.mem_of_getElem? e2)
    have e3 : (u ++ a).drop n = ((augL n A).map (·.drop n))[k] := Option.some.inj e
    rw [← e3, List.drop_left' wu]
    exact (Option.some.inj ((List.getElem?_eq_getElem h2).symm.trans e1)).symm
theorem InvL.flip [DecidableEq α] {n : Nat} {A B : List (List α)} (hA : A.length = n) (wA : ∀ t ∈ A, t.length = n) (hB : B.length = n) (wB : ∀ t ∈ B, t.length = n) (AB : InvL n A B) : InvL n B A := by
  have alen : (aug n B).length = n := aug_len hB
  obtain ⟨T, ls, sw, sp, le⟩ := swept_ex (n := 2 * n) (rows := aug n B) (aug_wid wB)
  have hT : T.length = n := by have := aug_full hB wB sw sp; omega
  obtain ⟨rfl, rfl⟩ := half_sw hA wA hB wB AB sw sp hT
  have := (inv_of hB wB sw sp hT).1
  rwa [augL_drop hA] at this
/-- rows that are led to the unit rows -/
theorem inv_rows {n : Nat} {A B : List (List α)} (hA : A.length = n) (AB : InvL n A B) : A.map (lrow n B) = unitL α n := by
  refine List.ext_getElem (by rw [List.length_map, unitL_len, hA]) fun k h1 h2 => ?_
  have hk : k < n := by rw [unitL_len] at h2; exact h2
  have ea := List.getElem?_eq_getElem (l := A) (i := k) (by omega)
  have eu := List.getElem?_eq_getElem h2
  rw [List.getElem_map]
  refine g_ext (n := n) (by simp [lrow]) (unitL_wid _ (List.mem_of_getElem? eu)) fun i hi => ?_
  unfold lrow
  rw [g_range hi]
  exact AB k _ _ ea eu i hi
/-- what the unit rows lie in has full rank -/
theorem rank_full [DecidableEq α] {n : Nat} {A B T : List (List α)} {ls : List Nat} (hA : A.length = n) (wA : ∀ t ∈ A, t.length = n) (hB : B.length = n) (wB : ∀ t ∈ B, t.length = n) (AB : InvL n A B) (sw : Sw n T ls) (sp : SameSp T B) : T.length = n := by
  have ss : SameSp (unitL α n) T := ⟨fun u hu => ?_, fun t ht => unit_all (sw.wid t ht)⟩
  · rw [← ((unit_sw n).uniq sw ss).1, unitL_len]
  · obtain ⟨k, hk⟩ := List.mem_iff_getElem?.mp hu
    have hkn := unit_lt hk
    have ea := List.getElem?_eq_getElem (l := A) (i := k) (by omega)
    refine sp_trans sp.2 ⟨A[k], by rw [wA _ (List.mem_of_getElem? ea), hB], fun i => ?_⟩
    by_cases hi : i < n
    · exact (AB k _ u ea hk i hi).symm
    · rw [g_ge (by rw [unitL_wid u hu]; omega), lin_ge wB (by omega)]
/-- a table without an inverse falls short -/
theorem rank_short [DecidableEq α] {n : Nat} {B T S : List (List α)} {ls ms : List Nat} (hB : B.length = n) (wB : ∀ t ∈ B, t.length = n) (sw : Sw (2 * n) T ls) (sp : SameSp T (aug n B)) (hT : T.length = n) (hne : ls ≠ List.range n) (sw2 : Sw n S ms) (sp2 : SameSp S B) : S.length < n := by
  have le : S.length ≤ n := by rw [sw2.len]; exact nodup_len (sw2.up.imp fun h => Nat.ne_of_lt h) sw2.lt
  apply Classical.byContradiction
  intro hge
  have hS : S.length = n := by omega
  have k : Ks n S ms := ⟨sw2.len, sw2.wid, sw2.lt, fun k r l a b => by rw [sw2.one k r l a b]; exact ne01, sw2.off, sw2.pre⟩
  have un : ∀ u ∈ unitL α n, Sp B (g u) := fun u hu => sp_trans sp2.1 (k.all hS (unitL_wid u hu))
  have ex : ∀ k, k < n → ∃ cs : List α, cs.length = n ∧ ∀ u, (unitL α n)[k]? = some u → ∀ i, g u i = lin cs B i := fun k hk => by
    obtain ⟨u, hu⟩ := unit_get (α := α) hk
    obtain ⟨cs, h1, h2⟩ := un u (List.mem_of_getElem? hu)
    exact ⟨cs, by rw [h1, hB], fun u' hu' i => by rw [Option.some.inj (hu'.symm.trans hu)]; exact h2 i⟩
  have ch : ∀ k : Fin n, ∃ cs : List α, cs.length = n ∧ ∀ u, (unitL α n)[k.1]? = some u → ∀ i, g u i = lin cs B i := fun k => ex k.1 k.2
  let f : Fin n → List α := fun k => Classical.choose (ch k)
  have hf : ∀ k : Fin n, (f k).length = n ∧ ∀ u, (unitL α n)[k.1]? = some u → ∀ i, g u i = lin (f k) B i := fun k => Classical.choose_spec (ch k)
  have hA : (List.ofFn f).length = n := List.length_ofFn
  have wA : ∀ t ∈ List.ofFn f, t.length = n := fun t ht => by
    obtain ⟨i, rfl⟩ := List.mem_ofFn.mp ht
    exact (hf i).1
  have AB : InvL n (List.ofFn f) B := fun k a u ha hu i hi => by
    have hk := unit_lt hu
    rw [List.getElem?_ofFn, dif_pos hk] at ha
    rw [← Option.some.inj ha]
    exact ((hf ⟨k, hk⟩).2 u hu i).symm
  exact hne (half_sw hA wA hB wB AB sw sp hT).1
end
/-! ### sizes -/
theorem Cd.unit {b n : Nat} {r u : List Rat} (h : Cd b r) (hu : u ∈ unitL Rat n) : Cd b (r ++ u) := by
  obtain ⟨s, s0, s1, hs⟩ := h.ex
  refine ⟨s, s0, s1, fun x hx => ?_⟩
  rcases List.mem_append.mp hx with z | z
  · exact hs x z
  · obtain ⟨k, _, rfl⟩ := List.mem_map.mp hu
    obtain ⟨i, _, rfl⟩ := List.mem_map.mp z
    split
    · refine ⟨Nat.one_dvd s, ?_⟩
      show ((1 : Int) * ((s / 1 : Nat) : Int)).natAbs < _
      rw [Int.one_mul, Nat.div_one, Int.natAbs_natCast]; exact s1
    · refine ⟨Nat.one_dvd s, ?_⟩
      show ((0 : Int) * ((s / 1 : Nat) : Int)).natAbs < _
      rw [Int.zero_mul]
      exact Nat.two_pow_pos b
theorem CdF.unit {b n : Nat} {F : Fm} {r u : List F.α} (h : CdF b F r) (hu : u ∈ unitL F.α n) : CdF b F (r ++ u) := by
  cases F with
  | q => exact Cd.unit h hu
  | z p hp => trivial
theorem CdF.drop {b : Nat} {F : Fm} {r : List F.α} (h : CdF b F r) (n : Nat) : CdF b F (r.drop n) := by
  cases F with
  | q =>
    obtain ⟨s, s0, s1, hs⟩ := Cd.ex h
    exact ⟨s, s0, s1, fun x hx => hs x (List.mem_of_mem_drop hx)⟩
  | z p hp => trivial
theorem CdF.aug {b n : Nat} {F : Fm} {tab : List (List F.α)} (h : ∀ r ∈ tab, CdF b F r) : ∀ r ∈ aug n tab, CdF b F r := fun r hr => by
  obtain ⟨k, hk⟩ := List.mem_iff_getElem?.mp hr
  obtain ⟨t, u, e1, e2, rfl⟩ := aug_get hk
  exact (h t (List.mem_of_getElem? e1)).unit (List.mem_of_getElem? e2)
theorem RowsOk.of {b n : Nat} {F : Fm} {rows : List (List F.α)} (hm : min rows.length n ≤ 6) (hb : b ≤ 13000) (h : ∀ r ∈ rows, CdF b F r) : RowsOk F rows n := by
  cases F with
  | q => exact ⟨hm, b, hb, h⟩
  | z p hp => trivial
/-- the inverse by the sweep, or none -/
structure Due (F : Fm) (n : Nat) (tab : List (List F.α)) (T : List (List F.α)) (ls : List Nat) : Prop where
  sw : Sw (2 * n) T ls
  sp : SameSp T (aug n tab)
  len : T.length = n
  cd : ∀ r ∈ T, CdF 13000 F r
def dueD (F : Fm) (n : Nat) (T : List (List F.α)) (ls : List Nat) : D := if ls = List.range n then tabD F (T.map fun r => r.drop n) else .non
/-! ### products -/
theorem numF_mul2 {F : Fm} {s t : Int} {a b : Nat} {x y : F.α} (h : NumF s a F x) (k : NumF t b F y) : NumF (s * t) (a * b) F (x * y) := by
  cases F with
  | q =>
    obtain ⟨n, hn, rfl⟩ := h
    obtain ⟨m, hm, rfl⟩ := k
    refine ⟨n * m, by rw [Int.natAbs_mul]; exact Nat.mul_le_mul hn hm, ?_⟩
    exact Rat.divInt_mul_divInt _ _
  | z p hp => trivial
theorem numF_lin {F : Fm} {s t : Int} {a b : Nat} {k : Nat} : ∀ {v : List F.α} {tab : List (List F.α)}, (∀ x ∈ v, NumF s a F x) → (∀ r ∈ tab, ∀ x ∈ r, NumF t b F x) → NumF (s * t) (v.length * (a * b)) F (lin v tab k)
  | [], tab, _, _ => by rw [lin_nil]; exact numF_zero F
  | c :: cs, [], _, _ => by rw [lin_nil']; exact numF_zero F
  | c :: cs, r :: rs, h, q => by
    have ih := numF_lin (k := k) (v := cs) (tab := rs) (fun x hx => h x (List.mem_cons_of_mem _ hx)) fun r hr => q r (List.mem_cons_of_mem _ hr)
    have := numF_add (numF_mul2 (h c List.mem_cons_self) (num_g (q r List.mem_cons_self) k)) ih
    refine numF_mono this ?_
    rw [List.length_cons, Nat.add_mul]; omega
theorem numF_144 {F : Fm} {b : Nat} {x : F.α} (h : NumF 12 b F x) : NumF 144 (12 * b) F x := by
  cases F with
  | q =>
    obtain ⟨a, ha, rfl⟩ := h
    refine ⟨12 * a, by rw [Int.natAbs_mul]; exact Nat.mul_le_mul_left 12 ha, ?_⟩
    exact (Rat.divInt_mul_left (n := a) (d := 12) (a := 12) (by decide)).symm
  | z p hp => trivial
theorem TabOk.prod {F : Fm} {a b m k n : Nat} {A B : List (List F.α)} (h : TabOk F 12 a m k A) (q : TabOk F 12 b k n B) : TabOk F 144 (k * (a * b)) m n (A.map (lrow n B)) := by
  refine ⟨by rw [List.length_map]; exact h.len, fun t ht => ?_, fun t ht x hx => ?_⟩
  · obtain ⟨r, _, rfl⟩ := List.mem_map.mp ht
    simp [lrow]
  · obtain ⟨r, hr, rfl⟩ := List.mem_map.mp ht
    obtain ⟨i, _, rfl⟩ := List.mem_map.mp hx
    have := numF_lin (k := i) (h.num r hr) q.num
    rw [h.wid r hr] at this
    exact this
theorem TabOk.cd {F : Fm} {s : Int} {b m n e : Nat} {tab : List (List F.α)} (h : TabOk F s b m n tab) (hs : s ≠ 0) (hb : b < 2 ^ e) (hse : s.natAbs < 2 ^ e) : ∀ t ∈ tab, CdF e F t := fun t ht => numF_cd (h.num t ht) hs hb hse
end E
namespace E
open PySem PySem.Spec PyProof.Rows L2 TL
theorem Pl.up : ∀ {n : Nat} {d : D}, Pl n d → Pl (n + 1) d
  | _, .non, _ => trivial
  | _, .bl _, _ => trivial
  | _, .int _, _ => trivial
  | n + 1, .lst ds, h => ⟨h.1, fun d hd => Pl.up (h.2 d hd)⟩
  | n + 1, .tup ds, h => ⟨h.1, fun d hd => Pl.up (h.2 d hd)⟩
  | 0, .lst _, h => by cases h
  | 0, .tup _, h => by cases h
  | 0, .str _, h => by cases h
  | _ + 1, .str _, h => by cases h
  | 0, .obj _ _ _, h => by cases h
  | _ + 1, .obj _ _ _, h => by cases h
  | 0, .loc _, h => by cases h
  | _ + 1, .loc _, h => by cases h
theorem pl_nD {n : Nat} (k : Nat) : Pl n (nD k) := by cases n <;> trivial
theorem pl_encQ (x : Rat) : Pl 1 (encQ x) := ⟨(by decide : 2 ≤ 1000), fun d hd => by
  rcases List.mem_cons.mp hd with e | hd
  · rw [e]; trivial
  · rw [List.mem_singleton.mp hd]; trivial⟩
theorem pl_enc {F : Fm} (x : F.α) : Pl 1 (F.enc x) := by
  cases F with
  | q => exact pl_encQ x
  | z p h => trivial
theorem pl_row {F : Fm} {r : List F.α} (h : r.length ≤ 1000) : Pl 2 (F.row r) := ⟨by rw [List.length_map]; exact h, fun d hd => by
  obtain ⟨x, _, rfl⟩ := List.mem_map.mp hd
  exact pl_enc x⟩
theorem pl_rowL {F : Fm} {r : List F.α} (h : r.length ≤ 1000) : Pl 2 (F.rowL r) := ⟨by rw [List.length_map]; exact h, fun d hd => by
  obtain ⟨x, _, rfl⟩ := List.mem_map.mp hd
  exact pl_enc x⟩
theorem pl_tab {F : Fm} {tab : List (List F.α)} (h : tab.length ≤ 1000) (hw : ∀ r ∈ tab, r.length ≤ 1000) : Pl 3 (tabD F tab) := ⟨by rw [List.length_map]; exact h, fun d hd => by
  obtain ⟨r, hr, rfl⟩ := List.mem_map.mp hd
  exact pl_row (hw r hr)⟩
theorem pl_tabL {F : Fm} {tab : List (List F.α)} (h : tab.length ≤ 1000) (hw : ∀ r ∈ tab, r.length ≤ 1000) : Pl 3 (.lst (tab.map F.rowL)) := ⟨by rw [List.length_map]; exact h, fun d hd => by
  obtain ⟨r, hr, rfl⟩ := List.mem_map.mp hd
  exact pl_rowL (hw r hr)⟩
theorem pl_two {n : Nat} {a b : D} (ha : Pl n a) (hb : Pl n b) : Pl (n + 1) (.tup [a, b]) := ⟨by simp, fun d hd => by
  rcases List.mem_cons.mp hd with e | hd
  · rw [e]; exact ha
  · rw [List.mem_singleton.mp hd]; exact hb⟩
theorem writ_enc {F : Fm} (x : F.α) : Writ F (F.enc x) x := by
  cases F with
  | q => exact qt_self x
  | z p h => exact zi_self x
theorem giv_tab {F : Fm} (tab : List (List F.α)) : Giv F (tabD F tab) tab := by
  refine ⟨tab.map fun r => (F.row r, r.map fun x => (F.enc x, x)), by rw [List.map_map]; rfl, ?_, fun z hz => ?_⟩
  · rw [List.map_map]
    have : ((fun z : D × List (D × F.α) => z.2.map (·.2)) ∘ fun r : List F.α => (F.row r, r.map fun x => (F.enc x, x))) = id := by
      funext r
      show (r.map fun x => (F.enc x, x)).map (·.2) = r
      rw [List.map_map]; exact List.map_id _
    rw [this, List.map_id]
  · obtain ⟨r, _, rfl⟩ := List.mem_map.mp hz
    refine ⟨?_, fun q hq => ?_⟩
    · show some (r.map F.enc) = some _
      rw [List.map_map]; rfl
    · obtain ⟨x, _, rfl⟩ := List.mem_map.mp hq
      exact writ_enc x
section
variable {P : Program} {w : World} {K : PySem.W.Frag} {mg : Str → Option Value} {base : Heap} {C_Field Pt : Addr}
abbrev s_l_undone : Stmt := topS 74
abbrev N_l_undone : List Str := ["jar", "f", "tab", "due", "wide", "units", "line", "told"]
abbrev p_l_undone : List Str := ["jar", "f", "tab", "due"]
theorem sc_l_undone : FnScope N_l_undone p_l_undone (defScope s_l_undone) := ⟨rfl, rfl, rfl, by decide +kernel, rfl, by decide +kernel, by decide +kernel⟩
def R_l_undone (ds : List D) (P : D → Prop) : Prop := ∃ (F : Fm) (tab : List (List F.α)) (n : Nat) (T : List (List F.α)) (ls : List Nat), ds = [.int F.p, .lst (tab.map F.rowL), dueD F n T ls] ∧ tab.length = n ∧ 1 ≤ n ∧ n ≤ 6 ∧ (∀ t ∈ tab, t.length = n) ∧ (∀ t ∈ tab, CdF 1000 F t) ∧ Due F n tab T ls ∧ P = (· = .bl true)
theorem c_l_undone (h : Has K mg "_law_undone" s_l_undone p_l_undone) (B : Bi mg) (CF : ClsF K mg C_Field) (M_Field : C8.Mak P w K mg base 42 "Field" C_Field (spI C_Field) []) (C_l_units : Cal P w K mg base "_law_units" 42 p_l_units (spP R_l_units)) (C_l_given : Cal P w K mg base "_law_given" 43 p_l_given (spJ R_l_given))
    (C_undone : Cal P w K mg base "undone" 46 p_undone (spT [(Pt, qLam "swept_rows")] (R_undone C_Field))) (C_rank : Cal P w K mg base "rank" 46 p_rank (spT [(Pt, qLam "swept_rows")] (R_rank C_Field))) (C_times : Cal P w K mg base "times" 46 p_times (spP (R_times C_Field))) (C_l_same : Cal P w K mg base "_law_same" 47 p_l_same (spP (Rsame 6))) :
    Cal P w K mg base "_law_undone" 48 p_l_undone (spJT [(Pt, qLam "swept_rows")] R_l_undone) := by
  refine mkJT h sc_l_undone (fun ds P h => by obtain ⟨_, _, _, _, _, rfl, _⟩ := h; rfl) (by decide) fun cdv A outer s H Q E f hr => ⟨(tSeq (tAsg (tCB (rLenQ K) (tCons (tVar 2) tNil)) (gName 4))
  (tSeq (tAsg (tCB (rTupQ K) (tCons (tLc (iList K (tCall (spP R_l_units) [] E0 (tCons (tVar 1) (tCons (tVar 4) tNil)))) (gName 6) tYes (tCB (rTupQ K) (tCons (tVar 6) tNil)) [6]) tNil)) (gName 5))
  (tSeq (tAsg (tCall (spT [(Pt, qLam "swept_rows")] (R_undone C_Field)) [] E0 (tCons (tVar 1) (tCons (tCall (spJ R_l_given) [] E0 (tCons (tVar 0) (tCons (tVar 1) (tCons (tVar 2) tNil)))) tNil))) (gName 7))
  (tSeq (tIfS (tNot (tB (tCall (spP (Rsame 6)) [] E0 (tCons (tVar 7) (tCons (tVar 3) tNil))))) (tRet (tC (.bl false))) tNext)
  (tSeq (tIfS (tB (tIsN (tVar 3))) (tRet (tCall (spP (Rsame 6)) [] E0 (tCons (tOp rLtI (tCall (spT [(Pt, qLam "swept_rows")] (R_rank C_Field)) [] E0 (tCons (tMake C_Field (spI C_Field) [] E0 (tCons (tVar 1) tNil)) (tCons (tCall (spJ R_l_given) [] E0 (tCons (tVar 0) (tCons (tVar 1) (tCons (tVar 2) tNil)))) tNil))) (tVar 4)) (tCons (tC (.bl true)) tNil)))) tNext)
  (tSeq (tIfS (tNot (tB (tCall (spP (Rsame 6)) [] E0 (tCons (tTup (tCons (tCall (spP (R_times C_Field)) [] E0 (tCons (tVar 1) (tCons (tVar 7) (tCons (tCall (spJ R_l_given) [] E0 (tCons (tVar 0) (tCons (tVar 1) (tCons (tVar 2) tNil)))) tNil)))) (tCons (tCall (spP (R_times C_Field)) [] E0 (tCons (tMake C_Field (spI C_Field) [] E0 (tCons (tVar 1) tNil)) (tCons (tCall (spJ R_l_given) [] E0 (tCons (tVar 0) (tCons (tVar 1) (tCons (tVar 2) tNil)))) (tCons (tVar 7) tNil)))) tNil))) (tCons (tTup (tCons (tVar 5) (tCons (tVar 5) tNil))) tNil))))) (tRet (tC (.bl false))) tNext)
  (tRet (tCall (spP (Rsame 6)) [] E0 (tCons (tTup (tCons (tCall (spT [(Pt, qLam "swept_rows")] (R_undone C_Field)) [] E0 (tCons (tMake C_Field (spI C_Field) [] E0 (tCons (tVar 1) tNil)) (tCons (tVar 7) tNil))) (tCons (tCall (spT [(Pt, qLam "swept_rows")] (R_rank C_Field)) [] E0 (tCons (tVar 1) (tCons (tVar 7) tNil))) tNil))) (tCons (tTup (tCons (tCB (rTupQ K) (tCons (tLc (iList K (tVar 2)) (gName 6) tYes (tCB (rTupQ K) (tCons (tVar 6) tNil)) [6]) tNil)) (tCons (tVar 4) tNil))) tNil)))))))))),
  (pss_cons (ps_asg (pe_callB call_len_seq (by rfl) B.len boot_len (pa_cons (pv 2) pa_nil)) (pg_name (i := 4) sc_l_undone.nd rfl (by first | exact Or.inl rfl | exact Or.inr rfl)))
  (pss_cons (ps_asg (pe_callTy call_tuple_of (by rfl) B.tuple (by decide +kernel) (pa_cons (pe_lc (own := [("line", 6)]) (g := (gName 6)) (tt := tYes) (te := (tCB (rTupQ K) (tCons (tVar 6) tNil))) rfl sc_l_undone.nd (pi_list (pe_cal C_l_units (hr.mono (by decide)) rfl (pa_cons (pv 1) (pa_cons (pv 4) pa_nil)))) (blkOk_by (own := [("line", 6)]) (N := N_l_undone) (by kernel_rfl)) (fun _ _ _ _ _ => (pg_name (i := 6) sc_l_undone.nd rfl (by first | exact Or.inl rfl | exact Or.inr rfl))) (fun _ _ _ _ _ => pts_nil) (fun _ _ _ _ _ => (pe_callTy call_tuple_of (by rfl) B.tuple (by decide +kernel) (pa_cons (pv 6) pa_nil)))) pa_nil)) (pg_name (i := 5) sc_l_undone.nd rfl (by first | exact Or.inl rfl | exact Or.inr rfl)))
  (pss_cons (ps_asg (pe_cal C_undone (hr.mono (by decide)) rfl (pa_cons (pv 1) (pa_cons (pe_cal C_l_given (hr.mono (by decide)) rfl (pa_cons (pv 0) (pa_cons (pv 1) (pa_cons (pv 2) pa_nil)))) pa_nil))) (pg_name (i := 7) sc_l_undone.nd rfl (by first | exact Or.inl rfl | exact Or.inr rfl)))
  (pss_cons (ps_if (pt_not (pt_val (pe_cal C_l_same (hr.mono (by decide)) rfl (pa_cons (pv 7) (pa_cons (pv 3) pa_nil))))) (pss_one (ps_ret pe_bl)) pss_nil)
  (pss_cons (ps_if (pt_cmp (pc_isN (pv 3))) (pss_one (ps_ret (pe_cal C_l_same (hr.mono (by decide)) rfl (pa_cons (pe_cmpR op_lt (pe_cal C_rank (hr.mono (by decide)) rfl (pa_cons (C8.pe_mk M_Field hr (by decide) rfl (pa_cons (pv 1) pa_nil)) (pa_cons (pe_cal C_l_given (hr.mono (by decide)) rfl (pa_cons (pv 0) (pa_cons (pv 1) (pa_cons (pv 2) pa_nil)))) pa_nil))) (pv 4) (nomark _)) (pa_cons pe_bl pa_nil))))) pss_nil)
  (pss_cons (ps_if (pt_not (pt_val (pe_cal C_l_same (hr.mono (by decide)) rfl (pa_cons (pe_tup (pa_cons (pe_cal C_times (hr.mono (by decide)) rfl (pa_cons (pv 1) (pa_cons (pv 7) (pa_cons (pe_cal C_l_given (hr.mono (by decide)) rfl (pa_cons (pv 0) (pa_cons (pv 1) (pa_cons (pv 2) pa_nil)))) pa_nil)))) (pa_cons (pe_cal C_times (hr.mono (by decide)) rfl (pa_cons (C8.pe_mk M_Field hr (by decide) rfl (pa_cons (pv 1) pa_nil)) (pa_cons (pe_cal C_l_given (hr.mono (by decide)) rfl (pa_cons (pv 0) (pa_cons (pv 1) (pa_cons (pv 2) pa_nil)))) (pa_cons (pv 7) pa_nil)))) pa_nil))) (pa_cons (pe_tup (pa_cons (pv 5) (pa_cons (pv 5) pa_nil))) pa_nil))))) (pss_one (ps_ret pe_bl)) pss_nil)
  (pss_one (ps_ret (pe_cal C_l_same (hr.mono (by decide)) rfl (pa_cons (pe_tup (pa_cons (pe_cal C_undone (hr.mono (by decide)) rfl (pa_cons (C8.pe_mk M_Field hr (by decide) rfl (pa_cons (pv 1) pa_nil)) (pa_cons (pv 7) pa_nil))) (pa_cons (pe_cal C_rank (hr.mono (by decide)) rfl (pa_cons (pv 1) (pa_cons (pv 7) pa_nil))) pa_nil))) (pa_cons (pe_tup (pa_cons (pe_callTy call_tuple_of (by rfl) B.tuple (by decide +kernel) (pa_cons (pe_lc (own := [("line", 6)]) (g := (gName 6)) (tt := tYes) (te := (tCB (rTupQ K) (tCons (tVar 6) tNil))) rfl sc_l_undone.nd (pi_list (pv 2)) (blkOk_by (own := [("line", 6)]) (N := N_l_undone) (by kernel_rfl)) (fun _ _ _ _ _ => (pg_name (i := 6) sc_l_undone.nd rfl (by first | exact Or.inl rfl | exact Or.inr rfl))) (fun _ _ _ _ _ => pts_nil) (fun _ _ _ _ _ => (pe_callTy call_tuple_of (by rfl) B.tuple (by decide +kernel) (pa_cons (pv 6) pa_nil)))) pa_nil)) (pa_cons (pv 4) pa_nil))) pa_nil))))))))))), fun M ds P' j hR hq => ?_⟩
  obtain ⟨F, tab, n, T, ls, rfl, hlen, h1, h6, hw, hcd, hD, rfl⟩ := hR
  have nt : tab ≠ [] := fun z => by rw [z] at hlen; simp at hlen; omega
  have ebt : ∀ t ∈ tab, ∀ x ∈ t, EbF 1000 F x := fun t ht x hx => cdf_eb (hcd t ht) x hx
  have giv : ∀ {δ : List Sl}, δ[0]? = some (some (.inr j)) → δ[1]? = some (some (.inl (.int F.p))) → δ[2]? = some (some (.inl (.lst (tab.map F.rowL)))) → Ev ⟨H, j :: [(Pt, qLam "swept_rows")].map (·.1), M, some j, [(Pt, qLam "swept_rows")], M, [], []⟩ (tCall (spJ R_l_given) [] E0 (tCons (tVar 0) (tCons (tVar 1) (tCons (tVar 2) tNil)))) δ (fun d => Giv F d tab) :=
    fun h0 h1 h2 => ev_callJ h0 rfl (ea_cons (ev_var h1) (ea_cons (ev_var h2) ea_nil)) fun ds e => ⟨F, tab, e, by omega, fun t ht => by rw [hw t ht]; omega, ebt, rfl⟩
  have alen := aug_len (α := F.α) (tab := tab) hlen
  have okA : RowsOk F (aug n tab) (2 * n) := RowsOk.of (b := 1000) (by omega) (by decide) (CdF.aug hcd)
  have okT : RowsOk F tab n := RowsOk.of (b := 1000) (by omega) (by decide) hcd
  have fld : ∀ {δ : List Sl}, δ[1]? = some (some (.inl (.int F.p))) → Ev ⟨H, j :: [(Pt, qLam "swept_rows")].map (·.1), M, some j, [(Pt, qLam "swept_rows")], M, [], []⟩ (tMake C_Field (spI C_Field) [] E0 (tCons (tVar 1) tNil)) δ (· = fldD C_Field F) := fun h1 => ev_make (ea_cons (ev_var h1) ea_nil)
  refine ss_asg ((ev_cb (Ev.r (ev_var rfl)) (rc_len (ds := tab.map F.rowL) rfl)).is (d' := nD n) (by rw [List.length_map, hlen]; rfl)) ?_
  refine ss_asg (d := tabD F (unitL F.α n)) (ev_cb (Ev.r (EvN.evE (en_lst' (unitL F.α n) F.rowL F.row (ev_call (ea_cons (ev_var rfl) (ea_cons (ev_var rfl) ea_nil)) ⟨F, n, rfl, by omega, rfl⟩) (by rw [unitL_len]; omega) fun l acc r hr => ⟨[6], _, eg_name, fun _ h => h, ev_cb (Ev.r (ev_var rfl)) (rc_tuple rfl)⟩))) (rc_tuple rfl)) ?_
  refine ss_asg (d := dueD F n T ls) ((ev_callT rfl (ea_consE (ev_var rfl) (ea_one (giv rfl rfl rfl))) fun ds ⟨_, e, d, e2, hg⟩ => ⟨F, .int F.p, d, tab, n, by rw [e, e2], .inl rfl, hg, hlen, h1, by omega, hw, okA, rfl⟩).mono fun d ⟨T', ls', sw', sp', e⟩ => by
    obtain ⟨rfl, rfl⟩ := hD.sw.uniq sw' (hD.sp.trans sp'.symm)
    exact e) ?_
  have wD : ∀ r ∈ T.map (·.drop n), r.length = n := fun r hr => by
    obtain ⟨s, hs, rfl⟩ := List.mem_map.mp hr
    rw [List.length_drop, hD.sw.wid s hs]; omega
  have lD : (T.map (·.drop n)).length = n := by rw [List.length_map, hD.len]
  have plD : Pl 3 (tabD F (T.map (·.drop n))) := pl_tab (by omega) fun r hr => by rw [wD r hr]; omega
  have plDue : Pl 5 (dueD F n T ls) := by
    unfold dueD
    split
    · exact plD.up.up
    · trivial
  refine sd_no ((et_not (et_B (Ev.r (ev_call (ea_cons (ev_var rfl) (ea_cons (ev_var rfl) ea_nil)) ⟨_, rfl, plDue, rfl⟩)))).is rfl) ?_
  by_cases hls : ls = List.range n
  · have eD : dueD F n T ls = tabD F (T.map (·.drop n)) := by unfold dueD; rw [if_pos hls]
    rw [eD]
    subst hls
    refine sd_no ((et_B (Ev.r (ev_isN (Ev.r (ev_var rfl))))).is rfl) ?_
    obtain ⟨AB, BA⟩ := inv_of hlen hw hD.sw hD.sp hD.len
    have cdB : ∀ r ∈ T.map (·.drop n), CdF 13000 F r := fun r hr => by
      obtain ⟨s, hs, rfl⟩ := List.mem_map.mp hr
      exact (hD.cd s hs).drop n
    generalize T.map (·.drop n) = Bt at *
    have nB : Bt ≠ [] := fun z => by rw [z] at lD; simp at lD; omega
    have eb1 : ∀ t ∈ tab, ∀ x ∈ t, EbF 13000 F x := fun t ht x hx => ebf_mono (ebt t ht x hx) (by decide)
    have eb2 : ∀ t ∈ Bt, ∀ x ∈ t, EbF 13000 F x := fun t ht x hx => cdf_eb (cdB t ht) x hx
    have plU : Pl 3 (tabD F (unitL F.α n)) := pl_tab (by rw [unitL_len]; omega) fun r hr => by rw [unitL_wid r hr]; omega
    refine sd_no ((et_not (et_B (Ev.r (ev_call (ds := [.tup [tabD F (unitL F.α n), tabD F (unitL F.α n)], .tup [tabD F (unitL F.α n), tabD F (unitL F.α n)]]) (ea_cons (ev_tup (ea_cons
        ((ev_callR (P := (· = tabD F (Bt.map (lrow n tab)))) (ea_consE (ev_var rfl) (ea_consE (ev_var rfl) (ea_one (giv rfl rfl rfl)))) fun ds ⟨_, e, _, e2, d, e3, hg⟩ => ⟨F, .int F.p, tabD F Bt, d, Bt, tab, n, 13000, by rw [e, e2, e3], .inl rfl, giv_tab Bt, hg, by omega, by omega, nt, fun r hr => by rw [wD r hr, hlen], by omega, hw, by decide, eb2, eb1, rfl⟩).is (by rw [inv_rows lD BA])) (ea_cons
        ((ev_callR (P := (· = tabD F (tab.map (lrow n Bt)))) (ea_consE (fld rfl) (ea_consP (giv rfl rfl rfl) (ea_cons (ev_var rfl) ea_nil))) fun ds ⟨_, e, d, _, e2, hg, e3⟩ => ⟨F, fldD C_Field F, d, tabD F Bt, tab, Bt, n, 13000, by rw [e, e2, e3], .inr rfl, hg, giv_tab Bt, by omega, by omega, nB, fun r hr => by rw [hw r hr, lD], by omega, wD, by decide, eb1, eb2, rfl⟩).is (by rw [inv_rows hlen AB])) ea_nil)))
        (ea_cons (ev_tup (ea_cons (ev_var rfl) (ea_cons (ev_var rfl) ea_nil))) ea_nil)) ⟨_, rfl, (pl_two plU plU).up, rfl⟩)))).is rfl) ?_
    have plT : Pl 3 (tabD F tab) := pl_tab (by omega) fun r hr => by rw [hw r hr]; omega
    have alenB := aug_len (α := F.α) (tab := Bt) lD
    have okAB : RowsOk F (aug n Bt) (2 * n) := RowsOk.of (b := 13000) (by omega) (by decide) (CdF.aug cdB)
    have okB : RowsOk F Bt n := RowsOk.of (b := 13000) (by omega) (by decide) cdB
    refine sd_ret (Ev.r (ev_call (ds := [.tup [tabD F tab, nD n], .tup [tabD F tab, nD n]]) (ea_cons (ev_tup (ea_cons
        ((ev_callT rfl (ea_cons (fld rfl) (ea_cons (ev_var rfl) ea_nil)) fun ds e => ⟨F, fldD C_Field F, tabD F Bt, Bt, n, e, .inr rfl, giv_tab Bt, lD, h1, by omega, wD, okAB, rfl⟩).mono fun d ⟨T', ls', sw', sp', e⟩ => by
          obtain ⟨rfl, rfl⟩ := (augL_sw hlen hw).uniq sw' ((inv_back hlen hw lD wD AB BA).trans sp'.symm)
          rw [e, if_pos rfl, augL_drop hlen]) (ea_cons
        ((ev_callT rfl (ea_cons (ev_var rfl) (ea_cons (ev_var rfl) ea_nil)) fun ds e => ⟨F, .int F.p, tabD F Bt, Bt, n, e, .inl rfl, giv_tab Bt, by omega, by omega, wD, okB, rfl⟩).mono fun d ⟨T', ls', sw', sp', e⟩ => by
          rw [e, rank_full hlen hw lD wD AB sw' sp']) ea_nil)))
        (ea_cons (ev_tup (ea_cons (ev_cb (Ev.r (EvN.evE (en_lst' tab F.rowL F.row (ev_var rfl) (by omega) fun l acc r hr => ⟨[6], _, eg_name, fun _ h => h, ev_cb (Ev.r (ev_var rfl)) (rc_tuple rfl)⟩))) (rc_tuple rfl)) (ea_cons (ev_var rfl) ea_nil))) ea_nil)) ⟨_, rfl, (pl_two plT (pl_nD n)).up, rfl⟩)) hq rfl
  · have eD : dueD F n T ls = .non := by unfold dueD; rw [if_neg hls]
    rw [eD]
    refine sd_yes ((et_B (Ev.r (ev_isN (Ev.r (ev_var rfl))))).is rfl) ?_
    refine sd_ret (Ev.r (ev_call (ds := [.bl true, .bl true]) (ea_cons (ev_opR (P1 := fun d => ∃ (S : List (List F.α)) (ms : List Nat), Sw n S ms ∧ SameSp S tab ∧ d = nD S.length) (P2 := (· = nD n)) (Ev.r (ev_callT rfl (ea_consE (fld rfl) (ea_one (giv rfl rfl rfl))) fun ds ⟨_, e, d, e2, hg⟩ => ⟨F, fldD C_Field F, d, tab, n, by rw [e, e2], .inr rfl, hg, by omega, by omega, hw, okT, rfl⟩)) (Ev.r (ev_var rfl)) fun d1 d2 ⟨S, ms, sw2, sp2, e1⟩ e2 => by
      subst e1 e2
      have := rank_short hlen hw hD.sw hD.sp hD.len hls sw2 sp2
      exact rv_B0.mono fun d e => by rw [e, decide_eq_true (by omega)]) (ea_cons ev_bl ea_nil)) ⟨_, rfl, trivial, rfl⟩)) hq rfl
end
end E
namespace E
open PySem PySem.Spec PyProof.Rows L2 TL
/-- rows of n numbers, not great -/
structure Rws (F : Fm) (n : Nat) (rows : List (List F.α)) : Prop where
  wid : ∀ r ∈ rows, r.length = n
  cd : ∀ r ∈ rows, CdF 60 F r
  len : rows.length ≤ 100
  n64 : n ≤ 64
theorem Rws.eb {F : Fm} {n : Nat} {rows : List (List F.α)} (h : Rws F n rows) : ∀ t ∈ rows, ∀ x ∈ t, EbF 60 F x := fun t ht x hx => cdf_eb (h.cd t ht) x hx
theorem TabOk.rws {F : Fm} {s : Int} {b m n : Nat} {tab : List (List F.α)} (h : TabOk F s b m n tab) (hs : s ≠ 0) (hb : b < 2 ^ 60) (hs2 : s.natAbs < 2 ^ 60) (hm : m ≤ 100) (hn : n ≤ 64) : Rws F n tab := ⟨h.wid, h.cd hs hb hs2, by rw [h.len]; exact hm, hn⟩
theorem raw_L {F : Fm} (rows : List (List F.α)) : Raw F (.lst (rows.map F.rowL)) rows := ⟨rows.map fun r => (F.rowL r, r), by rw [List.map_map]; rfl, by rw [List.map_map]; exact (List.map_id _).symm, fun z hz => by obtain ⟨r, _, rfl⟩ := List.mem_map.mp hz; rfl⟩
theorem raw_T {F : Fm} (rows : List (List F.α)) : Raw F (tabD F rows) rows := ⟨rows.map fun r => (F.row r, r), by rw [List.map_map]; rfl, by rw [List.map_map]; exact (List.map_id _).symm, fun z hz => by obtain ⟨r, _, rfl⟩ := List.mem_map.mp hz; rfl⟩
theorem giv_of {F : Fm} {d : D} {e : List F.α → D} (tab : List (List F.α)) (h : seqD d = some (tab.map e)) (he : ∀ r, seqD (e r) = some (r.map F.enc)) : Giv F d tab := by
  refine ⟨tab.map fun r => (e r, r.map fun x => (F.enc x, x)), by rw [h, List.map_map]; rfl, ?_, fun z hz => ?_⟩
  · rw [List.map_map]
    have : ((fun z : D × List (D × F.α) => z.2.map (·.2)) ∘ fun r : List F.α => (e r, r.map fun x => (F.enc x, x))) = id := by
      funext r
      show (r.map fun x => (F.enc x, x)).map (·.2) = r
      rw [List.map_map]; exact List.map_id _
    rw [this, List.map_id]
  · obtain ⟨r, _, rfl⟩ := List.mem_map.mp hz
    refine ⟨?_, fun q hq => ?_⟩
    · show seqD (e r) = some _
      rw [he, List.map_map]; rfl
    · obtain ⟨x, _, rfl⟩ := List.mem_map.mp hq
      exact writ_enc x
theorem giv_L {F : Fm} (tab : List (List F.α)) : Giv F (.lst (tab.map F.rowL)) tab := giv_of (e := F.rowL) tab rfl fun _ => rfl
theorem giv_LT {F : Fm} (tab : List (List F.α)) : Giv F (.lst (tab.map F.row)) tab := giv_of (e := F.row) tab rfl fun _ => rfl
theorem givR_row {F : Fm} (r : List F.α) : GivR F (F.row r) r := ⟨r.map fun x => (F.enc x, x), by show some (r.map F.enc) = some _; rw [List.map_map]; rfl, by rw [List.map_map]; exact (List.map_id _).symm, fun q hq => by
  obtain ⟨x, _, rfl⟩ := List.mem_map.mp hq
  exact writ_enc x⟩
theorem Cd.sub {b : Nat} {r s : List Rat} (h : Cd b r) (k : ∀ x ∈ s, x ∈ r) : Cd b s := by
  obtain ⟨w, w0, w1, hw⟩ := h.ex
  exact ⟨w, w0, w1, fun x hx => hw x (k x hx)⟩
theorem ir_cd {b e : Nat} {r : List Int} (h : ∀ x ∈ r, x.natAbs ≤ b) (hb : b < 2 ^ e) (he : 1 ≤ e) : Cd e (ir r) := cd_of (s := 1) (by decide) (by
    show (1 : Int).natAbs < 2 ^ e
    have := Nat.pow_le_pow_right (n := 2) (by decide) he
    simp at this ⊢; omega) fun x hx => by
  obtain ⟨a, ha, rfl⟩ := List.mem_map.mp hx
  exact ⟨a, Nat.lt_of_le_of_lt (h a ha) hb, div_of (by decide) (Rat.one_mul _).symm⟩
section
variable {c : Ct} {δ : List Sl} {Dn : Ends} {j : Addr}
theorem ev_giv {F : Fm} {tab : List (List F.α)} {i n : Nat} {E : XK} {tf tt : TE} (h0 : δ[i]? = some (some (.inr j))) (hc : c.jr = some j) (h1 : Ev c tf δ (· = .int F.p)) (h2 : Ev c tt δ (· = .lst (tab.map F.rowL))) (hR : Rws F n tab) :
    Ev c (tCall (spJ R_l_given) [] E (tCons (tVar i) (tCons tf (tCons tt tNil)))) δ (fun d => Giv F d tab) :=
  ev_callJ h0 hc (ea_cons h1 (ea_cons h2 ea_nil)) fun ds e => ⟨F, tab, e, Nat.le_trans hR.len (by decide), fun t ht => by rw [hR.wid t ht]; exact Nat.le_trans hR.n64 (by decide), fun t ht x hx => ebf_mono (hR.eb t ht x hx) (by decide), rfl⟩
theorem ev_sq {F : Fm} {i n : Nat} {E : XK} {tf tn : TE} (h0 : δ[i]? = some (some (.inr j))) (hc : c.jr = some j) (h1 : Ev c tf δ (· = .int F.p)) (h2 : Ev c tn δ (· = nD n)) (hn1 : 1 ≤ n) (hn : n ≤ 6) :
    Ev c (tCall (spJ R_l_square) [] E (tCons (tVar i) (tCons tf (tCons tn tNil)))) δ (fun d => ∃ tab : List (List F.α), d = .lst (tab.map F.rowL) ∧ TabOk F 12 sqB n n tab) :=
  ev_callJ h0 hc (ea_cons h1 (ea_cons h2 ea_nil)) fun ds e => ⟨F, n, e, hn1, hn, rfl⟩
theorem ev_inv {F : Fm} {n : Nat} {E : XK} {tf tt : TE} {tab : List (List F.α)} (h1 : Ev c tf δ (· = .int F.p)) (h2 : Ev c tt δ (· = .lst (tab.map F.rowL))) (hn1 : 1 ≤ n) (hn : n ≤ 6) (hT : TabOk F 12 sqB n n tab) :
    Ev c (tCall (spP R_l_inverse) [] E (tCons tf (tCons tt tNil))) δ (fun d => ∃ (T : List (List F.α)) (ls : List Nat), Due F n tab T ls ∧ d = dueD F n T ls) :=
  (ev_callR (ea_cons h1 (ea_cons h2 ea_nil)) fun ds e => ⟨F, tab, n, 60, e, hT.len, hn1, hn, hT.wid, by decide, CdF.aug (hT.cd (by decide) (by decide) (by decide)), rfl⟩).mono fun d ⟨T, ls, a, b, l, q, e⟩ => ⟨T, ls, ⟨a, b, l, q⟩, e⟩
theorem ev_rankE {F : Fm} {n : Nat} {E : XK} {C : Addr} {TT0 : List (Addr × Str)} {tf td : TE} {f : D} {rows T : List (List F.α)} {ls : List Nat} (hT : c.tb = TT0) (h1 : Ev c tf δ (· = f)) (hf : FldOr C F f) (h2 : Ev c td δ (fun d => Giv F d rows)) (hR : Rws F n rows) (hm : min rows.length n ≤ 6) (sw : Sw n T ls) (sp : SameSp T rows) :
    Ev c (tCall (spT TT0 (R_rank C)) [] E (tCons tf (tCons td tNil))) δ (· = nD T.length) :=
  (ev_callT hT (ea_consE h1 (ea_one h2)) fun ds ⟨_, e, d, e2, hg⟩ => ⟨F, f, d, rows, n, by rw [e, e2], hf, hg, Nat.le_trans hR.len (by decide), hR.n64, hR.wid, RowsOk.of hm (by decide) hR.cd, rfl⟩).mono fun d ⟨T', ls', sw', sp', e⟩ => by
    obtain ⟨rfl, _⟩ := sw.uniq sw' (sp.trans sp'.symm)
    exact e
theorem ev_sweptE {F : Fm} {n : Nat} {K : PySem.W.Frag} {E : XK} {tf td tn : TE} {d : D} {rows T : List (List F.α)} {ls : List Nat} (h1 : Ev c tf δ (· = .int F.p)) (h2 : Ev c td δ (· = d)) (h3 : Ev c tn δ (· = nD n)) (hr : Raw F d rows) (hR : Rws F n rows) (hm : min rows.length n ≤ 6) (sw : Sw n T ls) (sp : SameSp T rows) :
    Ev c (tCB (rLenQ K) (tCons (tCall (spP R_l_swept) [] E (tCons tf (tCons td (tCons tn tNil)))) tNil)) δ (· = nD T.length) :=
  ev_cb1 (P1 := (· = .lst (T.map F.row))) (Ev.r ((ev_callR (ea_cons h1 (ea_cons h2 (ea_cons h3 ea_nil))) fun ds e => ⟨F, d, rows, n, 60, e, hr, hR.n64, hR.len, hR.wid, hm, by decide, hR.cd, rfl⟩).mono fun d' ⟨T', ls', e, sw', sp', _⟩ => by
    obtain ⟨rfl, _⟩ := sw.uniq sw' (sp.trans sp'.symm)
    exact e)) fun d' e => by
      subst e
      exact (rc_len (ds := T.map F.row) rfl).mono fun d e => by rw [e, List.length_map]; rfl
theorem ev_undL {F : Fm} {n i : Nat} {E : XK} {TT0 : List (Addr × Str)} {tf tt td : TE} {tab : List (List F.α)} (hT : c.tb = TT0) (h0 : δ[i]? = some (some (.inr j))) (hc : c.jr = some j) (h1 : Ev c tf δ (· = .int F.p)) (h2 : Ev c tt δ (· = .lst (tab.map F.rowL))) (h3 : Ev c td δ (fun d => ∃ (T : List (List F.α)) (ls : List Nat), Due F n tab T ls ∧ d = dueD F n T ls))
    (hl : tab.length = n) (hn1 : 1 ≤ n) (hn : n ≤ 6) (hw : ∀ t ∈ tab, t.length = n) (hcd : ∀ t ∈ tab, CdF 1000 F t) : Ev c (tCall (spJT TT0 R_l_undone) [] E (tCons (tVar i) (tCons tf (tCons tt (tCons td tNil))))) δ (· = .bl true) :=
  ev_callJT hT h0 hc (ea_consE h1 (ea_consE h2 (ea_one h3))) fun ds ⟨_, e, _, e2, d, e3, T, ls, hD, e4⟩ => ⟨F, tab, n, T, ls, by rw [e, e2, e3, e4], hl, hn1, hn, hw, hcd, hD, rfl⟩
theorem et_sameNot {E : XK} {ta tb : TE} {d : D} (h1 : Ev c ta δ (· = d)) (h2 : Ev c tb δ (· = d)) (hp : Pl 5 d) : EvT c (tNot (tB (tCall (spP (Rsame 6)) [] E (tCons ta (tCons tb tNil))))) δ (· = false) :=
  (et_not (et_B (Ev.r (ev_call (ea_cons h1 (ea_cons h2 ea_nil)) ⟨d, rfl, hp, rfl⟩)))).is rfl
end
section
variable {P : Program} {w : World} {K : PySem.W.Frag} {mg : Str → Option Value} {base : Heap} {C_Field Pt : Addr}
abbrev s_l_jar : Stmt := topS 49
abbrev N_l_jar : List Str := ["script"]
abbrev p_l_jar : List Str := ["script"]
theorem sc_l_jar : FnScope N_l_jar p_l_jar (defScope s_l_jar) := ⟨rfl, rfl, rfl, by decide +kernel, rfl, by decide +kernel, by decide +kernel⟩
abbrev s_law : Stmt := topS 75
abbrev N_law : List Str := ["script", "jar", "f", "wide", "k", "tab", "due", "tall", "left", "other_tab", "kept", "line", "told", "second", "pairs", "beside", "above", "dues", "ranks", "back"]
abbrev p_law : List Str := ["script"]
theorem sc_law : FnScope N_law p_law (defScope s_law) := ⟨rfl, rfl, rfl, by decide +kernel, rfl, by decide +kernel, by decide +kernel⟩
def spNew (K : PySem.W.Frag) : L2.Sp := fun vs H Q _ => ∃ (a : Addr) (ns : List Int), vs = [.ref a] ∧ SqL K H a (ns.map V.int) ∧ ∀ H' j sc, Same H H' → H j = none → sc ≠ j → (∀ b, H b ≠ none → sc ≠ b) → H' j = some (.lst [.ref sc, .int 0, .int 0, .int 0, .int 17799]) → H' sc = some (.lst ((ns.take 63).map V.int)) → Q (.ref j) H'
theorem c_l_jar (h : Has K mg "_law_jar" s_l_jar p_l_jar) (B : Bi mg) : Cal P w K mg base "_law_jar" 41 p_l_jar (spNew K) := by
  obtain ⟨f, fd, F, hm, bd⟩ := h.ex
  refine ⟨f, fd, F.ok (k := 40) sc_l_jar (fun vs H Q E h => by obtain ⟨_, _, rfl, _⟩ := h; rfl) (fun cdv A outer s H vs Q E hr h => ⟨(tRet (tLst (tCons (tCB (rListQ K) (tCons (tSl (rSlL K) (tVar 0) tNoPart (tPart (tC (.int 63)))) tNil)) (tCons (tC (.int 0)) (tCons (tC (.int 0)) (tCons (tC (.int 0)) (tCons (tC (.int 17799)) tNil))))))),
  (pss_one (ps_ret (pe_lst (pa_cons (pe_callTy call_list_of (by rfl) B.list (by decide +kernel) (pa_cons (pe_slice sl_list (pv 0) po_none (po_some pe_int)) pa_nil)) (pa_cons pe_int (pa_cons pe_int (pa_cons pe_int (pa_cons pe_int pa_nil)))))))), ?_⟩), hm, F.kp, bd⟩
  obtain ⟨a, ns, rfl, hS, hq⟩ := h
  have ec : cutV (ns.map V.int) none (some 63) = (ns.take 63).map V.int := by
    unfold cutV
    rw [HT.sIx_none]
    have : HT.sIx (ns.map V.int).length (ns.map V.int).length (some 63) = min 63 (ns.map V.int).length := HT.sIx_nat _ _ 63
    rw [this, List.drop_zero, Nat.sub_zero, ← List.take_take, List.take_length, List.map_take]
  refine ⟨.ref a, rfl, 63, rfl, a, ns.map V.int, rfl, hS, fun p hp => ⟨p, _, rfl, .inl (SqL.of upd_same), fun l hl => ⟨(by decide : 5 ≤ sizeLine), fun j hj => ?_⟩⟩⟩
  rw [ec] at hl hj ⊢
  have jl : l ≠ j := fun z => by rw [z, upd_same] at hj; cases hj
  have hlp : l ≠ p := fun z => by rw [z, upd_same] at hl; cases hl
  have hjp : j ≠ p := fun z => by rw [upd_ne (fun q => jl q.symm), z, upd_same] at hj; cases hj
  have hl0 : H l = none := by rw [upd_ne hlp] at hl; exact hl
  have hj0 : H j = none := by rw [upd_ne (fun q => jl q.symm), upd_ne hjp] at hj; exact hj
  refine hq _ j l (fun b o e => ?_) hj0 jl (fun b hb z => hb (z ▸ hl0)) upd_same (by rw [upd_ne jl, upd_same])
  rw [upd_ne (ne_of_none e hj0), upd_ne (ne_of_none e hl0), upd_ne (ne_of_none e hp)]; exact e
/-- the promise of the law: true, whatever the script -/
def spLaw (K : PySem.W.Frag) (Pt : Addr) : L2.Sp := fun vs H Q _ => ∃ (a : Addr) (ns : List Int), vs = [.ref a] ∧ SqL K H a (ns.map V.int) ∧ H Pt = some (.tbl #[]) ∧ ∀ H', Q (.bl true) H'
abbrev LC (H : Hp) (j Pt : Addr) : Ct := ⟨H, j :: [(Pt, qLam "swept_rows")].map (·.1), [j, Pt], some j, [(Pt, qLam "swept_rows")], [j, Pt], [], []⟩
theorem law_start {N : List Str} {H : Hp} {a j sc Pt : Addr} {ns : List Int} (hN : 2 ≤ N.length) (hj : H j = some (.lst [.ref sc, .int 0, .int 0, .int 0, .int 17799])) (hs : H sc = some (.lst ((ns.take 63).map V.int))) (hP : H Pt = some (.tbl #[])) (hsj : sc ≠ j) (hsP : sc ≠ Pt) :
    Sta (LC H j Pt) (none :: some (.inr j) :: List.replicate (N.length - 2) none) ((L2.start N [.ref a]).set 1 (some (.ref j))) H := by
  have gd : ∀ b ∈ [j, Pt], H b ≠ none ∧ Mut H b := fun b hb => by
    rcases List.mem_cons.mp hb with e | hb
    · rw [e]; exact ⟨by rw [hj]; exact (fun z => nomatch z), mut_lst hj⟩
    · rw [List.mem_singleton.mp hb]; exact ⟨by rw [hP]; exact (fun z => nomatch z), mut_tbl hP⟩
  refine ⟨fun b hb => (gd b hb).1, fun _ hb => hb, fun b hb => hb, (fun q hq => by cases hq), Ext.refl _ _, (fun q hq => by cases hq), (fun p hp => by cases hp), List.nodup_nil, fun j2 ej => ?_, ?_, fun b hb => (gd b hb).2, fun p hp => ?_⟩
  · cases ej
    exact ⟨List.mem_cons_self, List.mem_cons_self, (fun q hq => by cases hq), sc, ns.take 63, 0, 0, 0, 17799, hj, by simp [hsj, hsP], hs, by simp; omega, by decide, by decide, by decide, by decide, by decide⟩
  · obtain ⟨n, hn⟩ : ∃ n, N.length = n + 2 := ⟨N.length - 2, by omega⟩
    have e1 : (L2.start N [.ref a]).set 1 (some (.ref j)) = some (.ref a) :: some (.ref j) :: List.replicate n none := by
      unfold L2.start
      rw [hn]
      show (some (V.ref a) :: List.replicate (n + 1) none).set 1 _ = _
      rfl
    rw [e1, hn]
    refine ⟨by simp, fun i => ?_⟩
    match i with
    | 0 => exact ⟨(fun d q => by cases q), (fun l q => by cases q)⟩
    | 1 => exact ⟨(fun d q => by cases q), (fun l q => by cases q; rfl)⟩
    | i + 2 =>
      have none_ : ∀ x, (List.replicate n (none : Sl))[i]? ≠ some (some x) := fun x => by
        rw [List.getElem?_replicate]
        split <;> intro z <;> cases z
      exact ⟨(fun d q => absurd q (none_ _)), (fun l q => absurd q (none_ _))⟩
  · have : p = (Pt, qLam "swept_rows") := by simpa using hp
    subst this
    refine ⟨by simp, by simp, (fun q hq => by cases hq), #[], hP, ?_, fun pos cv hc => ?_⟩
    · trivial
    · cases hc
end
end E
namespace E
open PySem PySem.Spec PyProof.Rows L2 TL
theorem long_due {m b : Nat} {A Bm : List (List Int)} (hC : Chg m b A Bm) (hb : b < 2 ^ 230) : Due .q m (qm A) (augL m (qm Bm)) (List.range m) ∧ tabD .q (qm Bm) = dueD .q m (augL m (qm Bm)) (List.range m) ∧ (qm A).length = m ∧ (∀ t ∈ qm A, t.length = m) ∧ ∀ t ∈ qm A, CdF 1000 .q t := by
  have lA : (qm A).length = m := by unfold qm; rw [List.length_map]; exact hC.lenA
  have lB : (qm Bm).length = m := by unfold qm; rw [List.length_map]; exact hC.lenB
  have wA : ∀ t ∈ qm A, t.length = m := fun t ht => by
    obtain ⟨r, hr, rfl⟩ := List.mem_map.mp ht
    rw [ir_len]; exact hC.widA r hr
  have wB : ∀ t ∈ qm Bm, t.length = m := fun t ht => by
    obtain ⟨r, hr, rfl⟩ := List.mem_map.mp ht
    rw [ir_len]; exact hC.widB r hr
  have cA : ∀ t ∈ qm A, Cd 230 t := fun t ht => by
    obtain ⟨r, hr, rfl⟩ := List.mem_map.mp ht
    exact ir_cd (hC.bdA r hr) hb (by decide)
  have cB : ∀ t ∈ qm Bm, Cd 230 t := fun t ht => by
    obtain ⟨r, hr, rfl⟩ := List.mem_map.mp ht
    exact ir_cd (hC.bdB r hr) hb (by decide)
  have sw := augL_sw lB wB
  refine ⟨⟨sw, inv_back lB wB lA wA (InvL.flip lA wA lB wB hC.inv) hC.inv, ?_, fun r hr => ?_⟩, ?_, lA, wA, fun t ht => Cd.mono (cA t ht) (by decide)⟩
  · have := sw.len
    rw [List.length_range] at this
    exact this
  · obtain ⟨k, hk⟩ := List.mem_iff_getElem?.mp hr
    obtain ⟨t, u, h1, h2, rfl⟩ := augL_get hk
    exact Cd.mono (Cd.sub ((cB t (List.mem_of_getElem? h1)).unit (List.mem_of_getElem? h2)) fun x hx => List.mem_append.mpr ((List.mem_append.mp hx).symm)) (by decide)
  · unfold dueD
    rw [if_pos rfl]
    exact congrArg (tabD .q) (augL_drop lB).symm
theorem pl_nums (l : List Nat) (h : l.length ≤ 1000) : Pl 5 (.lst (l.map nD)) := ⟨by rw [List.length_map]; exact h, fun d hd => by
  obtain ⟨k, _, rfl⟩ := List.mem_map.mp hd
  exact pl_nD k⟩
theorem pl_due {F : Fm} {n : Nat} {tab T : List (List F.α)} {ls : List Nat} (hn : n ≤ 6) (h : Due F n tab T ls) : Pl 5 (dueD F n T ls) := by
  unfold dueD
  split
  · refine (pl_tab (F := F) (tab := T.map fun r => r.drop n) (by rw [List.length_map, h.len]; omega) fun r hr => ?_).up.up
    obtain ⟨s, hs, rfl⟩ := List.mem_map.mp hr
    rw [List.length_drop, h.sw.wid s hs]; omega
  · trivial
theorem new_run {K : PySem.W.Frag} {E : XK} {u : TS} {σ : L2.St} {H : Hp} {Dn : Ends} {a : Addr} {ns : List Int} {i : Nat} (h0 : σ[0]? = some (some (.ref a))) (hS : SqL K H a (ns.map V.int))
    (k : ∀ H' j sc, Same H H' → H j = none → sc ≠ j → (∀ b, H b ≠ none → sc ≠ b) → H' j = some (.lst [.ref sc, .int 0, .int 0, .int 0, .int 17799]) → H' sc = some (.lst ((ns.take 63).map V.int)) → u Dn (σ.set i (some (.ref j))) H') :
    (tSeq (tAsg (tCall (spNew K) [] E (tCons (tVar 0) tNil)) (gName i)) u) Dn σ H := by
  refine ⟨.ref a, h0, ?_⟩
  refine (?_ : spNew K ([.ref a] ++ []) H (fun x H1 => gName i x σ H1 (u Dn)) E)
  rw [List.append_nil]
  exact ⟨a, ns, rfl, hS, k⟩
section
variable {P : Program} {w : World} {K : PySem.W.Frag} {mg : Str → Option Value} {base : Heap} {C_Field Pt : Addr}
theorem c_law {fl : Addr} {fdl : FuncData} (FL : Fun K "law" "law" s_law fl fdl) (B : Bi mg) (CF : ClsF K mg C_Field) (M_Field : C8.Mak P w K mg base 42 "Field" C_Field (spI C_Field) [])
    (C_l_jar : Cal P w K mg base "_law_jar" 41 p_l_jar (spNew K)) (C_l_draw : Cal P w K mg base "_law_draw" 41 p_l_draw (spJ R_l_draw)) (C_l_field : Cal P w K mg base "_law_field" 43 p_l_field (spJ R_l_field))
    (C_l_square : Cal P w K mg base "_law_square" 45 p_l_square (spJ R_l_square)) (C_l_table : Cal P w K mg base "_law_table" 44 p_l_table (spJ R_l_table)) (C_l_long : Cal P w K mg base "_law_long" 44 p_l_long (spJ R_l_long))
    (C_l_given : Cal P w K mg base "_law_given" 43 p_l_given (spJ R_l_given)) (C_l_inverse : Cal P w K mg base "_law_inverse" 46 p_l_inverse (spP R_l_inverse)) (C_l_product : Cal P w K mg base "_law_product" 45 p_l_product (spP R_l_product)) (C_l_swept : Cal P w K mg base "_law_swept" 45 p_l_swept (spP R_l_swept))
    (C_l_same : Cal P w K mg base "_law_same" 47 p_l_same (spP (Rsame 6))) (C_l_undone : Cal P w K mg base "_law_undone" 48 p_l_undone (spJT [(Pt, qLam "swept_rows")] R_l_undone))
    (C_undone : Cal P w K mg base "undone" 46 p_undone (spT [(Pt, qLam "swept_rows")] (R_undone C_Field))) (C_rank : Cal P w K mg base "rank" 46 p_rank (spT [(Pt, qLam "swept_rows")] (R_rank C_Field))) (C_times : Cal P w K mg base "times" 46 p_times (spP (R_times C_Field))) (C_led : Cal P w K mg base "led" 46 p_led (spP (R_led C_Field))) :
    FnOk P w K mg base CX0 49 fl fdl p_law (spLaw K Pt) := by
  refine FL.ok (k := 48) sc_law (fun vs H Q E h => by obtain ⟨_, _, rfl, _⟩ := h; rfl) (fun cdv A outer s H vs Q E hr h => ⟨(tSeq (tAsg (tCall (spNew K) [] E0 (tCons (tVar 0) tNil)) (gName 1))
  (tSeq (tAsg (tCall (spJ R_l_field) [] E0 (tCons (tVar 1) tNil)) (gName 2))
  (tSeq (tAsg (tOp rAddI (tC (.int 1)) (tCall (spJ R_l_draw) [] E0 (tCons (tVar 1) (tCons (tC (.int 6)) tNil)))) (gName 3))
  (tSeq (tFor (iRng1 (tCons (tC (.int 2)) tNil)) (gName 4) (tSeq (tAsg (tCall (spJ R_l_square) [] E0 (tCons (tVar 1) (tCons (tVar 2) (tCons (tVar 3) tNil)))) (gName 5))
  (tIfS (tNot (tB (tCall (spJT [(Pt, qLam "swept_rows")] R_l_undone) [] E0 (tCons (tVar 1) (tCons (tVar 2) (tCons (tVar 5) (tCons (tCall (spP R_l_inverse) [] E0 (tCons (tVar 2) (tCons (tVar 5) tNil))) tNil))))))) (tRet (tC (.bl false))) tNext)))
  (tSeq (tIfS (tOr (tTest (tOp rEq (tCall (spJ R_l_draw) [] E0 (tCons (tVar 1) (tCons (tC (.int 4)) tNil))) (tC (.int 0)))) (tTest (tOp rEq (tVar 2) (tC (.int 0))))) (tSeq (tAsg (tCall (spJ R_l_long) [] E0 (tCons (tVar 1) (tCons (tOp rAddI (tC (.int 2)) (tCall (spJ R_l_draw) [] E0 (tCons (tVar 1) (tCons (tC (.int 2)) tNil)))) tNil))) (gTup K 2 (gCons (gName 5) (gCons (gName 6) gNil))))
  (tIfS (tNot (tB (tCall (spJT [(Pt, qLam "swept_rows")] R_l_undone) [] E0 (tCons (tVar 1) (tCons (tC (.int 0)) (tCons (tVar 5) (tCons (tVar 6) tNil))))))) (tRet (tC (.bl false))) tNext)) tNext)
  (tSeq (tAsg (tOp rAddI (tC (.int 1)) (tCall (spJ R_l_draw) [] E0 (tCons (tVar 1) (tCons (tC (.int 4)) tNil)))) (gName 7))
  (tSeq (tAsg (tCall (spJ R_l_table) [] E0 (tCons (tVar 1) (tCons (tVar 2) (tCons (tVar 7) (tCons (tVar 3) tNil))))) (gName 8))
  (tSeq (tAsg (tCall (spJ R_l_square) [] E0 (tCons (tVar 1) (tCons (tVar 2) (tCons (tVar 3) tNil)))) (gName 9))
  (tSeq (tAsg (tLc (iList K (tVar 8)) (gName 11) tYes (tCB (rListQ K) (tCons (tVar 11) tNil)) [11]) (gName 10))
  (tSeq (tAsg (tCall (spP R_l_product) [] E0 (tCons (tVar 2) (tCons (tVar 8) (tCons (tVar 9) (tCons (tVar 3) tNil))))) (gName 6))
  (tSeq (tAsg (tCall (spP (R_times C_Field)) [] E0 (tCons (tVar 2) (tCons (tVar 8) (tCons (tLc (iList K (tVar 9)) (gName 11) tYes (tCB (rTupQ K) (tCons (tVar 11) tNil)) [11]) tNil)))) (gName 12))
  (tSeq (tIfS (tNot (tB (tCall (spP (Rsame 6)) [] E0 (tCons (tTup (tCons (tVar 12) (tCons (tVar 8) tNil))) (tCons (tTup (tCons (tVar 6) (tCons (tVar 10) tNil))) tNil))))) (tRet (tC (.bl false))) tNext)
  (tSeq (tFor (iRng1 (tCons (tVar 7) tNil)) (gName 4) (tIfS (tNot (tB (tCall (spP (Rsame 6)) [] E0 (tCons (tCall (spP (R_led C_Field)) [] E0 (tCons (tVar 2) (tCons (tCB (rTupQ K) (tCons (tOp (rIxL K) (tVar 8) (tVar 4)) tNil)) (tCons (tCall (spJ R_l_given) [] E0 (tCons (tVar 1) (tCons (tVar 2) (tCons (tVar 9) tNil)))) tNil)))) (tCons (tOp (rIxT K) (tVar 6) (tVar 4)) tNil))))) (tRet (tC (.bl false))) tNext))
  (tSeq (tAsg (tCall (spJ R_l_square) [] E0 (tCons (tVar 1) (tCons (tVar 2) (tCons (tVar 3) tNil)))) (gName 13))
  (tSeq (tAsg (tTup (tCons (tCall (spP R_l_product) [] E0 (tCons (tVar 2) (tCons (tVar 13) (tCons (tVar 9) (tCons (tVar 3) tNil))))) (tCons (tCall (spP R_l_product) [] E0 (tCons (tVar 2) (tCons (tVar 9) (tCons (tVar 13) (tCons (tVar 3) tNil))))) tNil))) (gName 14))
  (tSeq (tIfS (tNot (tB (tCall (spP (Rsame 6)) [] E0 (tCons (tTup (tCons (tCall (spP (R_times C_Field)) [] E0 (tCons (tVar 2) (tCons (tCall (spJ R_l_given) [] E0 (tCons (tVar 1) (tCons (tVar 2) (tCons (tVar 13) tNil)))) (tCons (tCall (spJ R_l_given) [] E0 (tCons (tVar 1) (tCons (tVar 2) (tCons (tVar 9) tNil)))) tNil)))) (tCons (tCall (spP (R_times C_Field)) [] E0 (tCons (tMake C_Field (spI C_Field) [] E0 (tCons (tVar 2) tNil)) (tCons (tCall (spJ R_l_given) [] E0 (tCons (tVar 1) (tCons (tVar 2) (tCons (tVar 9) tNil)))) (tCons (tCall (spJ R_l_given) [] E0 (tCons (tVar 1) (tCons (tVar 2) (tCons (tVar 13) tNil)))) tNil)))) tNil))) (tCons (tVar 14) tNil))))) (tRet (tC (.bl false))) tNext)
  (tSeq (tAsg (tLc (iRng1 (tCons (tVar 7) tNil)) (gName 4) tYes (tOp rCat (tCB (rListQ K) (tCons (tOp (rIxL K) (tVar 8) (tVar 4)) tNil)) (tCB (rListQ K) (tCons (tOp (rIxT K) (tVar 6) (tVar 4)) tNil))) [4]) (gName 15))
  (tSeq (tAsg (tOp rCat (tOp rCat (tLc (iList K (tVar 8)) (gName 11) tYes (tCB (rListQ K) (tCons (tVar 11) tNil)) [11]) (tLc (iTup K (tVar 6)) (gName 11) tYes (tCB (rListQ K) (tCons (tVar 11) tNil)) [11])) (tLc (iList K (tVar 13)) (gName 11) tYes (tCB (rListQ K) (tCons (tVar 11) tNil)) [11])) (gName 16))
  (tSeq (tAsg (tLst (tCons (tCB (rLenQ K) (tCons (tCall (spP R_l_swept) [] E0 (tCons (tVar 2) (tCons (tVar 8) (tCons (tVar 3) tNil)))) tNil)) (tCons (tCB (rLenQ K) (tCons (tCall (spP R_l_swept) [] E0 (tCons (tVar 2) (tCons (tVar 6) (tCons (tVar 3) tNil)))) tNil)) (tCons (tCB (rLenQ K) (tCons (tCall (spP R_l_swept) [] E0 (tCons (tVar 2) (tCons (tVar 15) (tCons (tOp rMulI (tC (.int 2)) (tVar 3)) tNil)))) tNil)) (tCons (tCB (rLenQ K) (tCons (tCall (spP R_l_swept) [] E0 (tCons (tVar 2) (tCons (tVar 16) (tCons (tVar 3) tNil)))) tNil)) (tCons (tCB (rLenQ K) (tCons (tCall (spP R_l_swept) [] E0 (tCons (tVar 2) (tCons (tOp (rIxT K) (tVar 14) (tC (.int 0))) (tCons (tVar 3) tNil)))) tNil)) (tCons (tCB (rLenQ K) (tCons (tCall (spP R_l_swept) [] E0 (tCons (tVar 2) (tCons (tVar 13) (tCons (tVar 3) tNil)))) tNil)) tNil))))))) (gName 17))
  (tSeq (tAsg (tLst (tCons (tCall (spT [(Pt, qLam "swept_rows")] (R_rank C_Field)) [] E0 (tCons (tVar 2) (tCons (tCall (spJ R_l_given) [] E0 (tCons (tVar 1) (tCons (tVar 2) (tCons (tVar 8) tNil)))) tNil))) (tCons (tCall (spT [(Pt, qLam "swept_rows")] (R_rank C_Field)) [] E0 (tCons (tVar 2) (tCons (tVar 12) tNil))) (tCons (tCall (spT [(Pt, qLam "swept_rows")] (R_rank C_Field)) [] E0 (tCons (tMake C_Field (spI C_Field) [] E0 (tCons (tVar 2) tNil)) (tCons (tCall (spJ R_l_given) [] E0 (tCons (tVar 1) (tCons (tVar 2) (tCons (tVar 15) tNil)))) tNil))) (tCons (tCall (spT [(Pt, qLam "swept_rows")] (R_rank C_Field)) [] E0 (tCons (tVar 2) (tCons (tCall (spJ R_l_given) [] E0 (tCons (tVar 1) (tCons (tVar 2) (tCons (tVar 16) tNil)))) tNil))) (tCons (tCall (spT [(Pt, qLam "swept_rows")] (R_rank C_Field)) [] E0 (tCons (tVar 2) (tCons (tOp (rIxT K) (tVar 14) (tC (.int 0))) tNil))) (tCons (tCall (spT [(Pt, qLam "swept_rows")] (R_rank C_Field)) [] E0 (tCons (tVar 2) (tCons (tCall (spJ R_l_given) [] E0 (tCons (tVar 1) (tCons (tVar 2) (tCons (tVar 13) tNil)))) tNil))) tNil))))))) (gName 18))
  (tSeq (tIfS (tNot (tB (tCall (spP (Rsame 6)) [] E0 (tCons (tVar 18) (tCons (tVar 17) tNil))))) (tRet (tC (.bl false))) tNext)
  (tSeq (tAsg (tCall (spP R_l_inverse) [] E0 (tCons (tVar 2) (tCons (tVar 13) tNil))) (gName 19))
  (tRet (tAndV (tCall (spP (Rsame 6)) [] E0 (tCons (tCall (spT [(Pt, qLam "swept_rows")] (R_undone C_Field)) [] E0 (tCons (tVar 2) (tCons (tCall (spJ R_l_given) [] E0 (tCons (tVar 1) (tCons (tVar 2) (tCons (tVar 13) tNil)))) tNil))) (tCons (tVar 19) tNil))) (tCall (spP (Rsame 6)) [] E0 (tCons (tTup (tCons (tVar 8) (tCons (tCall (spT [(Pt, qLam "swept_rows")] (R_rank C_Field)) [] E0 (tCons (tVar 2) (tCons (tLst tNil) tNil))) tNil))) (tCons (tTup (tCons (tVar 10) (tCons (tC (.int 0)) tNil))) tNil))))))))))))))))))))))))))),
  (pss_cons (ps_asg (pe_cal C_l_jar (hr.mono (by decide)) rfl (pa_cons (pv 0) pa_nil)) (pg_name (i := 1) sc_law.nd rfl (by first | exact Or.inl rfl | exact Or.inr rfl)))
  (pss_cons (ps_asg (pe_cal C_l_field (hr.mono (by decide)) rfl (pa_cons (pv 1) pa_nil)) (pg_name (i := 2) sc_law.nd rfl (by first | exact Or.inl rfl | exact Or.inr rfl)))
  (pss_cons (ps_asg (pe_op op_add pe_int (pe_cal C_l_draw (hr.mono (by decide)) rfl (pa_cons (pv 1) (pa_cons pe_int pa_nil)))) (pg_name (i := 3) sc_law.nd rfl (by first | exact Or.inl rfl | exact Or.inr rfl)))
  (pss_cons (ps_for PassesOwn.never rfl (pi_range1 rfl B.range (pa_cons pe_int pa_nil)) (pg_name (i := 4) sc_law.nd rfl (by first | exact Or.inl rfl | exact Or.inr rfl)) (pss_cons (ps_asg (pe_cal C_l_square (hr.mono (by decide)) rfl (pa_cons (pv 1) (pa_cons (pv 2) (pa_cons (pv 3) pa_nil)))) (pg_name (i := 5) sc_law.nd rfl (by first | exact Or.inl rfl | exact Or.inr rfl)))
  (pss_one (ps_if (pt_not (pt_val (pe_cal C_l_undone (hr.mono (by decide)) rfl (pa_cons (pv 1) (pa_cons (pv 2) (pa_cons (pv 5) (pa_cons (pe_cal C_l_inverse (hr.mono (by decide)) rfl (pa_cons (pv 2) (pa_cons (pv 5) pa_nil))) pa_nil))))))) (pss_one (ps_ret pe_bl)) pss_nil))))
  (pss_cons (ps_if (PW.pt (pw_or (pt_cmpR op_eq (pe_cal C_l_draw (hr.mono (by decide)) rfl (pa_cons (pv 1) (pa_cons pe_int pa_nil))) pe_int (nomark _)) (pw_or1 (pt_cmpR op_eq (pv 2) pe_int (nomark _))))) (pss_cons (ps_asg (pe_cal C_l_long (hr.mono (by decide)) rfl (pa_cons (pv 1) (pa_cons (pe_op op_add pe_int (pe_cal C_l_draw (hr.mono (by decide)) rfl (pa_cons (pv 1) (pa_cons pe_int pa_nil)))) pa_nil))) (pg_tup rfl (pgs_cons (pg_name (i := 5) sc_law.nd rfl (by first | exact Or.inl rfl | exact Or.inr rfl)) (pgs_cons (pg_name (i := 6) sc_law.nd rfl (by first | exact Or.inl rfl | exact Or.inr rfl)) pgs_nil))))
  (pss_one (ps_if (pt_not (pt_val (pe_cal C_l_undone (hr.mono (by decide)) rfl (pa_cons (pv 1) (pa_cons pe_int (pa_cons (pv 5) (pa_cons (pv 6) pa_nil))))))) (pss_one (ps_ret pe_bl)) pss_nil))) pss_nil)
  (pss_cons (ps_asg (pe_op op_add pe_int (pe_cal C_l_draw (hr.mono (by decide)) rfl (pa_cons (pv 1) (pa_cons pe_int pa_nil)))) (pg_name (i := 7) sc_law.nd rfl (by first | exact Or.inl rfl | exact Or.inr rfl)))
  (pss_cons (ps_asg (pe_cal C_l_table (hr.mono (by decide)) rfl (pa_cons (pv 1) (pa_cons (pv 2) (pa_cons (pv 7) (pa_cons (pv 3) pa_nil))))) (pg_name (i := 8) sc_law.nd rfl (by first | exact Or.inl rfl | exact Or.inr rfl)))
  (pss_cons (ps_asg (pe_cal C_l_square (hr.mono (by decide)) rfl (pa_cons (pv 1) (pa_cons (pv 2) (pa_cons (pv 3) pa_nil)))) (pg_name (i := 9) sc_law.nd rfl (by first | exact Or.inl rfl | exact Or.inr rfl)))
  (pss_cons (ps_setLc (i := 10) (own := [("line", 11)]) (g := (gName 11)) (tt := tYes) (te := (tCB (rListQ K) (tCons (tVar 11) tNil))) rfl sc_law.nd rfl rfl (sw_true rfl rfl rfl (by decide +kernel)) (pi_list (pv 8)) (blkOk_by (own := [("line", 11)]) (N := N_law) (by kernel_rfl)) (fun _ _ _ _ _ => (pg_name (i := 11) sc_law.nd rfl (by first | exact Or.inl rfl | exact Or.inr rfl))) (fun _ _ _ _ _ => pts_nil) (fun _ _ _ _ _ => (pe_callTy call_list_of (by rfl) B.list (by decide +kernel) (pa_cons (pv 11) pa_nil))))
  (pss_cons (ps_asg (pe_cal C_l_product (hr.mono (by decide)) rfl (pa_cons (pv 2) (pa_cons (pv 8) (pa_cons (pv 9) (pa_cons (pv 3) pa_nil))))) (pg_name (i := 6) sc_law.nd rfl (by first | exact Or.inl rfl | exact Or.inr rfl)))
  (pss_cons (ps_asg (pe_cal C_times (hr.mono (by decide)) rfl (pa_cons (pv 2) (pa_cons (pv 8) (pa_cons (pe_lc (own := [("line", 11)]) (g := (gName 11)) (tt := tYes) (te := (tCB (rTupQ K) (tCons (tVar 11) tNil))) rfl sc_law.nd (pi_list (pv 9)) (blkOk_by (own := [("line", 11)]) (N := N_law) (by kernel_rfl)) (fun _ _ _ _ _ => (pg_name (i := 11) sc_law.nd rfl (by first | exact Or.inl rfl | exact Or.inr rfl))) (fun _ _ _ _ _ => pts_nil) (fun _ _ _ _ _ => (pe_callTy call_tuple_of (by rfl) B.tuple (by decide +kernel) (pa_cons (pv 11) pa_nil)))) pa_nil)))) (pg_name (i := 12) sc_law.nd rfl (by first | exact Or.inl rfl | exact Or.inr rfl)))
  (pss_cons (ps_if (pt_not (pt_val (pe_cal C_l_same (hr.mono (by decide)) rfl (pa_cons (pe_tup (pa_cons (pv 12) (pa_cons (pv 8) pa_nil))) (pa_cons (pe_tup (pa_cons (pv 6) (pa_cons (pv 10) pa_nil))) pa_nil))))) (pss_one (ps_ret pe_bl)) pss_nil)
  (pss_cons (ps_for PassesOwn.never rfl (pi_range1 rfl B.range (pa_cons (pv 7) pa_nil)) (pg_name (i := 4) sc_law.nd rfl (by first | exact Or.inl rfl | exact Or.inr rfl)) (pss_one (ps_if (pt_not (pt_val (pe_cal C_l_same (hr.mono (by decide)) rfl (pa_cons (pe_cal C_led (hr.mono (by decide)) rfl (pa_cons (pv 2) (pa_cons (pe_callTy call_tuple_of (by rfl) B.tuple (by decide +kernel) (pa_cons (pe_ix ix_list (pv 8) (pv 4) (fun _ _ => rfl)) pa_nil)) (pa_cons (pe_cal C_l_given (hr.mono (by decide)) rfl (pa_cons (pv 1) (pa_cons (pv 2) (pa_cons (pv 9) pa_nil)))) pa_nil)))) (pa_cons (pe_ix ix_tup (pv 6) (pv 4) (fun _ _ => rfl)) pa_nil))))) (pss_one (ps_ret pe_bl)) pss_nil)))
  (pss_cons (ps_asg (pe_cal C_l_square (hr.mono (by decide)) rfl (pa_cons (pv 1) (pa_cons (pv 2) (pa_cons (pv 3) pa_nil)))) (pg_name (i := 13) sc_law.nd rfl (by first | exact Or.inl rfl | exact Or.inr rfl)))
  (pss_cons (ps_asg (pe_tup (pa_cons (pe_cal C_l_product (hr.mono (by decide)) rfl (pa_cons (pv 2) (pa_cons (pv 13) (pa_cons (pv 9) (pa_cons (pv 3) pa_nil))))) (pa_cons (pe_cal C_l_product (hr.mono (by decide)) rfl (pa_cons (pv 2) (pa_cons (pv 9) (pa_cons (pv 13) (pa_cons (pv 3) pa_nil))))) pa_nil))) (pg_name (i := 14) sc_law.nd rfl (by first | exact Or.inl rfl | exact Or.inr rfl)))
  (pss_cons (ps_if (pt_not (pt_val (pe_cal C_l_same (hr.mono (by decide)) rfl (pa_cons (pe_tup (pa_cons (pe_cal C_times (hr.mono (by decide)) rfl (pa_cons (pv 2) (pa_cons (pe_cal C_l_given (hr.mono (by decide)) rfl (pa_cons (pv 1) (pa_cons (pv 2) (pa_cons (pv 13) pa_nil)))) (pa_cons (pe_cal C_l_given (hr.mono (by decide)) rfl (pa_cons (pv 1) (pa_cons (pv 2) (pa_cons (pv 9) pa_nil)))) pa_nil)))) (pa_cons (pe_cal C_times (hr.mono (by decide)) rfl (pa_cons (C8.pe_mk M_Field hr (by decide) rfl (pa_cons (pv 2) pa_nil)) (pa_cons (pe_cal C_l_given (hr.mono (by decide)) rfl (pa_cons (pv 1) (pa_cons (pv 2) (pa_cons (pv 9) pa_nil)))) (pa_cons (pe_cal C_l_given (hr.mono (by decide)) rfl (pa_cons (pv 1) (pa_cons (pv 2) (pa_cons (pv 13) pa_nil)))) pa_nil)))) pa_nil))) (pa_cons (pv 14) pa_nil))))) (pss_one (ps_ret pe_bl)) pss_nil)
  (pss_cons (ps_setLc (i := 15) (own := [("k", 4)]) (g := (gName 4)) (tt := tYes) (te := (tOp rCat (tCB (rListQ K) (tCons (tOp (rIxL K) (tVar 8) (tVar 4)) tNil)) (tCB (rListQ K) (tCons (tOp (rIxT K) (tVar 6) (tVar 4)) tNil)))) rfl sc_law.nd rfl rfl (sw_true rfl rfl rfl (by decide +kernel)) (pi_range1 rfl B.range (pa_cons (pv 7) pa_nil)) (blkOk_by (own := [("k", 4)]) (N := N_law) (by kernel_rfl)) (fun _ _ _ _ _ => (pg_name (i := 4) sc_law.nd rfl (by first | exact Or.inl rfl | exact Or.inr rfl))) (fun _ _ _ _ _ => pts_nil) (fun _ _ _ _ _ => (pe_op op_cat (pe_callTy call_list_of (by rfl) B.list (by decide +kernel) (pa_cons (pe_ix ix_list (pv 8) (pv 4) (fun _ _ => rfl)) pa_nil)) (pe_callTy call_list_of (by rfl) B.list (by decide +kernel) (pa_cons (pe_ix ix_tup (pv 6) (pv 4) (fun _ _ => rfl)) pa_nil)))))
  (pss_cons (ps_asg (pe_op op_cat (pe_op op_cat (pe_lc (own := [("line", 11)]) (g := (gName 11)) (tt := tYes) (te := (tCB (rListQ K) (tCons (tVar 11) tNil))) rfl sc_law.nd (pi_list (pv 8)) (blkOk_by (own := [("line", 11)]) (N := N_law) (by kernel_rfl)) (fun _ _ _ _ _ => (pg_name (i := 11) sc_law.nd rfl (by first | exact Or.inl rfl | exact Or.inr rfl))) (fun _ _ _ _ _ => pts_nil) (fun _ _ _ _ _ => (pe_callTy call_list_of (by rfl) B.list (by decide +kernel) (pa_cons (pv 11) pa_nil)))) (pe_lc (own := [("line", 11)]) (g := (gName 11)) (tt := tYes) (te := (tCB (rListQ K) (tCons (tVar 11) tNil))) rfl sc_law.nd (pi_tup (pv 6)) (blkOk_by (own := [("line", 11)]) (N := N_law) (by kernel_rfl)) (fun _ _ _ _ _ => (pg_name (i := 11) sc_law.nd rfl (by first | exact Or.inl rfl | exact Or.inr rfl))) (fun _ _ _ _ _ => pts_nil) (fun _ _ _ _ _ => (pe_callTy call_list_of (by rfl) B.list (by decide +kernel) (pa_cons (pv 11) pa_nil))))) (pe_lc (own := [("line", 11)]) (g := (gName 11)) (tt := tYes) (te := (tCB (rListQ K) (tCons (tVar 11) tNil))) rfl sc_law.nd (pi_list (pv 13)) (blkOk_by (own := [("line", 11)]) (N := N_law) (by kernel_rfl)) (fun _ _ _ _ _ => (pg_name (i := 11) sc_law.nd rfl (by first | exact Or.inl rfl | exact Or.inr rfl))) (fun _ _ _ _ _ => pts_nil) (fun _ _ _ _ _ => (pe_callTy call_list_of (by rfl) B.list (by decide +kernel) (pa_cons (pv 11) pa_nil))))) (pg_name (i := 16) sc_law.nd rfl (by first | exact Or.inl rfl | exact Or.inr rfl)))
  (pss_cons (ps_asg (pe_lst (pa_cons (pe_callB call_len_seq (by rfl) B.len boot_len (pa_cons (pe_cal C_l_swept (hr.mono (by decide)) rfl (pa_cons (pv 2) (pa_cons (pv 8) (pa_cons (pv 3) pa_nil)))) pa_nil)) (pa_cons (pe_callB call_len_seq (by rfl) B.len boot_len (pa_cons (pe_cal C_l_swept (hr.mono (by decide)) rfl (pa_cons (pv 2) (pa_cons (pv 6) (pa_cons (pv 3) pa_nil)))) pa_nil)) (pa_cons (pe_callB call_len_seq (by rfl) B.len boot_len (pa_cons (pe_cal C_l_swept (hr.mono (by decide)) rfl (pa_cons (pv 2) (pa_cons (pv 15) (pa_cons (pe_op op_mulI pe_int (pv 3)) pa_nil)))) pa_nil)) (pa_cons (pe_callB call_len_seq (by rfl) B.len boot_len (pa_cons (pe_cal C_l_swept (hr.mono (by decide)) rfl (pa_cons (pv 2) (pa_cons (pv 16) (pa_cons (pv 3) pa_nil)))) pa_nil)) (pa_cons (pe_callB call_len_seq (by rfl) B.len boot_len (pa_cons (pe_cal C_l_swept (hr.mono (by decide)) rfl (pa_cons (pv 2) (pa_cons (pe_ix ix_tup (pv 14) pe_int (fun _ _ => rfl)) (pa_cons (pv 3) pa_nil)))) pa_nil)) (pa_cons (pe_callB call_len_seq (by rfl) B.len boot_len (pa_cons (pe_cal C_l_swept (hr.mono (by decide)) rfl (pa_cons (pv 2) (pa_cons (pv 13) (pa_cons (pv 3) pa_nil)))) pa_nil)) pa_nil))))))) (pg_name (i := 17) sc_law.nd rfl (by first | exact Or.inl rfl | exact Or.inr rfl)))
  (pss_cons (ps_asg (pe_lst (pa_cons (pe_cal C_rank (hr.mono (by decide)) rfl (pa_cons (pv 2) (pa_cons (pe_cal C_l_given (hr.mono (by decide)) rfl (pa_cons (pv 1) (pa_cons (pv 2) (pa_cons (pv 8) pa_nil)))) pa_nil))) (pa_cons (pe_cal C_rank (hr.mono (by decide)) rfl (pa_cons (pv 2) (pa_cons (pv 12) pa_nil))) (pa_cons (pe_cal C_rank (hr.mono (by decide)) rfl (pa_cons (C8.pe_mk M_Field hr (by decide) rfl (pa_cons (pv 2) pa_nil)) (pa_cons (pe_cal C_l_given (hr.mono (by decide)) rfl (pa_cons (pv 1) (pa_cons (pv 2) (pa_cons (pv 15) pa_nil)))) pa_nil))) (pa_cons (pe_cal C_rank (hr.mono (by decide)) rfl (pa_cons (pv 2) (pa_cons (pe_cal C_l_given (hr.mono (by decide)) rfl (pa_cons (pv 1) (pa_cons (pv 2) (pa_cons (pv 16) pa_nil)))) pa_nil))) (pa_cons (pe_cal C_rank (hr.mono (by decide)) rfl (pa_cons (pv 2) (pa_cons (pe_ix ix_tup (pv 14) pe_int (fun _ _ => rfl)) pa_nil))) (pa_cons (pe_cal C_rank (hr.mono (by decide)) rfl (pa_cons (pv 2) (pa_cons (pe_cal C_l_given (hr.mono (by decide)) rfl (pa_cons (pv 1) (pa_cons (pv 2) (pa_cons (pv 13) pa_nil)))) pa_nil))) pa_nil))))))) (pg_name (i := 18) sc_law.nd rfl (by first | exact Or.inl rfl | exact Or.inr rfl)))
  (pss_cons (ps_if (pt_not (pt_val (pe_cal C_l_same (hr.mono (by decide)) rfl (pa_cons (pv 18) (pa_cons (pv 17) pa_nil))))) (pss_one (ps_ret pe_bl)) pss_nil)
  (pss_cons (ps_asg (pe_cal C_l_inverse (hr.mono (by decide)) rfl (pa_cons (pv 2) (pa_cons (pv 13) pa_nil))) (pg_name (i := 19) sc_law.nd rfl (by first | exact Or.inl rfl | exact Or.inr rfl)))
  (pss_one (ps_ret (pe_and (pe_cal C_l_same (hr.mono (by decide)) rfl (pa_cons (pe_cal C_undone (hr.mono (by decide)) rfl (pa_cons (pv 2) (pa_cons (pe_cal C_l_given (hr.mono (by decide)) rfl (pa_cons (pv 1) (pa_cons (pv 2) (pa_cons (pv 13) pa_nil)))) pa_nil))) (pa_cons (pv 19) pa_nil))) (pe_one (pe_cal C_l_same (hr.mono (by decide)) rfl (pa_cons (pe_tup (pa_cons (pv 8) (pa_cons (pe_cal C_rank (hr.mono (by decide)) rfl (pa_cons (pv 2) (pa_cons (pe_lst pa_nil) pa_nil))) pa_nil))) (pa_cons (pe_tup (pa_cons (pv 10) (pa_cons pe_int pa_nil))) pa_nil))))))))))))))))))))))))))))), ?_⟩)
  obtain ⟨a, ns, rfl, hS, hPt, hq⟩ := h
  refine new_run (a := a) rfl hS fun H1 j sc sm hj0 hsj hsn hj hs => ?_
  have hP1 : H1 Pt = some (.tbl #[]) := sm _ _ hPt
  have st := law_start (N := N_law) (a := a) (by decide) hj hs hP1 hsj (hsn Pt (by rw [hPt]; exact (fun z => nomatch z)))
  have rt : Rt (LC H1 j Pt) Q (· = .bl true) := fun v H' d _ _ _ r p => by subst p; cases r; exact hq H'
  clear hq hj hs hP1 hsn hsj sm hj0
  suffices hh : Sd (LC H1 j Pt) _ (none :: some (.inr j) :: List.replicate (N_law.length - 2) none) { nx := fun _ H' => Q .non H', rt := Q } from hh _ H1 st
  clear st hS
  refine ss_asgR (ev_callJ rfl rfl ea_nil fun ds e => ⟨e, rfl⟩) ?_
  rintro _ ⟨F, rfl⟩
  refine ss_asgR (ev_Dop ev_int (ev_draw rfl rfl ev_int (by decide)) fun i hi => rv_I0.mono (P' := fun d => ∃ n : Nat, d = nD n ∧ 1 ≤ n ∧ n ≤ 6) fun d e => ⟨1 + i, by rw [e]; show D.int _ = D.int _; congr 1, by omega, by omega⟩) ?_
  rintro _ ⟨n, rfl, hn1, hn⟩
  refine ss_for (ei_rng (n := 2) (ea_cons ev_int ea_nil) (by decide)) (fun H2 k c1 δ1 => ∃ x4 x5 : Sl, c1 = Ct.loop (LC H1 j Pt) H2 ∧ δ1 = none :: some (.inr j) :: some (.inl (.int F.p)) :: some (.inl (nD n)) :: x4 :: x5 :: List.replicate 14 none)
    (fun H2 => ⟨_, _, rfl, rfl⟩) (fun H2 k c1 δ1 hI => by obtain ⟨_, _, rfl, _⟩ := hI; exact ⟨rfl, fun b hb => .inl hb⟩) ?_ ?_
  · rintro H2 k d c1 δ1 hd ⟨x4, x5, rfl, rfl⟩
    refine ⟨[4], _, eg_name, ?_⟩
    refine ss_asgR (ev_sq rfl rfl (ev_var rfl) (ev_var rfl) hn1 hn) ?_
    rintro _ ⟨tab, rfl, hT⟩
    exact sd_ifE (k := false) ((et_not (et_B (Ev.r (ev_undL rfl rfl rfl (ev_var rfl) (ev_var rfl) (ev_inv (ev_var rfl) (ev_var rfl) hn1 hn hT) hT.len hn1 hn hT.wid fun t ht => (hT.cd (e := 60) (by decide) (by decide) (by decide) t ht).mono (by decide))))).is rfl) (fun e => by cases e) fun _ => sd_next (nx_I ⟨_, _, rfl, rfl⟩)
  rintro H2 c1 δ1 ⟨x4, x5, rfl, rfl⟩
  show Sd (LC H1 j Pt) _ _ _
  clear H2
  refine ss_ifQ (fun c' δ' => ∃ x5 x6 : Sl, c' = LC H1 j Pt ∧ δ' = none :: some (.inr j) :: some (.inl (.int F.p)) :: some (.inl (nD n)) :: x4 :: x5 :: x6 :: List.replicate 13 none) ?_
    (et_or (P := fun _ => True) (P2 := fun _ => True) (et_drawEq (ev_draw rfl rfl ev_int (by decide))) (fun _ => (et_test (Ev.r (ev_op (Ev.r (ev_var rfl)) (Ev.r ev_int) rv_eqI))).mono fun _ _ => trivial) (fun _ _ _ => trivial)) (fun nxt _ => ?_) fun nxt _ => sd_next (nxt _ _ ⟨_, _, rfl, rfl⟩)
  rotate_left
  · refine ss_unpR (js := [5] ++ [6]) (P := fun d => ∃ (m : Nat) (A Bm : List (List Int)), d = .tup [.lst ((qm A).map Fm.q.rowL), tabD .q (qm Bm)] ∧ 2 ≤ m ∧ m ≤ 3 ∧ Chg m (729 + 2 ^ 211 * 729) A Bm) (ev_callJM rfl rfl (ea_one (P1 := fun d => ∃ m : Nat, d = nD m ∧ 2 ≤ m ∧ m ≤ 3) (ev_Dop ev_int (ev_draw rfl rfl ev_int (by decide)) fun i hi => rv_I0.mono fun d e => ⟨2 + i, by rw [e]; show D.int _ = D.int _; congr 1, by omega, by omega⟩))
      fun ds ⟨_, e, m, e2, h2, h3⟩ => ⟨_, ⟨m, by rw [e, e2], h2, h3, rfl⟩, fun d ⟨A, Bm, e, hC⟩ => ⟨m, A, Bm, e, h2, h3, hC⟩⟩) ?_
    rintro _ ⟨m, A, Bm, rfl, h2, h3, hC⟩
    obtain ⟨dD, eD, lA, wA, cA⟩ := long_due hC (by decide)
    refine ⟨_, eg_tup2 eg_name eg_name, ?_⟩
    exact sd_ifE (k := false) ((et_not (et_B (Ev.r (ev_undL (F := .q) (n := m) rfl rfl rfl ev_int (ev_var rfl) ((ev_var rfl).mono fun d e => ⟨_, _, dD, by rw [e]; exact eD⟩) lA (by omega) (by omega) wA cA)))).is rfl) (fun e => by cases e) fun _ => sd_next (nxt _ _ ⟨_, _, rfl, rfl⟩)
  clear x5
  rintro c1 δ1 ⟨x5, x6, rfl, rfl⟩
  refine ss_asgR (ev_Dop ev_int (ev_draw rfl rfl ev_int (by decide)) fun i hi => rv_I0.mono (P' := fun d => ∃ m : Nat, d = nD m ∧ 1 ≤ m ∧ m ≤ 4) fun d e => ⟨1 + i, by rw [e]; show D.int _ = D.int _; congr 1, by omega, by omega⟩) ?_
  rintro _ ⟨m, rfl, hm1, hm⟩
  refine ss_asgR (ev_callJ rfl rfl (ea_cons (ev_var rfl) (ea_cons (ev_var rfl) (ea_cons (ev_var rfl) ea_nil))) fun ds e => ⟨F, m, n, e, hm1, by omega, hn1, hn, rfl⟩) ?_
  rintro _ ⟨left, rfl, hL⟩
  refine ss_asgR (ev_sq rfl rfl (ev_var rfl) (ev_var rfl) hn1 hn) ?_
  rintro _ ⟨other, rfl, hO⟩
  have lL := hL.len; have lO := hO.len
  have rL : Rws F n left := hL.rws (by decide) (by decide) (by decide) (by omega) (by omega)
  have rO : Rws F n other := hO.rws (by decide) (by decide) (by decide) (by omega) (by omega)
  have nO : other ≠ [] := fun z => by rw [z] at lO; simp at lO; omega
  have eb : ∀ {rows : List (List F.α)}, Rws F n rows → ∀ t ∈ rows, ∀ x ∈ t, EbF 60 F x := fun h => h.eb
  refine ss_asg (d := .lst (left.map F.rowL)) (EvN.evE (en_lst' left F.rowL F.rowL (ev_var rfl) (by omega) fun l acc r hr => ⟨[11], _, eg_name, fun _ h => h, EvN.evE (en_list (Ev.r (ev_var rfl)) rfl)⟩)) ?_
  have prod : ∀ {A Bm : List (List F.α)}, Rws F n A → Rws F n Bm → Bm.length = n → R_l_product [.int F.p, .lst (A.map F.rowL), .lst (Bm.map F.rowL), nD n] (· = tabD F (A.map (lrow n Bm))) := fun {A Bm} hA hB hl => ⟨F, A, Bm, n, 60, rfl, by omega, Nat.le_trans hA.len (by decide), by omega, fun r hr => by rw [hA.wid r hr, hl], hB.wid, by decide, hA.eb, hB.eb, rfl⟩
  refine ss_asg (ev_call (ea_cons (ev_var rfl) (ea_cons (ev_var rfl) (ea_cons (ev_var rfl) (ea_cons (ev_var rfl) ea_nil)))) (prod rL rO lO)) ?_
  have timesR : ∀ {f d1 d2 : D} {A Bm : List (List F.α)}, FldOr C_Field F f → Giv F d1 A → Giv F d2 Bm → Rws F n A → Rws F n Bm → Bm.length = n → R_times C_Field [f, d1, d2] (· = tabD F (A.map (lrow n Bm))) := fun {f d1 d2 A Bm} hf g1 g2 hA hB hl => ⟨F, f, d1, d2, A, Bm, n, 60, rfl, hf, g1, g2, by omega, Nat.le_trans hA.len (by decide), (fun z => by rw [z] at hl; simp at hl; omega), fun r hr => by rw [hA.wid r hr, hl], by omega, hB.wid, by decide, hA.eb, hB.eb, rfl⟩
  refine ss_asg (ev_call (ea_cons (ev_var rfl) (ea_cons (ev_var rfl) (ea_cons (EvN.evE (en_lst' other F.rowL F.row (ev_var rfl) (by omega) fun l acc r hr => ⟨[11], _, eg_name, fun _ h => h, ev_cb (Ev.r (ev_var rfl)) (rc_tuple rfl)⟩)) ea_nil))) (timesR (.inl rfl) (giv_L left) (giv_LT other) rL rO lO)) ?_
  have hd := hL.prod hO
  have rd : Rws F n (left.map (lrow n other)) := hd.rws (by decide) (Nat.lt_of_le_of_lt (Nat.mul_le_mul_right _ hn) (by decide)) (by decide) (by omega) (by omega)
  have ed : ∀ k, k < m → (left.map (lrow n other)).getD k [] = lrow n other (left.getD k []) := fun k hk => by
    rw [List.getD_eq_getElem?_getD, List.getElem?_map, get_getD (r := left) (i := k) (by omega) []]; rfl
  generalize left.map (lrow n other) = dT at hd rd ed ⊢
  have lD := hd.len
  have plL : ∀ {rows : List (List F.α)}, Rws F n rows → Pl 3 (.lst (rows.map F.rowL)) := fun h => pl_tabL (Nat.le_trans h.len (by decide)) fun r hr => by rw [h.wid r hr]; omega
  have plT : ∀ {rows : List (List F.α)}, Rws F n rows → Pl 3 (tabD F rows) := fun h => pl_tab (Nat.le_trans h.len (by decide)) fun r hr => by rw [h.wid r hr]; omega
  refine sd_no (et_sameNot (ev_tup (ea_cons (ev_var rfl) (ea_cons (ev_var rfl) ea_nil))) (ev_tup (ea_cons (ev_var rfl) (ea_cons (ev_var rfl) ea_nil))) (pl_two (plT rd) (plL rL)).up) ?_
  refine ss_for (ei_rng (n := m) (ea_cons (ev_var rfl) ea_nil) (by omega)) (fun H2 k c1 δ1 => ∃ x4 : Sl, c1 = Ct.loop (LC H1 j Pt) H2 ∧ δ1 = none :: some (.inr j) :: some (.inl (.int F.p)) :: some (.inl (nD n)) :: x4 :: x5 :: some (.inl (tabD F dT)) :: some (.inl (nD m)) :: some (.inl (.lst (left.map F.rowL))) :: some (.inl (.lst (other.map F.rowL))) :: some (.inl (.lst (left.map F.rowL))) :: none :: some (.inl (tabD F dT)) :: List.replicate 7 none)
    (fun H2 => ⟨_, rfl, rfl⟩) (fun H2 k c1 δ1 hI => by obtain ⟨_, rfl, _⟩ := hI; exact ⟨rfl, fun b hb => .inl hb⟩) ?_ ?_
  · clear x4
    rintro H2 k d c1 δ1 hd2 ⟨x4, rfl, rfl⟩
    have hk : k < m := by have := (List.getElem?_eq_some_iff.mp hd2).1; simpa using this
    have edk : d = nD k := by
      rw [List.getElem?_map, List.getElem?_range hk] at hd2
      exact (Option.some.inj hd2).symm
    subst edk
    refine ⟨[4], _, eg_name, ?_⟩
    have ml := mem_getD (r := left) (i := k) (by omega) []
    have at6 : atI (dT.map F.row) (k : Int) = some (F.row (lrow n other (left.getD k []))) := atI_nat (by rw [List.getElem?_map, get_getD (r := dT) (i := k) (by omega) [], ed k hk]; rfl)
    have wl : (lrow n other (left.getD k [])).length = n := by simp [lrow]
    refine sd_ifE (k := false) (et_sameNot (d := F.row (lrow n other (left.getD k []))) (ev_callR (ea_consE (ev_var rfl) (ea_consE (ev_cb (Ev.r (ev_op (Ev.r (ev_var rfl)) (Ev.r (ev_var rfl)) (rv_ixL (at_row (by omega))))) (rc_tuple rfl)) (ea_one (ev_giv rfl rfl (ev_var rfl) (ev_var rfl) rO)))) fun ds ⟨_, e, _, e2, d, e3, hg⟩ => ⟨F, .int F.p, F.row (left.getD k []), d, left.getD k [], other, n, 60, by rw [e, e2, e3]; rfl, .inl rfl, givR_row _, hg, nO, by omega, by rw [rL.wid _ ml, lO], by rw [rL.wid _ ml]; omega, rO.wid, by decide, rL.eb _ ml, rO.eb, rfl⟩)
      (ev_op (Ev.r (ev_var rfl)) (Ev.r (ev_var rfl)) (rv_ixT at6)) (pl_row (by omega)).up.up.up) (fun e => by cases e) fun _ => sd_next (nx_I ⟨_, rfl, rfl⟩)
  clear x4
  rintro H2 c1 δ1 ⟨x4, rfl, rfl⟩
  show Sd (LC H1 j Pt) _ _ _
  clear H2
  refine ss_asgR (ev_sq rfl rfl (ev_var rfl) (ev_var rfl) hn1 hn) ?_
  rintro _ ⟨sec, rfl, hS⟩
  have lS := hS.len
  have rS : Rws F n sec := hS.rws (by decide) (by decide) (by decide) (by omega) (by omega)
  refine ss_asg (ev_tup (ea_cons (ev_call (ea_cons (ev_var rfl) (ea_cons (ev_var rfl) (ea_cons (ev_var rfl) (ea_cons (ev_var rfl) ea_nil)))) (prod rS rO lO)) (ea_cons (ev_call (ea_cons (ev_var rfl) (ea_cons (ev_var rfl) (ea_cons (ev_var rfl) (ea_cons (ev_var rfl) ea_nil)))) (prod rO rS lS)) ea_nil))) ?_
  have r1 : Rws F n (sec.map (lrow n other)) := (hS.prod hO).rws (by decide) (Nat.lt_of_le_of_lt (Nat.mul_le_mul_right _ hn) (by decide)) (by decide) (by omega) (by omega)
  have r2 : Rws F n (other.map (lrow n sec)) := (hO.prod hS).rws (by decide) (Nat.lt_of_le_of_lt (Nat.mul_le_mul_right _ hn) (by decide)) (by decide) (by omega) (by omega)
  have fld : ∀ {δ : List Sl}, δ[2]? = some (some (.inl (.int F.p))) → Ev (LC H1 j Pt) (tMake C_Field (spI C_Field) [] E0 (tCons (tVar 2) tNil)) δ (· = fldD C_Field F) := fun h1 => ev_make (ea_cons (ev_var h1) ea_nil)
  refine sd_no (et_sameNot (d := .tup [tabD F (sec.map (lrow n other)), tabD F (other.map (lrow n sec))]) (ev_tup (ea_cons
      (ev_callR (ea_consE (ev_var rfl) (ea_consP (ev_giv rfl rfl (ev_var rfl) (ev_var rfl) rS) (ea_one (ev_giv rfl rfl (ev_var rfl) (ev_var rfl) rO)))) fun ds ⟨_, e, d1, _, e2, g1, d2, e3, g2⟩ => by rw [e, e2, e3]; exact timesR (.inl rfl) g1 g2 rS rO lO) (ea_cons
      (ev_callR (ea_consE (fld rfl) (ea_consP (ev_giv rfl rfl (ev_var rfl) (ev_var rfl) rO) (ea_one (ev_giv rfl rfl (ev_var rfl) (ev_var rfl) rS)))) fun ds ⟨_, e, d1, _, e2, g1, d2, e3, g2⟩ => by rw [e, e2, e3]; exact timesR (.inr rfl) g1 g2 rO rS lS) ea_nil)))
    (ev_var rfl) (pl_two (plT r1) (plT r2)).up) ?_
  have l1 : (sec.map (lrow n other)).length = n := by rw [List.length_map, lS]
  generalize sec.map (lrow n other) = p1 at r1 l1 ⊢
  generalize other.map (lrow n sec) = p2 at r2 ⊢
  -- side by side
  have wL : ∀ k, k < m → (left.getD k []).length = n := fun k hk => rL.wid _ (mem_getD (by omega) [])
  have wD : ∀ k, k < m → (dT.getD k []).length = n := fun k hk => rd.wid _ (mem_getD (by omega) [])
  have atD : ∀ k, k < m → atI (dT.map F.row) (k : Int) = some (F.row (dT.getD k [])) := fun k hk => atI_nat (by rw [List.getElem?_map, get_getD (r := dT) (i := k) (by omega) []]; rfl)
  refine ss_asg (d := .lst (((List.range m).map fun k => left.getD k [] ++ dT.getD k []).map F.rowL)) ((EvN.evE (en_ran (n := m) (fun k => F.rowL (left.getD k [] ++ dT.getD k [])) (ea_cons (ev_var rfl) ea_nil) (by omega) fun l acc k hk => ⟨[4], _, eg_name, fun _ h => h,
      (EvN.evE (en_cat (xs := (left.getD k []).map F.enc) (ys := (dT.getD k []).map F.enc) (Ev.r (EvN.evE (en_list (Ev.r (ev_op (Ev.r (ev_var rfl)) (Ev.r (ev_var rfl)) (rv_ixL (at_row (by omega))))) rfl))) (Ev.r (EvN.evE (en_list (Ev.r (ev_op (Ev.r (ev_var rfl)) (Ev.r (ev_var rfl)) (rv_ixT (atD k hk)))) rfl))) (by rw [List.length_map, List.length_map, wL k hk, wD k hk]; omega))).is (by show D.lst _ = D.lst _; rw [← List.map_append])⟩)).is (by rw [List.map_map]; rfl)) ?_
  have rB : Rws F (2 * n) ((List.range m).map fun k => left.getD k [] ++ dT.getD k []) := by
    refine ⟨fun r hr => ?_, fun r hr => ?_, by simp; omega, by omega⟩
    · obtain ⟨k, hk, rfl⟩ := List.mem_map.mp hr
      have hk := List.mem_range.mp hk
      rw [List.length_append, wL k hk, wD k hk]; omega
    · obtain ⟨k, hk, rfl⟩ := List.mem_map.mp hr
      have hk := List.mem_range.mp hk
      refine numF_cd (s := 144) (b := 2 ^ 59) (fun x hx => ?_) (by decide) (by decide) (by decide)
      rcases List.mem_append.mp hx with z | z
      · exact numF_mono (numF_144 (hL.num _ (mem_getD (by omega) []) x z)) (by decide)
      · exact numF_mono (hd.num _ (mem_getD (by omega) []) x z) (Nat.le_trans (Nat.mul_le_mul_right _ hn) (by decide))
  have lB : ((List.range m).map fun k => left.getD k [] ++ dT.getD k []).length = m := by simp
  generalize ((List.range m).map fun k => left.getD k [] ++ dT.getD k []) = bes at rB lB ⊢
  -- one above the other
  refine ss_asg (d := .lst ((left ++ dT ++ sec).map F.rowL)) ((EvN.evE (en_cat (xs := (left ++ dT).map F.rowL) (ys := sec.map F.rowL) (Ev.r ((EvN.evE (en_cat (xs := left.map F.rowL) (ys := dT.map F.rowL)
      (Ev.r (EvN.evE (en_lst' left F.rowL F.rowL (ev_var rfl) (by omega) fun l acc r hr => ⟨[11], _, eg_name, fun _ h => h, EvN.evE (en_list (Ev.r (ev_var rfl)) rfl)⟩)))
      (Ev.r (EvN.evE (en_tup' dT F.row F.rowL (ev_var rfl) (by omega) fun l acc r hr => ⟨[11], _, eg_name, fun _ h => h, EvN.evE (en_list (Ev.r (ev_var rfl)) rfl)⟩))) (by rw [List.length_map, List.length_map]; omega))).is (d' := .lst ((left ++ dT).map F.rowL)) (by rw [List.map_append])))
      (Ev.r (EvN.evE (en_lst' sec F.rowL F.rowL (ev_var rfl) (by omega) fun l acc r hr => ⟨[11], _, eg_name, fun _ h => h, EvN.evE (en_list (Ev.r (ev_var rfl)) rfl)⟩))) (by rw [List.length_map, List.length_map, List.length_append]; omega))).is (by rw [List.map_append (l₁ := left ++ dT)])) ?_
  have rA : Rws F n (left ++ dT ++ sec) := by
    refine ⟨fun r hr => ?_, fun r hr => ?_, by rw [List.length_append, List.length_append]; omega, by omega⟩
    · rcases List.mem_append.mp hr with z | z
      · exact (List.mem_append.mp z).elim (rL.wid r) (rd.wid r)
      · exact rS.wid r z
    · rcases List.mem_append.mp hr with z | z
      · exact (List.mem_append.mp z).elim (rL.cd r) (rd.cd r)
      · exact rS.cd r z
  have lA : (left ++ dT ++ sec).length ≤ 100 := rA.len
  generalize left ++ dT ++ sec = abv at rA lA ⊢
  obtain ⟨T1, l1', s1, e1, _⟩ := swept_ex rL.wid
  obtain ⟨T2, l2', s2, e2, _⟩ := swept_ex rd.wid
  obtain ⟨T3, l3', s3, e3, _⟩ := swept_ex rB.wid
  obtain ⟨T4, l4', s4, e4, _⟩ := swept_ex rA.wid
  obtain ⟨T5, l5', s5, e5, _⟩ := swept_ex r1.wid
  obtain ⟨T6, l6', s6, e6, _⟩ := swept_ex rS.wid
  have mn : ∀ l : Nat, min l n ≤ 6 := fun l => Nat.le_trans (Nat.min_le_right _ _) hn
  have m3 : min bes.length (2 * n) ≤ 6 := by rw [lB]; omega
  refine ss_asg (d := .lst ([T1.length, T2.length, T3.length, T4.length, T5.length, T6.length].map nD)) (EvN.evE (en_lst (ds := [nD T1.length, nD T2.length, nD T3.length, nD T4.length, nD T5.length, nD T6.length]) (ea_cons (ev_sweptE (ev_var rfl) (ev_var rfl) (ev_var rfl) (raw_L left) rL (mn _) s1 e1)
      (ea_cons (ev_sweptE (ev_var rfl) (ev_var rfl) (ev_var rfl) (raw_T dT) rd (mn _) s2 e2)
      (ea_cons (ev_sweptE (ev_var rfl) (ev_var rfl) ((ev_op (Ev.r ev_int) (Ev.r (ev_var rfl)) (rv_I (Bt.cm (a := 2) (b := 6) (by show (2 : Int).natAbs < 2 ^ 2; decide) (by show ((n : Nat) : Int).natAbs < 64; omega) (by decide)))).is (d' := nD (2 * n)) (by show D.int _ = D.int _; congr 1)) (raw_L bes) rB m3 s3 e3)
      (ea_cons (ev_sweptE (ev_var rfl) (ev_var rfl) (ev_var rfl) (raw_L abv) rA (mn _) s4 e4)
      (ea_cons (ev_sweptE (ev_var rfl) (ev_op (Ev.r (ev_var rfl)) (Ev.r ev_int) (rv_ixT (d := tabD F p1) rfl)) (ev_var rfl) (raw_T p1) r1 (mn _) s5 e5)
      (ea_cons (ev_sweptE (ev_var rfl) (ev_var rfl) (ev_var rfl) (raw_L sec) rS (mn _) s6 e6) ea_nil)))))))) ?_
  refine ss_asg (d := .lst ([T1.length, T2.length, T3.length, T4.length, T5.length, T6.length].map nD)) (EvN.evE (en_lst (ds := [nD T1.length, nD T2.length, nD T3.length, nD T4.length, nD T5.length, nD T6.length]) (ea_cons (ev_rankE rfl (ev_var rfl) (.inl rfl) (ev_giv rfl rfl (ev_var rfl) (ev_var rfl) rL) rL (mn _) s1 e1)
      (ea_cons (ev_rankE rfl (ev_var rfl) (.inl rfl) ((ev_var rfl).mono fun d e => by rw [e]; exact giv_tab dT) rd (mn _) s2 e2)
      (ea_cons (ev_rankE rfl (fld rfl) (.inr rfl) (ev_giv rfl rfl (ev_var rfl) (ev_var rfl) rB) rB m3 s3 e3)
      (ea_cons (ev_rankE rfl (ev_var rfl) (.inl rfl) (ev_giv rfl rfl (ev_var rfl) (ev_var rfl) rA) rA (mn _) s4 e4)
      (ea_cons (ev_rankE rfl (ev_var rfl) (.inl rfl) ((ev_op (Ev.r (ev_var rfl)) (Ev.r ev_int) (rv_ixT (d := tabD F p1) rfl)).mono fun d e => by rw [e]; exact giv_tab p1) r1 (mn _) s5 e5)
      (ea_cons (ev_rankE rfl (ev_var rfl) (.inl rfl) (ev_giv rfl rfl (ev_var rfl) (ev_var rfl) rS) rS (mn _) s6 e6) ea_nil)))))))) ?_
  refine sd_no (et_sameNot (ev_var rfl) (ev_var rfl) (pl_nums _ (by simp))) ?_
  refine ss_asgR (ev_inv (ev_var rfl) (ev_var rfl) hn1 hn hS) ?_
  rintro _ ⟨TB, lb, hB, rfl⟩
  have okA : RowsOk F (aug n sec) (2 * n) := RowsOk.of (b := 60) (by rw [aug_len lS]; omega) (by decide) (CdF.aug rS.cd)
  refine sd_ret (Ev.r (ev_andV (a := true) (b := true) (Ev.r (ev_call (ea_cons
      ((ev_callT rfl (ea_consE (ev_var rfl) (ea_one (ev_giv rfl rfl (ev_var rfl) (ev_var rfl) rS))) fun ds ⟨_, e, d, e2, hg⟩ => ⟨F, .int F.p, d, sec, n, by rw [e, e2], .inl rfl, hg, lS, hn1, by omega, rS.wid, okA, rfl⟩).mono fun d ⟨T', ls', sw', sp', e⟩ => by
        obtain ⟨rfl, rfl⟩ := hB.sw.uniq sw' (hB.sp.trans sp'.symm)
        exact e) (ea_cons (ev_var rfl) ea_nil)) ⟨_, rfl, pl_due hn hB, rfl⟩)) fun _ => ev_call (ds := [.tup [.lst (left.map F.rowL), nD 0], .tup [.lst (left.map F.rowL), nD 0]]) (ea_cons (ev_tup (ea_cons (ev_var rfl) (ea_cons
        (ev_rankE (F := F) (n := 0) (rows := []) (T := []) (ls := []) rfl (ev_var rfl) (.inl rfl) ((EvN.evE (en_lst ea_nil)).mono fun d e => by rw [e]; exact giv_L (F := F) []) ⟨by simp, by simp, by simp, by decide⟩ (by simp) ⟨rfl, by simp, by simp, by simp, by simp, by simp, List.Pairwise.nil⟩ (SameSp.refl _)) ea_nil)))
      (ea_cons (ev_tup (ea_cons (ev_var rfl) (ea_cons ev_int ea_nil))) ea_nil)) ⟨_, rfl, (pl_two (plL rL) (pl_nD 0)).up, rfl⟩)) rt rfl
end
end E
/-! W24: what the top leaves: the facts by names, and the run. -/
namespace E
open PySem PySem.Spec PyProof.Rows L2
abbrev rowK : PySem.W.OpenLaw := PySem.Challenge.rw_everylemma_k03_tables_undone_and_ranks
abbrev rowO : PySem.W.OpenRow := PySem.W.OpenLaw.row rowK
def dDef (x : Str) (st : Stmt) : He.DefD := ⟨(x, none), x, x, defArgs st, defBody st, defScope st, [], []⟩
def fnD0 : List He.DefD := [dDef "is_whole" s_is_whole, dDef "writes_whole" s_writes_whole, dDef "lowest" s_lowest, dDef "scalar_of" s_scalar_of, dDef "_scalar_of_text" s_scalar_of_text, dDef "zero_of" s_zero_of, dDef "one_of" s_one_of, dDef "inverse" s_inverse, dDef "primitive" s_primitive, dDef "cleared" s_cleared, dDef "lead_of" s_lead_of, dDef "swept_rows" s_swept_rows, dDef "_fractions" s_fractions, dDef "_kept_modulo" s_kept_modulo, dDef "_less_modulo" s_less_modulo, dDef "_kept_whole" s_kept_whole, dDef "_less_whole" s_less_whole, dDef "dot" s_dot, dDef "columns_of" s_columns_of, dDef "led_row" s_led_row, dDef "table_times" s_table_times, dDef "unit_rows" s_unit_rows, dDef "leads_of" s_leads_of, dDef "undone_table" s_undone_table, dDef "field_of" s_field_of]
def fnD1 : List He.DefD := [dDef "numbers_of" s_numbers_of, dDef "rank" s_rank, dDef "times" s_times, dDef "led" s_led, dDef "undone" s_undone, dDef "_law_jar" s_l_jar, dDef "_law_draw" s_l_draw, dDef "_law_pick" s_l_pick, dDef "_law_same" s_l_same, dDef "_law_gcd" s_l_gcd, dDef "_law_low" s_l_low, dDef "_law_num" s_l_num, dDef "_law_add" s_l_add, dDef "_law_mul" s_l_mul, dDef "_law_inv" s_l_inv, dDef "_law_less" s_l_less, dDef "_law_swept" s_l_swept, dDef "_law_field" s_l_field, dDef "_law_word" s_l_word, dDef "_law_other" s_l_other, dDef "_law_change" s_l_change, dDef "_law_number" s_l_number, dDef "_law_units" s_l_units, dDef "_law_led" s_l_led, dDef "_law_table" s_l_table]
def fnD2 : List He.DefD := [dDef "_law_given" s_l_given, dDef "_law_product" s_l_product, dDef "_law_inverse" s_l_inverse, dDef "_law_square" s_l_square, dDef "_law_long" s_l_long, dDef "_law_undone" s_l_undone, dDef "law" s_law, ⟨("Field", some "__init__"), "__init__", "Field.__init__", defArgs s_Field__init_, defBody s_Field__init_, defScope s_Field__init_, [], []⟩, ⟨("Field", some "number"), "number", "Field.number", defArgs s_Field_number, defBody s_Field_number, defScope s_Field_number, [], []⟩]
def fnD : List He.DefD := fnD0 ++ fnD1 ++ fnD2
def faL0 : List He.Fa := [.glo "is_whole", .glo "writes_whole", .glo "lowest", .glo "scalar_of", .glo "_scalar_of_text", .glo "zero_of", .glo "one_of", .glo "inverse", .glo "primitive", .glo "cleared", .glo "lead_of", .glo "swept_rows", .glo "_fractions", .glo "_kept_modulo", .glo "_less_modulo", .glo "_kept_whole", .glo "_less_whole", .glo "dot", .glo "columns_of", .glo "led_row", .glo "table_times", .glo "unit_rows", .glo "leads_of", .glo "undone_table", .glo "field_of", .glo "numbers_of", .glo "rank", .glo "times", .glo "led", .glo "undone"]
def faL1 : List He.Fa := [.glo "_law_jar", .glo "_law_draw", .glo "_law_pick", .glo "_law_same", .glo "_law_gcd", .glo "_law_low", .glo "_law_num", .glo "_law_add", .glo "_law_mul", .glo "_law_inv", .glo "_law_less", .glo "_law_swept", .glo "_law_field", .glo "_law_word", .glo "_law_other", .glo "_law_change", .glo "_law_number", .glo "_law_units", .glo "_law_led", .glo "_law_table", .glo "_law_given", .glo "_law_product", .glo "_law_inverse", .glo "_law_square", .glo "_law_long", .glo "_law_undone", .glo "law", .glo "FIELDS", .glo "Field", .free "len"]
def faL2 : List He.Fa := [.free "tuple", .free "list", .free "range", .free "int", .free "str", .free "bool", .free "dict", .free "abs", .free "min", .free "sum", .free "all", .free "zip", .free "enumerate", .free "sorted", .free "isinstance", .int "MOST_DIGITS" 4000, .int "WIDE" 64, .cls "Field", .noat "Field" "p", .meth "Field" "number", .mkr "Field"]
def faL : List He.Fa := faL0 ++ faL1 ++ faL2
def nmL0 : List PySem.Str := ["gcd", "lcm", "EveryError", "BadNumber", "MOST_DIGITS", "is_whole", "writes_whole", "lowest", "scalar_of", "_scalar_of_text", "zero_of", "one_of", "WIDE", "inverse", "primitive", "cleared", "lead_of", "swept_rows", "_fractions", "_kept_modulo", "_less_modulo", "_kept_whole", "_less_whole", "_wide", "_lessened", "_next_lead", "_less_wide", "_primitive_wide", "_spread", "dot"]
def nmL1 : List PySem.Str := ["columns_of", "led_row", "table_times", "unit_rows", "leads_of", "undone_table", "FIELDS", "Field", "field_of", "numbers_of", "rank", "times", "led", "undone", "_law_jar", "_law_draw", "_law_pick", "_law_same", "_law_gcd", "_law_low", "_law_num", "_law_add", "_law_mul", "_law_inv", "_law_less", "_law_swept", "_law_field", "_law_word", "_law_other", "_law_change"]
def nmL2 : List PySem.Str := ["_law_number", "_law_units", "_law_led", "_law_table", "_law_given", "_law_product", "_law_inverse", "_law_square", "_law_long", "_law_undone"]
def nmL : List PySem.Str := nmL0 ++ nmL1 ++ nmL2
def has4 (K : PySem.W.Frag) : Bool := (K.lookup cStatics).isSome && ((K.lookup sysModules).isSome && ((K.lookup builtinsNs).isSome && ((K.lookup mainGlobals).isSome && (match PySem.W.nsIn K mainGlobals "__builtins__" with
  | some (some (.ref bm)) => (K.lookup bm).isSome
  | _ => false))))
def clsB (K : PySem.W.Frag) (C : Addr) : Bool := He.eqO (PySem.W.findIn K (.ref C) "__class__") (some (some (.builtin "object.__class__"))) && (He.eqO (PySem.W.specialIn K (.builtin "object.__class__") "__get__") (some (some (.builtin "getset_descriptor.__get__"))) &&
  (decide (PySem.W.takesIn K (.builtin "object.__class__") = some true) && (decide (PySem.W.mroIn K C (.type "object") = some true) && (decide (PySem.W.kitOne K (.ref C) (.ref C) = some true) && decide (PySem.W.kitOne K (.type "int") (.ref C) = some false)))))
def exB (K : PySem.W.Frag) : Bool := He.eqO (PySem.W.nsIn K mainGlobals "gcd") (some (some (.builtin "math.gcd"))) && (He.eqO (PySem.W.nsIn K mainGlobals "lcm") (some (some (.builtin "math.lcm"))) && (clsB K (He.ga K "Field") && (He.tupB K "FIELDS" (fieldsL.map He.Dv.int) && has4 K)))
def tfL : List He.Defn := [("swept_rows", none)]
/-- as the head's Hook with tables left out, two more places looked at -/
def asY (g : Addr → Option Obj) : List Addr := He.asD g 5 ++ [cStatics, sysModules]
def obsY (g : Addr → Option Obj) : He.AlX := (He.obsT faL fnD [] (He.frT g (asY g)), exB (He.frT g (asY g)) && He.tabsB g tfL (He.frT g (asY g)))
theorem says_of {w : World} {h : Heap} (e : obsY h.get? = He.valX fnD [] w) : He.SaysX faL fnD [] tfL exB w h (He.frT h.get? (asY h.get?)) := by
  have e1 := congrArg Prod.fst e
  have e2 : (exB (He.frT h.get? (asY h.get?)) && He.tabsB h.get? tfL (He.frT h.get? (asY h.get?))) = true := congrArg Prod.snd e
  obtain ⟨m, t⟩ := Bool.and_eq_true_iff.mp e2
  have at_ : ∀ p ∈ tfL, ∃ o, h.get? (He.cT (He.frT h.get? (asY h.get?)) p).2 = some o ∧ He.emptyTab o = true := fun p hp => by
    have z := (Bool.and_eq_true_iff.mp (List.all_eq_true.mp t p hp)).2
    split at z
    · next o q => exact ⟨o, q, z⟩
    · cases z
  exact ⟨e1, m, fun p hp => (Bool.and_eq_true_iff.mp (List.all_eq_true.mp t p hp)).1, fun p hp => let ⟨_, a, b⟩ := at_ p hp; He.frT_none a b, fun p hp => let ⟨_, a, b⟩ := at_ p hp; by rw [a, He.emptyTab_eq b]⟩
def hkY : PySem.W.Hook where
  α := He.AlX
  obs := fun s => obsY s.heap.get?
  val := fun w => He.valX fnD [] w
  says := fun w h => ∃ K : PySem.W.Frag, K.In h ∧ He.SaysX faL fnD [] tfL exB w h K
  of := fun _ _ e => ⟨_, He.frT_in, says_of e⟩
  keeps := fun _ _ _ ⟨K, a, c⟩ k => ⟨K, a.keeps k, c.t, c.more, c.hd, c.out, fun p hp => k _ _ (c.empty p hp)⟩
def obT (s : PySem.W.SharedT) : He.AlX := obsY (HandSHeadRun.getT s)
theorem obT_eq (s : PySem.W.SharedT) : obT s = hkY.obs s.abs := by
  have e : HandSHeadRun.getT s = s.abs.heap.get? := funext (HandSHeadRun.getT_eq s)
  show obsY _ = obsY _
  rw [e]
theorem run (w : World) : HandSHeadRun.RunEqI rowO (PySem.W.view rowO.prog [0, 75]) hkY obT 4000 nmL w := by
  unfold HandSHeadRun.RunEqI
  kernel_rfl
end E
/-! W25: each def by its name; the law from them all. -/
namespace E
open PySem PySem.Spec PyProof.Rows L2
theorem fun_of {K : PySem.W.Frag} {x q : Str} {st : Stmt} {f : Addr} {fd : FuncData} (F : FunD K x q (defArgs st) (defBody st) (defScope st) [] [] f fd) : Fun K x q st f fd := by
  obtain ⟨oc, od, dV, kV, doc, pm, an, cdv, ct, osl, e, lk, hc, hD, _⟩ := F.ex
  rcases hD with ⟨_, rfl⟩ | ⟨z, _⟩
  · exact ⟨⟨oc, od, kV, doc, pm, an, cdv, ct, osl, e, lk, hc⟩, F.kp⟩
  · exact absurd rfl z
theorem has_of {K : PySem.W.Frag} {mg : Str → Option Value} {x : Str} {st : Stmt} {ps : List Str} (hf : ∃ fd, FunD K x x (defArgs st) (defBody st) (defScope st) [] [] (He.ga K x) fd) (hm : mg x = some (.ref (He.ga K x)))
    (hb : ∀ (kV doc pm : Value) (an : Option Addr) (cdv ct : Value) (us : List Value), us.length = ps.length → bindArgs (PySem.W.fnOf x x (defArgs st) (defBody st) (defScope st) .none kV doc pm an cdv ct) ⟨us, []⟩ = pure (ps.zip us)) : Has K mg x st ps := by
  obtain ⟨fd, F⟩ := hf
  exact ⟨_, fd, fun_of F, hm, F.bindsN hb⟩
section
variable {K : PySem.W.Frag} {mg : Str → Option Value} {base : Heap}
theorem h_is_whole (X : K.In base) (N : base.Ns mainGlobals mg) (c : He.SaysD faL fnD K) : Has K mg "is_whole" s_is_whole p_is_whole := has_of (c.def_ 0 (d := dDef "is_whole" s_is_whole) rfl) (He.glo_ok X N (c.fact 0 (f := .glo "is_whole") rfl)) (fun _ _ _ _ _ _ us hl => match us, hl with | [_], _ => rfl)
theorem h_writes_whole (X : K.In base) (N : base.Ns mainGlobals mg) (c : He.SaysD faL fnD K) : Has K mg "writes_whole" s_writes_whole p_writes_whole := has_of (c.def_ 1 (d := dDef "writes_whole" s_writes_whole) rfl) (He.glo_ok X N (c.fact 1 (f := .glo "writes_whole") rfl)) (fun _ _ _ _ _ _ us hl => match us, hl with | [_, _], _ => rfl)
theorem h_lowest (X : K.In base) (N : base.Ns mainGlobals mg) (c : He.SaysD faL fnD K) : Has K mg "lowest" s_lowest p_lowest := has_of (c.def_ 2 (d := dDef "lowest" s_lowest) rfl) (He.glo_ok X N (c.fact 2 (f := .glo "lowest") rfl)) (fun _ _ _ _ _ _ us hl => match us, hl with | [_, _], _ => rfl)
theorem h_scalar_of (X : K.In base) (N : base.Ns mainGlobals mg) (c : He.SaysD faL fnD K) : Has K mg "scalar_of" s_scalar_of p_scalar_of := has_of (c.def_ 3 (d := dDef "scalar_of" s_scalar_of) rfl) (He.glo_ok X N (c.fact 3 (f := .glo "scalar_of") rfl)) (fun _ _ _ _ _ _ us hl => match us, hl with | [_, _], _ => rfl)
theorem h_scalar_of_text (X : K.In base) (N : base.Ns mainGlobals mg) (c : He.SaysD faL fnD K) : Has K mg "_scalar_of_text" s_scalar_of_text p_scalar_of_text := has_of (c.def_ 4 (d := dDef "_scalar_of_text" s_scalar_of_text) rfl) (He.glo_ok X N (c.fact 4 (f := .glo "_scalar_of_text") rfl)) (fun _ _ _ _ _ _ us hl => match us, hl with | [_, _], _ => rfl)
theorem h_zero_of (X : K.In base) (N : base.Ns mainGlobals mg) (c : He.SaysD faL fnD K) : Has K mg "zero_of" s_zero_of p_zero_of := has_of (c.def_ 5 (d := dDef "zero_of" s_zero_of) rfl) (He.glo_ok X N (c.fact 5 (f := .glo "zero_of") rfl)) (fun _ _ _ _ _ _ us hl => match us, hl with | [_], _ => rfl)
theorem h_one_of (X : K.In base) (N : base.Ns mainGlobals mg) (c : He.SaysD faL fnD K) : Has K mg "one_of" s_one_of p_one_of := has_of (c.def_ 6 (d := dDef "one_of" s_one_of) rfl) (He.glo_ok X N (c.fact 6 (f := .glo "one_of") rfl)) (fun _ _ _ _ _ _ us hl => match us, hl with | [_], _ => rfl)
theorem h_inverse (X : K.In base) (N : base.Ns mainGlobals mg) (c : He.SaysD faL fnD K) : Has K mg "inverse" s_inverse p_inverse := has_of (c.def_ 7 (d := dDef "inverse" s_inverse) rfl) (He.glo_ok X N (c.fact 7 (f := .glo "inverse") rfl)) (fun _ _ _ _ _ _ us hl => match us, hl with | [_, _], _ => rfl)
theorem h_primitive (X : K.In base) (N : base.Ns mainGlobals mg) (c : He.SaysD faL fnD K) : Has K mg "primitive" s_primitive p_primitive := has_of (c.def_ 8 (d := dDef "primitive" s_primitive) rfl) (He.glo_ok X N (c.fact 8 (f := .glo "primitive") rfl)) (fun _ _ _ _ _ _ us hl => match us, hl with | [_], _ => rfl)
theorem h_cleared (X : K.In base) (N : base.Ns mainGlobals mg) (c : He.SaysD faL fnD K) : Has K mg "cleared" s_cleared p_cleared := has_of (c.def_ 9 (d := dDef "cleared" s_cleared) rfl) (He.glo_ok X N (c.fact 9 (f := .glo "cleared") rfl)) (fun _ _ _ _ _ _ us hl => match us, hl with | [_], _ => rfl)
theorem h_lead_of (X : K.In base) (N : base.Ns mainGlobals mg) (c : He.SaysD faL fnD K) : Has K mg "lead_of" s_lead_of p_lead_of := has_of (c.def_ 10 (d := dDef "lead_of" s_lead_of) rfl) (He.glo_ok X N (c.fact 10 (f := .glo "lead_of") rfl)) (fun _ _ _ _ _ _ us hl => match us, hl with | [_, _], _ => rfl)
theorem h_swept_rows (X : K.In base) (N : base.Ns mainGlobals mg) (c : He.SaysD faL fnD K) : HasC K mg "swept_rows" s_swept_rows p_swept_rows (He.cT K ("swept_rows", none)).1 := by
  obtain ⟨fd, F⟩ := c.def_ 11 (d := dDef "swept_rows" s_swept_rows) rfl
  have b := F.bindsN (ps := p_swept_rows) (fun _ _ _ _ _ _ us hl => match us, hl with | [_, _, _], _ => rfl)
  have F2 : Fun K "swept_rows" "swept_rows" s_swept_rows (He.ga K "swept_rows") fd := fun_of F
  obtain ⟨oc, od, kV, doc, pm, an, cdv, ct, osl, e, lk, hc⟩ := F2.ex
  obtain ⟨k, ek⟩ := He.codeIn_ref hc
  have ec : fd.code = .ref k := by rw [e]; exact ek
  exact ⟨_, fd, F2, He.glo_ok X N (c.fact 11 (f := .glo "swept_rows") rfl), b, by rw [ec]; exact congrArg Value.ref (He.codeOf_eq (p := ("swept_rows", none)) lk ec).symm⟩
theorem h_fractions (X : K.In base) (N : base.Ns mainGlobals mg) (c : He.SaysD faL fnD K) : Has K mg "_fractions" s_fractions p_fractions := has_of (c.def_ 12 (d := dDef "_fractions" s_fractions) rfl) (He.glo_ok X N (c.fact 12 (f := .glo "_fractions") rfl)) (fun _ _ _ _ _ _ us hl => match us, hl with | [_, _], _ => rfl)
theorem h_kept_modulo (X : K.In base) (N : base.Ns mainGlobals mg) (c : He.SaysD faL fnD K) : Has K mg "_kept_modulo" s_kept_modulo p_kept_modulo := has_of (c.def_ 13 (d := dDef "_kept_modulo" s_kept_modulo) rfl) (He.glo_ok X N (c.fact 13 (f := .glo "_kept_modulo") rfl)) (fun _ _ _ _ _ _ us hl => match us, hl with | [_, _, _], _ => rfl)
theorem h_less_modulo (X : K.In base) (N : base.Ns mainGlobals mg) (c : He.SaysD faL fnD K) : Has K mg "_less_modulo" s_less_modulo p_less_modulo := has_of (c.def_ 14 (d := dDef "_less_modulo" s_less_modulo) rfl) (He.glo_ok X N (c.fact 14 (f := .glo "_less_modulo") rfl)) (fun _ _ _ _ _ _ us hl => match us, hl with | [_, _, _, _], _ => rfl)
theorem h_kept_whole (X : K.In base) (N : base.Ns mainGlobals mg) (c : He.SaysD faL fnD K) : Has K mg "_kept_whole" s_kept_whole p_kept_whole := has_of (c.def_ 15 (d := dDef "_kept_whole" s_kept_whole) rfl) (He.glo_ok X N (c.fact 15 (f := .glo "_kept_whole") rfl)) (fun _ _ _ _ _ _ us hl => match us, hl with | [_, _], _ => rfl)
theorem h_less_whole (X : K.In base) (N : base.Ns mainGlobals mg) (c : He.SaysD faL fnD K) : Has K mg "_less_whole" s_less_whole p_less_whole := has_of (c.def_ 16 (d := dDef "_less_whole" s_less_whole) rfl) (He.glo_ok X N (c.fact 16 (f := .glo "_less_whole") rfl)) (fun _ _ _ _ _ _ us hl => match us, hl with | [_, _, _], _ => rfl)
theorem h_dot (X : K.In base) (N : base.Ns mainGlobals mg) (c : He.SaysD faL fnD K) : Has K mg "dot" s_dot p_dot := has_of (c.def_ 17 (d := dDef "dot" s_dot) rfl) (He.glo_ok X N (c.fact 17 (f := .glo "dot") rfl)) (fun _ _ _ _ _ _ us hl => match us, hl with | [_, _, _], _ => rfl)
theorem h_columns_of (X : K.In base) (N : base.Ns mainGlobals mg) (c : He.SaysD faL fnD K) : Has K mg "columns_of" s_columns_of p_columns_of := has_of (c.def_ 18 (d := dDef "columns_of" s_columns_of) rfl) (He.glo_ok X N (c.fact 18 (f := .glo "columns_of") rfl)) (fun _ _ _ _ _ _ us hl => match us, hl with | [_, _], _ => rfl)
theorem h_led_row (X : K.In base) (N : base.Ns mainGlobals mg) (c : He.SaysD faL fnD K) : Has K mg "led_row" s_led_row p_led_row := has_of (c.def_ 19 (d := dDef "led_row" s_led_row) rfl) (He.glo_ok X N (c.fact 19 (f := .glo "led_row") rfl)) (fun _ _ _ _ _ _ us hl => match us, hl with | [_, _, _, _], _ => rfl)
theorem h_table_times (X : K.In base) (N : base.Ns mainGlobals mg) (c : He.SaysD faL fnD K) : Has K mg "table_times" s_table_times p_table_times := has_of (c.def_ 20 (d := dDef "table_times" s_table_times) rfl) (He.glo_ok X N (c.fact 20 (f := .glo "table_times") rfl)) (fun _ _ _ _ _ _ us hl => match us, hl with | [_, _, _], _ => rfl)
theorem h_unit_rows (X : K.In base) (N : base.Ns mainGlobals mg) (c : He.SaysD faL fnD K) : Has K mg "unit_rows" s_unit_rows p_unit_rows := has_of (c.def_ 21 (d := dDef "unit_rows" s_unit_rows) rfl) (He.glo_ok X N (c.fact 21 (f := .glo "unit_rows") rfl)) (fun _ _ _ _ _ _ us hl => match us, hl with | [_, _], _ => rfl)
theorem h_leads_of (X : K.In base) (N : base.Ns mainGlobals mg) (c : He.SaysD faL fnD K) : Has K mg "leads_of" s_leads_of p_leads_of := has_of (c.def_ 22 (d := dDef "leads_of" s_leads_of) rfl) (He.glo_ok X N (c.fact 22 (f := .glo "leads_of") rfl)) (fun _ _ _ _ _ _ us hl => match us, hl with | [_, _], _ => rfl)
theorem h_undone_table (X : K.In base) (N : base.Ns mainGlobals mg) (c : He.SaysD faL fnD K) : Has K mg "undone_table" s_undone_table p_undone_table := has_of (c.def_ 23 (d := dDef "undone_table" s_undone_table) rfl) (He.glo_ok X N (c.fact 23 (f := .glo "undone_table") rfl)) (fun _ _ _ _ _ _ us hl => match us, hl with | [_, _], _ => rfl)
theorem h_field_of (X : K.In base) (N : base.Ns mainGlobals mg) (c : He.SaysD faL fnD K) : Has K mg "field_of" s_field_of p_field_of := has_of (c.def_ 24 (d := dDef "field_of" s_field_of) rfl) (He.glo_ok X N (c.fact 24 (f := .glo "field_of") rfl)) (fun _ _ _ _ _ _ us hl => match us, hl with | [_], _ => rfl)
theorem h_numbers_of (X : K.In base) (N : base.Ns mainGlobals mg) (c : He.SaysD faL fnD K) : Has K mg "numbers_of" s_numbers_of p_numbers_of := has_of (c.def_ 25 (d := dDef "numbers_of" s_numbers_of) rfl) (He.glo_ok X N (c.fact 25 (f := .glo "numbers_of") rfl)) (fun _ _ _ _ _ _ us hl => match us, hl with | [_, _], _ => rfl)
theorem h_rank (X : K.In base) (N : base.Ns mainGlobals mg) (c : He.SaysD faL fnD K) : Has K mg "rank" s_rank p_rank := has_of (c.def_ 26 (d := dDef "rank" s_rank) rfl) (He.glo_ok X N (c.fact 26 (f := .glo "rank") rfl)) (fun _ _ _ _ _ _ us hl => match us, hl with | [_, _], _ => rfl)
theorem h_times (X : K.In base) (N : base.Ns mainGlobals mg) (c : He.SaysD faL fnD K) : Has K mg "times" s_times p_times := has_of (c.def_ 27 (d := dDef "times" s_times) rfl) (He.glo_ok X N (c.fact 27 (f := .glo "times") rfl)) (fun _ _ _ _ _ _ us hl => match us, hl with | [_, _, _], _ => rfl)
theorem h_led (X : K.In base) (N : base.Ns mainGlobals mg) (c : He.SaysD faL fnD K) : Has K mg "led" s_led p_led := has_of (c.def_ 28 (d := dDef "led" s_led) rfl) (He.glo_ok X N (c.fact 28 (f := .glo "led") rfl)) (fun _ _ _ _ _ _ us hl => match us, hl with | [_, _, _], _ => rfl)
theorem h_undone (X : K.In base) (N : base.Ns mainGlobals mg) (c : He.SaysD faL fnD K) : Has K mg "undone" s_undone p_undone := has_of (c.def_ 29 (d := dDef "undone" s_undone) rfl) (He.glo_ok X N (c.fact 29 (f := .glo "undone") rfl)) (fun _ _ _ _ _ _ us hl => match us, hl with | [_, _], _ => rfl)
theorem h_l_jar (X : K.In base) (N : base.Ns mainGlobals mg) (c : He.SaysD faL fnD K) : Has K mg "_law_jar" s_l_jar p_l_jar := has_of (c.def_ 30 (d := dDef "_law_jar" s_l_jar) rfl) (He.glo_ok X N (c.fact 30 (f := .glo "_law_jar") rfl)) (fun _ _ _ _ _ _ us hl => match us, hl with | [_], _ => rfl)
theorem h_l_draw (X : K.In base) (N : base.Ns mainGlobals mg) (c : He.SaysD faL fnD K) : Has K mg "_law_draw" s_l_draw p_l_draw := has_of (c.def_ 31 (d := dDef "_law_draw" s_l_draw) rfl) (He.glo_ok X N (c.fact 31 (f := .glo "_law_draw") rfl)) (fun _ _ _ _ _ _ us hl => match us, hl with | [_, _], _ => rfl)
theorem h_l_pick (X : K.In base) (N : base.Ns mainGlobals mg) (c : He.SaysD faL fnD K) : Has K mg "_law_pick" s_l_pick p_l_pick := has_of (c.def_ 32 (d := dDef "_law_pick" s_l_pick) rfl) (He.glo_ok X N (c.fact 32 (f := .glo "_law_pick") rfl)) (fun _ _ _ _ _ _ us hl => match us, hl with | [_, _], _ => rfl)
theorem h_l_same (X : K.In base) (N : base.Ns mainGlobals mg) (c : He.SaysD faL fnD K) : Has K mg "_law_same" s_l_same p_l_same := has_of (c.def_ 33 (d := dDef "_law_same" s_l_same) rfl) (He.glo_ok X N (c.fact 33 (f := .glo "_law_same") rfl)) (fun _ _ _ _ _ _ us hl => match us, hl with | [_, _], _ => rfl)
theorem h_l_gcd (X : K.In base) (N : base.Ns mainGlobals mg) (c : He.SaysD faL fnD K) : Has K mg "_law_gcd" s_l_gcd p_l_gcd := has_of (c.def_ 34 (d := dDef "_law_gcd" s_l_gcd) rfl) (He.glo_ok X N (c.fact 34 (f := .glo "_law_gcd") rfl)) (fun _ _ _ _ _ _ us hl => match us, hl with | [_, _], _ => rfl)
theorem h_l_low (X : K.In base) (N : base.Ns mainGlobals mg) (c : He.SaysD faL fnD K) : Has K mg "_law_low" s_l_low p_l_low := has_of (c.def_ 35 (d := dDef "_law_low" s_l_low) rfl) (He.glo_ok X N (c.fact 35 (f := .glo "_law_low") rfl)) (fun _ _ _ _ _ _ us hl => match us, hl with | [_, _], _ => rfl)
theorem h_l_num (X : K.In base) (N : base.Ns mainGlobals mg) (c : He.SaysD faL fnD K) : Has K mg "_law_num" s_l_num p_l_num := has_of (c.def_ 36 (d := dDef "_law_num" s_l_num) rfl) (He.glo_ok X N (c.fact 36 (f := .glo "_law_num") rfl)) (fun _ _ _ _ _ _ us hl => match us, hl with | [_, _], _ => rfl)
theorem h_l_add (X : K.In base) (N : base.Ns mainGlobals mg) (c : He.SaysD faL fnD K) : Has K mg "_law_add" s_l_add p_l_add := has_of (c.def_ 37 (d := dDef "_law_add" s_l_add) rfl) (He.glo_ok X N (c.fact 37 (f := .glo "_law_add") rfl)) (fun _ _ _ _ _ _ us hl => match us, hl with | [_, _, _], _ => rfl)
theorem h_l_mul (X : K.In base) (N : base.Ns mainGlobals mg) (c : He.SaysD faL fnD K) : Has K mg "_law_mul" s_l_mul p_l_mul := has_of (c.def_ 38 (d := dDef "_law_mul" s_l_mul) rfl) (He.glo_ok X N (c.fact 38 (f := .glo "_law_mul") rfl)) (fun _ _ _ _ _ _ us hl => match us, hl with | [_, _, _], _ => rfl)
theorem h_l_inv (X : K.In base) (N : base.Ns mainGlobals mg) (c : He.SaysD faL fnD K) : Has K mg "_law_inv" s_l_inv p_l_inv := has_of (c.def_ 39 (d := dDef "_law_inv" s_l_inv) rfl) (He.glo_ok X N (c.fact 39 (f := .glo "_law_inv") rfl)) (fun _ _ _ _ _ _ us hl => match us, hl with | [_, _], _ => rfl)
theorem h_l_less (X : K.In base) (N : base.Ns mainGlobals mg) (c : He.SaysD faL fnD K) : Has K mg "_law_less" s_l_less p_l_less := has_of (c.def_ 40 (d := dDef "_law_less" s_l_less) rfl) (He.glo_ok X N (c.fact 40 (f := .glo "_law_less") rfl)) (fun _ _ _ _ _ _ us hl => match us, hl with | [_, _, _, _], _ => rfl)
theorem h_l_swept (X : K.In base) (N : base.Ns mainGlobals mg) (c : He.SaysD faL fnD K) : Has K mg "_law_swept" s_l_swept p_l_swept := has_of (c.def_ 41 (d := dDef "_law_swept" s_l_swept) rfl) (He.glo_ok X N (c.fact 41 (f := .glo "_law_swept") rfl)) (fun _ _ _ _ _ _ us hl => match us, hl with | [_, _, _], _ => rfl)
theorem h_l_field (X : K.In base) (N : base.Ns mainGlobals mg) (c : He.SaysD faL fnD K) : Has K mg "_law_field" s_l_field p_l_field := has_of (c.def_ 42 (d := dDef "_law_field" s_l_field) rfl) (He.glo_ok X N (c.fact 42 (f := .glo "_law_field") rfl)) (fun _ _ _ _ _ _ us hl => match us, hl with | [_], _ => rfl)
theorem h_l_word (X : K.In base) (N : base.Ns mainGlobals mg) (c : He.SaysD faL fnD K) : Has K mg "_law_word" s_l_word p_l_word := has_of (c.def_ 43 (d := dDef "_law_word" s_l_word) rfl) (He.glo_ok X N (c.fact 43 (f := .glo "_law_word") rfl)) (fun _ _ _ _ _ _ us hl => match us, hl with | [_, _], _ => rfl)
theorem h_l_other (X : K.In base) (N : base.Ns mainGlobals mg) (c : He.SaysD faL fnD K) : Has K mg "_law_other" s_l_other p_l_other := has_of (c.def_ 44 (d := dDef "_law_other" s_l_other) rfl) (He.glo_ok X N (c.fact 44 (f := .glo "_law_other") rfl)) (fun _ _ _ _ _ _ us hl => match us, hl with | [_, _, _], _ => rfl)
theorem h_l_change (X : K.In base) (N : base.Ns mainGlobals mg) (c : He.SaysD faL fnD K) : Has K mg "_law_change" s_l_change p_l_change := has_of (c.def_ 45 (d := dDef "_law_change" s_l_change) rfl) (He.glo_ok X N (c.fact 45 (f := .glo "_law_change") rfl)) (fun _ _ _ _ _ _ us hl => match us, hl with | [_, _, _, _], _ => rfl)
theorem h_l_number (X : K.In base) (N : base.Ns mainGlobals mg) (c : He.SaysD faL fnD K) : Has K mg "_law_number" s_l_number p_l_number := has_of (c.def_ 46 (d := dDef "_law_number" s_l_number) rfl) (He.glo_ok X N (c.fact 46 (f := .glo "_law_number") rfl)) (fun _ _ _ _ _ _ us hl => match us, hl with | [_, _], _ => rfl)
theorem h_l_units (X : K.In base) (N : base.Ns mainGlobals mg) (c : He.SaysD faL fnD K) : Has K mg "_law_units" s_l_units p_l_units := has_of (c.def_ 47 (d := dDef "_law_units" s_l_units) rfl) (He.glo_ok X N (c.fact 47 (f := .glo "_law_units") rfl)) (fun _ _ _ _ _ _ us hl => match us, hl with | [_, _], _ => rfl)
theorem h_l_led (X : K.In base) (N : base.Ns mainGlobals mg) (c : He.SaysD faL fnD K) : Has K mg "_law_led" s_l_led p_l_led := has_of (c.def_ 48 (d := dDef "_law_led" s_l_led) rfl) (He.glo_ok X N (c.fact 48 (f := .glo "_law_led") rfl)) (fun _ _ _ _ _ _ us hl => match us, hl with | [_, _, _, _], _ => rfl)
theorem h_l_table (X : K.In base) (N : base.Ns mainGlobals mg) (c : He.SaysD faL fnD K) : Has K mg "_law_table" s_l_table p_l_table := has_of (c.def_ 49 (d := dDef "_law_table" s_l_table) rfl) (He.glo_ok X N (c.fact 49 (f := .glo "_law_table") rfl)) (fun _ _ _ _ _ _ us hl => match us, hl with | [_, _, _, _], _ => rfl)
theorem h_l_given (X : K.In base) (N : base.Ns mainGlobals mg) (c : He.SaysD faL fnD K) : Has K mg "_law_given" s_l_given p_l_given := has_of (c.def_ 50 (d := dDef "_law_given" s_l_given) rfl) (He.glo_ok X N (c.fact 50 (f := .glo "_law_given") rfl)) (fun _ _ _ _ _ _ us hl => match us, hl with | [_, _, _], _ => rfl)
theorem h_l_product (X : K.In base) (N : base.Ns mainGlobals mg) (c : He.SaysD faL fnD K) : Has K mg "_law_product" s_l_product p_l_product := has_of (c.def_ 51 (d := dDef "_law_product" s_l_product) rfl) (He.glo_ok X N (c.fact 51 (f := .glo "_law_product") rfl)) (fun _ _ _ _ _ _ us hl => match us, hl with | [_, _, _, _], _ => rfl)
theorem h_l_inverse (X : K.In base) (N : base.Ns mainGlobals mg) (c : He.SaysD faL fnD K) : Has K mg "_law_inverse" s_l_inverse p_l_inverse := has_of (c.def_ 52 (d := dDef "_law_inverse" s_l_inverse) rfl) (He.glo_ok X N (c.fact 52 (f := .glo "_law_inverse") rfl)) (fun _ _ _ _ _ _ us hl => match us, hl with | [_, _], _ => rfl)
theorem h_l_square (X : K.In base) (N : base.Ns mainGlobals mg) (c : He.SaysD faL fnD K) : Has K mg "_law_square" s_l_square p_l_square := has_of (c.def_ 53 (d := dDef "_law_square" s_l_square) rfl) (He.glo_ok X N (c.fact 53 (f := .glo "_law_square") rfl)) (fun _ _ _ _ _ _ us hl => match us, hl with | [_, _, _], _ => rfl)
theorem h_l_long (X : K.In base) (N : base.Ns mainGlobals mg) (c : He.SaysD faL fnD K) : Has K mg "_law_long" s_l_long p_l_long := has_of (c.def_ 54 (d := dDef "_law_long" s_l_long) rfl) (He.glo_ok X N (c.fact 54 (f := .glo "_law_long") rfl)) (fun _ _ _ _ _ _ us hl => match us, hl with | [_, _], _ => rfl)
theorem h_l_undone (X : K.In base) (N : base.Ns mainGlobals mg) (c : He.SaysD faL fnD K) : Has K mg "_law_undone" s_l_undone p_l_undone := has_of (c.def_ 55 (d := dDef "_law_undone" s_l_undone) rfl) (He.glo_ok X N (c.fact 55 (f := .glo "_law_undone") rfl)) (fun _ _ _ _ _ _ us hl => match us, hl with | [_, _, _, _], _ => rfl)
theorem h_law (X : K.In base) (N : base.Ns mainGlobals mg) (c : He.SaysD faL fnD K) : Has K mg "law" s_law p_law := has_of (c.def_ 56 (d := dDef "law" s_law) rfl) (He.glo_ok X N (c.fact 56 (f := .glo "law") rfl)) (fun _ _ _ _ _ _ us hl => match us, hl with | [_], _ => rfl)
theorem fields_at (h : He.tupB K "FIELDS" (fieldsL.map He.Dv.int) = true) : FieldsAt K (He.ga K "FIELDS") := by
  have e : (fieldsL.map He.Dv.int).map (He.Dv.v K) = fieldsL.map V.int := by rw [List.map_map]; rfl
  have q := He.tupB_ok h fun _ => none
  rw [e] at q
  rcases q with (q | q) | q
  · cases q
  · obtain ⟨_, q⟩ := q
    cases q
  · exact q
theorem bi_ok (X : K.In base) (N : base.Ns mainGlobals mg) (c : He.SaysD faL fnD K) (m : exB K = true) : Bi mg := by
  obtain ⟨m1, m⟩ := Bool.and_eq_true_iff.mp m
  obtain ⟨m2, _⟩ := Bool.and_eq_true_iff.mp m
  exact ⟨He.free_ok X N (c.fact 59 (f := .free "len") rfl), He.free_ok X N (c.fact 60 (f := .free "tuple") rfl), He.free_ok X N (c.fact 61 (f := .free "list") rfl), He.free_ok X N (c.fact 62 (f := .free "range") rfl), He.free_ok X N (c.fact 63 (f := .free "int") rfl), He.free_ok X N (c.fact 64 (f := .free "str") rfl), He.free_ok X N (c.fact 65 (f := .free "bool") rfl), He.free_ok X N (c.fact 66 (f := .free "dict") rfl), He.free_ok X N (c.fact 67 (f := .free "abs") rfl), He.free_ok X N (c.fact 68 (f := .free "min") rfl), He.free_ok X N (c.fact 69 (f := .free "sum") rfl), He.free_ok X N (c.fact 70 (f := .free "all") rfl), He.free_ok X N (c.fact 71 (f := .free "zip") rfl), He.free_ok X N (c.fact 72 (f := .free "enumerate") rfl), He.free_ok X N (c.fact 73 (f := .free "sorted") rfl), He.free_ok X N (c.fact 74 (f := .free "isinstance") rfl), PySem.W.mg_of X N (He.eqO_ok m1), PySem.W.mg_of X N (He.eqO_ok m2)⟩
theorem cls_ok (X : K.In base) (N : base.Ns mainGlobals mg) (c : He.SaysD faL fnD K) (m : exB K = true) : ClsF K mg (He.ga K "Field") := by
  obtain ⟨_, m⟩ := Bool.and_eq_true_iff.mp m
  obtain ⟨_, m⟩ := Bool.and_eq_true_iff.mp m
  obtain ⟨m, _⟩ := Bool.and_eq_true_iff.mp m
  obtain ⟨a, m⟩ := Bool.and_eq_true_iff.mp m
  obtain ⟨b, m⟩ := Bool.and_eq_true_iff.mp m
  obtain ⟨d, m⟩ := Bool.and_eq_true_iff.mp m
  obtain ⟨e, m⟩ := Bool.and_eq_true_iff.mp m
  obtain ⟨f, g⟩ := Bool.and_eq_true_iff.mp m
  exact ⟨He.cls_ok (c.fact 77 (f := .cls "Field") rfl), He.eqO_ok a, He.eqO_ok b, of_decide_eq_true d, of_decide_eq_true e, He.noat_ok (c.fact 78 (f := .noat "Field" "p") rfl), of_decide_eq_true f, of_decide_eq_true g, He.glo_ok X N (c.fact 58 (f := .glo "Field") rfl)⟩
theorem int_at (X : K.In base) (N : base.Ns mainGlobals mg) {x : Str} {i : Int} (h : (He.Fa.int x i).ok K = true) : ∃ u, mg x = some u ∧ L2.RelV (.int i) u := by
  obtain ⟨t, e⟩ := He.int_ok X N h
  exact ⟨_, e, t, rfl⟩
end
theorem all_ok {P : Program} {w : World} {K : PySem.W.Frag} {mg : Str → Option Value} {base : Heap} (hP : P.given.tree = none) (X : K.In base) (N : base.Ns mainGlobals mg) (NS : base.NoSeer) (c : He.SaysD faL fnD K) (m : exB K = true)
    (TB : LamX.TabB base mg (He.cT K ("swept_rows", none)).1 (He.cT K ("swept_rows", none)).2) {fl : Addr} {fdl : FuncData} (FL : Fun K "law" "law" s_law fl fdl) : FnOk P w K mg base CX0 49 fl fdl p_law (spLaw K (He.cT K ("swept_rows", none)).2) := by
  have B := bi_ok X N c m
  have CF := cls_ok X N c m
  have HF : FieldsAt K (He.ga K "FIELDS") := by
    obtain ⟨_, m⟩ := Bool.and_eq_true_iff.mp m
    obtain ⟨_, m⟩ := Bool.and_eq_true_iff.mp m
    obtain ⟨_, m⟩ := Bool.and_eq_true_iff.mp m
    exact fields_at (Bool.and_eq_true_iff.mp m).1
  have G_FIELDS : mg "FIELDS" = some (.ref (He.ga K "FIELDS")) ∧ L2.RelV (V.ref (He.ga K "FIELDS")) (.ref (He.ga K "FIELDS")) := ⟨He.glo_ok X N (c.fact 57 (f := .glo "FIELDS") rfl), rfl⟩
  obtain ⟨uM, G_MOST_DIGITS⟩ := int_at X N (c.fact 75 (f := .int "MOST_DIGITS" 4000) rfl)
  obtain ⟨uW, G_WIDE⟩ := int_at X N (c.fact 76 (f := .int "WIDE" 64) rfl)
  have MK := He.mkr_ok (c.fact 80 (f := .mkr "Field") rfl)
  have me := He.meth_ok (c.fact 79 (f := .meth "Field" "number") rfl)
  obtain ⟨fi, Fi⟩ := c.def_ 57 (d := ⟨("Field", some "__init__"), "__init__", "Field.__init__", defArgs s_Field__init_, defBody s_Field__init_, defScope s_Field__init_, [], []⟩) rfl
  obtain ⟨fn, Fn⟩ := c.def_ 58 (d := ⟨("Field", some "number"), "number", "Field.number", defArgs s_Field_number, defBody s_Field_number, defScope s_Field_number, [], []⟩) rfl
  have C_is_whole := c_is_whole (P := P) (w := w) (base := base) (h := h_is_whole X N c) (B := B)
  have C_zero_of := c_zero_of (P := P) (w := w) (base := base) (h := h_zero_of X N c)
  have C_one_of := c_one_of (P := P) (w := w) (base := base) (h := h_one_of X N c)
  have C_lowest := c_lowest (P := P) (w := w) (base := base) (h := h_lowest X N c) (B := B) (NS := NS) (hP := hP)
  have C_inverse := c_inverse (P := P) (w := w) (base := base) (h := h_inverse X N c)
  have C_writes_whole := c_writes_whole (P := P) (w := w) (base := base) (h := h_writes_whole X N c) (B := B)
  have C_scalar_of_text := c_scalar_of_text (P := P) (w := w) (base := base) (h := h_scalar_of_text X N c) (B := B) (G_MOST_DIGITS := G_MOST_DIGITS) (C_writes_whole := C_writes_whole) (C_lowest := C_lowest)
  have C_scalar_of := c_scalar_of (P := P) (w := w) (base := base) (h := h_scalar_of X N c) (B := B) (C_is_whole := C_is_whole) (C_scalar_of_text := C_scalar_of_text) (C_lowest := C_lowest)
  have C_primitive := c_primitive (P := P) (w := w) (base := base) (h := h_primitive X N c) (B := B) (NS := NS) (hP := hP)
  have C_cleared := c_cleared (P := P) (w := w) (base := base) (h := h_cleared X N c) (B := B) (NS := NS) (hP := hP) (C_primitive := C_primitive)
  have C_lead_of := c_lead_of (P := P) (w := w) (base := base) (h := h_lead_of X N c) (B := B)
  have C_fractions := c_fractions (P := P) (w := w) (base := base) (h := h_fractions X N c) (B := B) (C_lowest := C_lowest)
  have C_less_modulo := c_less_modulo (P := P) (w := w) (base := base) (h := h_less_modulo X N c) (B := B)
  have C_less_whole := c_less_whole (P := P) (w := w) (base := base) (h := h_less_whole X N c) (B := B) (NS := NS) (hP := hP) (C_primitive := C_primitive)
  have C_kept_modulo := c_kept_modulo (P := P) (w := w) (base := base) (h := h_kept_modulo X N c) (B := B) (C_lead_of := C_lead_of) (C_inverse := C_inverse) (C_less_modulo := C_less_modulo)
  have C_kept_whole := c_kept_whole (P := P) (w := w) (base := base) (h := h_kept_whole X N c) (B := B) (C_lead_of := C_lead_of) (C_cleared := C_cleared) (C_less_whole := C_less_whole)
  have C_swept_rows := c_swept_rows (P := P) (w := w) (base := base) (h := h_swept_rows X N c) (B := B) (TB := TB) (G_WIDE := G_WIDE) (C_kept_modulo := C_kept_modulo) (C_kept_whole := C_kept_whole) (C_fractions := C_fractions)
  have C_columns_of := c_columns_of (P := P) (w := w) (base := base) (h := h_columns_of X N c) (B := B)
  have C_dot := c_dot (P := P) (w := w) (base := base) (h := h_dot X N c) (B := B) (C_lowest := C_lowest)
  have C_led_row := c_led_row (P := P) (w := w) (base := base) (h := h_led_row X N c) (B := B) (C_columns_of := C_columns_of) (C_dot := C_dot)
  have C_table_times := c_table_times (P := P) (w := w) (base := base) (h := h_table_times X N c) (B := B) (C_columns_of := C_columns_of) (C_dot := C_dot)
  have C_unit_rows := c_unit_rows (P := P) (w := w) (base := base) (h := h_unit_rows X N c) (B := B) (C_zero_of := C_zero_of) (C_one_of := C_one_of)
  have C_leads_of := c_leads_of (P := P) (w := w) (base := base) (h := h_leads_of X N c) (B := B) (C_zero_of := C_zero_of) (C_lead_of := C_lead_of)
  have C_undone_table := c_undone_table (P := P) (w := w) (base := base) (h := h_undone_table X N c) (B := B) (C_unit_rows := C_unit_rows) (C_leads_of := C_leads_of) (C_swept_rows := C_swept_rows)
  have M_Field := m_init (P := P) (w := w) (base := base) MK CF (fun_of Fi) (Fi.bindsN (ps := p_Field__init_) (fun _ _ _ _ _ _ us hl => match us, hl with | [_, _], _ => rfl)) B HF G_FIELDS C_is_whole
  have MT_Field_number := m_number (P := P) (w := w) (base := base) me CF (fun_of Fn) (Fn.bindsN (ps := p_Field_number) (fun _ _ _ _ _ _ us hl => match us, hl with | [_, _], _ => rfl)) B C_scalar_of
  have C_field_of := c_field_of (P := P) (w := w) (base := base) (h := h_field_of X N c) (B := B) (CF := CF) (M_Field := M_Field)
  have C_numbers_of := c_numbers_of (P := P) (w := w) (base := base) (h := h_numbers_of X N c) (B := B) (MT_Field_number := MT_Field_number)
  have C_rank := c_rank (P := P) (w := w) (base := base) (h := h_rank X N c) (B := B) (CF := CF) (C_field_of := C_field_of) (C_numbers_of := C_numbers_of) (C_swept_rows := C_swept_rows)
  have C_times := c_times (P := P) (w := w) (base := base) (h := h_times X N c) (B := B) (CF := CF) (C_field_of := C_field_of) (C_numbers_of := C_numbers_of) (C_table_times := C_table_times)
  have C_led := c_led (P := P) (w := w) (base := base) (h := h_led X N c) (B := B) (CF := CF) (C_field_of := C_field_of) (C_numbers_of := C_numbers_of) (MT_Field_number := MT_Field_number) (C_led_row := C_led_row)
  have C_undone := c_undone (P := P) (w := w) (base := base) (h := h_undone X N c) (B := B) (CF := CF) (C_field_of := C_field_of) (C_numbers_of := C_numbers_of) (C_undone_table := C_undone_table)
  have C_l_jar := c_l_jar (P := P) (w := w) (base := base) (h := h_l_jar X N c) (B := B)
  have C_l_draw := c_l_draw (P := P) (w := w) (base := base) (h := h_l_draw X N c) (B := B) (NS := NS) (hP := hP)
  have C_l_pick := c_l_pick (P := P) (w := w) (base := base) (h := h_l_pick X N c) (B := B) (C_l_draw := C_l_draw)
  have C_l_field := c_l_field (P := P) (w := w) (base := base) (h := h_l_field X N c) (B := B) (C_l_draw := C_l_draw) (C_l_pick := C_l_pick)
  have C_l_word := c_l_word (P := P) (w := w) (base := base) (h := h_l_word X N c) (B := B)
  have C_l_other := c_l_other (P := P) (w := w) (base := base) (h := h_l_other X N c) (B := B) (C_l_draw := C_l_draw) (C_l_word := C_l_word)
  have C_l_gcd := c_l_gcd (P := P) (w := w) (base := base) (h := h_l_gcd X N c) (B := B)
  have C_l_low := c_l_low (P := P) (w := w) (base := base) (h := h_l_low X N c) (B := B) (NS := NS) (hP := hP) (C_l_gcd := C_l_gcd)
  have C_l_num := c_l_num (P := P) (w := w) (base := base) (h := h_l_num X N c) (B := B)
  have C_l_add := c_l_add (P := P) (w := w) (base := base) (h := h_l_add X N c) (B := B) (C_l_low := C_l_low)
  have C_l_mul := c_l_mul (P := P) (w := w) (base := base) (h := h_l_mul X N c) (B := B) (C_l_low := C_l_low)
  have C_l_inv := c_l_inv (P := P) (w := w) (base := base) (h := h_l_inv X N c) (B := B) (C_l_low := C_l_low)
  have C_l_less := c_l_less (P := P) (w := w) (base := base) (h := h_l_less X N c) (B := B) (C_l_add := C_l_add) (C_l_mul := C_l_mul)
  have C_l_swept := c_l_swept (P := P) (w := w) (base := base) (h := h_l_swept X N c) (B := B) (C_l_num := C_l_num) (C_l_inv := C_l_inv) (C_l_mul := C_l_mul) (C_l_less := C_l_less)
  have C_l_units := c_l_units (P := P) (w := w) (base := base) (h := h_l_units X N c) (B := B) (C_l_num := C_l_num)
  have C_l_led := c_l_led (P := P) (w := w) (base := base) (h := h_l_led X N c) (B := B) (C_l_num := C_l_num) (C_l_add := C_l_add) (C_l_mul := C_l_mul)
  have C_l_product := c_l_product (P := P) (w := w) (base := base) (h := h_l_product X N c) (B := B) (C_l_led := C_l_led)
  have C_l_inverse := c_l_inverse (P := P) (w := w) (base := base) (h := h_l_inverse X N c) (B := B) (C_l_units := C_l_units) (C_l_swept := C_l_swept)
  have C_l_number := c_l_number (P := P) (w := w) (base := base) (h := h_l_number X N c) (B := B) (C_l_draw := C_l_draw) (C_l_num := C_l_num) (C_l_low := C_l_low)
  have C_l_table := c_l_table (P := P) (w := w) (base := base) (h := h_l_table X N c) (B := B) (C_l_draw := C_l_draw) (C_l_number := C_l_number) (C_l_add := C_l_add)
  have C_l_given := c_l_given (P := P) (w := w) (base := base) (h := h_l_given X N c) (B := B) (C_l_draw := C_l_draw) (C_l_other := C_l_other)
  have C_l_change := c_l_change (P := P) (w := w) (base := base) (h := h_l_change X N c) (B := B) (C_l_draw := C_l_draw) (C_l_pick := C_l_pick)
  have C_l_square := c_l_square (P := P) (w := w) (base := base) (h := h_l_square X N c) (B := B) (C_l_draw := C_l_draw) (C_l_num := C_l_num) (C_l_add := C_l_add) (C_l_mul := C_l_mul) (C_l_change := C_l_change) (C_l_table := C_l_table)
  have C_l_long := c_l_long (P := P) (w := w) (base := base) (h := h_l_long X N c) (B := B) (C_l_draw := C_l_draw) (C_l_change := C_l_change)
  have C_l_same := c_l_same (P := P) (w := w) (base := base) (h := h_l_same X N c) (B := B)
  have C_l_undone := c_l_undone (P := P) (w := w) (base := base) (h := h_l_undone X N c) (B := B) (CF := CF) (M_Field := M_Field) (C_l_units := C_l_units) (C_l_given := C_l_given) (C_undone := C_undone) (C_rank := C_rank) (C_times := C_times) (C_l_same := C_l_same)
  exact c_law (P := P) (w := w) (base := base) (FL := FL) (B := B) (CF := CF) (M_Field := M_Field) (C_l_jar := C_l_jar) (C_l_draw := C_l_draw) (C_l_field := C_l_field) (C_l_square := C_l_square) (C_l_table := C_l_table) (C_l_long := C_l_long) (C_l_given := C_l_given) (C_l_inverse := C_l_inverse) (C_l_product := C_l_product) (C_l_swept := C_l_swept) (C_l_same := C_l_same) (C_l_undone := C_l_undone) (C_undone := C_undone) (C_rank := C_rank) (C_times := C_times) (C_led := C_led)
end E
/-! W26: the end: the law's own statement. -/
namespace E
open PySem PySem.Spec PyProof.Rows L2
theorem ns_keep {h base : Heap} {K : PySem.W.Frag} {a : Addr} {m : Str → Option Value} (X : K.In h) (Y : K.In base) (k : (K.lookup a).isSome = true) (n : h.Ns a m) : base.Ns a m := by
  obtain ⟨o, es, ep, e, r⟩ := n
  cases q : K.lookup a with
  | none => rw [q] at k; cases k
  | some u =>
    have z := X _ _ q
    rw [e] at z
    exact ⟨o, es, ep, by rw [Option.some.inj z]; exact Y _ _ q, r⟩
theorem seer_keep {h base : Heap} {K : PySem.W.Frag} (X : K.In h) (Y : K.In base) (S : h.NoSeer) (k : has4 K = true) : base.NoSeer := by
  obtain ⟨a1, k⟩ := Bool.and_eq_true_iff.mp k
  obtain ⟨a2, k⟩ := Bool.and_eq_true_iff.mp k
  obtain ⟨a3, k⟩ := Bool.and_eq_true_iff.mp k
  obtain ⟨a4, k⟩ := Bool.and_eq_true_iff.mp k
  obtain ⟨mc, n1, c1, c2⟩ := S.statics
  obtain ⟨mm, n2, d⟩ := S.mods
  obtain ⟨mb, n3, e⟩ := S.imp
  obtain ⟨mg, bm, ob, n4, g1, g2, g3, g4⟩ := S.main
  refine ⟨⟨mc, ns_keep X Y a1 n1, c1, c2⟩, ⟨mm, ns_keep X Y a2 n2, d⟩, ⟨mb, ns_keep X Y a3 n3, e⟩, ⟨mg, bm, ob, ns_keep X Y a4 n4, g1, ?_, g3, g4⟩⟩
  split at k
  · next b q =>
    have z := PySem.W.mg_of X n4 q
    rw [g1] at z
    have eb : bm = b := by injection z with z; injection z
    subst eb
    cases y : K.lookup bm with
    | none => rw [y] at k; cases k
    | some u =>
      have x := X _ _ y
      rw [g2] at x
      rw [Option.some.inj x]; exact Y _ _ y
  · cases k
theorem walkN {l : PySem.W.OpenLaw} {n k : Nat} {q : Program} {loose : List Str} {XP : (Str → Option Value) → Heap → Prop} {YP : World → Heap → Prop} {d : DefRec} {x : Str} (hi : importsNone q = true) (hn : l.most = some n) (hz : n ≤ sizeLine) (hdf : d.params.defaults = []) (hr : Room k callerA)
    (F : ∀ (w : World) (mg : Str → Option Value) (fa : Addr) (h : Heap), YP w h → h.NoSeer → h.Ns mainGlobals mg → mg d.name = some (.ref fa) → ∃ K : PySem.W.Frag, K.In h ∧ LamX.LawAtS l w K CX0 k n x mg fa h) :
    PySem.W.WalkO q loose XP YP l.row.toRowW d [] (fun f vs => PySem.call f vs) := by
  refine Att.attach_callB hn hdf fun w s0 s1 mg mb fa o pm cd doc a vs ns G Y ho hd hc hm hob hin hle hbi hge => ?_
  obtain ⟨K, X, fd, cs, sp, t1, t2, t3, b, hs, hF⟩ := F w mg fa _ Y (G.T.seer hi) G.T.g hm
  exact LamX.law_callTs X G.T.g G.T.b G.T.builtins G.T.nolimit hge t1 t2 t3 G.T.bmain hob hin (Nat.le_trans hle hz) hr hF b (fun H hH hS => hs H a ns hle hbi hH hS) fun _ _ _ z => z
theorem law_at {w : World} {K : PySem.W.Frag} {mg : Str → Option Value} {fa : Addr} {h : Heap} (X : K.In h) (S : h.NoSeer) (N : h.Ns mainGlobals mg) (hm : mg "law" = some (.ref fa)) (c : He.SaysX faL fnD [] tfL exB w h K) : LamX.LawAtS rowK w K CX0 49 63 "script" mg fa h := by
  have inT : (("swept_rows", none) : He.Defn) ∈ tfL := List.mem_cons_self
  have k4 : has4 K = true := by
    obtain ⟨_, m⟩ := Bool.and_eq_true_iff.mp c.more
    obtain ⟨_, m⟩ := Bool.and_eq_true_iff.mp m
    obtain ⟨_, m⟩ := Bool.and_eq_true_iff.mp m
    exact (Bool.and_eq_true_iff.mp m).2
  obtain ⟨fd, F⟩ := c.t.d.def_ 56 (d := dDef "law" s_law) rfl
  have b := FunD.bindsA (ps := ["script"]) F fun _ _ _ _ _ _ us hl => match us, hl with | [_], _ => rfl
  have e := hm.symm.trans (He.glo_ok X N (c.t.d.fact 56 (f := .glo "law") rfl))
  have ea : fa = He.ga K "law" := by injection e with e; injection e
  subst ea
  refine ⟨fd, [He.cT K ("swept_rows", none)], spLaw K (He.cT K ("swept_rows", none)).2, fun p hp => ?_, fun p hp => ?_, fun p hp => ?_, fun s v => b s [v] rfl, fun H a ns _ _ hT hS => ⟨a, ns, rfl, hS, hT _ List.mem_cons_self, fun _ => rfl⟩, fun base Y Nb TB => ?_⟩
  · rw [List.mem_singleton.mp hp]; exact c.empty _ inT
  · rw [List.mem_singleton.mp hp]; exact c.out _ inT
  · rw [List.mem_singleton.mp hp]; exact PySem.W.codeHd_of_K X (c.hd _ inT)
  · exact all_ok rfl Y Nb (seer_keep X Y S k4) c.t.d c.more (TB _ List.mem_cons_self) (fun_of F)
end E
open PySem PySem.W PySem.Calls PyProof.Rows
set_option maxRecDepth 100000 in
set_option maxHeartbeats 0 in
theorem PySem.Challenge.cw_everylemma_k03_tables_undone_and_ranks_holds : PySem.Challenge.rw_everylemma_k03_tables_undone_and_ranks.Holds := by
  w_on; o_law
  refine HandSHeadRun.head_imp (r := E.rowO) (q := view E.rowO.prog [0, 75]) (H := E.hkY) (ob := E.obT) (M := 4000) (loose := E.nmL) (d := HandSHeadRun.topDef E.rowO.prog 75) (kwd := []) E.obT_eq E.run (by kernel_rfl) (by kernel_rfl) (by kernel_rfl) (by rfl) (by first | assumption | decide +kernel) (by decide +kernel) ⟨rfl, rfl, rfl, rfl, rfl, by decide +kernel⟩ ?hw ?hc
  case hw => w_witness2
  case hc =>
    refine E.walkN (l := E.rowK) (n := 63) (k := 49) (x := "script") (by decide +kernel) rfl (by decide) (by kernel_rfl) ⟨rfl, by decide, by decide⟩ fun w mg fa h Y S N hm0 => ?_
    obtain ⟨K, X, c⟩ := Y
    have hm : mg ("law" : PySem.Str) = some (.ref fa) := by
      have e : (HandSHeadRun.topDef E.rowO.prog 75).name = ("law" : PySem.Str) := by kernel_rfl
      rw [← e]
      exact hm0
    exact ⟨K, X, E.law_at X S N hm c⟩
