import PyProof.Rows.All
import Wide.All
import OpenK.AllK
import Wide.FinOn
import HandS.ForMost
import HandS.Wide
import HandS.IsInst
import HandS.EndTab
import HandS.SortKw
import HandS.TupLe
import HandS.TupAny
import HandS.SetKeys
import HandS.SortInts
import HandS.Defaults
import KE.SortKeyHeap
import KE.KStateDown
import HandS.Base
import HandS.Call
import HandS.Ends
import HandS.More
import HandS.Words
import HandS.WordsExc
import HandS.Head0
import HandS.Head1
import HandS.Head2
import HandS.HeadEnd
import HandS.HeadHook1
import HandS.HeadHook2
import HandS.HeadHook3
import HandS.HeadHook4
import HandS.HeadWalk
import PySem.Challenge.RW_markscale_k42_whole_heaps_stand
set_option Elab.async false
set_option linter.all false
set_option maxRecDepth 100000
section
set_option maxHeartbeats 4000000
namespace M
open PySem PySem.Spec PyProof.Rows L2
/-! ### data in a heap, off the mutable addresses B -/
def kD : Key → PyData
  | .inl i => .int i
  | .inr x => .str x
mutual
inductive R (B : List Addr) (H : Hp) : V → PyData → Prop
  | non : R B H .non .none
  | bl (b : Bool) : R B H (.bl b) (.bool b)
  | int (i : Int) : R B H (.int i) (.int i)
  | str (x : Str) : R B H (.str x) (.str x)
  | lst {a : Addr} {xs : List V} {ds : List PyData} : H a = some (.lst xs) → a ∉ B → RA B H xs ds → R B H (.ref a) (.list ds)
  | tup {a : Addr} {xs : List V} {ds : List PyData} : H a = some (.tup xs) → a ∉ B → RA B H xs ds → R B H (.ref a) (.tuple ds)
  | dct {a : Addr} {kvs : List (Key × V)} {ds : List (PyData × PyData)} : H a = some (.dK kvs) → a ∉ B → RD B H kvs ds → R B H (.ref a) (.dict ds)
inductive RA (B : List Addr) (H : Hp) : List V → List PyData → Prop
  | nil : RA B H [] []
  | cons {v : V} {vs : List V} {d : PyData} {ds : List PyData} : R B H v d → RA B H vs ds → RA B H (v :: vs) (d :: ds)
inductive RD (B : List Addr) (H : Hp) : List (Key × V) → List (PyData × PyData) → Prop
  | nil : RD B H [] []
  | cons {k : Key} {v : V} {vs : List (Key × V)} {d : PyData} {ds : List (PyData × PyData)} : R B H v d → RD B H vs ds → RD B H ((k, v) :: vs) ((kD k, d) :: ds)
end
/-- all but what stands at B is as it was -/
def ExB (B : List Addr) (H H' : Hp) : Prop := ∀ a o, a ∉ B → H a = some o → H' a = some o
theorem ExB.refl (B : List Addr) (H : Hp) : ExB B H H := fun _ _ _ h => h
theorem ExB.trans {B : List Addr} {H H1 H2 : Hp} (a : ExB B H H1) (b : ExB B H1 H2) : ExB B H H2 := fun x o n h => b x o n (a x o n h)
theorem ExB.of {B : List Addr} {H H' : Hp} (e : Same H H') : ExB B H H' := fun a o _ h => e a o h
theorem ExB.mono {B B' : List Addr} {H H' : Hp} (s : ∀ a ∈ B, a ∈ B') (e : ExB B H H') : ExB B' H H' := fun a o n h => e a o (fun z => n (s a z)) h
mutual
theorem R.ex {B B' : List Addr} {H H' : Hp} (e : ExB B H H') (s : ∀ a o, a ∉ B → H a = some o → a ∉ B') : ∀ {d : PyData} {v : V}, R B H v d → R B' H' v d
  | _, _, .non => .non
  | _, _, .bl b => .bl b
  | _, _, .int i => .int i
  | _, _, .str x => .str x
  | _, _, .lst h n r => .lst (e _ _ n h) (s _ _ n h) (RA.ex e s r)
  | _, _, .tup h n r => .tup (e _ _ n h) (s _ _ n h) (RA.ex e s r)
  | _, _, .dct h n r => .dct (e _ _ n h) (s _ _ n h) (RD.ex e s r)
theorem RA.ex {B B' : List Addr} {H H' : Hp} (e : ExB B H H') (s : ∀ a o, a ∉ B → H a = some o → a ∉ B') : ∀ {ds : List PyData} {vs : List V}, RA B H vs ds → RA B' H' vs ds
  | _, _, .nil => .nil
  | _, _, .cons h r => .cons (R.ex e s h) (RA.ex e s r)
theorem RD.ex {B B' : List Addr} {H H' : Hp} (e : ExB B H H') (s : ∀ a o, a ∉ B → H a = some o → a ∉ B') : ∀ {ds : List (PyData × PyData)} {vs : List (Key × V)}, RD B H vs ds → RD B' H' vs ds
  | _, _, .nil => .nil
  | _, _, .cons h r => .cons (R.ex e s h) (RD.ex e s r)
end
section
variable {B B' : List Addr} {H H' : Hp} {v : V} {d : PyData} {vs : List V} {ds : List PyData} {l : Addr}
theorem R.same (e : Same H H') (r : R B H v d) : R B H' v d := R.ex (ExB.of e) (fun _ _ n _ => n) r
theorem RA.same (e : Same H H') (r : RA B H vs ds) : RA B H' vs ds := RA.ex (ExB.of e) (fun _ _ n _ => n) r
theorem R.exB (e : ExB B H H') (r : R B H v d) : R B H' v d := R.ex e (fun _ _ n _ => n) r
theorem RA.exB (e : ExB B H H') (r : RA B H vs ds) : RA B H' vs ds := RA.ex e (fun _ _ n _ => n) r
/-- fewer mutable ones -/
theorem R.sub (s : ∀ a ∈ B', a ∈ B) (r : R B H v d) : R B' H v d := R.ex (ExB.refl _ _) (fun _ _ n _ z => n (s _ z)) r
theorem RA.sub (s : ∀ a ∈ B', a ∈ B) (r : RA B H vs ds) : RA B' H vs ds := RA.ex (ExB.refl _ _) (fun _ _ n _ z => n (s _ z)) r
/-- one more, that nothing of it stands at -/
theorem R.grow (h : H l = none) (r : R B H v d) : R (l :: B) H v d := R.ex (ExB.refl _ _) (fun a o n e z => by
  rcases List.mem_cons.mp z with z | z
  · rw [z, h] at e
    cases e
  · exact n z) r
theorem RA.grow (h : H l = none) (r : RA B H vs ds) : RA (l :: B) H vs ds := RA.ex (ExB.refl _ _) (fun a o n e z => by
  rcases List.mem_cons.mp z with z | z
  · rw [z, h] at e
    cases e
  · exact n z) r
theorem RA.len : ∀ {vs : List V} {ds : List PyData}, RA B H vs ds → vs.length = ds.length
  | _, _, .nil => rfl
  | _, _, .cons _ r => congrArg (· + 1) (RA.len r)
theorem RA.get : ∀ {vs : List V} {ds : List PyData} {i : Nat} {d : PyData}, RA B H vs ds → ds[i]? = some d → ∃ v, vs[i]? = some v ∧ R B H v d
  | _, _, i, _, .nil, e => by simp at e
  | _, _, 0, _, .cons r _, e => by
    have e2 := Option.some.inj (show some _ = some _ from e)
    exact ⟨_, rfl, e2 ▸ r⟩
  | _, _, i + 1, d, .cons _ t, e => by
    obtain ⟨v, h1, h2⟩ := RA.get (i := i) t (by simpa using e)
    exact ⟨v, by simpa using h1, h2⟩
theorem RA.getV : ∀ {vs : List V} {ds : List PyData} {i : Nat} {v : V}, RA B H vs ds → vs[i]? = some v → ∃ d, ds[i]? = some d ∧ R B H v d
  | _, _, i, _, .nil, e => by simp at e
  | _, _, 0, _, .cons r _, e => by
    have e2 := Option.some.inj (show some _ = some _ from e)
    exact ⟨_, rfl, e2 ▸ r⟩
  | _, _, i + 1, v, .cons _ t, e => by
    obtain ⟨d, h1, h2⟩ := RA.getV (i := i) t (by simpa using e)
    exact ⟨d, by simpa using h1, h2⟩
theorem RA.app : ∀ {vs us : List V} {ds es : List PyData}, RA B H vs ds → RA B H us es → RA B H (vs ++ us) (ds ++ es)
  | _, _, _, _, .nil, s => s
  | _, _, _, _, .cons r t, s => .cons r (RA.app t s)
theorem RA.drop : ∀ {vs : List V} {ds : List PyData} (n : Nat), RA B H vs ds → RA B H (vs.drop n) (ds.drop n)
  | _, _, 0, r => r
  | _, _, _ + 1, .nil => .nil
  | _, _, n + 1, .cons _ t => RA.drop n t
theorem RA.take : ∀ {vs : List V} {ds : List PyData} (n : Nat), RA B H vs ds → RA B H (vs.take n) (ds.take n)
  | _, _, 0, _ => .nil
  | _, _, _ + 1, .nil => .nil
  | _, _, n + 1, .cons r t => .cons r (RA.take n t)
theorem RA.rep : ∀ {vs : List V} {ds : List PyData} (n : Nat), RA B H vs ds → RA B H (List.replicate n vs).flatten (List.replicate n ds).flatten
  | _, _, 0, _ => .nil
  | _, _, n + 1, r => by
    rw [List.replicate_succ, List.replicate_succ, List.flatten_cons, List.flatten_cons]
    exact r.app (RA.rep n r)
theorem RA.one (r : R B H v d) : RA B H [v] [d] := .cons r .nil
/-- ints as values -/
theorem RA.ints : ∀ {vs : List V} {ns : List Int}, RA B H vs (ns.map PyData.int) → vs = ns.map V.int
  | _, [], .nil => rfl
  | _, n :: ns, .cons r t => by
    cases r
    rw [RA.ints (ns := ns) t]
    rfl
theorem RA.ofInts : ∀ (ns : List Int), RA B H (ns.map V.int) (ns.map PyData.int)
  | [] => .nil
  | n :: ns => .cons (.int n) (RA.ofInts ns)
theorem RA.strs : ∀ {vs : List V} {ns : List Str}, RA B H vs (ns.map PyData.str) → vs = ns.map V.str
  | _, [], .nil => rfl
  | _, n :: ns, .cons r t => by
    cases r
    rw [RA.strs (ns := ns) t]
    rfl
theorem RA.bools : ∀ {vs : List V} {ns : List Bool}, RA B H vs (ns.map PyData.bool) → vs = ns.map V.bl
  | _, [], .nil => rfl
  | _, n :: ns, .cons r t => by
    cases r
    rw [RA.bools (ns := ns) t]
    rfl
end
mutual
theorem R.dp {K : PySem.W.Frag} {B : List Addr} {H : Hp} : ∀ {d : PyData} {v : V}, R B H v d → d.canLay0 = true → Dp K H v d
  | _, _, .non, _ => .non
  | _, _, .bl b, _ => .bl b
  | _, _, .int i, _ => .int i
  | _, _, .str x, _ => .str x
  | _, _, .lst h n r, s => .lst (Or.inl (Or.inl h)) (RA.dp r s)
  | _, _, .tup h n r, s => .tup (Or.inl (Or.inl h)) (RA.dp r s)
  | _, _, .dct h n r, s => nomatch s
theorem RA.dp {K : PySem.W.Frag} {B : List Addr} {H : Hp} : ∀ {ds : List PyData} {vs : List V}, RA B H vs ds → PyData.canLayAll0 ds = true → DpAll K H vs ds
  | _, _, .nil, _ => .nil
  | _, _, .cons h r, s => by
    have s' := Bool.and_eq_true_iff.mp (by simpa [PyData.canLayAll0] using s)
    exact .cons (R.dp h s'.1) (RA.dp r s'.2)
end
/-! ### what evaluates to what -/
def Trk (B : List Addr) (H : Hp) : Prop := ∀ l ∈ B, H l ≠ none
theorem Trk.same {B : List Addr} {H H' : Hp} (t : Trk B H) (e : Same H H') : Trk B H' := fun l hl z => by
  cases h : H l with
  | none => exact t l hl h
  | some o =>
    rw [e l o h] at z
    cases z
theorem Trk.out {B : List Addr} {H : Hp} {p : Addr} (t : Trk B H) (h : H p = none) : p ∉ B := fun z => t p z h
theorem Trk.upd {B : List Addr} {H : Hp} {p : Addr} {o : HO} (t : Trk B H) : Trk B (upd H p o) := fun l hl z => by
  by_cases e : l = p
  · rw [e, upd_same] at z
    cases z
  · rw [upd_ne e] at z
    exact t l hl z
theorem same_new {H : Hp} {p : Addr} {o : HO} (h : H p = none) : Same H (upd H p o) := fun b x e => by
  rw [upd_ne (ne_of_none e h)]
  exact e
def Ev (B : List Addr) (te : TE) (σ : L2.St) (H : Hp) (d : PyData) : Prop := ∀ H1, Same H H1 → ∀ Q : VK, (∀ v H2, Same H1 H2 → R B H2 v d → Q v H2) → te σ H1 Q
def EvA (B : List Addr) (ta : TA) (σ : L2.St) (H : Hp) (ds : List PyData) : Prop := ∀ H1, Same H H1 → ∀ Q : List V → Hp → Prop, (∀ vs H2, Same H1 H2 → RA B H2 vs ds → Q vs H2) → ta σ H1 Q
def EvT (_ : List Addr) (tt : TT) (σ : L2.St) (H : Hp) (b : Bool) : Prop := ∀ H1, Same H H1 → ∀ Q : Bool → Hp → Prop, (∀ H2, Same H1 H2 → Q b H2) → tt σ H1 Q
/-- an operation on data -/
def OpD (B : List Addr) (r : R2) (x y z : PyData) (H : Hp) : Prop := ∀ H1, Same H H1 → ∀ v w, R B H1 v x → R B H1 w y → ∀ Q : VK, (∀ u H2, Same H1 H2 → R B H2 u z → Q u H2) → r v w H1 Q
def CallD (B : List Addr) (r : List V → Hp → VK → Prop) (xs : List PyData) (z : PyData) (H : Hp) : Prop := ∀ H1, Same H H1 → ∀ vs, RA B H1 vs xs → ∀ Q : VK, (∀ u H2, Same H1 H2 → R B H2 u z → Q u H2) → r vs H1 Q
inductive Sl where
  | no | dat (d : PyData) | mu (l : Addr) (ds : List PyData) | ptr (l : Addr)
def SlOk (B : List Addr) (H : Hp) (o : Option (Option V)) : Sl → Prop
  | .no => True
  | .dat d => ∃ v, o = some (some v) ∧ R B H v d
  | .mu l ds => o = some (some (.ref l)) ∧ l ∈ B ∧ ∃ vs, H l = some (.lst vs) ∧ RA B H vs ds
  | .ptr l => o = some (some (.ref l))
theorem SlOk.same {B : List Addr} {H H' : Hp} {o : Option (Option V)} {s : Sl} (e : Same H H') (h : SlOk B H o s) : SlOk B H' o s := by
  cases s with
  | no => trivial
  | dat d =>
    obtain ⟨v, h1, h2⟩ := h
    exact ⟨v, h1, h2.same e⟩
  | mu l ds =>
    obtain ⟨h1, h2, vs, h3, h4⟩ := h
    exact ⟨h1, h2, vs, e _ _ h3, h4.same e⟩
  | ptr l => exact h
/-- the slots σ read as G; since H0 nothing has changed but at C -/
structure Evn (C : List Addr) (H0 : Hp) (B : List Addr) (σ : L2.St) (H : Hp) (G : List Sl) : Prop where
  ex : ExB C H0 H
  trk : Trk B H
  len : σ.length = G.length
  at_ : ∀ (i : Nat) (s : Sl), G[i]? = some s → SlOk B H σ[i]? s
section
variable {C B : List Addr} {σ σ' : L2.St} {H H0 H' : Hp} {G : List Sl} {d : PyData} {i : Nat} {v : V}
theorem Evn.same (E : Evn C H0 B σ H G) (e : Same H H') : Evn C H0 B σ H' G := ⟨E.ex.trans (ExB.of e), E.trk.same e, E.len, fun i s h => (E.at_ i s h).same e⟩
theorem Evn.set (E : Evn C H0 B σ H G) (r : R B H v d) : Evn C H0 B (σ.set i (some v)) H (G.set i (.dat d)) := ⟨E.ex, E.trk, by rw [List.length_set, List.length_set, E.len], fun j s h => by
  by_cases hj : i = j
  · subst hj
    by_cases hi : i < G.length
    · rw [List.getElem?_set_self hi] at h
      cases h
      exact ⟨v, List.getElem?_set_self (by rw [E.len]; exact hi), r⟩
    · rw [List.getElem?_eq_none (by rw [List.length_set]; omega)] at h
      cases h
  · rw [List.getElem?_set_ne hj] at h ⊢
    exact E.at_ j s h⟩
/-- a slot that is no longer told -/
theorem Evn.forget (E : Evn C H0 B σ H G) (G' : List Sl) (h : ∀ (i : Nat) (s : Sl), G'[i]? = some s → s = Sl.no ∨ G[i]? = some s) (hl : G'.length = G.length) : Evn C H0 B σ H G' := ⟨E.ex, E.trk, by rw [hl, E.len], fun i s e => by
  rcases h i s e with z | z
  · rw [z]
    trivial
  · exact E.at_ i s z⟩
theorem Evn.get (E : Evn C H0 B σ H G) (h : G[i]? = some (.dat d)) : ∃ v, σ[i]? = some (some v) ∧ R B H v d := E.at_ i _ h
end
/-- the entry of a def -/
theorem Evn.start {B : List Addr} {H : Hp} {N : List Str} {vs : List V} {ds : List PyData} (t : Trk B H) (r : RA B H vs ds) (hl : ds.length ≤ N.length) : Evn [] H B (start N vs) H (ds.map Sl.dat ++ List.replicate (N.length - ds.length) Sl.no) :=
  ⟨ExB.refl _ _, t, by simp [L2.start, r.len], fun i s h => by
    by_cases hi : i < ds.length
    · rw [List.getElem?_append_left (by simpa using hi), List.getElem?_map] at h
      cases e : ds[i]? with
      | none =>
        rw [e] at h
        cases h
      | some d =>
        rw [e] at h
        cases h
        obtain ⟨v, h1, h2⟩ := r.get e
        refine ⟨v, ?_, h2⟩
        unfold L2.start
        rw [List.getElem?_append_left (by rw [List.length_map, r.len]; exact hi), List.getElem?_map, h1]
        rfl
    · rw [List.getElem?_append_right (by simpa using hi), List.getElem?_replicate] at h
      split at h
      · cases h
        trivial
      · cases h⟩
/-! ### expressions -/
section
variable {K : PySem.W.Frag} {C B : List Addr} {σ : L2.St} {H H0 H' : Hp} {G : List Sl} {ta tb te tx : TE} {t u : TT} {x y z d e : PyData} {r : R2} {i j : Int} {a b : Bool} {ds es : List PyData}
theorem Ev.mono (e : Same H H') (h : Ev B te σ H d) : Ev B te σ H' d := fun H1 a Q q => h H1 (e.trans a) Q q
theorem EvA.mono {ta : TA} (e : Same H H') (h : EvA B ta σ H ds) : EvA B ta σ H' ds := fun H1 a Q q => h H1 (e.trans a) Q q
theorem EvT.mono (e : Same H H') (h : EvT B t σ H b) : EvT B t σ H' b := fun H1 a Q q => h H1 (e.trans a) Q q
theorem Ev.is (h : Ev B te σ H d) (q : d = e) : Ev B te σ H e := q ▸ h
theorem EvT.is (h : EvT B t σ H a) (q : a = b) : EvT B t σ H b := q ▸ h
theorem ev_var {k : Nat} (E : Evn C H0 B σ H G) (h : G[k]? = some (.dat d)) : Ev B (tVar k) σ H d := fun H1 e Q q => by
  obtain ⟨v, h1, h2⟩ := E.get h
  exact ⟨v, h1, q v H1 (Same.refl H1) (h2.same e)⟩
theorem ev_varV {k : Nat} {v : V} (h : σ[k]? = some (some v)) (r : R B H v d) : Ev B (tVar k) σ H d := fun H1 e Q q => ⟨v, h, q v H1 (Same.refl H1) (r.same e)⟩
theorem ev_int : Ev B (tC (.int i)) σ H (.int i) := fun H1 _ _ q => q _ H1 (Same.refl H1) (.int i)
theorem ev_str {s : Str} : Ev B (tC (.str s)) σ H (.str s) := fun H1 _ _ q => q _ H1 (Same.refl H1) (.str s)
theorem ev_bl : Ev B (tC (.bl b)) σ H (.bool b) := fun H1 _ _ q => q _ H1 (Same.refl H1) (.bl b)
theorem ev_non : Ev B (tC .non) σ H .none := fun H1 _ _ q => q _ H1 (Same.refl H1) .non
theorem ev_op (ha : Ev B ta σ H x) (hb : Ev B tb σ H y) (hr : OpD B r x y z H) : Ev B (tOp r ta tb) σ H z := fun H1 e Q q =>
  ha H1 e _ fun v H2 e2 r2 => hb H2 (e.trans e2) _ fun w H3 e3 r3 => hr H3 ((e.trans e2).trans e3) v w (r2.same e3) r3 Q fun u H4 e4 r4 => q u H4 ((e2.trans e3).trans e4) r4
theorem od_I0 {f : Int → Int → Int} : OpD B (rI0 fun i j => .int (f i j)) (.int i) (.int j) (.int (f i j)) H := fun H1 _ v w r1 r2 Q q => by
  cases r1
  cases r2
  exact ⟨i, j, rfl, rfl, q _ H1 (Same.refl H1) (.int _)⟩
theorem od_I0b {f : Int → Int → Bool} : OpD B (rI0 fun i j => .bl (f i j)) (.int i) (.int j) (.bool (f i j)) H := fun H1 _ v w r1 r2 Q q => by
  cases r1
  cases r2
  exact ⟨i, j, rfl, rfl, q _ H1 (Same.refl H1) (.bl _)⟩
theorem od_I {c : Int → Int → Prop} {f : Int → Int → Int} (hc : c i j) : OpD B (rI c fun i j => .int (f i j)) (.int i) (.int j) (.int (f i j)) H := fun H1 _ v w r1 r2 Q q => by
  cases r1
  cases r2
  exact ⟨i, j, rfl, rfl, hc, q _ H1 (Same.refl H1) (.int _)⟩
theorem ev_I0 {f : Int → Int → Int} (ha : Ev B ta σ H (.int i)) (hb : Ev B tb σ H (.int j)) : Ev B (tOp (rI0 fun i j => .int (f i j)) ta tb) σ H (.int (f i j)) := ev_op ha hb od_I0
theorem ev_I0b {f : Int → Int → Bool} (ha : Ev B ta σ H (.int i)) (hb : Ev B tb σ H (.int j)) : Ev B (tOp (rI0 fun i j => .bl (f i j)) ta tb) σ H (.bool (f i j)) := ev_op ha hb od_I0b
theorem ev_I {c : Int → Int → Prop} {f : Int → Int → Int} (ha : Ev B ta σ H (.int i)) (hb : Ev B tb σ H (.int j)) (hc : c i j) : Ev B (tOp (rI c fun i j => .int (f i j)) ta tb) σ H (.int (f i j)) := ev_op ha hb (od_I hc)
theorem ev_eqI (ha : Ev B ta σ H (.int i)) (hb : Ev B tb σ H (.int j)) : Ev B (tOp rEq ta tb) σ H (.bool (decide (i = j))) := ev_op ha hb fun H1 _ v w r1 r2 Q q => by
  cases r1
  cases r2
  have e : decide (V.int i = V.int j) = decide (i = j) := by simp
  exact ⟨rfl, by rw [e]; exact q _ H1 (Same.refl H1) (.bl _)⟩
theorem ev_neI (ha : Ev B ta σ H (.int i)) (hb : Ev B tb σ H (.int j)) : Ev B (tOp rNe ta tb) σ H (.bool (!decide (i = j))) := ev_op ha hb fun H1 _ v w r1 r2 Q q => by
  cases r1
  cases r2
  have e : decide (V.int i = V.int j) = decide (i = j) := by simp
  exact ⟨rfl, by rw [e]; exact q _ H1 (Same.refl H1) (.bl _)⟩
theorem ev_eqS {s w : Str} (ha : Ev B ta σ H (.str s)) (hb : Ev B tb σ H (.str w)) : Ev B (tOp rEq ta tb) σ H (.bool (decide (s = w))) := ev_op ha hb fun H1 _ v' w' r1 r2 Q q => by
  cases r1
  cases r2
  have e : decide (V.str s = V.str w) = decide (s = w) := by simp
  exact ⟨rfl, by rw [e]; exact q _ H1 (Same.refl H1) (.bl _)⟩
/-- None == a text: no -/
theorem ev_eqNS {w : Str} (ha : Ev B ta σ H .none) (hb : Ev B tb σ H (.str w)) : Ev B (tOp rEq ta tb) σ H (.bool false) := ev_op ha hb fun H1 _ v w r1 r2 Q q => by
  cases r1
  cases r2
  exact ⟨rfl, q _ H1 (Same.refl H1) (.bl _)⟩
def isNon : PyData → Bool
  | .none => true
  | _ => false
abbrev rIsN : R2 := fun x y H Q => y = .non ∧ Q (.bl (decide (x = .non))) H
abbrev rNotN : R2 := fun x y H Q => y = .non ∧ Q (.bl (!decide (x = .non))) H
theorem R.isNon {v : V} (r : R B H v d) : decide (v = .non) = isNon d := by cases r <;> rfl
theorem ev_isN (ha : Ev B ta σ H d) : Ev B (tOp rIsN ta (tC .non)) σ H (.bool (isNon d)) := ev_op ha ev_non fun H1 _ v w r1 r2 Q q => by
  cases r2
  exact ⟨rfl, by rw [r1.isNon]; exact q _ H1 (Same.refl H1) (.bl _)⟩
theorem ev_notN (ha : Ev B ta σ H d) : Ev B (tOp rNotN ta (tC .non)) σ H (.bool (!isNon d)) := ev_op ha ev_non fun H1 _ v w r1 r2 Q q => by
  cases r2
  exact ⟨rfl, by rw [r1.isNon]; exact q _ H1 (Same.refl H1) (.bl _)⟩
theorem ev_neg (ha : Ev B ta σ H (.int i)) : Ev B (tUn (rU fun i => .int (-i)) ta) σ H (.int (-i)) := fun H1 e Q q => ha H1 e _ fun v H2 e2 r2 => by
  cases r2
  exact ⟨i, rfl, q _ H2 e2 (.int _)⟩
/-! items -/
theorem atI_R {vs : List V} (r : RA B H vs ds) (h : atI ds i = some d) : ∃ v, atI vs i = some v ∧ R B H v d := by
  unfold atI at h ⊢
  rw [r.len]
  cases e : ixN ds.length i with
  | none =>
    rw [e] at h
    cases h
  | some k =>
    rw [e] at h
    exact r.get h
theorem ev_ixL (ha : Ev B ta σ H (.list ds)) (hb : Ev B tb σ H (.int i)) (h : atI ds i = some d) : Ev B (tOp (rIxL K) ta tb) σ H d := ev_op ha hb fun H1 _ v w r1 r2 Q q => by
  cases r2
  cases r1 with
  | lst ha na ra =>
    obtain ⟨u, h1, h2⟩ := atI_R ra h
    exact ⟨_, _, i, u, rfl, rfl, Or.inl (Or.inl ha), h1, q _ H1 (Same.refl H1) h2⟩
theorem ev_ixT (ha : Ev B ta σ H (.tuple ds)) (hb : Ev B tb σ H (.int i)) (h : atI ds i = some d) : Ev B (tOp (rIxT K) ta tb) σ H d := ev_op ha hb fun H1 _ v w r1 r2 Q q => by
  cases r2
  cases r1 with
  | tup ha na ra =>
    obtain ⟨u, h1, h2⟩ := atI_R ra h
    exact ⟨_, _, i, u, rfl, rfl, Or.inl (Or.inl ha), h1, q _ H1 (Same.refl H1) h2⟩
theorem ev_ixS {w : Str} {c : Nat} (ha : Ev B ta σ H (.str w)) (hb : Ev B tb σ H (.int i)) (hl : w.length ≤ sizeLine) (h : atI w.cps.toList i = some c) : Ev B (tOp rIxS ta tb) σ H (.str ⟨#[c]⟩) := ev_op ha hb fun H1 _ v w' r1 r2 Q q => by
  cases r2
  cases r1
  exact ⟨w, i, c, rfl, rfl, hl, h, q _ H1 (Same.refl H1) (.str _)⟩
/-! argument lists, displays -/
theorem ea_nil : EvA B tNil σ H [] := fun H1 _ _ q => q _ H1 (Same.refl H1) .nil
theorem ea_cons {tr : TA} (ha : Ev B te σ H d) (hr : EvA B tr σ H ds) : EvA B (tCons te tr) σ H (d :: ds) := fun H1 e Q q =>
  ha H1 e _ fun v H2 e2 r2 => hr H2 (e.trans e2) _ fun vs H3 e3 r3 => q _ H3 (e2.trans e3) (.cons (r2.same e3) r3)
theorem ev_tup {tr : TA} (ht : Trk B H) (hr : EvA B tr σ H ds) (hl : ds.length ≤ 1000) : Ev B (tTup tr) σ H (.tuple ds) := fun H1 e Q q =>
  hr H1 e _ fun vs H2 e2 r2 => ⟨by rw [r2.len]; exact Nat.le_of_lt (small1000 hl), fun p hp => q _ _ (e2.trans (same_new hp)) (.tup upd_same (Trk.out (ht.same (e.trans e2)) hp) (r2.same (same_new hp)))⟩
theorem ev_lst {tr : TA} (ht : Trk B H) (hr : EvA B tr σ H ds) (hl : ds.length ≤ 1000) : Ev B (tLst tr) σ H (.list ds) := fun H1 e Q q =>
  hr H1 e _ fun vs H2 e2 r2 => ⟨by rw [r2.len]; exact Nat.le_of_lt (small1000 hl), fun p hp => q _ _ (e2.trans (same_new hp)) (.lst upd_same (Trk.out (ht.same (e.trans e2)) hp) (r2.same (same_new hp)))⟩
theorem ev_cb {ta : TA} {r : List V → Hp → VK → Prop} (h : EvA B ta σ H ds) (hr : CallD B r ds z H) : Ev B (tCB r ta) σ H z := fun H1 e Q q =>
  h H1 e _ fun vs H2 e2 r2 => hr H2 (e.trans e2) vs r2 Q fun u H3 e3 r3 => q u H3 (e2.trans e3) r3
/-! tests -/
theorem et_test (h : Ev B te σ H (.bool b)) : EvT B (tTest te) σ H b := fun H1 e _ q => h H1 e _ fun v H2 e2 r => by
  cases r
  exact ⟨b, rfl, q H2 e2⟩
theorem et_B (h : Ev B te σ H (.bool b)) : EvT B (tB te) σ H b := fun H1 e _ q => h H1 e _ fun v H2 e2 r => by
  cases r
  exact ⟨b, rfl, q H2 e2⟩
theorem et_and (h1 : EvT B t σ H a) (h2 : a = true → EvT B u σ H b) : EvT B (tAnd t u) σ H (a && b) := fun H1 e Q q => h1 H1 e _ fun H2 e2 => by
  cases a with
  | true =>
    show u σ H2 Q
    exact h2 rfl H2 (e.trans e2) Q fun H3 e3 => q H3 (e2.trans e3)
  | false =>
    show Q false H2
    exact q H2 e2
theorem et_or (h1 : EvT B t σ H a) (h2 : a = false → EvT B u σ H b) : EvT B (tOr t u) σ H (a || b) := fun H1 e Q q => h1 H1 e _ fun H2 e2 => by
  cases a with
  | true =>
    show Q true H2
    exact q H2 e2
  | false =>
    show u σ H2 Q
    exact h2 rfl H2 (e.trans e2) Q fun H3 e3 => q H3 (e2.trans e3)
/-- what is behind isn't asked -/
theorem et_or1 (h1 : EvT B t σ H true) : EvT B (tOr t u) σ H true := fun H1 e Q q => h1 H1 e _ fun H2 e2 => q H2 e2
theorem et_and0 (h1 : EvT B t σ H false) : EvT B (tAnd t u) σ H false := fun H1 e Q q => h1 H1 e _ fun H2 e2 => q H2 e2
theorem et_or0 (h1 : EvT B t σ H false) (h2 : EvT B u σ H b) : EvT B (tOr t u) σ H b := fun H1 e Q q => h1 H1 e _ fun H2 e2 => h2 H2 (e.trans e2) Q fun H3 e3 => q H3 (e2.trans e3)
theorem et_and1 (h1 : EvT B t σ H true) (h2 : EvT B u σ H b) : EvT B (tAnd t u) σ H b := fun H1 e Q q => h1 H1 e _ fun H2 e2 => h2 H2 (e.trans e2) Q fun H3 e3 => q H3 (e2.trans e3)
theorem et_not (h1 : EvT B t σ H a) : EvT B (tNot t) σ H (!a) := fun H1 e _ q => h1 H1 e _ fun H2 e2 => q H2 e2
theorem ev_andV (h1 : Ev B ta σ H (.bool a)) (h2 : a = true → Ev B tb σ H (.bool b)) : Ev B (tAndV ta tb) σ H (.bool (a && b)) := fun H1 e Q q => h1 H1 e _ fun v H2 e2 r => by
  cases r
  refine ⟨a, rfl, ?_⟩
  cases a with
  | true =>
    show tb σ H2 Q
    exact h2 rfl H2 (e.trans e2) Q fun v H3 e3 r => q v H3 (e2.trans e3) r
  | false =>
    show Q (.bl false) H2
    exact q _ H2 e2 (.bl _)
theorem ev_notV (h1 : Ev B ta σ H (.bool a)) : Ev B (tNotV ta) σ H (.bool (!a)) := fun H1 e Q q => h1 H1 e _ fun v H2 e2 r => by
  cases r
  exact ⟨a, rfl, q _ H2 e2 (.bl _)⟩
/-! ### calls of defs -/
/-- a def that gives data of data and changes nothing -/
def SpD (dom : List PyData → PyData → Prop) : Sp := fun vs H Q _ => ∃ (B : List Addr) (ds : List PyData) (r : PyData), Trk B H ∧ RA B H vs ds ∧ dom ds r ∧ ∀ v H', Same H H' → R B H' v r → Q v H'
theorem ev_call {dom : List PyData → PyData → Prop} {ta : TA} {E : XK} (ht : Trk B H) (h : EvA B ta σ H ds) (hd : dom ds z) : Ev B (tCall (SpD dom) [] E ta) σ H z := fun H1 e Q q =>
  h H1 e _ fun vs H2 e2 r2 => ⟨B, ds, z, ht.same (e.trans e2), by rw [List.append_nil]; exact r2, hd, fun v H3 e3 r3 => q v H3 (e2.trans e3) r3⟩
/-! ### statements -/
variable {D : Ends} {tu tw : TS} {g : TG} {k : Nat}
theorem s_seq {t u : TS} (h : t { D with nx := u D } σ H) : tSeq t u D σ H := h
theorem s_set (E : Evn C H0 B σ H G) (h : Ev B te σ H d) (q : ∀ σ' H', Evn C H0 B σ' H' (G.set k (.dat d)) → D.nx σ' H') : tAsg te (gName k) D σ H :=
  h H (Same.refl H) _ fun v H1 e r => q _ _ ((E.same e).set r)
theorem s_ret (E : Evn C H0 B σ H G) (h : Ev B te σ H d) (q : ∀ v H', ExB C H0 H' → R B H' v d → D.rt v H') : tRet te D σ H :=
  h H (Same.refl H) _ fun v H1 e r => q _ _ (E.same e).ex r
theorem s_if (E : Evn C H0 B σ H G) (h : EvT B t σ H b) (h1 : b = true → ∀ H', Evn C H0 B σ H' G → tu D σ H') (h2 : b = false → ∀ H', Evn C H0 B σ H' G → tw D σ H') : tIfS t tu tw D σ H := h H (Same.refl H) _ fun H1 e => by
  cases b with
  | true =>
    show tu D σ H1
    exact h1 rfl H1 (E.same e)
  | false =>
    show tw D σ H1
    exact h2 rfl H1 (E.same e)
theorem s_ifT (E : Evn C H0 B σ H G) (h : EvT B t σ H true) (h1 : ∀ H', Evn C H0 B σ H' G → tu D σ H') : tIfS t tu tw D σ H := s_if E h (fun _ => h1) fun z => nomatch z
theorem s_ifF (E : Evn C H0 B σ H G) (h : EvT B t σ H false) (h1 : ∀ H', Evn C H0 B σ H' G → tw D σ H') : tIfS t tu tw D σ H := s_if E h (fun z => nomatch z) fun _ => h1
theorem s_nx (h : D.nx σ H) : tNext D σ H := h
end
end M
namespace M
open PySem PySem.Spec PyProof.Rows L2
/-! ### defs of the text -/
structure Fn (K : PySem.W.Frag) (mg : Str → Option Value) (x : Str) (st : Stmt) : Prop where
  ex : ∃ f fd, FunD K x x (defArgs st) (defBody st) (defScope st) [] [] f fd ∧ mg x = some (.ref f)
/-- a def that keeps a promise and can be called -/
structure Cal (P : Program) (w : World) (K : PySem.W.Frag) (mg : Str → Option Value) (base : Heap) (k : Nat) (x : Str) (ps : List Str) (sp : Sp) : Prop where
  ex : ∃ f fd, FnOk P w K mg base CX0 k f fd ps sp ∧ mg x = some (.ref f) ∧ PySem.W.keepIn K (.ref f) = true ∧ Binds K fd ps []
theorem pe_cal {X : Cx} {k j : Nat} {x : Str} {ps : List Str} {sp : Sp} {t : TA} {p pos : Pos} {e : Expr} {es : List Expr} (c : Cal X.prog X.w X.K X.mg X.base k x ps sp) (hr : Room j X.A) (hj : k ≤ j) (hg : Gl X x) (ha : PA X (e :: es) t)
    (hdb : (x == ("__debug__" : Str)) = false := by decide)
    (he : starEach (e :: es) X.env = (false, eval e X.env) :: starEach es X.env := by rfl)
    (hpl : (backTo pos (starEach es X.env)).any (·.1) = false := by rfl) :
    PE X (.Call (.Name x p) (e :: es) [] pos) (tCall sp [] E0 t) := by
  obtain ⟨f, fd, G, m, kp, b⟩ := c.ex
  exact pe_call G (hr.mono hj) hg m kp b .nil pass0 ha hdb he hpl
section
variable {P : Program} {w : World} {K : PySem.W.Frag} {mg : Str → Option Value} {base : Heap} {x : Str} {st : Stmt} {N ps : List Str} {k : Nat}
theorem cal_of {sp : Sp} (F : Fn K mg x st) (S : FnScope N ps (defScope st)) (len : ∀ vs H Q E, sp vs H Q E → vs.length = ps.length)
    (bind : ∀ (kV doc pm : Value) (an : Option Addr) (cdv ct : Value) (us : List Value), us.length = ps.length → bindArgs (PySem.W.fnOf x x (defArgs st) (defBody st) (defScope st) .none kV doc pm an cdv ct) ⟨us, []⟩ = pure (ps.zip us))
    (h : ∀ (f : Addr) (cdv : Value) (A : Around) (outer : List PySem.Env) (s : Shared) (H : Hp) (vs : List V) (Q : VK) (E : XK), Room k (A.deeper (envOfC x (defScope st) s.heap.objs.size f cdv)) → sp vs H Q E →
      ∃ t, PSs (cxOf CX0 P w K mg base N x (defScope st) f cdv A outer s H E).nox (defBody st) t ∧ t { nx := fun _ H' => Q .non H', rt := Q } (start N vs) H) :
    Cal P w K mg base (k + 1) x ps sp := by
  obtain ⟨f, fd, F, m⟩ := F.ex
  refine ⟨f, fd, F.ok S len (fun cdv A outer s H vs Q E hr hs => ?_), m, F.kp, F.bindsN bind⟩
  obtain ⟨t, a, b⟩ := h f cdv A outer s H vs Q E hr hs
  exact ⟨t, a.nox, b⟩
/-- a def by data: its derivation, its reading -/
theorem cal_D {dom : List PyData → PyData → Prop} (F : Fn K mg x st) (S : FnScope N ps (defScope st))
    (bind : ∀ (kV doc pm : Value) (an : Option Addr) (cdv ct : Value) (us : List Value), us.length = ps.length → bindArgs (PySem.W.fnOf x x (defArgs st) (defBody st) (defScope st) .none kV doc pm an cdv ct) ⟨us, []⟩ = pure (ps.zip us))
    (hlen : ∀ ds r, dom ds r → ds.length = ps.length) (hN : ps.length ≤ N.length)
    (h : ∃ t, (∀ (f : Addr) (cdv : Value) (A : Around) (outer : List PySem.Env) (s : Shared) (H : Hp) (E : XK), Room k (A.deeper (envOfC x (defScope st) s.heap.objs.size f cdv)) → PSs (cxOf CX0 P w K mg base N x (defScope st) f cdv A outer s H E).nox (defBody st) t) ∧
      ∀ ds r, dom ds r → ∀ (B : List Addr) (H : Hp) (σ : L2.St) (D : Ends), Evn [] H B σ H (ds.map Sl.dat ++ List.replicate (N.length - ds.length) Sl.no) → (∀ v H', ExB [] H H' → R B H' v r → D.rt v H') → t D σ H) :
    Cal P w K mg base (k + 1) x ps (SpD dom) := by
  obtain ⟨t, h1, h2⟩ := h
  refine cal_of F S (fun vs H Q E ⟨B, ds, r, a, b, c, d⟩ => by rw [b.len, hlen _ _ c]) bind fun f cdv A outer s H vs Q E hr ⟨B, ds, r, a, b, c, d⟩ => ⟨t, h1 f cdv A outer s H E hr, ?_⟩
  exact h2 ds r c B H _ _ (Evn.start a b (by rw [hlen _ _ c]; exact hN)) fun v H' e q => d v H' (fun b o h => e b o (by simp) h) q
end
end M
namespace M
open PySem PySem.Spec PyProof.Rows L2
section
variable {K : PySem.W.Frag} {C B : List Addr} {σ : L2.St} {H H0 H' : Hp} {G : List Sl} {ta tb te tx tl : TE} {t : TT} {x y z d e : PyData} {i j : Int} {a b : Bool} {ds es : List PyData} {D : Ends} {tu tw : TS} {k : Nat} {v : V} {vs : List V}
theorem s_par {tA : TA} {k1 k2 : Nat} (E : Evn C H0 B σ H G) (h : EvA B tA σ H [x, y]) (q : ∀ σ' H', Evn C H0 B σ' H' ((G.set k1 (.dat x)).set k2 (.dat y)) → D.nx σ' H') : tPar k1 k2 tA D σ H :=
  h H (Same.refl H) _ fun vs H1 e r => by
    cases r with
    | cons r1 r =>
      cases r with
      | cons r2 r =>
        cases r
        exact ⟨_, _, rfl, q _ _ (((E.same e).set r1).set r2)⟩
/-! targets -/
theorem g_name {i : Nat} {Q : L2.St → Hp → Prop} (E : Evn C H0 B σ H G) (r : R B H v d) (q : ∀ σ', Evn C H0 B σ' H (G.set i (.dat d)) → Q σ' H) : gName i v σ H Q := q _ (E.set r)
theorem g_tup {n : Nat} {t : TGs} {Q : L2.St → Hp → Prop} (r : R B H v (.tuple ds)) (hn : ds.length = n) (q : ∀ vs, RA B H vs ds → t vs σ H Q) : gTup K n t v σ H Q := by
  cases r with
  | tup h na ra => exact ⟨_, _, rfl, Or.inl (Or.inl h), by rw [ra.len]; exact hn, q _ ra⟩
theorem gs_nil {Q : L2.St → Hp → Prop} (r : RA B H vs []) (q : Q σ H) : gNil vs σ H Q := by
  cases r
  exact ⟨rfl, q⟩
theorem gs_cons {i : Nat} {u : TGs} {Q : L2.St → Hp → Prop} (E : Evn C H0 B σ H G) (r : RA B H vs (d :: ds)) (q : ∀ σ' vs', Evn C H0 B σ' H (G.set i (.dat d)) → RA B H vs' ds → u vs' σ' H Q) : gCons (gName i) u vs σ H Q := by
  cases r with
  | cons r1 r => exact ⟨_, _, rfl, q _ _ (E.set r1) r⟩
/-- a, b, .. = e -/
theorem s_unp {g : TG} (E : Evn C H0 B σ H G) (h : Ev B te σ H d) (q : ∀ v H', Evn C H0 B σ H' G → R B H' v d → g v σ H' D.nx) : tAsg te g D σ H := h H (Same.refl H) _ fun v H1 e r => q v H1 (E.same e) r
/-! loops -/
theorem s_while (B : List Addr) (W : Nat → L2.St → Hp → Prop) (m0 : Nat) (h0 : W m0 σ H)
    (hs : ∀ m σ' H', W m σ' H' → ∃ b, EvT B t σ' H' b ∧ (b = true → ∀ H1, Same H' H1 → ∃ N : L2.St → Hp → Prop, (∀ σ2 H2, N σ2 H2 → ∃ m', m' < m ∧ W m' σ2 H2) ∧ tu { D with nx := N, ct := N, bk := D.nx } σ' H1) ∧ (b = false → ∀ H1, Same H' H1 → D.nx σ' H1)) : tWhile t tu D σ H :=
  ⟨W, ⟨m0, h0⟩, fun m σ' H' hw => by
    obtain ⟨b, hb, h1, h2⟩ := hs m σ' H' hw
    refine hb H' (Same.refl H') _ fun H1 e => ?_
    cases b with
    | true => exact h1 rfl H1 e
    | false => exact h2 rfl H1 e⟩
theorem s_forR (B : List Addr) {tA : TA} {k : Nat} {n : Int} (h : EvA B tA σ H [.int n]) (hn : n ≤ 100000 ∧ -100000 ≤ n) (Pv : Nat → L2.St → Hp → Prop) (h0 : ∀ H1, Same H H1 → Pv 0 σ H1)
    (hs : ∀ (i : Nat) σ' H', (i : Int) < n → Pv i σ' H' → tu { D with nx := Pv (i + 1), ct := Pv (i + 1), bk := D.nx } (σ'.set k (some (.int (i : Int)))) H') (hd : ∀ σ' H', Pv n.toNat σ' H' → D.nx σ' H') : tFor (iRng1 tA) (gName k) tu D σ H :=
  h H (Same.refl H) _ fun vs H1 e r => by
    cases r with
    | cons r1 r =>
      cases r
      cases r1
      exact ⟨n, rfl, by omega, by omega, for_range (lo := 0) (n := n.toNat) Pv (h0 H1 e) (fun i σ' H' hi p => by
        have e0 : (0 : Int) + (i : Int) = (i : Int) := Int.zero_add _
        show tu { D with nx := Pv (i + 1), ct := Pv (i + 1), bk := D.nx } (σ'.set k (some (.int ((0 : Int) + (i : Int))))) H'
        rw [e0]
        exact hs i σ' H' (by omega) p) hd⟩
/-- over a list of data that the body leaves as it is; H1: the heap as the loop begins -/
theorem s_forL {g : TG} (h : Ev B tl σ H (.list ds)) (Pv : Hp → Nat → L2.St → Hp → Prop) (h0 : ∀ H1, Same H H1 → Pv H1 0 σ H1) (hk : ∀ H1 i σ' H', Same H H1 → Pv H1 i σ' H' → ExB B H1 H')
    (hs : ∀ H1 i x d σ' H', Same H H1 → ds[i]? = some d → R B H' x d → Pv H1 i σ' H' → g x σ' H' fun σ2 H2 => tu { D with nx := Pv H1 (i + 1), ct := Pv H1 (i + 1), bk := D.nx } σ2 H2) (hd : ∀ H1 σ' H', Same H H1 → Pv H1 ds.length σ' H' → D.nx σ' H') : tFor (iList K tl) g tu D σ H :=
  h H (Same.refl H) _ fun v H1 e r => by
    cases r with
    | @lst a xs _ ha na ra =>
      have keep : ∀ {i : Nat} {σ' : L2.St} {H' : Hp}, Pv H1 i σ' H' → H' a = some (.lst xs) := fun {i σ' H'} p => hk H1 i σ' H' e p a _ na ha
      refine ⟨a, rfl, ⟨xs, Or.inl (Or.inl ha)⟩, for_list (xs := xs) (Pv H1) (h0 H1 e) (fun i σ' H' _ p => Or.inl (Or.inl (keep p))) (fun i x σ' H' hx p => ?_) (fun σ' H' p => hd H1 σ' H' e (by rw [← ra.len]; exact p))⟩
      obtain ⟨d, h1, h2⟩ := ra.getV hx
      exact hs H1 i x d σ' H' e h1 (h2.exB (hk H1 i σ' H' e p)) p
/-- a new list that the def keeps to itself -/
theorem s_new {k : Nat} (E : Evn C H0 B σ H G) (q : ∀ l σ' H', H0 l = none → l ∉ C → Evn C H0 (l :: B) σ' H' (G.set k (.mu l [])) → D.nx σ' H') (hC : ∀ l ∈ C, l ∈ B) : tAsg (tLst tNil) (gName k) D σ H :=
  ⟨Nat.zero_le _, fun p hp => by
    have hB := Trk.out E.trk hp
    have h0 : H0 p = none := by
      cases h : H0 p with
      | none => rfl
      | some o =>
        have := E.ex p o (fun z => hB (hC p z)) h
        rw [hp] at this
        cases this
    refine q p _ _ h0 (fun z => hB (hC p z)) ⟨E.ex.trans (ExB.of (same_new hp)), fun l hl => ?_, by rw [List.length_set, List.length_set, E.len], fun j s h => ?_⟩
    · rcases List.mem_cons.mp hl with z | z
      · rw [z, upd_same]
        exact fun z => nomatch z
      · exact (E.trk.same (same_new hp)) l z
    · by_cases hj : k = j
      · subst hj
        by_cases hi : k < G.length
        · rw [List.getElem?_set_self hi] at h
          cases h
          exact ⟨List.getElem?_set_self (by rw [E.len]; exact hi), List.mem_cons_self .., [], upd_same, .nil⟩
        · rw [List.getElem?_eq_none (by rw [List.length_set]; omega)] at h
          cases h
      · rw [List.getElem?_set_ne hj] at h ⊢
        have := (E.at_ j s h).same (same_new (o := .lst []) hp)
        cases s with
        | no => trivial
        | dat d =>
          obtain ⟨v, h1, h2⟩ := E.at_ j _ h
          exact ⟨v, h1, (h2.grow hp).same (same_new hp)⟩
        | mu l ds =>
          obtain ⟨h1, h2, vs, h3, h4⟩ := E.at_ j _ h
          exact ⟨h1, List.mem_cons_of_mem _ h2, vs, same_new hp _ _ h3, (h4.grow hp).same (same_new hp)⟩
        | ptr l => exact E.at_ j _ h⟩
/-- xs.append(e) of such a list -/
theorem s_app {k : Nat} {l : Addr} (E : Evn C H0 B σ H G) (hk : G[k]? = some (.mu l ds)) (h0 : H0 l = none ∨ l ∈ C) (hu : ∀ j l' es, j ≠ k → G[j]? = some (.mu l' es) → l' ≠ l) (h : Ev B te σ H d) (hz : ds.length ≤ 1000)
    (q : ∀ H', Evn C H0 B σ H' (G.set k (.mu l (ds ++ [d]))) → D.nx σ H') : tDrop (tBM K "list" rAppend (tVar k) (tCons te tNil)) D σ H := by
  obtain ⟨h1, h2, vs, h3, h4⟩ := E.at_ k _ hk
  refine ⟨_, h1, Or.inl ⟨rfl, vs, Or.inl (Or.inl h3)⟩, h H (Same.refl H) _ fun v H2 e r => ⟨l, vs, v, rfl, rfl, e l _ h3, by rw [h4.len]; exact small1000 hz, q _ ?_⟩⟩
  have E2 := E.same e
  have ex : ExB B H2 (upd H2 l (.lst (vs ++ [v]))) := fun a o na ha => by
    rw [upd_ne (fun z => na (by rw [z]; exact h2))]
    exact ha
  refine ⟨fun a o na ha => ?_, E2.trk.upd, by rw [List.length_set, E.len], fun j s hs => ?_⟩
  · have hne : a ≠ l := fun z => by
      rcases h0 with h0 | h0
      · rw [z, h0] at ha
        cases ha
      · exact na (z ▸ h0)
    rw [upd_ne hne]
    exact E2.ex a o na ha
  · by_cases hj : k = j
    · subst hj
      have hi : k < G.length := (List.getElem?_eq_some_iff.mp hk).1
      rw [List.getElem?_set_self hi] at hs
      cases hs
      exact ⟨h1, h2, _, upd_same, ((h4.same e).app (.cons r .nil)).exB ex⟩
    · rw [List.getElem?_set_ne hj] at hs
      cases s with
      | no => trivial
      | dat d =>
        obtain ⟨u, a1, a2⟩ := E2.at_ j _ hs
        exact ⟨u, a1, a2.exB ex⟩
      | mu l' es =>
        obtain ⟨a1, a2, us, a3, a4⟩ := E2.at_ j _ hs
        have hne : l' ≠ l := hu j l' es (fun z => hj z.symm) hs
        exact ⟨a1, a2, us, by rw [upd_ne hne]; exact a3, a4.exB ex⟩
      | ptr l' => exact E2.at_ j _ hs
/-- the list is told as data from now on -/
theorem Evn.freeze {k : Nat} {l : Addr} {B' : List Addr} (E : Evn C H0 (l :: B') σ H G) (hk : G[k]? = some (.mu l ds)) (hl : l ∉ B') (G' : List Sl) (hlen : G'.length = G.length)
    (hG : ∀ (j : Nat) (s : Sl), G'[j]? = some s → (j = k ∧ s = .dat (.list ds)) ∨ s = .no ∨ (∃ d, s = .dat d ∧ G[j]? = some s) ∨ (∃ l' es, s = .mu l' es ∧ l' ∈ B' ∧ G[j]? = some s)) : Evn C H0 B' σ H G' := by
  have sub : ∀ a ∈ B', a ∈ l :: B' := fun a h => List.mem_cons_of_mem _ h
  refine ⟨E.ex, fun a ha => E.trk a (sub a ha), by rw [hlen, E.len], fun j s hs => ?_⟩
  rcases hG j s hs with ⟨rfl, rfl⟩ | rfl | ⟨d, rfl, h⟩ | ⟨l', es, rfl, hl', h⟩
  · obtain ⟨h1, h2, vs, h3, h4⟩ := E.at_ j _ hk
    exact ⟨_, h1, .lst h3 hl (h4.sub sub)⟩
  · trivial
  · obtain ⟨v, h1, h2⟩ := E.at_ j _ h
    exact ⟨v, h1, h2.sub sub⟩
  · obtain ⟨h1, h2, vs, h3, h4⟩ := E.at_ j _ h
    exact ⟨h1, hl', vs, h3, h4.sub sub⟩
/-- return of such a list -/
theorem s_retM {k : Nat} {l : Addr} {B' : List Addr} (E : Evn C H0 (l :: B') σ H G) (hk : G[k]? = some (.mu l ds)) (hl : l ∉ B') (q : ∀ v H', ExB C H0 H' → R B' H' v (.list ds) → D.rt v H') : tRet (tVar k) D σ H := by
  obtain ⟨h1, h2, vs, h3, h4⟩ := E.at_ k _ hk
  exact ⟨_, h1, q _ _ E.ex (.lst h3 hl (h4.sub fun a h => List.mem_cons_of_mem _ h))⟩
/-! built-ins -/
theorem ev_abs (h : Ev B te σ H (.int i)) : Ev B (tCB (fun xs H Q => ∃ i, xs = [.int i] ∧ Q (.int (if i < 0 then -i else i)) H) (tCons te tNil)) σ H (.int (if i < 0 then -i else i)) := ev_cb (ea_cons h ea_nil) fun H1 _ vs r Q q => by
  cases r with
  | cons r1 r =>
    cases r
    cases r1
    exact ⟨i, rfl, q _ H1 (Same.refl H1) (.int _)⟩
theorem ev_max (h : Ev B ta σ H (.int i)) (h' : Ev B tb σ H (.int j)) : Ev B (tCB (fun xs H Q => ∃ i j, xs = [.int i, .int j] ∧ Q (.int (if j > i then j else i)) H) (tCons ta (tCons tb tNil))) σ H (.int (if j > i then j else i)) := ev_cb (ea_cons h (ea_cons h' ea_nil)) fun H1 _ vs r Q q => by
  cases r with
  | cons r1 r =>
    cases r with
    | cons r2 r =>
      cases r
      cases r1
      cases r2
      exact ⟨i, j, rfl, q _ H1 (Same.refl H1) (.int _)⟩
theorem ev_min (h : Ev B ta σ H (.int i)) (h' : Ev B tb σ H (.int j)) : Ev B (tCB (fun xs H Q => ∃ i j, xs = [.int i, .int j] ∧ Q (.int (if j < i then j else i)) H) (tCons ta (tCons tb tNil))) σ H (.int (if j < i then j else i)) := ev_cb (ea_cons h (ea_cons h' ea_nil)) fun H1 _ vs r Q q => by
  cases r with
  | cons r1 r =>
    cases r with
    | cons r2 r =>
      cases r
      cases r1
      cases r2
      exact ⟨i, j, rfl, q _ H1 (Same.refl H1) (.int _)⟩
theorem ev_intB (h : Ev B te σ H (.bool b)) : Ev B (tCB (fun xs H Q => (∃ i, xs = [.int i] ∧ Q (.int i) H) ∨ ∃ k, xs = [.bl k] ∧ Q (.int (if k then 1 else 0)) H) (tCons te tNil)) σ H (.int (if b then 1 else 0)) := ev_cb (ea_cons h ea_nil) fun H1 _ vs r Q q => by
  cases r with
  | cons r1 r =>
    cases r
    cases r1
    exact .inr ⟨b, rfl, q _ H1 (Same.refl H1) (.int _)⟩
end
theorem bt_abs : bootBuiltins "abs" = some (.builtin "abs") := by decide +kernel
theorem bt_len : bootBuiltins "len" = some (.builtin "len") := by decide +kernel
theorem bt_max : bootBuiltins "max" = some (.builtin "max") := by decide +kernel
theorem bt_min : bootBuiltins "min" = some (.builtin "min") := by decide +kernel
theorem bt_int : bootBuiltins "int" = some (.type "int") := by decide +kernel
theorem bt_str : bootBuiltins "str" = some (.type "str") := by decide +kernel
theorem bt_bool : bootBuiltins "bool" = some (.type "bool") := by decide +kernel
theorem bt_tuple : bootBuiltins "tuple" = some (.type "tuple") := by decide +kernel
theorem bt_list : bootBuiltins "list" = some (.type "list") := by decide +kernel
theorem bt_isinstance : bootBuiltins "isinstance" = some (.builtin "isinstance") := by decide +kernel
theorem bt_all : bootBuiltins "all" = some (.builtin "all") := by decide +kernel
theorem bt_sorted : bootBuiltins "sorted" = some (.builtin "sorted") := by decide +kernel
end M
namespace M
open PySem PySem.Spec PyProof.Rows L2
/-! ### the rules, K told -/
section
variable {X : Cx} {K : PySem.W.Frag}
theorem kx_list (h : X.K = K) : IxR X (rIxL K) := h ▸ ix_list
theorem kx_tup (h : X.K = K) : IxR X (rIxT K) := h ▸ ix_tup
theorem ksl_list (h : X.K = K) : SlR X (rSlL K) := h ▸ sl_list
theorem ksl_tup (h : X.K = K) : SlR X (rSlT K) := h ▸ sl_tup
theorem kop_catT (h : X.K = K) : OpR X (binaryOp .Add) (rCatT K) := h ▸ op_catT
theorem kop_in (h : X.K = K) : OpR X (compareOp .In) (rIn K false) := h ▸ op_in_seq
theorem kop_notIn (h : X.K = K) : OpR X (compareOp .NotIn) (rIn K true) := h ▸ op_notIn_seq
theorem kop_eqD (h : X.K = K) (hu : X.A.units + 64 < cLine) : OpR X (compareOp .Eq) (rEqD K) := h ▸ op_eqD hu
theorem kop_neD (h : X.K = K) (hu : X.A.units + 64 < cLine) : OpR X (compareOp .NotEq) (rNeD K) := h ▸ op_neD hu
theorem kop_ltT (h : X.K = K) (hu : X.A.units < cLine) : OpR X (compareOp .Lt) (rLtT K) := h ▸ op_ltT hu
def rLen (K : PySem.W.Frag) : List V → Hp → VK → Prop := fun xs H Q => ∃ p ys, xs = [.ref p] ∧ (SqL K H p ys ∨ SqT K H p ys) ∧ Q (.int ys.length) H
def rListOf (K : PySem.W.Frag) : List V → Hp → VK → Prop := fun xs H Q => ∃ p ys, xs = [.ref p] ∧ (SqL K H p ys ∨ SqT K H p ys) ∧ ∀ l, H l = none → Q (.ref l) (upd H l (.lst ys))
theorem kcall_len (h : X.K = K) : CallR X (.builtin "len") (rLen K) := by subst h; exact call_len_seq
theorem kcall_list (h : X.K = K) : CallR X (.type "list") (rListOf K) := by subst h; exact call_list_of
theorem kcall_isi (h : X.K = K) : CallR X (.builtin "isinstance") (rIsi K) := h ▸ call_isi
theorem kcr_all (h : X.K = K) (hc : X.calm = true) : CallR X (.builtin "all") (rAll K) := h ▸ cr_all hc
theorem kcr_sortedI (h : X.K = K) : CallR X (.builtin "sorted") (rSortedI K) := h ▸ cr_sortedI
theorem kmt_index (h : X.K = K) : MtR X "list.index" (rIndex K) := h ▸ mt_index
theorem kpi_list {tg l : Expr} {tl : TE} (h : X.K = K) (hl : PE X l tl) : PI X tg l (iList K tl) := h ▸ pi_list hl
theorem kpg_tup {es : List Expr} {k : Nat} {pos : Pos} {t : TGs} {n : Nat} (h0 : X.K = K) (hc : X.calm = true) (h : PGs X es t)
    (hn : (assignEach es X.env).length = n := by rfl) (hst : (assignEach es X.env).findIdx? (·.1) = none := by rfl) : PG X (.Tuple es k pos) (gTup K n t) := h0 ▸ pg_tup hc h hn hst
theorem kpe_bm {o e : Expr} {es : List Expr} {to : TE} {t : TA} {name : Str} {apos cpos : Pos} {T id : String} {r : V → List V → Hp → VK → Prop} (h0 : X.K = K) (pa : PlainAttrs T) (slot : Slot T name id) (hty : typeOf (.builtin id) = pure (.type "method_descriptor")) (hm : MtR X id r) (ho : PE X o to) (ha : PA X (e :: es) t)
    (q1 : attributeBase o name X.env (eval o X.env) = eval o X.env := by rfl)
    (q2 : ((backTo cpos (starEach (e :: es) X.env)).all (fun x => !x.1) && (backToKw cpos (keywordEach [] X.env)).all (fun x => x.1.isSome) &&
      decide ((e :: es).length + ([] : List Keyword).length + (if ([] : List Keyword).isEmpty then 0 else 1) < 30)) = true := by rfl)
    (q3 : (apos.endLine == cpos.line) = true := by rfl)
    (q4 : starEach (e :: es) X.env = (false, eval e X.env) :: starEach es X.env := by rfl)
    (q5 : (backTo cpos (starEach es X.env)).any (·.1) = false := by rfl) :
    PE X (.Call (.Attribute o name apos) (e :: es) [] cpos) (tBM K T r to t) := by
  subst h0
  exact pe_bm pa slot hty hm ho ha q1 q2 q3 q4 q5
end
end M
namespace M
open PySem PySem.Spec PyProof.Rows L2
/-! ### a statement, then the rest -/
section
variable {K : PySem.W.Frag} {C B : List Addr} {σ : L2.St} {H H0 H' : Hp} {G : List Sl} {ta tb te tx tl : TE} {t : TT} {x y z d e : PyData} {i j : Int} {a b : Bool} {ds es : List PyData} {D : Ends} {tu tw u : TS} {k : Nat} {v : V} {vs : List V}
theorem ss_set (E : Evn C H0 B σ H G) (h : Ev B te σ H d) (q : ∀ σ' H', Evn C H0 B σ' H' (G.set k (.dat d)) → u D σ' H') : tSeq (tAsg te (gName k)) u D σ H := s_set E h q
theorem ss_par {tA : TA} {k1 k2 : Nat} (E : Evn C H0 B σ H G) (h : EvA B tA σ H [x, y]) (q : ∀ σ' H', Evn C H0 B σ' H' ((G.set k1 (.dat x)).set k2 (.dat y)) → u D σ' H') : tSeq (tPar k1 k2 tA) u D σ H := s_par E h q
theorem ss_if (E : Evn C H0 B σ H G) (h : EvT B t σ H b) (h1 : b = true → ∀ H', Evn C H0 B σ H' G → tu { D with nx := u D } σ H') (h2 : b = false → ∀ H', Evn C H0 B σ H' G → tw { D with nx := u D } σ H') : tSeq (tIfS t tu tw) u D σ H := s_if E h h1 h2
theorem ss_ifR (E : Evn C H0 B σ H G) (h : EvT B t σ H b) (h1 : b = true → ∀ H', Evn C H0 B σ H' G → tu { D with nx := u D } σ H') (h2 : b = false → ∀ H', Evn C H0 B σ H' G → u D σ H') : tSeq (tIfS t tu tNext) u D σ H := s_if E h h1 h2
theorem ss_ifT (E : Evn C H0 B σ H G) (h : EvT B t σ H true) (h1 : ∀ H', Evn C H0 B σ H' G → tu { D with nx := u D } σ H') : tSeq (tIfS t tu tw) u D σ H := s_ifT E h h1
theorem ss_ifF (E : Evn C H0 B σ H G) (h : EvT B t σ H false) (h1 : ∀ H', Evn C H0 B σ H' G → u D σ H') : tSeq (tIfS t tu tNext) u D σ H := s_ifF E h h1
theorem ss_ifE (E : Evn C H0 B σ H G) (h : EvT B t σ H false) (h1 : ∀ H', Evn C H0 B σ H' G → tw { D with nx := u D } σ H') : tSeq (tIfS t tu tw) u D σ H := s_ifF E h h1
theorem ss_unp {g : TG} (E : Evn C H0 B σ H G) (h : Ev B te σ H d) (q : ∀ v H', Evn C H0 B σ H' G → R B H' v d → g v σ H' (u D)) : tSeq (tAsg te g) u D σ H := s_unp E h q
theorem ss_while (B : List Addr) (W : Nat → L2.St → Hp → Prop) (m0 : Nat) (h0 : W m0 σ H)
    (hs : ∀ m σ' H', W m σ' H' → ∃ b, EvT B t σ' H' b ∧ (b = true → ∀ H1, Same H' H1 → ∃ N : L2.St → Hp → Prop, (∀ σ2 H2, N σ2 H2 → ∃ m', m' < m ∧ W m' σ2 H2) ∧ tu { D with nx := N, ct := N, bk := u D } σ' H1) ∧ (b = false → ∀ H1, Same H' H1 → u D σ' H1)) : tSeq (tWhile t tu) u D σ H := s_while B W m0 h0 hs
theorem ss_forR (B : List Addr) {tA : TA} {k : Nat} {n : Int} (h : EvA B tA σ H [.int n]) (hn : n ≤ 100000 ∧ -100000 ≤ n) (Pv : Nat → L2.St → Hp → Prop) (h0 : ∀ H1, Same H H1 → Pv 0 σ H1)
    (hs : ∀ (i : Nat) σ' H', (i : Int) < n → Pv i σ' H' → tu { D with nx := Pv (i + 1), ct := Pv (i + 1), bk := u D } (σ'.set k (some (.int (i : Int)))) H') (hd : ∀ σ' H', Pv n.toNat σ' H' → u D σ' H') : tSeq (tFor (iRng1 tA) (gName k) tu) u D σ H := s_forR B h hn Pv h0 hs hd
theorem ss_forL {g : TG} (h : Ev B tl σ H (.list ds)) (Pv : Hp → Nat → L2.St → Hp → Prop) (h0 : ∀ H1, Same H H1 → Pv H1 0 σ H1) (hk : ∀ H1 i σ' H', Same H H1 → Pv H1 i σ' H' → ExB B H1 H')
    (hs : ∀ H1 i x d σ' H', Same H H1 → ds[i]? = some d → R B H' x d → Pv H1 i σ' H' → g x σ' H' fun σ2 H2 => tu { D with nx := Pv H1 (i + 1), ct := Pv H1 (i + 1), bk := u D } σ2 H2) (hd : ∀ H1 σ' H', Same H H1 → Pv H1 ds.length σ' H' → u D σ' H') : tSeq (tFor (iList K tl) g tu) u D σ H := s_forL h Pv h0 hk hs hd
/-- within a loop the heap at its begin is the base -/
theorem Evn.base (E : Evn C H0 B σ H G) (e : Same H H') (C' : List Addr) : Evn C' H' B σ H' G := ⟨ExB.refl _ _, E.trk.same e, E.len, (E.same e).at_⟩
theorem Evn.back {C' : List Addr} {Hb : Hp} {σ' : L2.St} {G' : List Sl} (E0 : Evn C H0 B σ H G) (e : Same H Hb) (E : Evn C' Hb B σ' H' G') (hC : ∀ l ∈ C', l ∈ C ∨ H0 l = none) : Evn C H0 B σ' H' G' := by
  refine ⟨fun a o na ha => E.ex a o (fun z => ?_) (e a o (E0.ex a o na ha)), E.trk, E.len, E.at_⟩
  rcases hC a z with h | h
  · exact na h
  · rw [h] at ha
    cases ha
theorem ss_new {k : Nat} (E : Evn C H0 B σ H G) (q : ∀ l σ' H', H0 l = none → l ∉ C → l ∉ B → Evn C H0 (l :: B) σ' H' (G.set k (.mu l [])) → u D σ' H') (hC : ∀ l ∈ C, l ∈ B) : tSeq (tAsg (tLst tNil) (gName k)) u D σ H := by
  refine s_seq ⟨Nat.zero_le _, fun p hp => ?_⟩
  have hB := Trk.out E.trk hp
  have h0 : H0 p = none := by
    cases h : H0 p with
    | none => rfl
    | some o =>
      have := E.ex p o (fun z => hB (hC p z)) h
      rw [hp] at this
      cases this
  refine q p _ _ h0 (fun z => hB (hC p z)) hB ⟨E.ex.trans (ExB.of (same_new hp)), fun l hl => ?_, by rw [List.length_set, List.length_set, E.len], fun j s h => ?_⟩
  · rcases List.mem_cons.mp hl with z | z
    · rw [z, upd_same]
      exact fun z => nomatch z
    · exact (E.trk.same (same_new hp)) l z
  · by_cases hj : k = j
    · subst hj
      by_cases hi : k < G.length
      · rw [List.getElem?_set_self hi] at h
        cases h
        exact ⟨List.getElem?_set_self (by rw [E.len]; exact hi), List.mem_cons_self .., [], upd_same, .nil⟩
      · rw [List.getElem?_eq_none (by rw [List.length_set]; omega)] at h
        cases h
    · rw [List.getElem?_set_ne hj] at h ⊢
      cases s with
      | no => trivial
      | dat d =>
        obtain ⟨v, h1, h2⟩ := E.at_ j _ h
        exact ⟨v, h1, (h2.grow hp).same (same_new hp)⟩
      | mu l ds =>
        obtain ⟨h1, h2, vs, h3, h4⟩ := E.at_ j _ h
        exact ⟨h1, List.mem_cons_of_mem _ h2, vs, same_new hp _ _ h3, (h4.grow hp).same (same_new hp)⟩
      | ptr l => exact E.at_ j _ h
theorem ss_app {k : Nat} {l : Addr} (E : Evn C H0 B σ H G) (hk : G[k]? = some (.mu l ds)) (h0 : H0 l = none ∨ l ∈ C) (hu : ∀ j l' es, j ≠ k → G[j]? = some (.mu l' es) → l' ≠ l) (h : Ev B te σ H d) (hz : ds.length ≤ 1000)
    (q : ∀ H', Evn C H0 B σ H' (G.set k (.mu l (ds ++ [d]))) → u D σ H') : tSeq (tDrop (tBM K "list" rAppend (tVar k) (tCons te tNil))) u D σ H := s_app E hk h0 hu h hz q
theorem ev_lenL (h : Ev B te σ H (.list ds)) : Ev B (tCB (rLen K) (tCons te tNil)) σ H (.int ds.length) := ev_cb (ea_cons h ea_nil) fun H1 _ vs r Q q => by
  cases r with
  | cons r1 r =>
    cases r
    cases r1 with
    | lst ha na ra => exact ⟨_, _, rfl, .inl (Or.inl (Or.inl ha)), by rw [ra.len]; exact q _ H1 (Same.refl H1) (.int _)⟩
theorem ev_lenT (h : Ev B te σ H (.tuple ds)) : Ev B (tCB (rLen K) (tCons te tNil)) σ H (.int ds.length) := ev_cb (ea_cons h ea_nil) fun H1 _ vs r Q q => by
  cases r with
  | cons r1 r =>
    cases r
    cases r1 with
    | tup ha na ra => exact ⟨_, _, rfl, .inr (Or.inl (Or.inl ha)), by rw [ra.len]; exact q _ H1 (Same.refl H1) (.int _)⟩
end
end M
namespace M
open PySem PySem.Spec PyProof.Rows L2
/-! ### isinstance, items by a number, slices -/
def tyN : PyData → String
  | .none => "NoneType"
  | .bool _ => "bool"
  | .int _ => "int"
  | .str _ => "str"
  | .list _ => "list"
  | .tuple _ => "tuple"
  | .dict _ => "dict"
section
variable {K : PySem.W.Frag} {C B : List Addr} {σ : L2.St} {H H0 H' : Hp} {G : List Sl} {ta tb te tx tl : TE} {t : TT} {x y z d e : PyData} {i j : Int} {a b : Bool} {ds es : List PyData} {D : Ends} {tu tw u : TS} {k : Nat} {v : V} {vs : List V}
theorem R.ty (r : R B H v d) : TyX K H v (.type (tyN d)) := by
  cases r with
  | non => exact .base .non
  | bl b => exact .base (.bl b)
  | int i => exact .base (.int i)
  | str x => exact .base (.str x)
  | lst h _ _ => exact .base (.lst h)
  | tup h _ _ => exact .base (.tup h)
  | dct h _ _ => exact .base (.dK h)
theorem ev_isi {c : String} (h : Ev B te σ H d) (hk : kitB (tyN d) c = some b) : Ev B (tCB (rIsi K) (tCons te (tCons (tC (.ty c)) tNil))) σ H (.bool b) := fun H1 e Q q =>
  h H1 e _ fun v H2 e2 r => ⟨v, .ty c, _, _, b, rfl, .ty c, R.ty r, kit_ty hk, q _ H2 e2 (.bl b)⟩
theorem kb_ss : kitB "str" "str" = some true := by decide +kernel
theorem kb_ts : kitB "tuple" "str" = some false := by decide +kernel
theorem kb_tt : kitB "tuple" "tuple" = some true := by decide +kernel
theorem kb_ll : kitB "list" "list" = some true := by decide +kernel
theorem kb_ii : kitB "int" "int" = some true := by decide +kernel
theorem kb_ib : kitB "int" "bool" = some false := by decide +kernel
theorem atI_pick {α : Type} {xs : List α} {i : Int} {x : α} (h0 : 0 ≤ i) (h : xs[i.toNat]? = some x) : atI xs i = some x := by
  have := atI_nat h
  rwa [Int.toNat_of_nonneg h0] at this
theorem ev_pick {xs : List Int} (ha : Ev B ta σ H (.list (xs.map .int))) (hb : Ev B tb σ H (.int i)) (h0 : 0 ≤ i) (h1 : i < xs.length) : Ev B (tOp (rIxL K) ta tb) σ H (.int (xs.getD i.toNat 0)) :=
  ev_ixL ha hb (atI_pick h0 (by
    have : i.toNat < xs.length := by omega
    rw [List.getElem?_map, List.getElem?_eq_getElem this, List.getD_eq_getElem?_getD, List.getElem?_eq_getElem this]
    rfl))
def cutD (ds : List PyData) (lo hi : Option Int) : List PyData := (ds.drop (HT.sIx ds.length 0 lo)).take (HT.sIx ds.length ds.length hi - HT.sIx ds.length 0 lo)
def EvO (_ : List Addr) (to : TO) (σ : L2.St) (H : Hp) (o : Option Int) : Prop := ∀ H1, Same H H1 → ∀ Q : Option Int → Hp → Prop, (∀ H2, Same H1 H2 → Q o H2) → to σ H1 Q
theorem eo_none : EvO B tNoPart σ H none := fun H1 _ Q q => q H1 (Same.refl H1)
theorem eo_some (h : Ev B te σ H (.int i)) : EvO B (tPart te) σ H (some i) := fun H1 e Q q => h H1 e _ fun v H2 e2 r => by
  cases r
  exact ⟨i, rfl, q H2 e2⟩
theorem RA.cut {lo hi : Option Int} (r : RA B H vs ds) : RA B H (cutV vs lo hi) (cutD ds lo hi) := by
  unfold cutV cutD
  rw [r.len]
  exact (r.drop _).take _
theorem ev_slL {tl th : TO} {lo hi : Option Int} (ht : Trk B H) (h : Ev B te σ H (.list ds)) (h1 : EvO B tl σ H lo) (h2 : EvO B th σ H hi) : Ev B (tSl (rSlL K) te tl th) σ H (.list (cutD ds lo hi)) := fun H1 e Q q =>
  h H1 e _ fun v H2 e2 r => h1 H2 (e.trans e2) _ fun H3 e3 => h2 H3 ((e.trans e2).trans e3) _ fun H4 e4 => by
    cases r with
    | lst ha na ra =>
      have e24 := e3.trans e4
      exact ⟨_, _, rfl, Or.inl (Or.inl (e24 _ _ ha)), fun p hp => q _ _ ((e2.trans e24).trans (same_new hp)) (.lst upd_same (Trk.out (ht.same ((e.trans e2).trans e24)) hp) ((ra.cut.same e24).same (same_new hp)))⟩
theorem ev_slT {tl th : TO} {lo hi : Option Int} (ht : Trk B H) (h : Ev B te σ H (.tuple ds)) (h1 : EvO B tl σ H lo) (h2 : EvO B th σ H hi) (hc : ¬ (HT.sIx ds.length 0 lo = 0 ∧ HT.sIx ds.length ds.length hi = ds.length)) : Ev B (tSl (rSlT K) te tl th) σ H (.tuple (cutD ds lo hi)) := fun H1 e Q q =>
  h H1 e _ fun v H2 e2 r => h1 H2 (e.trans e2) _ fun H3 e3 => h2 H3 ((e.trans e2).trans e3) _ fun H4 e4 => by
    cases r with
    | tup ha na ra =>
      have e24 := e3.trans e4
      exact ⟨_, _, rfl, Or.inl (Or.inl (e24 _ _ ha)), by rw [ra.len]; exact hc, fun p hp => q _ _ ((e2.trans e24).trans (same_new hp)) (.tup upd_same (Trk.out (ht.same ((e.trans e2).trans e24)) hp) ((ra.cut.same e24).same (same_new hp)))⟩
theorem ev_catT (ht : Trk B H) (ha : Ev B ta σ H (.tuple ds)) (hb : Ev B tb σ H (.tuple es)) (h1 : ds ≠ []) (h2 : es ≠ []) (hl : ds.length + es.length ≤ 1000) : Ev B (tOp (rCatT K) ta tb) σ H (.tuple (ds ++ es)) := ev_op ha hb fun H1 e1 v w r1 r2 Q q => by
  cases r1 with
  | tup ha na ra =>
    cases r2 with
    | tup hb nb rb =>
      refine ⟨_, _, _, _, rfl, rfl, Or.inl (Or.inl ha), Or.inl (Or.inl hb), fun z => ?_, by rw [ra.len, rb.len]; exact Nat.le_of_lt (small1000 hl), fun z => ?_, fun _ p hp => q _ _ (same_new hp) (.tup upd_same (Trk.out (ht.same e1) hp) ((ra.app rb).same (same_new hp)))⟩
      · have := ra.len
        rw [z] at this
        exact h1 (List.eq_nil_of_length_eq_zero this.symm)
      · have := rb.len
        rw [z] at this
        exact absurd (List.eq_nil_of_length_eq_zero this.symm) h2
theorem ev_catL (ht : Trk B H) (ha : Ev B ta σ H (.list ds)) (hb : Ev B tb σ H (.list es)) (hl : ds.length + es.length ≤ 1000) : Ev B (tOp rCat ta tb) σ H (.list (ds ++ es)) := ev_op ha hb fun H1 e1 v w r1 r2 Q q => by
  cases r1 with
  | lst ha na ra =>
    cases r2 with
    | lst hb nb rb =>
      exact ⟨_, _, _, _, rfl, rfl, ha, hb, by rw [ra.len, rb.len]; exact Nat.le_of_lt (small1000 hl), fun p hp => q _ _ (same_new hp) (.lst upd_same (Trk.out (ht.same e1) hp) ((ra.app rb).same (same_new hp)))⟩
theorem ev_repL {n : Nat} (ht : Trk B H) (ha : Ev B ta σ H (.list ds)) (hb : Ev B tb σ H (.int (n : Int))) (hl : ds.length * n ≤ 1000) (hn : n ≤ 1000) : Ev B (tOp rRep ta tb) σ H (.list (List.replicate n ds).flatten) := ev_op ha hb fun H1 e1 v w r1 r2 Q q => by
  cases r2
  cases r1 with
  | lst ha na ra =>
    exact ⟨_, _, _, rfl, rfl, ha, by omega, by omega, by rw [ra.len]; exact Nat.le_of_lt (small1000 hl), fun p hp => q _ _ (same_new hp) (.lst upd_same (Trk.out (ht.same e1) hp) ((ra.rep n).same (same_new hp)))⟩
end
end M

end
section
namespace M
/-! ### sizes -/
def Sz (n : Nat) (z : Int) : Prop := z.natAbs < 2 ^ n
theorem sz_mono {n m : Nat} {z : Int} (h : Sz n z) (l : n ≤ m) : Sz m z := Nat.lt_of_lt_of_le h (Nat.pow_le_pow_right (by decide) l)
theorem sz_mul {n m : Nat} {x y : Int} (h : Sz n x) (g : Sz m y) : Sz (n + m) (x * y) := by
  unfold Sz at *
  rw [Int.natAbs_mul, Nat.pow_add]
  exact Nat.mul_lt_mul'' h g
theorem sz_add {n m : Nat} {x y : Int} (h : Sz n x) (g : Sz m y) : Sz (max n m + 1) (x + y) := by
  have h1 := sz_mono h (Nat.le_max_left n m)
  have g1 := sz_mono g (Nat.le_max_right n m)
  unfold Sz at *
  rw [Nat.pow_succ]
  omega
theorem sz_neg {n : Nat} {x : Int} (h : Sz n x) : Sz n (-x) := by
  unfold Sz at *
  omega
theorem sz_sub {n m : Nat} {x y : Int} (h : Sz n x) (g : Sz m y) : Sz (max n m + 1) (x - y) := by
  have := sz_add h (sz_neg g)
  rwa [← Int.sub_eq_add_neg] at this
theorem sz_le {n : Nat} {x y : Int} (h : Sz n y) (l : x.natAbs ≤ y.natAbs) : Sz n x := Nat.lt_of_le_of_lt l h
theorem sz_nat {n k : Nat} (h : k < 2 ^ n) : Sz n (k : Int) := by
  unfold Sz
  omega
theorem sz_lit {n : Nat} {z : Int} (h : z.natAbs < 2 ^ n) : Sz n z := h
theorem sz_pow {n k : Nat} {x : Int} (h : x.natAbs ≤ 2 ^ n) : (x ^ k).natAbs ≤ 2 ^ (n * k) := by
  rw [Int.natAbs_pow, Nat.pow_mul]
  exact Nat.pow_le_pow_left h k
/-! ### reduced fractions -/
structure QS (n : Nat) (q : Rat) : Prop where
  num : Sz n q.num
  den : Sz n (q.den : Int)
theorem QS.mono {n m : Nat} {q : Rat} (h : QS n q) (l : n ≤ m) : QS m q := ⟨sz_mono h.num l, sz_mono h.den l⟩
theorem den_pos (q : Rat) : (0 : Int) < (q.den : Int) := by
  have := q.den_pos
  omega
theorem low_num {a b : Int} (hb : 0 < b) : a / (Int.gcd a b : Int) = ((a : Rat) / (b : Rat)).num := by
  rw [← Rat.divInt_eq_div, Rat.num_divInt, Int.sign_eq_one_of_pos hb, Int.one_mul, Int.gcd_comm]
theorem low_den {a b : Int} (hb : 0 < b) : b / (Int.gcd a b : Int) = (((a : Rat) / (b : Rat)).den : Int) := by
  rw [← Rat.divInt_eq_div, Rat.den_divInt, if_neg (by omega), Int.gcd_comm a b, Int.natCast_ediv, Int.natAbs_of_nonneg (by omega)]
theorem cast_ne {b : Int} (h : b ≠ 0) : (b : Rat) ≠ 0 := by
  intro z
  exact h (by exact_mod_cast z)
theorem cast_pos {b : Int} (h : 0 < b) : (0 : Rat) < (b : Rat) := by
  have : ((0 : Int) : Rat) < (b : Rat) := Rat.intCast_lt_intCast.mpr h
  simpa using this
theorem q_eq (q : Rat) : q = (q.num : Rat) / ((q.den : Int) : Rat) := by
  rw [← Rat.divInt_eq_div]
  exact (Rat.num_divInt_den q).symm
theorem q_mul (q : Rat) : q * ((q.den : Int) : Rat) = (q.num : Rat) := by
  have h := cast_ne (show (q.den : Int) ≠ 0 by have := den_pos q; omega)
  have e := q_eq q
  generalize ((q.den : Int) : Rat) = d at *
  generalize (q.num : Rat) = n at *
  subst e
  grind
theorem div_of {a b : Int} (hb : 0 < b) {q : Rat} (h : q * (b : Rat) = (a : Rat)) : (a : Rat) / (b : Rat) = q := by
  have hb' := cast_ne (show b ≠ 0 by omega)
  rw [← h]
  generalize (b : Rat) = c at *
  grind
theorem add_div (x y : Rat) : ((x.num * y.den + y.num * x.den : Int) : Rat) / ((x.den * y.den : Int) : Rat) = x + y := by
  refine div_of (Int.mul_pos (den_pos x) (den_pos y)) ?_
  rw [Rat.intCast_mul, Rat.intCast_add, Rat.intCast_mul, Rat.intCast_mul, ← q_mul x, ← q_mul y]
  grind
theorem sub_div (x y : Rat) : ((x.num * y.den - y.num * x.den : Int) : Rat) / ((x.den * y.den : Int) : Rat) = x - y := by
  refine div_of (Int.mul_pos (den_pos x) (den_pos y)) ?_
  rw [Rat.intCast_mul, Rat.intCast_sub, Rat.intCast_mul, Rat.intCast_mul, ← q_mul x, ← q_mul y]
  grind
theorem mul_div (x y : Rat) : ((x.num * y.num : Int) : Rat) / ((x.den * y.den : Int) : Rat) = x * y := by
  refine div_of (Int.mul_pos (den_pos x) (den_pos y)) ?_
  rw [Rat.intCast_mul, Rat.intCast_mul, ← q_mul x, ← q_mul y]
  grind
theorem num_pos {y : Rat} (h : 0 < y) : 0 < y.num := by
  have := (Rat.lt_iff 0 y).mp h
  simpa using this
theorem div_div {x y : Rat} (h : 0 < y) : ((x.num * y.den : Int) : Rat) / ((x.den * y.num : Int) : Rat) = x / y := by
  refine div_of (Int.mul_pos (den_pos x) (num_pos h)) ?_
  rw [Rat.intCast_mul, Rat.intCast_mul, ← q_mul x, ← q_mul y]
  have : y ≠ 0 := by grind
  grind
theorem lt_dec (x y : Rat) : decide (x.num * (y.den : Int) < y.num * (x.den : Int)) = decide (x < y) := by
  rw [decide_eq_decide]
  exact (Rat.lt_iff x y).symm
/-- a half upwards -/
def rnd (q : Rat) : Int := (2 * q.num + q.den) / (2 * q.den)
theorem rnd_of {a b : Int} {q : Rat} (hb : 0 < b) (h : q * (b : Rat) = (a : Rat)) : (2 * a + b) / (2 * b) = rnd q := by
  have hd := den_pos q
  have e : q.num * b = a * (q.den : Int) := by
    have e1 := q_mul q
    have e2 : ((q.num * b : Int) : Rat) = ((a * (q.den : Int) : Int) : Rat) := by
      rw [Rat.intCast_mul, Rat.intCast_mul, ← e1, ← h]
      grind
    exact_mod_cast e2
  unfold rnd
  rw [← Int.mul_ediv_mul_of_pos_left (2 * a + b) (2 * b) hd, ← Int.mul_ediv_mul_of_pos_left (2 * q.num + q.den) (2 * q.den) hb]
  have e1 : (2 * a + b) * (q.den : Int) = (2 * q.num + q.den) * b := by grind
  have e2 : 2 * b * (q.den : Int) = 2 * q.den * b := by grind
  rw [e1, e2]
end M

end
section
namespace M
/-! ### places: why none, or where -/
inductive Why where
  | nothing | outside | gap | nought | unknown | below
  deriving DecidableEq
inductive Pl where
  | no (w : Why) | at_ (q : Rat)
inductive YS where
  | straight (lo hi : Rat) (len : Int)
  | turns (base low many len : Int)
  | broken (ps : List (Rat × Rat × Int × Int)) (len : Int)
def YS.len : YS → Int
  | .straight _ _ l => l
  | .turns _ _ _ l => l
  | .broken _ l => l
def pw (b n : Int) : Int := b ^ n.toNat
def alongS (lo hi c : Rat) (long : Int) : Option Rat := if c < lo ∨ hi < c then none else some ((c - lo) * (long : Rat) / (hi - lo))
/-- how often base is taken, at most so many times, as long as it is not above top -/
def tcount (base top : Int) : Nat → Int → Nat
  | 0, _ => 0
  | f + 1, b => if b * base ≤ top then tcount base top f (b * base) + 1 else 0
def lcount (base top : Int) : Nat → Int → Nat
  | 0, _ => 0
  | f + 1, b => if b * base < top then lcount base top f (b * base) + 1 else 0
def placeT3 (base many len top bot : Int) (t : Nat) : Pl :=
  if (t : Int) = many then (if bot * base ^ t < top then .no .outside else .at_ (len : Rat))
  else .at_ ((((t : Int) : Rat) + ((top - bot * base ^ t : Int) : Rat) / ((bot * base ^ t * (base - 1) : Int) : Rat)) * ((len : Rat) / (many : Rat)))
def placeT2 (base many len top bot : Int) : Pl := if top < bot then .no .outside else placeT3 base many len top bot (tcount base top many.toNat bot)
def placeT (base low many len : Int) (c : Rat) : Pl := if c.num ≤ 0 then .no .nought else placeT2 base many len (c.num * pw base (-low)) ((c.den : Int) * pw base low)
def alongPs (c : Rat) : List (Rat × Rat × Int × Int) → Option Rat
  | [] => none
  | (lo, hi, f, t) :: r => match alongS lo hi c (t - f) with
    | some q => some ((f : Rat) + q)
    | none => alongPs c r
def firstLo : List (Rat × Rat × Int × Int) → Rat
  | [] => 0
  | p :: _ => p.1
def lastHi : List (Rat × Rat × Int × Int) → Rat
  | [] => 0
  | [p] => p.2.1
  | _ :: r => lastHi r
def placeB (ps : List (Rat × Rat × Int × Int)) (c : Rat) : Pl :=
  if c < firstLo ps ∨ lastHi ps < c then .no .outside else match alongPs c ps with
    | some q => .at_ q
    | none => .no .gap
def placeY (s : YS) (c : Rat) : Pl := match s with
  | .straight lo hi len => (match alongS lo hi c len with
    | some q => .at_ q
    | none => .no .outside)
  | .turns base low many len => placeT base low many len c
  | .broken ps _ => placeB ps c
/-! ### the same, as the law reckons it -/
def nd (q : Rat) : Int × Int := (q.num, (q.den : Int))
def lBetween (lo hi c : Int × Int) (start stop : Int) : Int × Int :=
  (start * (c.2 * (hi.1 * lo.2 - lo.1 * hi.2)) + (c.1 * lo.2 - lo.1 * c.2) * hi.2 * (stop - start), c.2 * (hi.1 * lo.2 - lo.1 * hi.2))
def lWithin (lo hi c : Int × Int) : Bool := decide (lo.1 * c.2 ≤ c.1 * lo.2) && decide (c.1 * hi.2 ≤ hi.1 * c.2)
inductive LPl where
  | no (w : Why) | at_ (p : Int × Int)
def lTurn (base low many len : Int) (c : Rat) : LPl :=
  if c.num ≤ 0 then .no .nought else
  let q := pw base (-low)
  let k := lcount base (c.num * q) (many - 1).toNat ((c.den : Int) * pw base low)
  let p := pw base low * base ^ k
  if lWithin (p, q) (p * base, q) (nd c) then
    let r := lBetween (p, q) (p * base, q) (nd c) k (k + 1)
    .at_ (r.1 * len, r.2 * many)
  else .no .outside
def lPieces (c : Rat) : List (Rat × Rat × Int × Int) → Option (Int × Int)
  | [] => none
  | (lo, hi, f, t) :: r => if lWithin (nd lo) (nd hi) (nd c) then some (lBetween (nd lo) (nd hi) (nd c) f t) else lPieces c r
def lPlace (s : YS) (c : Rat) : LPl := match s with
  | .straight lo hi len => (match lPieces c [(lo, hi, 0, len)] with
    | some p => .at_ p
    | none => .no .outside)
  | .turns base low many len => lTurn base low many len c
  | .broken ps _ => (match lPieces c ps with
    | some p => .at_ p
    | none => if lWithin (nd (firstLo ps)) (nd (lastHi ps)) (nd c) then .no .gap else .no .outside)
/-! ### scales as they are made -/
def Rising : Rat → Int → List (Rat × Rat × Int × Int) → Prop
  | _, _, [] => True
  | a, z, (lo, hi, f, t) :: r => a < lo ∧ lo < hi ∧ z ≤ f ∧ f < t ∧ t ≤ 4000 ∧ QS 400 lo ∧ QS 400 hi ∧ Rising hi t r
def YS.Ok : YS → Prop
  | .straight lo hi len => lo < hi ∧ QS 400 lo ∧ QS 400 hi ∧ 1 ≤ len ∧ len ≤ 4000
  | .turns base low many len => (base = 2 ∨ base = 10) ∧ -200 ≤ low ∧ low ≤ 200 ∧ 1 ≤ many ∧ many ≤ 400 ∧ 1 ≤ len ∧ len ≤ 4000
  | .broken ps len => 2 ≤ ps.length ∧ ps.length ≤ 4 ∧ Rising (firstLo ps - 1) 0 ps ∧ 1 ≤ len ∧ len ≤ 4000
/-- both agree -/
def Agree : Pl → LPl → Prop
  | .no w, .no w' => w = w'
  | .at_ q, .at_ p => 0 < p.2 ∧ q * (p.2 : Rat) = (p.1 : Rat)
  | _, _ => False
theorem within_iff (lo hi c : Rat) : lWithin (nd lo) (nd hi) (nd c) = decide (lo ≤ c ∧ c ≤ hi) := by
  unfold lWithin nd
  rw [← Bool.decide_and, decide_eq_decide]
  dsimp only
  rw [Rat.le_iff, Rat.le_iff]
theorem alongS_some {lo hi c : Rat} {long : Int} (h : lo ≤ c ∧ c ≤ hi) : alongS lo hi c long = some ((c - lo) * (long : Rat) / (hi - lo)) := by
  unfold alongS
  rw [if_neg]
  rintro (z | z) <;> grind
theorem alongS_none {lo hi c : Rat} {long : Int} (h : ¬ (lo ≤ c ∧ c ≤ hi)) : alongS lo hi c long = none := by
  unfold alongS
  rw [if_pos]
  by_cases z : c < lo
  · exact .inl z
  · right
    grind
theorem num_eq (q : Rat) : (q.num : Rat) = q * ((q.den : Int) : Rat) := (q_mul q).symm
theorem between_ok {lo hi c : Rat} {f t : Int} (h : lo < hi) : 0 < (lBetween (nd lo) (nd hi) (nd c) f t).2 ∧
    ((f : Rat) + (c - lo) * ((t - f : Int) : Rat) / (hi - lo)) * ((lBetween (nd lo) (nd hi) (nd c) f t).2 : Rat) = ((lBetween (nd lo) (nd hi) (nd c) f t).1 : Rat) := by
  unfold lBetween nd
  dsimp only
  have h1 : lo.num * (hi.den : Int) < hi.num * (lo.den : Int) := (Rat.lt_iff _ _).mp h
  have hc := den_pos c
  refine ⟨Int.mul_pos hc (by omega), ?_⟩
  simp only [Rat.intCast_mul, Rat.intCast_add, Rat.intCast_sub, num_eq]
  have n1 : hi - lo ≠ 0 := by grind
  generalize ((lo.den : Int) : Rat) = ld
  generalize ((hi.den : Int) : Rat) = hd
  generalize ((c.den : Int) : Rat) = cd
  generalize (f : Rat) = f'
  generalize (t : Rat) = t'
  grind
/-! ### by turns -/
theorem pow_pos' {b : Int} (h : 0 < b) : ∀ n : Nat, 0 < b ^ n
  | 0 => by simp
  | n + 1 => by
    rw [Int.pow_succ]
    exact Int.mul_pos (pow_pos' h n) h
theorem pw_pos {b : Int} (h : 0 < b) (n : Int) : 0 < pw b n := pow_pos' h _
theorem lad_lt {b base : Int} (hb : 0 < b) (h2 : 2 ≤ base) {i j : Nat} (h : i < j) : b * base ^ i < b * base ^ j := by
  induction j with
  | zero => omega
  | succ j ih =>
    have hp := Int.mul_pos hb (pow_pos' (show 0 < base by omega) j)
    have e : b * base ^ (j + 1) = b * base ^ j * base := by rw [Int.pow_succ, Int.mul_assoc]
    have g : b * base ^ j < b * base ^ (j + 1) := by
      rw [e]
      have := Int.mul_le_mul_of_nonneg_left h2 (Int.le_of_lt hp)
      omega
    by_cases z : i = j
    · rw [z]
      exact g
    · exact Int.lt_trans (ih (by omega)) g
theorem lad_le {b base : Int} (hb : 0 < b) (h2 : 2 ≤ base) {i j : Nat} (h : i ≤ j) : b * base ^ i ≤ b * base ^ j := by
  rcases Nat.lt_or_eq_of_le h with z | z
  · exact Int.le_of_lt (lad_lt hb h2 z)
  · rw [z]
    exact Int.le_refl _
theorem lad_s (b base : Int) (j : Nat) : b * base * base ^ j = b * base ^ (j + 1) := by
  rw [Int.pow_succ, Int.mul_assoc, Int.mul_comm base]
theorem tcount_spec {base top : Int} : ∀ (f : Nat) (b : Int), tcount base top f b ≤ f ∧ (∀ j, j < tcount base top f b → b * base ^ (j + 1) ≤ top) ∧ (tcount base top f b < f → top < b * base ^ (tcount base top f b + 1))
  | 0, b => ⟨Nat.le_refl _, fun j h => absurd h (Nat.not_lt_zero _), fun h => absurd h (Nat.not_lt_zero _)⟩
  | f + 1, b => by
    unfold tcount
    by_cases h : b * base ≤ top
    · rw [if_pos h]
      obtain ⟨h1, h2, h3⟩ := tcount_spec (base := base) (top := top) f (b * base)
      refine ⟨by omega, fun j hj => ?_, fun hf => ?_⟩
      · cases j with
        | zero => rw [Int.pow_one]; exact h
        | succ j =>
          have := h2 j (by omega)
          rw [lad_s] at this
          exact this
      · have := h3 (by omega)
        rw [lad_s] at this
        exact this
    · rw [if_neg h]
      exact ⟨by omega, fun j hj => absurd hj (Nat.not_lt_zero _), fun _ => by rw [Int.pow_one]; omega⟩
theorem lcount_spec {base top : Int} : ∀ (f : Nat) (b : Int), lcount base top f b ≤ f ∧ (∀ j, j < lcount base top f b → b * base ^ (j + 1) < top) ∧ (lcount base top f b < f → top ≤ b * base ^ (lcount base top f b + 1))
  | 0, b => ⟨Nat.le_refl _, fun j h => absurd h (Nat.not_lt_zero _), fun h => absurd h (Nat.not_lt_zero _)⟩
  | f + 1, b => by
    unfold lcount
    by_cases h : b * base < top
    · rw [if_pos h]
      obtain ⟨h1, h2, h3⟩ := lcount_spec (base := base) (top := top) f (b * base)
      refine ⟨by omega, fun j hj => ?_, fun hf => ?_⟩
      · cases j with
        | zero => rw [Int.pow_one]; exact h
        | succ j =>
          have := h2 j (by omega)
          rw [lad_s] at this
          exact this
      · have := h3 (by omega)
        rw [lad_s] at this
        exact this
    · rw [if_neg h]
      exact ⟨by omega, fun j hj => absurd hj (Nat.not_lt_zero _), fun _ => by rw [Int.pow_one]; omega⟩
/-- what the law's turn gives where it stands on the k-th rung -/
theorem turn_val {den p q top base : Int} (hden : 0 < den) (hp : 0 < p) (hq : 0 < q) (hb : 2 ≤ base) {num : Int} (ht : num * q = top) {k many len : Int} (hm : 1 ≤ many) {B : Int} (hB : den * p = B) :
    0 < (lBetween (p, q) (p * base, q) (num, den) k (k + 1)).2 * many ∧
    (((k : Rat) + ((top - B : Int) : Rat) / ((B * (base - 1) : Int) : Rat)) * ((len : Rat) / (many : Rat))) * (((lBetween (p, q) (p * base, q) (num, den) k (k + 1)).2 * many : Int) : Rat) = (((lBetween (p, q) (p * base, q) (num, den) k (k + 1)).1 * len : Int) : Rat) := by
  unfold lBetween
  dsimp only
  have h1 : 0 < p * base * q - p * q := by
    have e : p * base * q - p * q = p * q * (base - 1) := by grind
    rw [e]
    exact Int.mul_pos (Int.mul_pos hp hq) (by omega)
  refine ⟨Int.mul_pos (Int.mul_pos hden h1) (by omega), ?_⟩
  subst hB ht
  have d1 := cast_ne (show den ≠ 0 by omega)
  have d2 := cast_ne (show p ≠ 0 by omega)
  have d3 := cast_ne (show q ≠ 0 by omega)
  have d4 := cast_ne (show base - 1 ≠ 0 by omega)
  have d5 := cast_ne (show many ≠ 0 by omega)
  simp only [Rat.intCast_mul, Rat.intCast_add, Rat.intCast_sub] at *
  generalize (den : Rat) = den' at *
  generalize (p : Rat) = p' at *
  generalize (q : Rat) = q' at *
  generalize (base : Rat) = base' at *
  generalize (many : Rat) = many' at *
  generalize (len : Rat) = len' at *
  generalize (num : Rat) = num' at *
  generalize (k : Rat) = k' at *
  have d6 : den' * p' * (base' - 1) ≠ 0 := by grind
  have e1 : (num' * q' - den' * p') / (den' * p' * (base' - 1)) * (den' * p' * (base' - 1)) = num' * q' - den' * p' := by grind
  have e2 : len' / many' * many' = len' := by grind
  generalize (num' * q' - den' * p') / (den' * p' * (base' - 1)) = X at *
  generalize len' / many' = Y at *
  have : (k' + X) * Y * (den' * (p' * base' * q' - p' * q') * many') = (k' * (den' * p' * (base' - 1)) + X * (den' * p' * (base' - 1))) * q' * (Y * many') := by grind
  rw [this, e1, e2]
  grind
theorem cnt {m : Int} (h : 1 ≤ m) : ((m - 1).toNat : Nat) + 1 = m.toNat := by omega
theorem turn_agree {base low many len : Int} {c : Rat} (hb : 2 ≤ base) (hm : 1 ≤ many) : Agree (placeT base low many len c) (lTurn base low many len c) := by
  unfold placeT lTurn placeT2 placeT3
  by_cases h0 : c.num ≤ 0
  · rw [if_pos h0, if_pos h0]
    rfl
  rw [if_neg h0, if_neg h0]
  dsimp only
  have hq := pw_pos (show 0 < base by omega) (-low)
  have hp := pw_pos (show 0 < base by omega) low
  have hd := den_pos c
  generalize pw base (-low) = q at *
  generalize pw base low = p at *
  have hbot : 0 < (c.den : Int) * p := Int.mul_pos hd hp
  generalize hB : (c.den : Int) * p = b at *
  generalize htop : c.num * q = top at *
  obtain ⟨t1, t2, t3⟩ := tcount_spec (base := base) (top := top) many.toNat b
  obtain ⟨k1, k2, k3⟩ := lcount_spec (base := base) (top := top) (many - 1).toNat b
  generalize tcount base top many.toNat b = t at *
  generalize lcount base top (many - 1).toNat b = k at *
  have eB : ∀ j : Nat, p * base ^ j * (c.den : Int) = b * base ^ j := fun j => by rw [← hB]; grind
  have eB2 : ∀ j : Nat, p * base ^ j * base * (c.den : Int) = b * base ^ (j + 1) := fun j => by rw [← hB]; grind
  have eW : lWithin (p * base ^ k, q) (p * base ^ k * base, q) (nd c) = (decide (b * base ^ k ≤ top) && decide (top ≤ b * base ^ (k + 1))) := by
    unfold lWithin nd
    dsimp only
    rw [eB, eB2, htop]
  rw [eW]
  have hK := lad_le hbot hb (Nat.zero_le k)
  rw [Int.pow_zero, Int.mul_one] at hK
  by_cases c1 : top < b
  · rw [if_pos c1, decide_eq_false (show ¬ b * base ^ k ≤ top by omega), Bool.false_and, if_neg Bool.false_ne_true]
    rfl
  rw [if_neg c1]
  have hT : b * base ^ t ≤ top := by
    cases t with
    | zero => rw [Int.pow_zero, Int.mul_one]; omega
    | succ t => exact t2 t (Nat.lt_succ_self t)
  have pK : 0 < p * base ^ k := Int.mul_pos hp (pow_pos' (by omega) k)
  have eBk : (c.den : Int) * (p * base ^ k) = b * base ^ k := by rw [Int.mul_comm, eB]
  have V := turn_val hd pK hq hb htop (k := (k : Int)) (len := len) hm eBk
  have hKle : (∀ m, k ≤ m → (∀ j, j < k → j + 1 ≤ m) → True) := fun _ _ _ => trivial
  -- the rung below the law's
  have hKtop : b * base ^ k ≤ top := by
    cases k with
    | zero => rw [Int.pow_zero, Int.mul_one]; omega
    | succ k => exact Int.le_of_lt (k2 k (Nat.lt_succ_self k))
  rw [decide_eq_true hKtop, Bool.true_and]
  by_cases c2 : (t : Int) = many
  · rw [if_pos c2]
    have et : t = (many - 1).toNat + 1 := by omega
    by_cases c3 : b * base ^ t < top
    · have ek : k = (many - 1).toNat := by
        rcases Nat.lt_or_ge k (many - 1).toNat with z | z
        · have h1 := k3 z
          have h2 := lad_le hbot hb (show k + 1 ≤ t by omega)
          omega
        · omega
      rw [if_pos c3, ek, ← et, decide_eq_false (show ¬ top ≤ b * base ^ t by omega), if_neg Bool.false_ne_true]
      rfl
    · have e : b * base ^ t = top := by omega
      have ek : k = (many - 1).toNat := by
        rcases Nat.lt_or_ge k (many - 1).toNat with z | z
        · have h1 := k3 z
          have h2 := lad_lt hbot hb (show k + 1 < t by omega)
          omega
        · omega
      have et2 : t = k + 1 := by omega
      rw [if_neg c3, ← et2, decide_eq_true (show top ≤ b * base ^ t by omega), if_pos rfl]
      refine ⟨V.1, Eq.trans (congrArg (fun z => z * _) ?_) V.2⟩
      have e2 : b * base ^ t = b * base ^ k * base := by rw [et2, Int.pow_succ, Int.mul_assoc]
      have e3 : (top - b * base ^ k : Int) = b * base ^ k * (base - 1) := by rw [← e, e2]; grind
      rw [e3]
      have n1 := cast_ne (show b * base ^ k * (base - 1) ≠ 0 from Int.ne_of_gt (Int.mul_pos (Int.mul_pos hbot (pow_pos' (by omega) k)) (by omega)))
      have n2 := cast_ne (show many ≠ 0 by omega)
      have e4 : many = (k : Int) + 1 := by omega
      have e5 : (many : Rat) = ((k : Int) : Rat) + 1 := by rw [e4]; simp [Rat.intCast_add]
      generalize ((b * base ^ k * (base - 1) : Int) : Rat) = u at *
      generalize (((k : Int) : Rat)) = k' at *
      generalize (many : Rat) = m' at *
      have e6 : u / u = 1 := by grind
      have e7 : (len : Rat) / m' * m' = len := by grind
      rw [e6, ← e5, Rat.mul_comm m', e7]
  · rw [if_neg c2]
    have ht : t < many.toNat := by omega
    have hT2 := t3 ht
    by_cases c4 : b * base ^ t < top ∨ t = 0
    · have ek : k = t := by
        rcases Nat.lt_trichotomy k t with z | z | z
        · have h1 := k3 (by omega)
          have h2 := lad_le hbot hb (show k + 1 ≤ t by omega)
          omega
        · exact z
        · have h1 := k2 t z
          omega
      subst ek
      rw [decide_eq_true (show top ≤ b * base ^ (k + 1) by omega), if_pos rfl]
      exact V
    · have c5 : b * base ^ t = top := by omega
      have t0 : 0 < t := by omega
      obtain ⟨s, rfl⟩ : ∃ s, t = s + 1 := ⟨t - 1, by omega⟩
      have ek : k = s := by
        rcases Nat.lt_trichotomy k s with z | z | z
        · have h1 := k3 (by omega)
          have h2 := lad_lt hbot hb (show k + 1 < s + 1 by omega)
          omega
        · exact z
        · have h1 := k2 s z
          omega
      subst ek
      rw [decide_eq_true (show top ≤ b * base ^ (k + 1) by omega), if_pos rfl]
      refine ⟨V.1, Eq.trans (congrArg (fun z => z * _) ?_) V.2⟩
      rw [c5]
      have e2 : b * base ^ (k + 1) = b * base ^ k * base := by rw [Int.pow_succ, Int.mul_assoc]
      have e3 : (top - b * base ^ k : Int) = b * base ^ k * (base - 1) := by rw [← c5, e2]; grind
      rw [e3, Int.sub_self]
      have n1 := cast_ne (show b * base ^ k * (base - 1) ≠ 0 from Int.ne_of_gt (Int.mul_pos (Int.mul_pos hbot (pow_pos' (by omega) k)) (by omega)))
      have e5 : (((k + 1 : Nat) : Int) : Rat) = ((k : Int) : Rat) + 1 := by simp [Rat.intCast_add]
      rw [e5]
      have e6 : ((b * base ^ k * (base - 1) : Int) : Rat) / ((b * base ^ k * (base - 1) : Int) : Rat) = 1 := by
        generalize ((b * base ^ k * (base - 1) : Int) : Rat) = u at *
        grind
      have e7 : ((0 : Int) : Rat) / ((top * (base - 1) : Int) : Rat) = 0 := by
        rw [Rat.intCast_zero]
        generalize ((top * (base - 1) : Int) : Rat) = u at *
        grind
      rw [e6, e7, Rat.add_zero]
/-! ### all scales -/
theorem straight_agree {lo hi c : Rat} {f t : Int} (h : lo < hi) :
    match alongS lo hi c (t - f), (if lWithin (nd lo) (nd hi) (nd c) then some (lBetween (nd lo) (nd hi) (nd c) f t) else none) with
    | some q, some p => 0 < p.2 ∧ ((f : Rat) + q) * (p.2 : Rat) = (p.1 : Rat)
    | none, none => True
    | _, _ => False := by
  rw [within_iff]
  by_cases z : lo ≤ c ∧ c ≤ hi
  · rw [alongS_some z, decide_eq_true z, if_pos rfl]
    exact between_ok h
  · rw [alongS_none z, decide_eq_false z, if_neg Bool.false_ne_true]
    trivial
def PAgree : Option Rat → Option (Int × Int) → Prop
  | some q, some p => 0 < p.2 ∧ q * (p.2 : Rat) = (p.1 : Rat)
  | none, none => True
  | _, _ => False
theorem pieces_agree {c : Rat} : ∀ (ps : List (Rat × Rat × Int × Int)) {a : Rat} {z : Int}, Rising a z ps → PAgree (alongPs c ps) (lPieces c ps)
  | [], _, _, _ => trivial
  | (lo, hi, f, t) :: r, a, z, h => by
    obtain ⟨h1, h2, h3, h4, h5, h6, h7, h8⟩ := h
    have S := straight_agree (c := c) (f := f) (t := t) h2
    have ih := pieces_agree (c := c) r h8
    unfold alongPs lPieces
    cases e : alongS lo hi c (t - f) with
    | some q =>
      rw [e] at S
      cases w : lWithin (nd lo) (nd hi) (nd c) with
      | true =>
        rw [w, if_pos rfl] at S
        rw [if_pos rfl]
        exact S
      | false =>
        rw [w, if_neg Bool.false_ne_true] at S
        exact S.elim
    | none =>
      rw [e] at S
      cases w : lWithin (nd lo) (nd hi) (nd c) with
      | true =>
        rw [w, if_pos rfl] at S
        exact S.elim
      | false =>
        rw [if_neg Bool.false_ne_true]
        exact ih
theorem lastHi_lt : ∀ (r : List (Rat × Rat × Int × Int)) (x : Rat) (z : Int), Rising x z r → r ≠ [] → x < lastHi r
  | [], _, _, _, h => absurd rfl h
  | [(lo, hi, f, t)], x, z, h, _ => by
    obtain ⟨g1, g2, _⟩ := h
    show x < hi
    grind
  | (lo, hi, f, t) :: p2 :: r2, x, z, h, _ => by
    obtain ⟨g1, g2, _, _, _, _, _, g8⟩ := h
    have := lastHi_lt (p2 :: r2) hi t g8 (by simp)
    show x < lastHi (p2 :: r2)
    grind
theorem pieces_lo {c : Rat} : ∀ (r : List (Rat × Rat × Int × Int)) (x : Rat) (y : Int), Rising x y r → c < firstLo r → alongPs c r = none
  | [], _, _, _, _ => rfl
  | (lo, hi, f, t) :: r, x, y, h, hc => by
    obtain ⟨g1, g2, _, _, _, _, _, g8⟩ := h
    have a2 : c < lo := hc
    unfold alongPs
    rw [alongS_none (by grind)]
    cases r with
    | nil => rfl
    | cons p2 r2 =>
      refine pieces_lo (p2 :: r2) hi t g8 ?_
      obtain ⟨l2, _, _, _⟩ := p2
      have a1 : hi < l2 := g8.1
      show c < l2
      grind
theorem pieces_hi {c : Rat} : ∀ (ps : List (Rat × Rat × Int × Int)) {a : Rat} {z : Int}, Rising a z ps → lastHi ps < c → alongPs c ps = none
  | [], _, _, _, _ => rfl
  | (lo, hi, f, t) :: r, a, z, h, hc => by
    obtain ⟨h1, h2, h3, h4, h5, h6, h7, h8⟩ := h
    have g : hi < c ∧ (r ≠ [] → lastHi r < c) := by
      cases r with
      | nil => exact ⟨hc, fun z => absurd rfl z⟩
      | cons p2 r2 =>
        have := lastHi_lt (p2 :: r2) hi t h8 (by simp)
        have hc' : lastHi (p2 :: r2) < c := hc
        exact ⟨by grind, fun _ => hc'⟩
    unfold alongPs
    rw [alongS_none (by
      have := g.1
      grind)]
    cases r with
    | nil => rfl
    | cons p2 r2 => exact pieces_hi (p2 :: r2) h8 (g.2 (by simp))
theorem place_agree {s : YS} (h : s.Ok) (c : Rat) : Agree (placeY s c) (lPlace s c) := by
  cases s with
  | straight lo hi len =>
    obtain ⟨h1, _⟩ := h
    have S := straight_agree (c := c) (f := 0) (t := len) h1
    unfold placeY lPlace
    dsimp only
    unfold lPieces
    rw [show len - 0 = len by omega] at S
    cases e : alongS lo hi c len with
    | some q =>
      rw [e] at S
      cases w : lWithin (nd lo) (nd hi) (nd c) with
      | true =>
        rw [w, if_pos rfl] at S
        rw [if_pos rfl]
        refine ⟨S.1, ?_⟩
        have := S.2
        rw [Rat.intCast_zero, Rat.zero_add] at this
        exact this
      | false =>
        rw [w, if_neg Bool.false_ne_true] at S
        exact S.elim
    | none =>
      rw [e] at S
      cases w : lWithin (nd lo) (nd hi) (nd c) with
      | true =>
        rw [w, if_pos rfl] at S
        exact S.elim
      | false =>
        rw [if_neg Bool.false_ne_true]
        rfl
  | turns base low many len =>
    obtain ⟨h1, _, _, h4, _⟩ := h
    exact turn_agree (by omega) h4
  | broken ps len =>
    obtain ⟨h1, h2, h3, _⟩ := h
    have S := pieces_agree (c := c) ps h3
    unfold placeY lPlace placeB
    dsimp only
    by_cases z : c < firstLo ps ∨ lastHi ps < c
    · have n : alongPs c ps = none := by
        rcases z with z | z
        · exact pieces_lo ps _ _ h3 z
        · exact pieces_hi ps h3 z
      rw [if_pos z]
      rw [n] at S
      cases e : lPieces c ps with
      | some p =>
        rw [e] at S
        exact S.elim
      | none =>
        dsimp only
        rw [within_iff, if_neg]
        · rfl
        · rw [decide_eq_true_iff]
          grind
    · rw [if_neg z]
      cases e : alongPs c ps with
      | some q =>
        rw [e] at S
        cases e2 : lPieces c ps with
        | some p =>
          rw [e2] at S
          exact S
        | none =>
          rw [e2] at S
          exact S.elim
      | none =>
        rw [e] at S
        cases e2 : lPieces c ps with
        | some p =>
          rw [e2] at S
          exact S.elim
        | none =>
          dsimp only
          rw [within_iff, if_pos]
          · rfl
          · rw [decide_eq_true_iff]
            grind
end M

end
section
set_option maxHeartbeats 4000000
namespace M
open PySem PySem.Spec PyProof.Rows L2
def top (i : Nat) : Stmt := PySem.Challenge.pw_markscale_k42_whole_heaps_stand.main.body.getD i (.Pass ⟨0, 0, 0, 0⟩)
abbrev s_divisor : Stmt := top 4
abbrev s_lowest : Stmt := top 5
abbrev s_plus : Stmt := top 6
abbrev s_minus : Stmt := top 7
abbrev s_times : Stmt := top 8
abbrev s_over : Stmt := top 9
abbrev s_under : Stmt := top 10
abbrev s_rounded : Stmt := top 11
abbrev s_along_straight : Stmt := top 13
abbrev s_power_of : Stmt := top 14
abbrev s_along_turns : Stmt := top 15
abbrev s_along_pieces : Stmt := top 16
abbrev s_stretch_on : Stmt := top 17
abbrev s_amid : Stmt := top 18
abbrev s_along_order : Stmt := top 19
abbrev s_place_on : Stmt := top 20
abbrev s_put_x : Stmt := top 22
abbrev s_put_y : Stmt := top 23
abbrev s_ends_of : Stmt := top 25
abbrev s_place_from : Stmt := top 26
abbrev s_parts_of : Stmt := top 27
abbrev s_heaps : Stmt := top 28
abbrev s__law_draws : Stmt := top 30
abbrev s__law_whole : Stmt := top 31
abbrev s__law_divisor : Stmt := top 32
abbrev s__law_number : Stmt := top 33
abbrev s__law_low : Stmt := top 34
abbrev s__law_plus : Stmt := top 35
abbrev s__law_part : Stmt := top 36
abbrev s__law_words : Stmt := top 37
abbrev s__law_broken : Stmt := top 38
abbrev s__law_scale : Stmt := top 39
abbrev s__law_power : Stmt := top 40
abbrev s__law_turn_cell : Stmt := top 41
abbrev s__law_cell : Stmt := top 42
abbrev s__law_between : Stmt := top 43
abbrev s__law_within : Stmt := top 44
abbrev s__law_turn : Stmt := top 45
abbrev s__law_place : Stmt := top 46
abbrev s__law_rounded : Stmt := top 47
abbrev s__law_field : Stmt := top 48
abbrev s__law_items : Stmt := top 49
abbrev s__law_ends : Stmt := top 50
abbrev s__law_told : Stmt := top 51
abbrev s__law_edge : Stmt := top 52
abbrev s__law_heap_right : Stmt := top 53
abbrev s__law_loss_right : Stmt := top 54
abbrev s_law : Stmt := top 55

def encQ (q : Rat) : PyData := .tuple [.int q.num, .int (q.den : Int)]
def encP (p : Int × Int) : PyData := .tuple [.int p.1, .int p.2]
theorem encQ_int (i : Int) : encQ (i : Rat) = .tuple [.int i, .int 1] := by
  unfold encQ
  simp
section
variable {K : PySem.W.Frag} {C B : List Addr} {σ : L2.St} {H H0 H' : Hp} {G : List Sl} {ta tb te tx tl : TE} {x y : Rat} {p p' : Int × Int} {a b : Int} {d : PyData}
theorem ev_fst (h : Ev B te σ H (encQ x)) : Ev B (tOp (rIxT K) te (tC (.int 0))) σ H (.int x.num) := ev_ixT h ev_int rfl
theorem ev_snd (h : Ev B te σ H (encQ x)) : Ev B (tOp (rIxT K) te (tC (.int 1))) σ H (.int (x.den : Int)) := ev_ixT h ev_int rfl
theorem ev_fstP (h : Ev B te σ H (encP p)) : Ev B (tOp (rIxT K) te (tC (.int 0))) σ H (.int p.1) := ev_ixT h ev_int rfl
theorem ev_sndP (h : Ev B te σ H (encP p)) : Ev B (tOp (rIxT K) te (tC (.int 1))) σ H (.int p.2) := ev_ixT h ev_int rfl
theorem ev_pair1 (ht : Trk B H) (h : Ev B te σ H (.int a)) : Ev B (tTup (tCons te (tCons (tC (.int 1)) tNil))) σ H (encQ (a : Rat)) := by
  rw [encQ_int]
  exact ev_tup ht (ea_cons h (ea_cons ev_int ea_nil)) (Nat.le_of_ble_eq_true rfl)
theorem ev_pairP (ht : Trk B H) (h : Ev B ta σ H (.int a)) (h' : Ev B tb σ H (.int b)) : Ev B (tTup (tCons ta (tCons tb tNil))) σ H (encP (a, b)) := ev_tup ht (ea_cons h (ea_cons h' ea_nil)) (Nat.le_of_ble_eq_true rfl)
end
/-! promises -/
def dDivisor (ds : List PyData) (r : PyData) : Prop := ∃ a b : Int, ds = [.int a, .int b] ∧ r = .int (Int.gcd a b : Int)
def dLowest (ds : List PyData) (r : PyData) : Prop := ∃ a b : Int, ds = [.int a, .int b] ∧ 0 < b ∧ Sz 9000 b ∧ r = encQ ((a : Rat) / (b : Rat))
def dPlus (ds : List PyData) (r : PyData) : Prop := ∃ x y : Rat, ds = [encQ x, encQ y] ∧ QS 4000 x ∧ QS 4000 y ∧ r = encQ (x + y)
def dMinus (ds : List PyData) (r : PyData) : Prop := ∃ x y : Rat, ds = [encQ x, encQ y] ∧ QS 4000 x ∧ QS 4000 y ∧ r = encQ (x - y)
def dTimes (ds : List PyData) (r : PyData) : Prop := ∃ x y : Rat, ds = [encQ x, encQ y] ∧ QS 4000 x ∧ QS 4000 y ∧ r = encQ (x * y)
def dOver (ds : List PyData) (r : PyData) : Prop := ∃ x y : Rat, ds = [encQ x, encQ y] ∧ QS 4000 x ∧ QS 4000 y ∧ 0 < y ∧ r = encQ (x / y)
def dUnder (ds : List PyData) (r : PyData) : Prop := ∃ x y : Rat, ds = [encQ x, encQ y] ∧ QS 4000 x ∧ QS 4000 y ∧ r = .bool (decide (x < y))
def dRounded (ds : List PyData) (r : PyData) : Prop := ∃ x : Rat, ds = [encQ x] ∧ QS 8000 x ∧ r = .int (rnd x)
theorem dDivisor_len : ∀ ds r, dDivisor ds r → ds.length = 2 := by rintro _ _ ⟨_, _, rfl, _⟩; rfl
theorem dLowest_len : ∀ ds r, dLowest ds r → ds.length = 2 := by rintro _ _ ⟨_, _, rfl, _⟩; rfl
theorem dPlus_len : ∀ ds r, dPlus ds r → ds.length = 2 := by rintro _ _ ⟨_, _, rfl, _⟩; rfl
theorem dMinus_len : ∀ ds r, dMinus ds r → ds.length = 2 := by rintro _ _ ⟨_, _, rfl, _⟩; rfl
theorem dTimes_len : ∀ ds r, dTimes ds r → ds.length = 2 := by rintro _ _ ⟨_, _, rfl, _⟩; rfl
theorem dOver_len : ∀ ds r, dOver ds r → ds.length = 2 := by rintro _ _ ⟨_, _, rfl, _⟩; rfl
theorem dUnder_len : ∀ ds r, dUnder ds r → ds.length = 2 := by rintro _ _ ⟨_, _, rfl, _⟩; rfl
theorem dRounded_len : ∀ ds r, dRounded ds r → ds.length = 1 := by rintro _ _ ⟨_, rfl, _⟩; rfl
section
variable {K : PySem.W.Frag} {C B : List Addr} {σ : L2.St} {H H0 H' : Hp} {G : List Sl} {ta tb te tx tl : TE} {x y : Rat} {a b : Int} {E : XK}
theorem ev_divisor (ht : Trk B H) (ha : Ev B ta σ H (.int a)) (hb : Ev B tb σ H (.int b)) : Ev B (tCall (SpD dDivisor) [] E (tCons ta (tCons tb tNil))) σ H (.int (Int.gcd a b : Int)) := ev_call ht (ea_cons ha (ea_cons hb ea_nil)) ⟨a, b, rfl, rfl⟩
theorem ev_lowest (ht : Trk B H) (ha : Ev B ta σ H (.int a)) (hb : Ev B tb σ H (.int b)) (h0 : 0 < b) (h1 : Sz 9000 b) : Ev B (tCall (SpD dLowest) [] E (tCons ta (tCons tb tNil))) σ H (encQ ((a : Rat) / (b : Rat))) := ev_call ht (ea_cons ha (ea_cons hb ea_nil)) ⟨a, b, rfl, h0, h1, rfl⟩
theorem ev_plus (ht : Trk B H) (ha : Ev B ta σ H (encQ x)) (hb : Ev B tb σ H (encQ y)) (h1 : QS 4000 x) (h2 : QS 4000 y) : Ev B (tCall (SpD dPlus) [] E (tCons ta (tCons tb tNil))) σ H (encQ (x + y)) := ev_call ht (ea_cons ha (ea_cons hb ea_nil)) ⟨x, y, rfl, h1, h2, rfl⟩
theorem ev_minus (ht : Trk B H) (ha : Ev B ta σ H (encQ x)) (hb : Ev B tb σ H (encQ y)) (h1 : QS 4000 x) (h2 : QS 4000 y) : Ev B (tCall (SpD dMinus) [] E (tCons ta (tCons tb tNil))) σ H (encQ (x - y)) := ev_call ht (ea_cons ha (ea_cons hb ea_nil)) ⟨x, y, rfl, h1, h2, rfl⟩
theorem ev_times (ht : Trk B H) (ha : Ev B ta σ H (encQ x)) (hb : Ev B tb σ H (encQ y)) (h1 : QS 4000 x) (h2 : QS 4000 y) : Ev B (tCall (SpD dTimes) [] E (tCons ta (tCons tb tNil))) σ H (encQ (x * y)) := ev_call ht (ea_cons ha (ea_cons hb ea_nil)) ⟨x, y, rfl, h1, h2, rfl⟩
theorem ev_over (ht : Trk B H) (ha : Ev B ta σ H (encQ x)) (hb : Ev B tb σ H (encQ y)) (h1 : QS 4000 x) (h2 : QS 4000 y) (h : 0 < y) : Ev B (tCall (SpD dOver) [] E (tCons ta (tCons tb tNil))) σ H (encQ (x / y)) := ev_call ht (ea_cons ha (ea_cons hb ea_nil)) ⟨x, y, rfl, h1, h2, h, rfl⟩
theorem ev_under (ht : Trk B H) (ha : Ev B ta σ H (encQ x)) (hb : Ev B tb σ H (encQ y)) (h1 : QS 4000 x) (h2 : QS 4000 y) : Ev B (tCall (SpD dUnder) [] E (tCons ta (tCons tb tNil))) σ H (.bool (decide (x < y))) := ev_call ht (ea_cons ha (ea_cons hb ea_nil)) ⟨x, y, rfl, h1, h2, rfl⟩
theorem ev_rounded (ht : Trk B H) (ha : Ev B ta σ H (encQ x)) (h1 : QS 8000 x) : Ev B (tCall (SpD dRounded) [] E (tCons ta tNil)) σ H (.int (rnd x)) := ev_call ht (ea_cons ha ea_nil) ⟨x, rfl, h1, rfl⟩
end
/-! sizes of what these multiply -/
theorem cm {n m : Nat} {i j : Int} (h : Sz n i) (g : Sz m j) (l : n ≤ 400000) (l' : m ≤ 400000) : CMulW i j := wide_mul (a := n + 1) (b := m + 1) (sz_mono h (Nat.le_succ n)) (sz_mono g (Nat.le_succ m)) (Nat.succ_pos _) (Nat.succ_pos _) (by omega)
theorem cd {n : Nat} {i j : Int} (h0 : 0 < j) (h : Sz n j) (l : n ≤ 9000) : CDivW i j := by
  refine wide_div (b := max n 1) h0 (sz_mono h (Nat.le_max_left n 1)) (by omega) (by omega)
theorem gcd_pos {a b : Int} (h : 0 < b) : (0 : Int) < (Int.gcd a b : Int) := by
  have := Int.gcd_pos_of_ne_zero_right a (show b ≠ 0 by omega)
  omega
theorem gcd_le {a b : Int} (h : 0 < b) {n : Nat} (s : Sz n b) : Sz n (Int.gcd a b : Int) := by
  have h1 : (Int.gcd a b : Int) ≤ b := Int.le_of_dvd h (Int.gcd_dvd_right ..)
  exact sz_le s (by omega)

/-- the evaluation of an expression, by its form -/
local macro_rules | `(tactic| walk_at "ev") => `(tactic| first
  | with_reducible exact ev_int
  | with_reducible exact ev_str
  | with_reducible exact ev_bl
  | with_reducible exact ev_non
  | ((with_reducible refine' ev_var (by assumption) ?_); rfl)
  | ((with_reducible refine' ev_I0 ?_ ?_) <;> walk_at "ev")
  | ((with_reducible refine' ev_I0b ?_ ?_) <;> walk_at "ev")
  | ((with_reducible refine' ev_eqI ?_ ?_) <;> walk_at "ev")
  | ((with_reducible refine' ev_neI ?_ ?_) <;> walk_at "ev")
  | ((with_reducible refine' ev_neg ?_); walk_at "ev")
  | ((with_reducible refine' ev_fst ?_); walk_at "ev")
  | ((with_reducible refine' ev_snd ?_); walk_at "ev")
  | ((with_reducible refine' ev_abs ?_); walk_at "ev"))

section
variable {P : Program} {w : World} {K : PySem.W.Frag} {mg : Str → Option Value} {base : Heap}
theorem fmod_gcd (a b : Int) : Int.gcd b (a.fmod b) = Int.gcd a b := by
  have e : a.fmod b = a - b * a.fdiv b := by have := Int.mul_fdiv_add_fmod a b; omega
  rw [e, Int.gcd_comm, Int.gcd_sub_mul_left_left]
theorem fmod_lt (a : Int) {b : Int} (h : b ≠ 0) : (a.fmod b).natAbs < b.natAbs := by
  rcases Int.lt_or_gt_of_ne h with h | h
  · have h1 := Int.fmod_nonneg_of_pos (-a) (b := -b) (by omega)
    have h2 := Int.fmod_lt_of_pos (-a) (b := -b) (by omega)
    rw [Int.neg_fmod_neg] at h1 h2
    omega
  · have h1 := Int.fmod_nonneg_of_pos a h
    have h2 := Int.fmod_lt_of_pos a h
    omega
theorem sc_divisor : FnScope ["one", "other"] ["one", "other"] (defScope s_divisor) := ⟨rfl, rfl, rfl, by decide +kernel, rfl, by decide +kernel, by decide +kernel⟩
theorem ok_divisor (F : Fn K mg "divisor" s_divisor) (m_abs : mg "abs" = none) : Cal P w K mg base 1 "divisor" ["one", "other"] (SpD dDivisor) := by
  refine cal_D F sc_divisor (fun _ _ _ _ _ _ us hl => match us, hl with | [_, _], _ => rfl) dDivisor_len (by decide) ⟨_, fun f cdv A outer s H E hr =>
      (pss_cons (ps_while PassesOwn.never (pt_cmpR op_ne (pv 1) pe_int (nomark _)) (pss_one (ps_par (i := 0) (j := 1) (by rfl) sc_divisor.nd rfl rfl (by decide) rfl rfl (pa_cons (pv 1) (pa_cons (pe_op op_modN (pv 0) (pv 1)) pa_nil)) (by rfl))))
      (pss_one (ps_ret (pe_callB call_abs (by rfl) m_abs bt_abs (pa_cons (pv 0) pa_nil))))), fun ds r hd B H σ D E0 q => ?_⟩
  obtain ⟨a, b, rfl, rfl⟩ := hd
  refine (ss_while B (fun m σ' H' => ∃ x y : Int, m = y.natAbs ∧ Int.gcd x y = Int.gcd a b ∧ Evn [] H B σ' H' [.dat (.int x), .dat (.int y)]) b.natAbs ⟨a, b, rfl, rfl, E0⟩ fun m σ' H' ⟨x, y, em, eg, E1⟩ => ?_)
  refine ⟨_, et_test (ev_neI (i := y) (j := 0) (by walk_at "ev") (by walk_at "ev")), fun hb H1 e => ?_, fun hb H1 e => ?_⟩
  · have hy : y ≠ 0 := by simpa using hb
    refine ⟨fun σ2 H2 => Evn [] H B σ2 H2 [.dat (.int y), .dat (.int (x.fmod y))], fun σ2 H2 E2 => ⟨_, by rw [em]; exact fmod_lt x hy, _, _, rfl, by rw [fmod_gcd, eg], E2⟩, ?_⟩
    have E2 := E1.same e
    exact s_par E2 (ea_cons (by walk_at "ev") (ea_cons (ev_I (i := x) (j := y) (by walk_at "ev") (by walk_at "ev") hy) ea_nil)) fun σ' H' E3 => E3
  · have hy : y = 0 := by simpa using hb
    subst hy
    have E2 := E1.same e
    refine s_ret E2 (Ev.is (ev_abs (i := x) (by walk_at "ev")) ?_) q
    rw [← eg, Int.gcd_zero_right]
    congr 1
    split <;> omega

theorem sc_lowest : FnScope ["top", "bottom", "by"] ["top", "bottom"] (defScope s_lowest) := ⟨rfl, rfl, rfl, by decide +kernel, rfl, by decide +kernel, by decide +kernel⟩
theorem ok_lowest (F : Fn K mg "lowest" s_lowest) (c_divisor : Cal P w K mg base 1 "divisor" ["one", "other"] (SpD dDivisor)) : Cal P w K mg base 2 "lowest" ["top", "bottom"] (SpD dLowest) := by
  refine cal_D F sc_lowest (fun _ _ _ _ _ _ us hl => match us, hl with | [_, _], _ => rfl) dLowest_len (by decide) ⟨_, fun f cdv A outer s H E hr =>
      (pss_cons (ps_set (i := 2) sc_lowest.nd rfl (Or.inl rfl) (pe_cal c_divisor hr (by decide) (by rfl) (pa_cons (pv 0) (pa_cons (pv 1) pa_nil))))
      (pss_cons (ps_if (pt_cmpR op_lt (pv 1) pe_int (nomark _)) (pss_one (ps_set (i := 2) sc_lowest.nd rfl (Or.inl rfl) (pe_op op_sub pe_int (pv 2)))) pss_nil)
      (pss_one (ps_ret (pe_tup (pa_cons (pe_op op_fdivW (pv 0) (pv 2)) (pa_cons (pe_op op_fdivW (pv 1) (pv 2)) pa_nil))))))), fun ds r hd B H σ D E0 q => ?_⟩
  obtain ⟨a, b, rfl, h0, hs, rfl⟩ := hd
  refine (ss_set E0 (ev_divisor E0.trk (a := a) (b := b) (by walk_at "ev") (by walk_at "ev")) fun σ1 H1 E1 => ?_)
  refine (ss_ifF E1 (et_test (Ev.is ((ev_I0b (i := b) (j := 0) (by walk_at "ev") (by walk_at "ev"))) (by simp; omega))) fun H2 E1 => ?_)
  have g0 := gcd_pos (a := a) h0
  have g1 := gcd_le (a := a) h0 hs
  refine s_ret E1 (Ev.is (ev_tup E1.trk (ea_cons (ev_I (i := a) (by walk_at "ev") (by walk_at "ev") (cd g0 g1 (by decide))) (ea_cons (ev_I (i := b) (by walk_at "ev") (by walk_at "ev") (cd g0 g1 (by decide))) ea_nil)) (Nat.le_of_ble_eq_true rfl)) ?_) q
  rw [low_num h0, low_den h0]
  rfl
theorem sc_plus : FnScope ["one", "other"] ["one", "other"] (defScope s_plus) := ⟨rfl, rfl, rfl, by decide +kernel, rfl, by decide +kernel, by decide +kernel⟩
theorem ok_plus (F : Fn K mg "plus" s_plus) (c_lowest : Cal P w K mg base 2 "lowest" ["top", "bottom"] (SpD dLowest)) : Cal P w K mg base 3 "plus" ["one", "other"] (SpD dPlus) := by
  refine cal_D F sc_plus (fun _ _ _ _ _ _ us hl => match us, hl with | [_, _], _ => rfl) dPlus_len (by decide) ⟨_, fun f cdv A outer s H E hr =>
      (pss_one (ps_ret (pe_cal c_lowest hr (by decide) (by rfl) (pa_cons (pe_op op_add (pe_op op_mulW (pe_ix (kx_tup (K := K) rfl) (pv 0) pe_int (fun _ _ => rfl)) (pe_ix (kx_tup (K := K) rfl) (pv 1) pe_int (fun _ _ => rfl))) (pe_op op_mulW (pe_ix (kx_tup (K := K) rfl) (pv 1) pe_int (fun _ _ => rfl)) (pe_ix (kx_tup (K := K) rfl) (pv 0) pe_int (fun _ _ => rfl)))) (pa_cons (pe_op op_mulW (pe_ix (kx_tup (K := K) rfl) (pv 0) pe_int (fun _ _ => rfl)) (pe_ix (kx_tup (K := K) rfl) (pv 1) pe_int (fun _ _ => rfl))) pa_nil))))), fun ds r hd B H σ D E0 q => ?_⟩
  obtain ⟨x, y, rfl, hx, hy, rfl⟩ := hd
  have c1 := cm hx.num hy.den (by decide) (by decide)
  have c2 := cm hy.num hx.den (by decide) (by decide)
  have c3 := cm hx.den hy.den (by decide) (by decide)
  refine s_ret E0 (Ev.is (ev_lowest E0.trk (ev_I0 (ev_I (i := x.num) (j := y.den) (by walk_at "ev") (by walk_at "ev") c1) (ev_I (i := y.num) (j := x.den) (by walk_at "ev") (by walk_at "ev") c2)) (ev_I (i := x.den) (j := y.den) (by walk_at "ev") (by walk_at "ev") c3)
    (Int.mul_pos (den_pos x) (den_pos y)) (sz_mono (sz_mul hx.den hy.den) (by decide))) ?_) q
  exact congrArg encQ (add_div x y)
theorem sc_minus : FnScope ["one", "other"] ["one", "other"] (defScope s_minus) := ⟨rfl, rfl, rfl, by decide +kernel, rfl, by decide +kernel, by decide +kernel⟩
theorem ok_minus (F : Fn K mg "minus" s_minus) (c_lowest : Cal P w K mg base 2 "lowest" ["top", "bottom"] (SpD dLowest)) : Cal P w K mg base 3 "minus" ["one", "other"] (SpD dMinus) := by
  refine cal_D F sc_minus (fun _ _ _ _ _ _ us hl => match us, hl with | [_, _], _ => rfl) dMinus_len (by decide) ⟨_, fun f cdv A outer s H E hr =>
      (pss_one (ps_ret (pe_cal c_lowest hr (by decide) (by rfl) (pa_cons (pe_op op_sub (pe_op op_mulW (pe_ix (kx_tup (K := K) rfl) (pv 0) pe_int (fun _ _ => rfl)) (pe_ix (kx_tup (K := K) rfl) (pv 1) pe_int (fun _ _ => rfl))) (pe_op op_mulW (pe_ix (kx_tup (K := K) rfl) (pv 1) pe_int (fun _ _ => rfl)) (pe_ix (kx_tup (K := K) rfl) (pv 0) pe_int (fun _ _ => rfl)))) (pa_cons (pe_op op_mulW (pe_ix (kx_tup (K := K) rfl) (pv 0) pe_int (fun _ _ => rfl)) (pe_ix (kx_tup (K := K) rfl) (pv 1) pe_int (fun _ _ => rfl))) pa_nil))))), fun ds r hd B H σ D E0 q => ?_⟩
  obtain ⟨x, y, rfl, hx, hy, rfl⟩ := hd
  have c1 := cm hx.num hy.den (by decide) (by decide)
  have c2 := cm hy.num hx.den (by decide) (by decide)
  have c3 := cm hx.den hy.den (by decide) (by decide)
  refine s_ret E0 (Ev.is (ev_lowest E0.trk (ev_I0 (ev_I (i := x.num) (j := y.den) (by walk_at "ev") (by walk_at "ev") c1) (ev_I (i := y.num) (j := x.den) (by walk_at "ev") (by walk_at "ev") c2)) (ev_I (i := x.den) (j := y.den) (by walk_at "ev") (by walk_at "ev") c3)
    (Int.mul_pos (den_pos x) (den_pos y)) (sz_mono (sz_mul hx.den hy.den) (by decide))) ?_) q
  exact congrArg encQ (sub_div x y)
theorem sc_times : FnScope ["one", "other"] ["one", "other"] (defScope s_times) := ⟨rfl, rfl, rfl, by decide +kernel, rfl, by decide +kernel, by decide +kernel⟩
theorem ok_times (F : Fn K mg "times" s_times) (c_lowest : Cal P w K mg base 2 "lowest" ["top", "bottom"] (SpD dLowest)) : Cal P w K mg base 3 "times" ["one", "other"] (SpD dTimes) := by
  refine cal_D F sc_times (fun _ _ _ _ _ _ us hl => match us, hl with | [_, _], _ => rfl) dTimes_len (by decide) ⟨_, fun f cdv A outer s H E hr =>
      (pss_one (ps_ret (pe_cal c_lowest hr (by decide) (by rfl) (pa_cons (pe_op op_mulW (pe_ix (kx_tup (K := K) rfl) (pv 0) pe_int (fun _ _ => rfl)) (pe_ix (kx_tup (K := K) rfl) (pv 1) pe_int (fun _ _ => rfl))) (pa_cons (pe_op op_mulW (pe_ix (kx_tup (K := K) rfl) (pv 0) pe_int (fun _ _ => rfl)) (pe_ix (kx_tup (K := K) rfl) (pv 1) pe_int (fun _ _ => rfl))) pa_nil))))), fun ds r hd B H σ D E0 q => ?_⟩
  obtain ⟨x, y, rfl, hx, hy, rfl⟩ := hd
  have c1 := cm hx.num hy.num (by decide) (by decide)
  have c3 := cm hx.den hy.den (by decide) (by decide)
  refine s_ret E0 (Ev.is (ev_lowest E0.trk (ev_I (i := x.num) (j := y.num) (by walk_at "ev") (by walk_at "ev") c1) (ev_I (i := x.den) (j := y.den) (by walk_at "ev") (by walk_at "ev") c3)
    (Int.mul_pos (den_pos x) (den_pos y)) (sz_mono (sz_mul hx.den hy.den) (by decide))) ?_) q
  exact congrArg encQ (mul_div x y)
theorem sc_over : FnScope ["one", "other"] ["one", "other"] (defScope s_over) := ⟨rfl, rfl, rfl, by decide +kernel, rfl, by decide +kernel, by decide +kernel⟩
theorem ok_over (F : Fn K mg "over" s_over) (c_lowest : Cal P w K mg base 2 "lowest" ["top", "bottom"] (SpD dLowest)) : Cal P w K mg base 3 "over" ["one", "other"] (SpD dOver) := by
  refine cal_D F sc_over (fun _ _ _ _ _ _ us hl => match us, hl with | [_, _], _ => rfl) dOver_len (by decide) ⟨_, fun f cdv A outer s H E hr =>
      (pss_cons (ps_if (pt_cmpR op_eq (pe_ix (kx_tup (K := K) rfl) (pv 1) pe_int (fun _ _ => rfl)) pe_int (nomark _)) (pss_one ps_never) pss_nil)
      (pss_one (ps_ret (pe_cal c_lowest hr (by decide) (by rfl) (pa_cons (pe_op op_mulW (pe_ix (kx_tup (K := K) rfl) (pv 0) pe_int (fun _ _ => rfl)) (pe_ix (kx_tup (K := K) rfl) (pv 1) pe_int (fun _ _ => rfl))) (pa_cons (pe_op op_mulW (pe_ix (kx_tup (K := K) rfl) (pv 0) pe_int (fun _ _ => rfl)) (pe_ix (kx_tup (K := K) rfl) (pv 1) pe_int (fun _ _ => rfl))) pa_nil)))))), fun ds r hd B H σ D E0 q => ?_⟩
  obtain ⟨x, y, rfl, hx, hy, h0, rfl⟩ := hd
  have n0 := num_pos h0
  refine ss_ifF E0 (et_test (Ev.is (ev_eqI (i := y.num) (j := 0) (by walk_at "ev") (by walk_at "ev")) (congrArg PyData.bool (decide_eq_false (by omega))))) (fun H2 E1 => ?_)
  have c1 := cm hx.num hy.den (by decide) (by decide)
  have c3 := cm hx.den hy.num (by decide) (by decide)
  refine s_ret E1 (Ev.is (ev_lowest E1.trk (ev_I (i := x.num) (j := y.den) (by walk_at "ev") (by walk_at "ev") c1) (ev_I (i := x.den) (j := y.num) (by walk_at "ev") (by walk_at "ev") c3)
    (Int.mul_pos (den_pos x) n0) (sz_mono (sz_mul hx.den hy.num) (by decide))) ?_) q
  exact congrArg encQ (div_div h0)
theorem sc_under : FnScope ["one", "other"] ["one", "other"] (defScope s_under) := ⟨rfl, rfl, rfl, by decide +kernel, rfl, by decide +kernel, by decide +kernel⟩
theorem ok_under (F : Fn K mg "under" s_under) : Cal P w K mg base 1 "under" ["one", "other"] (SpD dUnder) := by
  refine cal_D F sc_under (fun _ _ _ _ _ _ us hl => match us, hl with | [_, _], _ => rfl) dUnder_len (by decide) ⟨_, fun f cdv A outer s H E hr =>
      (pss_one (ps_ret (pe_cmpR op_lt (pe_op op_mulW (pe_ix (kx_tup (K := K) rfl) (pv 0) pe_int (fun _ _ => rfl)) (pe_ix (kx_tup (K := K) rfl) (pv 1) pe_int (fun _ _ => rfl))) (pe_op op_mulW (pe_ix (kx_tup (K := K) rfl) (pv 1) pe_int (fun _ _ => rfl)) (pe_ix (kx_tup (K := K) rfl) (pv 0) pe_int (fun _ _ => rfl))) (nomark _)))), fun ds r hd B H σ D E0 q => ?_⟩
  obtain ⟨x, y, rfl, hx, hy, rfl⟩ := hd
  have c1 := cm hx.num hy.den (by decide) (by decide)
  have c2 := cm hy.num hx.den (by decide) (by decide)
  refine s_ret E0 (Ev.is (ev_I0b (ev_I (i := x.num) (j := y.den) (by walk_at "ev") (by walk_at "ev") c1) (ev_I (i := y.num) (j := x.den) (by walk_at "ev") (by walk_at "ev") c2)) ?_) q
  exact congrArg PyData.bool (lt_dec x y)
theorem sc_rounded : FnScope ["one"] ["one"] (defScope s_rounded) := ⟨rfl, rfl, rfl, by decide +kernel, rfl, by decide +kernel, by decide +kernel⟩
theorem ok_rounded (F : Fn K mg "rounded" s_rounded) : Cal P w K mg base 1 "rounded" ["one"] (SpD dRounded) := by
  refine cal_D F sc_rounded (fun _ _ _ _ _ _ us hl => match us, hl with | [_], _ => rfl) dRounded_len (by decide) ⟨_, fun f cdv A outer s H E hr =>
      (pss_one (ps_ret (pe_op op_fdivW (pe_op op_add (pe_op op_mulW pe_int (pe_ix (kx_tup (K := K) rfl) (pv 0) pe_int (fun _ _ => rfl))) (pe_ix (kx_tup (K := K) rfl) (pv 0) pe_int (fun _ _ => rfl))) (pe_op op_mulW pe_int (pe_ix (kx_tup (K := K) rfl) (pv 0) pe_int (fun _ _ => rfl)))))), fun ds r hd B H σ D E0 q => ?_⟩
  obtain ⟨x, rfl, hx, rfl⟩ := hd
  have c1 := cm (sz_lit (n := 2) (z := 2) (by decide)) hx.num (by decide) (by decide)
  have c2 := cm (sz_lit (n := 2) (z := 2) (by decide)) hx.den (by decide) (by decide)
  have p0 := den_pos x
  exact s_ret E0 (ev_I (ev_I0 (ev_I (i := 2) (j := x.num) (by walk_at "ev") (by walk_at "ev") c1) (by walk_at "ev")) (ev_I (i := 2) (j := x.den) (by walk_at "ev") (by walk_at "ev") c2) (cd (by omega) (sz_mul (sz_lit (n := 2) (z := 2) (by decide)) hx.den) (by decide))) q
end
end M

end
section
set_option maxHeartbeats 4000000
set_option exponentiation.threshold 10000
namespace M
open PySem PySem.Spec PyProof.Rows L2

/-! sizes of reduced fractions -/
theorem qs_frac {n : Nat} {a b : Int} (hb : 0 < b) (ha : Sz n a) (h : Sz n b) : QS n ((a : Rat) / (b : Rat)) := by
  have g := gcd_pos (a := a) hb
  constructor
  · rw [← low_num hb]
    refine sz_le ha ?_
    rw [Int.natAbs_ediv_of_dvd (Int.gcd_dvd_left ..)]
    exact Nat.div_le_self _ _
  · rw [← low_den hb]
    refine sz_le h ?_
    rw [Int.natAbs_ediv_of_dvd (Int.gcd_dvd_right ..)]
    exact Nat.div_le_self _ _
theorem qs_add {n m : Nat} {x y : Rat} (hx : QS n x) (hy : QS m y) : QS (n + m + 1) (x + y) := by
  rw [← add_div]
  refine qs_frac (Int.mul_pos (den_pos x) (den_pos y)) ?_ (sz_mono (sz_mul hx.den hy.den) (by omega))
  exact sz_mono (sz_add (sz_mul hx.num hy.den) (sz_mul hy.num hx.den)) (by omega)
theorem qs_sub {n m : Nat} {x y : Rat} (hx : QS n x) (hy : QS m y) : QS (n + m + 1) (x - y) := by
  rw [← sub_div]
  refine qs_frac (Int.mul_pos (den_pos x) (den_pos y)) ?_ (sz_mono (sz_mul hx.den hy.den) (by omega))
  exact sz_mono (sz_sub (sz_mul hx.num hy.den) (sz_mul hy.num hx.den)) (by omega)
theorem qs_mul {n m : Nat} {x y : Rat} (hx : QS n x) (hy : QS m y) : QS (n + m) (x * y) := by
  rw [← mul_div]
  exact qs_frac (Int.mul_pos (den_pos x) (den_pos y)) (sz_mul hx.num hy.num) (sz_mul hx.den hy.den)
theorem qs_div {n m : Nat} {x y : Rat} (hx : QS n x) (hy : QS m y) (h : 0 < y) : QS (n + m) (x / y) := by
  rw [← div_div h]
  exact qs_frac (Int.mul_pos (den_pos x) (num_pos h)) (sz_mul hx.num hy.den) (sz_mul hx.den hy.num)
theorem qs_int {n : Nat} {i : Int} (h : Sz n i) (h1 : 1 ≤ n) : QS n (i : Rat) := by
  constructor
  · rw [Rat.num_intCast]
    exact h
  · rw [Rat.den_intCast]
    exact sz_mono (sz_lit (n := 1) (by decide)) h1
/-! scales, places -/
def whyS : Why → Str
  | .nothing => "nothing"
  | .outside => "outside"
  | .gap => "gap"
  | .nought => "nought"
  | .unknown => "unknown"
  | .below => "below"
def encPl : Pl → PyData
  | .no w => .str (whyS w)
  | .at_ q => encQ q
def encLPl : LPl → PyData
  | .no w => .str (whyS w)
  | .at_ p => encP p
abbrev Pc : Type := Rat × Rat × Int × Int
def encPc (p : Pc) : PyData := .tuple [encQ p.1, encQ p.2.1, .int p.2.2.1, .int p.2.2.2]
def encYS : YS → PyData
  | .straight lo hi len => .tuple [.str "straight", encQ lo, encQ hi, .int len]
  | .turns base low many len => .tuple [.str "turns", .int base, .int low, .int many, .int len]
  | .broken ps len => .tuple [.str "broken", .list (ps.map encPc), .int len]
def encO : Option Rat → PyData
  | some q => encQ q
  | none => .none
theorem last_of : ∀ (ps : List Pc), ps ≠ [] → ∃ p, ps[ps.length - 1]? = some p ∧ p.2.1 = lastHi ps
  | [], h => absurd rfl h
  | [p], _ => ⟨p, rfl, rfl⟩
  | p :: p2 :: r, _ => by
    obtain ⟨q, h1, h2⟩ := last_of (p2 :: r) (by simp)
    exact ⟨q, by simpa using h1, h2⟩
theorem rising_all : ∀ (ps : List Pc) (a : Rat) (z : Int), Rising a z ps → ∀ p ∈ ps, QS 400 p.1 ∧ QS 400 p.2.1 ∧ p.1 < p.2.1 ∧ z ≤ p.2.2.1 ∧ p.2.2.1 < p.2.2.2 ∧ p.2.2.2 ≤ 4000
  | [], _, _, _, p, hp => by cases hp
  | (lo, hi, f, t) :: r, a, z, h, p, hp => by
    obtain ⟨h1, h2, h3, h4, h5, h6, h7, h8⟩ := h
    rcases List.mem_cons.mp hp with rfl | hp
    · exact ⟨h6, h7, h2, h3, h4, h5⟩
    · obtain ⟨g1, g2, g3, g4, g5, g6⟩ := rising_all r hi t h8 p hp
      exact ⟨g1, g2, g3, by omega, g5, g6⟩
theorem atI_neg1 {α : Type} (xs : List α) {x : α} (h : 0 < xs.length) (e : xs[xs.length - 1]? = some x) : atI xs (-1) = some x := by
  have e2 : ixN xs.length (-1) = some (xs.length - 1) := by
    unfold ixN
    rw [if_neg (by omega), if_pos (by omega)]
    congr 1
    omega
  unfold atI
  rw [e2]
  exact e
theorem alongS_qs {lo hi c v : Rat} {a : Int} (q1 : QS 400 lo) (q2 : QS 400 hi) (q3 : QS 1500 c) (hl : lo < hi) (e : alongS lo hi c a = some v) (hs : Sz 12 a) : QS 2800 v := by
  unfold alongS at e
  split at e
  · cases e
  · obtain rfl := Option.some.inj e
    exact (qs_div (qs_mul (qs_sub q3 q1) (qs_int hs (by decide))) (qs_sub q2 q1) (by grind)).mono (by decide)
def dAlongS (ds : List PyData) (r : PyData) : Prop := ∃ (lo hi c : Rat) (long : Int), ds = [encQ lo, encQ hi, encQ c, .int long] ∧ QS 400 lo ∧ QS 400 hi ∧ QS 1500 c ∧ lo < hi ∧ Sz 12 long ∧ r = encO (alongS lo hi c long)
def dPower (ds : List PyData) (r : PyData) : Prop := ∃ b n : Int, ds = [.int b, .int n] ∧ (b = 2 ∨ b = 10) ∧ -1000 ≤ n ∧ n ≤ 1000 ∧ r = .int (pw b n)
def dTurns (ds : List PyData) (r : PyData) : Prop := ∃ (base low many len : Int) (c : Rat), ds = [encYS (.turns base low many len), encQ c] ∧ (YS.turns base low many len).Ok ∧ QS 1500 c ∧ r = encPl (placeT base low many len c)
def dPieces (ds : List PyData) (r : PyData) : Prop := ∃ (ps : List Pc) (len : Int) (c : Rat), ds = [.list (ps.map encPc), encQ c] ∧ (YS.broken ps len).Ok ∧ QS 1500 c ∧ r = encPl (placeB ps c)
def dPlaceY (ds : List PyData) (r : PyData) : Prop := ∃ (s : YS) (c : Rat), ds = [encYS s, encQ c] ∧ s.Ok ∧ QS 1500 c ∧ r = encPl (placeY s c)
theorem dAlongS_len : ∀ ds r, dAlongS ds r → ds.length = 4 := by rintro _ _ ⟨_, _, _, _, rfl, _⟩; rfl
theorem dPower_len : ∀ ds r, dPower ds r → ds.length = 2 := by rintro _ _ ⟨_, _, rfl, _⟩; rfl
theorem dTurns_len : ∀ ds r, dTurns ds r → ds.length = 2 := by rintro _ _ ⟨_, _, _, _, _, rfl, _⟩; rfl
theorem dPieces_len : ∀ ds r, dPieces ds r → ds.length = 2 := by rintro _ _ ⟨_, _, _, rfl, _⟩; rfl
theorem dPlaceY_len : ∀ ds r, dPlaceY ds r → ds.length = 2 := by rintro _ _ ⟨_, _, rfl, _⟩; rfl
section
variable {K : PySem.W.Frag} {C B : List Addr} {σ : L2.St} {H H0 H' : Hp} {G : List Sl} {ta tb tc td te tx tl : TE} {x y lo hi c : Rat} {a b : Int} {E : XK}
theorem ev_alongS (ht : Trk B H) (h1 : Ev B ta σ H (encQ lo)) (h2 : Ev B tb σ H (encQ hi)) (h3 : Ev B tc σ H (encQ c)) (h4 : Ev B td σ H (.int a)) (q1 : QS 400 lo) (q2 : QS 400 hi) (q3 : QS 1500 c) (hl : lo < hi) (hs : Sz 12 a) :
    Ev B (tCall (SpD dAlongS) [] E (tCons ta (tCons tb (tCons tc (tCons td tNil))))) σ H (encO (alongS lo hi c a)) := ev_call ht (ea_cons h1 (ea_cons h2 (ea_cons h3 (ea_cons h4 ea_nil)))) ⟨lo, hi, c, a, rfl, q1, q2, q3, hl, hs, rfl⟩
theorem ev_power (ht : Trk B H) (ha : Ev B ta σ H (.int a)) (hb : Ev B tb σ H (.int b)) (h1 : a = 2 ∨ a = 10) (h2 : -1000 ≤ b) (h3 : b ≤ 1000) : Ev B (tCall (SpD dPower) [] E (tCons ta (tCons tb tNil))) σ H (.int (pw a b)) := ev_call ht (ea_cons ha (ea_cons hb ea_nil)) ⟨a, b, rfl, h1, h2, h3, rfl⟩
theorem ev_turns {base low many len : Int} (ht : Trk B H) (ha : Ev B ta σ H (encYS (.turns base low many len))) (hb : Ev B tb σ H (encQ c)) (h1 : (YS.turns base low many len).Ok) (h2 : QS 1500 c) : Ev B (tCall (SpD dTurns) [] E (tCons ta (tCons tb tNil))) σ H (encPl (placeT base low many len c)) := ev_call ht (ea_cons ha (ea_cons hb ea_nil)) ⟨base, low, many, len, c, rfl, h1, h2, rfl⟩
theorem ev_pieces {ps : List Pc} {len : Int} (ht : Trk B H) (ha : Ev B ta σ H (.list (ps.map encPc))) (hb : Ev B tb σ H (encQ c)) (h1 : (YS.broken ps len).Ok) (h2 : QS 1500 c) : Ev B (tCall (SpD dPieces) [] E (tCons ta (tCons tb tNil))) σ H (encPl (placeB ps c)) := ev_call ht (ea_cons ha (ea_cons hb ea_nil)) ⟨ps, len, c, rfl, h1, h2, rfl⟩
theorem ev_placeY {s : YS} (ht : Trk B H) (ha : Ev B ta σ H (encYS s)) (hb : Ev B tb σ H (encQ c)) (h1 : s.Ok) (h2 : QS 1500 c) : Ev B (tCall (SpD dPlaceY) [] E (tCons ta (tCons tb tNil))) σ H (encPl (placeY s c)) := ev_call ht (ea_cons ha (ea_cons hb ea_nil)) ⟨s, c, rfl, h1, h2, rfl⟩
end
theorem pw_sz {b n : Int} (hb : b = 2 ∨ b = 10) (hn : n ≤ 200) : Sz 801 (pw b n) := by
  have h : (pw b n).natAbs ≤ 2 ^ (4 * n.toNat) := sz_pow (by omega)
  refine Nat.lt_of_le_of_lt h (Nat.pow_lt_pow_right (by decide) (by omega))
theorem pow_sz {b : Int} {n : Nat} (hb : b = 2 ∨ b = 10) (hn : n ≤ 1000) : Sz 4001 (b ^ n) := by
  have h : (b ^ n).natAbs ≤ 2 ^ (4 * n) := sz_pow (by omega)
  refine Nat.lt_of_le_of_lt h (Nat.pow_lt_pow_right (by decide) (by omega))
theorem qs4 {n : Nat} {x : Rat} (h : QS n x) (l : n ≤ 4000) : QS 4000 x := h.mono l
/-! ### the order of words -/
def encX (ws : List Str) (len : Int) : PyData := .tuple [.str "order", .list (ws.map .str), .int len]
structure XOk (ws : List Str) (len : Int) : Prop where
  n1 : 1 ≤ ws.length
  n60 : ws.length ≤ 60
  nd : ws.Nodup
  l1 : 1 ≤ len
  l4 : len ≤ 4000
def strB (ws : List Str) (len : Int) (k : Nat) : Rat := (((k : Int) * len : Int) : Rat) / (((ws.length : Int)) : Rat)
def placeX (ws : List Str) (len : Int) : Option Str → Pl
  | none => .no .nothing
  | some w => if w ∈ ws then .at_ ((strB ws len (ws.idxOf w) + strB ws len (ws.idxOf w + 1)) * (1 / 2)) else .no .unknown
def encC : Option Str → PyData
  | none => .none
  | some w => .str w
def dStretch (ds : List PyData) (r : PyData) : Prop := ∃ (ws : List Str) (len : Int) (w : Str), ds = [encX ws len, .str w] ∧ XOk ws len ∧ w ∈ ws ∧ r = .tuple [encQ (strB ws len (ws.idxOf w)), encQ (strB ws len (ws.idxOf w + 1))]
def dAmid (ds : List PyData) (r : PyData) : Prop := ∃ x y : Rat, ds = [.tuple [encQ x, encQ y]] ∧ QS 100 x ∧ QS 100 y ∧ r = encQ ((x + y) * (1 / 2))
def dOrder (ds : List PyData) (r : PyData) : Prop := ∃ (ws : List Str) (len : Int) (w : Str), ds = [encX ws len, .str w] ∧ XOk ws len ∧ r = encPl (placeX ws len (some w))
def dPlaceX (ds : List PyData) (r : PyData) : Prop := ∃ (ws : List Str) (len : Int) (c : Option Str), ds = [encX ws len, encC c] ∧ XOk ws len ∧ r = encPl (placeX ws len c)
theorem dStretch_len : ∀ ds r, dStretch ds r → ds.length = 2 := by rintro _ _ ⟨_, _, _, rfl, _⟩; rfl
theorem dAmid_len : ∀ ds r, dAmid ds r → ds.length = 1 := by rintro _ _ ⟨_, _, rfl, _⟩; rfl
theorem dOrder_len : ∀ ds r, dOrder ds r → ds.length = 2 := by rintro _ _ ⟨_, _, _, rfl, _⟩; rfl
theorem dPlaceX_len : ∀ ds r, dPlaceX ds r → ds.length = 2 := by rintro _ _ ⟨_, _, _, rfl, _⟩; rfl
section
variable {K : PySem.W.Frag} {C B : List Addr} {σ : L2.St} {H H0 H' : Hp} {G : List Sl} {ta tb tc td te tx tl : TE} {x y lo hi c : Rat} {a b : Int} {E : XK}
theorem inV_str (w : Str) : ∀ ws : List Str, inV (.str w) (ws.map V.str) = decide (w ∈ ws)
  | [] => by
    unfold inV
    simp
  | z :: ws => by
    have ih := inV_str w ws
    unfold inV at ih ⊢
    rw [List.map_cons, List.any_cons, ih, Bool.eq_iff_iff]
    have e : (eqV (V.str z) (V.str w) = true) ↔ w = z := by
      show ((z == w) = true) ↔ _
      rw [beq_iff_eq]
      exact eq_comm
    simp [e]
theorem flat_strs (ws : List Str) : (ws.map V.str).all flatV = true := by
  rw [List.all_map, List.all_eq_true]
  intro _ _
  rfl
theorem ev_notInS {w : Str} {ws : List Str} (ha : Ev B ta σ H (.str w)) (hb : Ev B tb σ H (.list (ws.map .str))) : Ev B (tOp (rIn K true) ta tb) σ H (.bool (!decide (w ∈ ws))) := ev_op ha hb fun H1 _ v w' r1 r2 Q q => by
  cases r1
  cases r2 with
  | lst h na r =>
    have e := RA.strs r
    subst e
    refine ⟨_, _, rfl, .inl (Or.inl (Or.inl h)), rfl, flat_strs ws, ?_⟩
    rw [if_pos rfl, inV_str]
    exact q _ H1 (Same.refl H1) (.bl _)
theorem ev_indexS {w : Str} {ws : List Str} (ha : Ev B ta σ H (.list (ws.map .str))) (hb : Ev B tb σ H (.str w)) (hw : w ∈ ws) : Ev B (tBM K "list" (rIndex K) ta (tCons tb tNil)) σ H (.int (ws.idxOf w : Int)) := fun H1 e Q q => ha H1 e _ fun v H2 e2 r2 => by
  cases r2 with
  | lst h na r =>
    refine ⟨.inl ⟨rfl, _, Or.inl (Or.inl h)⟩, hb H2 (e.trans e2) _ fun u H3 e3 r3 => ?_⟩
    cases r3
    have e4 := RA.strs r
    subst e4
    have hi : ws.idxOf w < ws.length := List.idxOf_lt_length_of_mem hw
    refine ⟨_, ws.map V.str, .str w, ws.idxOf w, .str w, rfl, rfl, Or.inl (Or.inl (e3 _ _ h)), rfl, flat_strs ws, ?_, by show (w == w) = true; exact beq_self_eq_true w, fun m z' hm hz => ?_, q _ H3 (e2.trans e3) (.int _)⟩
    · rw [List.getElem?_map, List.getElem?_eq_getElem hi, List.getElem_idxOf hi]
      rfl
    · rw [List.getElem?_map] at hz
      have hm2 : m < ws.length := Nat.lt_trans hm hi
      rw [List.getElem?_eq_getElem hm2] at hz
      obtain rfl := Option.some.inj hz
      show (ws[m] == w) = false
      rw [beq_eq_false_iff_ne]
      intro z
      have := List.not_of_lt_findIdx (p := (· == w)) hm
      simp [z] at this
theorem ev_stretch {ws : List Str} {len : Int} {w : Str} (ht : Trk B H) (ha : Ev B ta σ H (encX ws len)) (hb : Ev B tb σ H (.str w)) (h1 : XOk ws len) (h2 : w ∈ ws) : Ev B (tCall (SpD dStretch) [] E (tCons ta (tCons tb tNil))) σ H (.tuple [encQ (strB ws len (ws.idxOf w)), encQ (strB ws len (ws.idxOf w + 1))]) := ev_call ht (ea_cons ha (ea_cons hb ea_nil)) ⟨ws, len, w, rfl, h1, h2, rfl⟩
theorem ev_amid (ht : Trk B H) (ha : Ev B ta σ H (.tuple [encQ x, encQ y])) (h1 : QS 100 x) (h2 : QS 100 y) : Ev B (tCall (SpD dAmid) [] E (tCons ta tNil)) σ H (encQ ((x + y) * (1 / 2))) := ev_call ht (ea_cons ha ea_nil) ⟨x, y, rfl, h1, h2, rfl⟩
theorem ev_order {ws : List Str} {len : Int} {w : Str} (ht : Trk B H) (ha : Ev B ta σ H (encX ws len)) (hb : Ev B tb σ H (.str w)) (h1 : XOk ws len) : Ev B (tCall (SpD dOrder) [] E (tCons ta (tCons tb tNil))) σ H (encPl (placeX ws len (some w))) := ev_call ht (ea_cons ha (ea_cons hb ea_nil)) ⟨ws, len, w, rfl, h1, rfl⟩
theorem ev_placeX {ws : List Str} {len : Int} {c : Option Str} (ht : Trk B H) (ha : Ev B ta σ H (encX ws len)) (hb : Ev B tb σ H (encC c)) (h1 : XOk ws len) : Ev B (tCall (SpD dPlaceX) [] E (tCons ta (tCons tb tNil))) σ H (encPl (placeX ws len c)) := ev_call ht (ea_cons ha (ea_cons hb ea_nil)) ⟨ws, len, c, rfl, h1, rfl⟩
theorem ev_pairC (ht : Trk B H) (h : Ev B ta σ H (.int a)) (h' : Ev B tb σ H (.int b)) (e : PyData.tuple [.int a, .int b] = encQ x) : Ev B (tTup (tCons ta (tCons tb tNil))) σ H (encQ x) := Ev.is (ev_tup ht (ea_cons h (ea_cons h' ea_nil)) (Nat.le_of_ble_eq_true rfl)) e
end
theorem enc_half : PyData.tuple [.int 1, .int 2] = encQ (1 / 2) := by
  unfold encQ
  rw [show (1 / 2 : Rat).num = 1 by decide +kernel, show (1 / 2 : Rat).den = 2 by decide +kernel]
  rfl
theorem qs_half {n : Nat} (h : 2 ≤ n := by decide) : QS n (1 / 2 : Rat) := by
  constructor
  · rw [show (1 / 2 : Rat).num = 1 by decide +kernel]
    exact sz_mono (sz_lit (n := 2) (by decide)) h
  · rw [show (1 / 2 : Rat).den = 2 by decide +kernel]
    exact sz_mono (sz_lit (n := 2) (by decide)) h
theorem placeX_in {ws : List Str} {len : Int} {w : Str} (h : w ∈ ws) : placeX ws len (some w) = .at_ ((strB ws len (ws.idxOf w) + strB ws len (ws.idxOf w + 1)) * (1 / 2)) := if_pos h
theorem placeX_out {ws : List Str} {len : Int} {w : Str} (h : ¬ w ∈ ws) : placeX ws len (some w) = .no .unknown := if_neg h
theorem strB_qs {ws : List Str} {len : Int} (h : XOk ws len) {k : Nat} (hk : k ≤ 61) : QS 19 (strB ws len k) := by
  have := h.n1
  have := h.n60
  refine qs_frac (by omega) ?_ (by unfold Sz; omega)
  exact sz_mul (n := 7) (m := 12) (sz_nat (by omega)) (by unfold Sz; have := h.l1; have := h.l4; omega)

local macro_rules | `(tactic| walk_at "ev") => `(tactic| first
  | with_reducible exact ev_int
  | with_reducible exact ev_str
  | with_reducible exact ev_bl
  | with_reducible exact ev_non
  | ((with_reducible refine' ev_var (by assumption) ?_); rfl)
  | ((with_reducible refine ev_I0 (i := ?i) (j := ?j) ?h1 ?h2); (case h1 => walk_at "ev"); (case h2 => walk_at "ev"))
  | ((with_reducible refine ev_I0b (i := ?i) (j := ?j) ?h1 ?h2); (case h1 => walk_at "ev"); (case h2 => walk_at "ev"))
  | ((with_reducible refine ev_eqI (i := ?i) (j := ?j) ?h1 ?h2); (case h1 => walk_at "ev"); (case h2 => walk_at "ev"))
  | ((with_reducible refine ev_neI (i := ?i) (j := ?j) ?h1 ?h2); (case h1 => walk_at "ev"); (case h2 => walk_at "ev"))
  | ((with_reducible refine ev_neg (i := ?i) ?h1); (case h1 => walk_at "ev"))
  | ((with_reducible refine ev_fst (x := ?x) ?h1); (case h1 => walk_at "ev"))
  | ((with_reducible refine ev_snd (x := ?x) ?h1); (case h1 => walk_at "ev"))
  | ((with_reducible refine ev_fstP (p := ?x) ?h1); (case h1 => walk_at "ev"))
  | ((with_reducible refine ev_sndP (p := ?x) ?h1); (case h1 => walk_at "ev"))
  | ((with_reducible refine ev_ixT (ds := ?ds) (i := ?i) ?h1 ?h2 ?h3); (case h1 => walk_at "ev"); (case h2 => walk_at "ev"); (case h3 => rfl))
  | ((with_reducible refine ev_ixL (ds := ?ds) (i := ?i) ?h1 ?h2 ?h3); (case h1 => walk_at "ev"); (case h2 => walk_at "ev"); (case h3 => rfl))
  | ((with_reducible refine ev_pair1 (a := ?a) (Evn.trk (by assumption)) ?h1); (case h1 => walk_at "ev"))
  | ((with_reducible refine ev_abs (i := ?i) ?h1); (case h1 => walk_at "ev")))

section
variable {P : Program} {w : World} {K : PySem.W.Frag} {mg : Str → Option Value} {base : Heap}
theorem sc_along_straight : FnScope ["lo", "hi", "cell", "long"] ["lo", "hi", "cell", "long"] (defScope s_along_straight) := ⟨rfl, rfl, rfl, by decide +kernel, rfl, by decide +kernel, by decide +kernel⟩
theorem ok_along_straight (F : Fn K mg "along_straight" s_along_straight) (c_under : Cal P w K mg base 1 "under" ["one", "other"] (SpD dUnder)) (c_over : Cal P w K mg base 3 "over" ["one", "other"] (SpD dOver)) (c_minus : Cal P w K mg base 3 "minus" ["one", "other"] (SpD dMinus)) (c_times : Cal P w K mg base 3 "times" ["one", "other"] (SpD dTimes)) : Cal P w K mg base 4 "along_straight" ["lo", "hi", "cell", "long"] (SpD dAlongS) := by
  refine cal_D F sc_along_straight (fun _ _ _ _ _ _ us hl => match us, hl with | [_, _, _, _], _ => rfl) dAlongS_len (by decide) ⟨_, fun f cdv A outer s H E hr =>
      (pss_cons (ps_if (PW.pt (pw_or (pt_val (pe_cal c_under hr (by decide) (by rfl) (pa_cons (pv 2) (pa_cons (pv 0) pa_nil)))) (pw_or1 (pt_val (pe_cal c_under hr (by decide) (by rfl) (pa_cons (pv 1) (pa_cons (pv 2) pa_nil))))))) (pss_one (ps_ret pe_non)) pss_nil)
      (pss_one (ps_ret (pe_cal c_over hr (by decide) (by rfl) (pa_cons (pe_cal c_times hr (by decide) (by rfl) (pa_cons (pe_cal c_minus hr (by decide) (by rfl) (pa_cons (pv 2) (pa_cons (pv 0) pa_nil))) (pa_cons (pe_tup (pa_cons (pv 3) (pa_cons pe_int pa_nil))) pa_nil))) (pa_cons (pe_cal c_minus hr (by decide) (by rfl) (pa_cons (pv 1) (pa_cons (pv 0) pa_nil))) pa_nil)))))), fun ds r hd B H σ D E0 q => ?_⟩
  obtain ⟨lo, hi, c, long, rfl, q1, q2, q3, hl, hs, rfl⟩ := hd
  refine ss_ifR E0 (et_or (et_B (ev_under E0.trk (x := c) (y := lo) (by walk_at "ev") (by walk_at "ev") (q3.mono (by decide)) (q1.mono (by decide)))) (fun _ => et_B (ev_under E0.trk (x := hi) (y := c) (by walk_at "ev") (by walk_at "ev") (q2.mono (by decide)) (q3.mono (by decide))))) (fun hb H1 E1 => ?_) (fun hb H1 E1 => ?_)
  · rw [Bool.or_eq_true, decide_eq_true_iff, decide_eq_true_iff] at hb
    refine s_ret E1 (Ev.is ev_non ?_) q
    unfold alongS
    rw [if_pos hb]
    rfl
  · rw [Bool.or_eq_false_iff, decide_eq_false_iff_not, decide_eq_false_iff_not] at hb
    have e : alongS lo hi c long = some ((c - lo) * (long : Rat) / (hi - lo)) := if_neg (by
      rintro (z | z)
      · exact hb.1 z
      · exact hb.2 z)
    have g : 0 < hi - lo := by grind
    have s1 := qs_sub q3 q1
    have s2 := qs_mul s1 (qs_int hs (by decide))
    have s3 := qs_sub q2 q1
    refine s_ret E1 (Ev.is (ev_over E1.trk (ev_times E1.trk (ev_minus E1.trk (x := c) (y := lo) (by walk_at "ev") (by walk_at "ev") (q3.mono (by decide)) (q1.mono (by decide))) (ev_pair1 (a := long) E1.trk (by walk_at "ev")) (s1.mono (by decide)) ((qs_int hs (by decide)).mono (by decide)))
      (ev_minus E1.trk (x := hi) (y := lo) (by walk_at "ev") (by walk_at "ev") (q2.mono (by decide)) (q1.mono (by decide))) (s2.mono (by decide)) (s3.mono (by decide)) g) ?_) q
    rw [e]
    rfl
theorem sc_power_of : FnScope ["base", "many", "found", "k"] ["base", "many"] (defScope s_power_of) := ⟨rfl, rfl, rfl, by decide +kernel, rfl, by decide +kernel, by decide +kernel⟩
theorem ok_power_of (F : Fn K mg "power_of" s_power_of) (m_range : mg "range" = none) : Cal P w K mg base 1 "power_of" ["base", "many"] (SpD dPower) := by
  refine cal_D F sc_power_of (fun _ _ _ _ _ _ us hl => match us, hl with | [_, _], _ => rfl) dPower_len (by decide) ⟨_, fun f cdv A outer s H E hr =>
      (pss_cons (ps_set (i := 2) sc_power_of.nd rfl (Or.inl rfl) pe_int)
      (pss_cons (ps_for PassesOwn.never rfl (pi_range1 (by rfl) m_range (pa_cons (pv 1) pa_nil)) (pg_name (i := 3) sc_power_of.nd rfl (Or.inl rfl))
        (pss_one (ps_set (i := 2) sc_power_of.nd rfl (Or.inl rfl) (pe_op op_mulW (pv 2) (pv 0)))))
      (pss_one (ps_ret (pv 2))))), fun ds r hd B H σ D E0 q => ?_⟩
  obtain ⟨b, n, rfl, hb, hn0, hn, rfl⟩ := hd
  refine ss_set E0 (d := .int 1) (by walk_at "ev") (fun σ1 H1 E1 => ?_)
  refine ss_forR B (ea_cons (d := .int n) (by walk_at "ev") ea_nil) ⟨by omega, by omega⟩ (fun i σ' H' => ∃ s, Evn [] H B σ' H' [.dat (.int b), .dat (.int n), .dat (.int (b ^ i)), s]) (fun H2 e => ⟨.no, by rw [Int.pow_zero]; exact E1.same e⟩) (fun i σ' H' hi ⟨s, E2⟩ => ?_) (fun σ' H' ⟨s, E2⟩ => ?_)
  · have E3 := E2.set (i := 3) (v := .int (i : Int)) (.int _)
    refine s_set E3 (ev_I (i := b ^ i) (j := b) (by walk_at "ev") (by walk_at "ev") (cm (pow_sz hb (by omega)) (sz_lit (n := 4) (by rcases hb with z | z <;> subst z <;> decide)) (by decide) (by decide))) (fun σ3 H3 E4 => ⟨.dat (.int (i : Int)), by rw [Int.pow_succ]; exact E4⟩)
  · exact s_ret E2 (d := .int (b ^ n.toNat)) (by walk_at "ev") q

theorem sc_along_turns : FnScope ["scale", "cell", "name", "base", "low", "many", "length", "top", "bottom", "turn", "rest"] ["scale", "cell"] (defScope s_along_turns) := ⟨rfl, rfl, rfl, by decide +kernel, rfl, by decide +kernel, by decide +kernel⟩
theorem ok_along_turns (F : Fn K mg "along_turns" s_along_turns) (c_power_of : Cal P w K mg base 1 "power_of" ["base", "many"] (SpD dPower)) (c_lowest : Cal P w K mg base 2 "lowest" ["top", "bottom"] (SpD dLowest)) (c_times : Cal P w K mg base 3 "times" ["one", "other"] (SpD dTimes)) (c_plus : Cal P w K mg base 3 "plus" ["one", "other"] (SpD dPlus)) : Cal P w K mg base 4 "along_turns" ["scale", "cell"] (SpD dTurns) := by
  refine cal_D F sc_along_turns (fun _ _ _ _ _ _ us hl => match us, hl with | [_, _], _ => rfl) dTurns_len (by decide) ⟨_, fun f cdv A outer s H E hr =>
      (pss_cons (ps_asg (pv 0) (kpg_tup (K := K) (n := 5) rfl (by rfl) (pgs_cons (pg_name (i := 2) sc_along_turns.nd rfl (Or.inl rfl)) (pgs_cons (pg_name (i := 3) sc_along_turns.nd rfl (Or.inl rfl)) (pgs_cons (pg_name (i := 4) sc_along_turns.nd rfl (Or.inl rfl)) (pgs_cons (pg_name (i := 5) sc_along_turns.nd rfl (Or.inl rfl)) (pgs_cons (pg_name (i := 6) sc_along_turns.nd rfl (Or.inl rfl)) pgs_nil)))))))
      (pss_cons (ps_if (pt_cmpR op_le (pe_ix (kx_tup (K := K) rfl) (pv 1) pe_int (fun _ _ => rfl)) pe_int (nomark _)) (pss_one (ps_ret pe_str)) pss_nil)
      (pss_cons (ps_set (i := 7) sc_along_turns.nd rfl (Or.inl rfl) (pe_op op_mulW (pe_ix (kx_tup (K := K) rfl) (pv 1) pe_int (fun _ _ => rfl)) (pe_cal c_power_of hr (by decide) (by rfl) (pa_cons (pv 3) (pa_cons (pe_op op_sub pe_int (pv 4)) pa_nil)))))
      (pss_cons (ps_set (i := 8) sc_along_turns.nd rfl (Or.inl rfl) (pe_op op_mulW (pe_ix (kx_tup (K := K) rfl) (pv 1) pe_int (fun _ _ => rfl)) (pe_cal c_power_of hr (by decide) (by rfl) (pa_cons (pv 3) (pa_cons (pv 4) pa_nil)))))
      (pss_cons (ps_if (pt_cmpR op_lt (pv 7) (pv 8) (nomark _)) (pss_one (ps_ret pe_str)) pss_nil)
      (pss_cons (ps_set (i := 9) sc_along_turns.nd rfl (Or.inl rfl) pe_int)
      (pss_cons (ps_while PassesOwn.never (PW.pt (pw_and (pt_cmpR op_lt (pv 9) (pv 5) (nomark _)) (pw_and1 (pt_cmpR op_le (pe_op op_mulW (pv 8) (pv 3)) (pv 7) (nomark _))))) (pss_cons (ps_set (i := 8) sc_along_turns.nd rfl (Or.inl rfl) (pe_op op_mulW (pv 8) (pv 3)))
        (pss_one (ps_set (i := 9) sc_along_turns.nd rfl (Or.inl rfl) (pe_op op_add (pv 9) pe_int)))))
      (pss_cons (ps_if (pt_cmpR op_eq (pv 9) (pv 5) (nomark _)) (pss_cons (ps_if (pt_cmpR op_gt (pv 7) (pv 8) (nomark _)) (pss_one (ps_ret pe_str)) pss_nil)
        (pss_one (ps_ret (pe_tup (pa_cons (pv 6) (pa_cons pe_int pa_nil)))))) pss_nil)
      (pss_cons (ps_set (i := 10) sc_along_turns.nd rfl (Or.inl rfl) (pe_cal c_lowest hr (by decide) (by rfl) (pa_cons (pe_op op_sub (pv 7) (pv 8)) (pa_cons (pe_op op_mulW (pv 8) (pe_op op_sub (pv 3) pe_int)) pa_nil))))
      (pss_one (ps_ret (pe_cal c_times hr (by decide) (by rfl) (pa_cons (pe_cal c_plus hr (by decide) (by rfl) (pa_cons (pe_tup (pa_cons (pv 9) (pa_cons pe_int pa_nil))) (pa_cons (pv 10) pa_nil))) (pa_cons (pe_cal c_lowest hr (by decide) (by rfl) (pa_cons (pv 6) (pa_cons (pv 5) pa_nil))) pa_nil)))))))))))))), fun ds r hd B H σ D E0 q => ?_⟩
  obtain ⟨b, low, many, len, c, rfl, hok, hc, rfl⟩ := hd
  obtain ⟨hb, hl1, hl2, hm1, hm2, hn1, hn2⟩ := id hok
  have hb2 : 2 ≤ b := by omega
  have sb : Sz 4 b := sz_lit (by rcases hb with z | z <;> subst z <;> decide)
  refine ss_unp E0 (d := encYS (.turns b low many len)) (by walk_at "ev") (fun v1 H1 E1 r1 => g_tup r1 rfl fun vs a0 => gs_cons E1 a0 fun σ2 vs E2 a0 => gs_cons E2 a0 fun σ3 vs E3 a0 => gs_cons E3 a0 fun σ4 vs E4 a0 => gs_cons E4 a0 fun σ5 vs E5 a0 => gs_cons E5 a0 fun σ6 vs E6 a0 => gs_nil a0 ?_)
  have E6 : Evn [] H B σ6 H1 [.dat (encYS (.turns b low many len)), .dat (encQ c), .dat (.str "turns"), .dat (.int b), .dat (.int low), .dat (.int many), .dat (.int len), .no, .no, .no, .no] := E6
  clear E1 E2 E3 E4 E5 r1
  refine ss_ifR E6 (et_test (ev_I0b (i := c.num) (j := 0) (by walk_at "ev") (by walk_at "ev"))) (fun hb H2 E7 => ?_) (fun hb H2 E7 => ?_)
  · refine s_ret E7 (Ev.is (ev_str (s := "nought")) ?_) q
    unfold placeT
    rw [if_pos (of_decide_eq_true hb)]
    rfl
  have h0 : ¬ c.num ≤ 0 := of_decide_eq_false hb
  have sq := pw_sz (n := -low) ‹b = 2 ∨ b = 10› (by omega)
  have sp := pw_sz (n := low) ‹b = 2 ∨ b = 10› (by omega)
  have pq := pw_pos (show 0 < b by omega) (-low)
  have pp := pw_pos (show 0 < b by omega) low
  have pd := den_pos c
  refine ss_set E7 (d := .int (c.num * pw b (-low))) (ev_I (i := c.num) (j := pw b (-low)) (by walk_at "ev") (ev_power E7.trk (a := b) (b := -low) (by walk_at "ev") (Ev.is (ev_I0 (i := 0) (j := low) (by walk_at "ev") (by walk_at "ev")) (by rw [Int.zero_sub])) ‹_› (by omega) (by omega)) (cm hc.num sq (by decide) (by decide))) (fun σ8 H3 E8 => ?_)
  refine ss_set E8 (d := .int ((c.den : Int) * pw b low)) (ev_I (i := (c.den : Int)) (j := pw b low) (by walk_at "ev") (ev_power E8.trk (a := b) (b := low) (by walk_at "ev") (by walk_at "ev") ‹_› (by omega) (by omega)) (cm hc.den sp (by decide) (by decide))) (fun σ9 H4 E9 => ?_)
  have E9 : Evn [] H B σ9 H4 [.dat (encYS (.turns b low many len)), .dat (encQ c), .dat (.str "turns"), .dat (.int b), .dat (.int low), .dat (.int many), .dat (.int len), .dat (.int (c.num * pw b (-low))), .dat (.int ((c.den : Int) * pw b low)), .no, .no] := E9
  clear E6 E7 E8
  have st : Sz 2301 (c.num * pw b (-low)) := sz_mul hc.num sq
  have sb0 : Sz 2301 ((c.den : Int) * pw b low) := sz_mul hc.den sp
  have hbot : 0 < (c.den : Int) * pw b low := Int.mul_pos pd pp
  rw [show placeT b low many len c = placeT2 b many len (c.num * pw b (-low)) ((c.den : Int) * pw b low) from if_neg h0] at q
  generalize c.num * pw b (-low) = top at *
  generalize (c.den : Int) * pw b low = bot at *
  refine ss_ifR E9 (et_test (ev_I0b (i := top) (j := bot) (by walk_at "ev") (by walk_at "ev"))) (fun hb H5 E10 => ?_) (fun hb H5 E10 => ?_)
  · refine s_ret E10 (Ev.is (ev_str (s := "outside")) ?_) q
    unfold placeT2
    rw [if_pos (of_decide_eq_true hb)]
    rfl
  have h1 : ¬ top < bot := of_decide_eq_false hb
  unfold placeT2 at q
  rw [if_neg h1] at q
  refine ss_set E10 (d := .int 0) (by walk_at "ev") (fun σ11 H6 E11 => ?_)
  refine ss_while B (fun m σ' H' => ∃ t : Nat, t ≤ many.toNat ∧ m = many.toNat - t ∧ tcount b top (many.toNat - t) (bot * b ^ t) + t = tcount b top many.toNat bot ∧ Sz 2301 (bot * b ^ t) ∧
    Evn [] H B σ' H' [.dat (encYS (.turns b low many len)), .dat (encQ c), .dat (.str "turns"), .dat (.int b), .dat (.int low), .dat (.int many), .dat (.int len), .dat (.int top), .dat (.int (bot * b ^ t)), .dat (.int (t : Int)), .no]) many.toNat
    ⟨0, by omega, by omega, by rw [Int.pow_zero, Int.mul_one]; rfl, by rw [Int.pow_zero, Int.mul_one]; exact sb0, by rw [Int.pow_zero, Int.mul_one]; exact E11⟩ (fun m σ' H' ⟨t, ht, em, ec, ss, E12⟩ => ?_)
  have c1 := cm ss sb (by decide) (by decide)
  refine ⟨_, et_and (et_test (ev_I0b (i := (t : Int)) (j := many) (by walk_at "ev") (by walk_at "ev"))) (fun _ => et_test (ev_I0b (i := bot * b ^ t * b) (j := top) (ev_I (i := bot * b ^ t) (j := b) (by walk_at "ev") (by walk_at "ev") c1) (by walk_at "ev"))), fun hc2 H7 e => ?_, fun hc2 H7 e => ?_⟩
  · rw [Bool.and_eq_true, decide_eq_true_iff, decide_eq_true_iff] at hc2
    have E13 := E12.same e
    have e1 : bot * b ^ t * b = bot * b ^ (t + 1) := by rw [Int.pow_succ, Int.mul_assoc]
    have pt := Int.mul_pos hbot (pow_pos' (show 0 < b by omega) (t + 1))
    refine ⟨_, fun σ2 H2 h => h, ss_set E13 (d := .int (bot * b ^ (t + 1))) (Ev.is (ev_I (i := bot * b ^ t) (j := b) (by walk_at "ev") (by walk_at "ev") c1) (by rw [e1])) (fun σ14 H8 E14 => s_set E14 (d := .int ((t : Int) + 1)) (ev_I0 (i := (t : Int)) (j := 1) (by walk_at "ev") (by walk_at "ev")) (fun σ15 H9 E15 => ?_))⟩
    refine ⟨many.toNat - (t + 1), by omega, t + 1, by omega, rfl, ?_, ?_, E15⟩
    · rw [← ec]
      obtain ⟨f, hf⟩ : ∃ f, many.toNat - t = f + 1 := ⟨many.toNat - t - 1, by omega⟩
      rw [hf, show many.toNat - (t + 1) = f by omega]
      show _ = (if bot * b ^ t * b ≤ top then tcount b top f (bot * b ^ t * b) + 1 else 0) + t
      rw [if_pos hc2.2, e1]
      omega
    · refine sz_le st ?_
      rw [← e1] at pt ⊢
      have := hc2.2
      omega
  have E13 := E12.same e
  rw [Bool.and_eq_false_iff, decide_eq_false_iff_not, decide_eq_false_iff_not] at hc2
  have et : tcount b top many.toNat bot = t := by
    rw [← ec]
    cases hf : many.toNat - t with
    | zero =>
      show 0 + t = t
      omega
    | succ f =>
      show (if bot * b ^ t * b ≤ top then tcount b top f (bot * b ^ t * b) + 1 else 0) + t = t
      rw [if_neg (by rcases hc2 with z | z <;> omega)]
      omega
  rw [et] at q
  unfold placeT3 at q
  clear E0 E9 E10 E11 E12 ec
  refine ss_ifR E13 (et_test (ev_eqI (i := (t : Int)) (j := many) (by walk_at "ev") (by walk_at "ev"))) (fun hb2 H8 E14 => ?_) (fun hb2 H8 E14 => ?_)
  · rw [if_pos (of_decide_eq_true hb2)] at q
    refine ss_ifR E14 (et_test (ev_I0b (i := top) (j := bot * b ^ t) (by walk_at "ev") (by walk_at "ev"))) (fun hb3 H9 E15 => ?_) (fun hb3 H9 E15 => ?_)
    · rw [if_pos (of_decide_eq_true hb3)] at q
      exact s_ret E15 (ev_str (s := "outside")) q
    · rw [if_neg (of_decide_eq_false hb3)] at q
      exact s_ret E15 (ev_pair1 (a := len) E15.trk (by walk_at "ev")) q
  · rw [if_neg (of_decide_eq_false hb2)] at q
    have ps := Int.mul_pos hbot (pow_pos' (show 0 < b by omega) t)
    have sb1 : Sz 5 (b - 1) := sz_lit (by rcases ‹b = 2 ∨ b = 10› with z | z <;> subst z <;> decide)
    have pm : 0 < bot * b ^ t * (b - 1) := Int.mul_pos ps (by omega)
    have sm := sz_mul ss sb1
    have sd := sz_sub st ss
    have hq1 : QS 2306 (((top - bot * b ^ t : Int) : Rat) / ((bot * b ^ t * (b - 1) : Int) : Rat)) := qs_frac pm (sz_mono sd (by decide)) sm
    refine ss_set E14 (d := encQ (((top - bot * b ^ t : Int) : Rat) / ((bot * b ^ t * (b - 1) : Int) : Rat))) (ev_lowest E14.trk (ev_I0 (i := top) (j := bot * b ^ t) (by walk_at "ev") (by walk_at "ev")) (ev_I (i := bot * b ^ t) (j := b - 1) (by walk_at "ev") (ev_I0 (i := b) (j := 1) (by walk_at "ev") (by walk_at "ev")) (cm ss sb1 (by decide) (by decide))) pm (sz_mono sm (by decide))) (fun σ15 H9 E15 => ?_)
    have sT : Sz 12 (t : Int) := sz_nat (by omega)
    have sL : Sz 12 len := by unfold Sz; omega
    have sM : Sz 12 many := by unfold Sz; omega
    exact s_ret E15 (ev_times E15.trk (ev_plus E15.trk (ev_pair1 (a := (t : Int)) E15.trk (by walk_at "ev")) (y := ((top - bot * b ^ t : Int) : Rat) / ((bot * b ^ t * (b - 1) : Int) : Rat)) (by walk_at "ev") ((qs_int sT (by decide)).mono (by decide)) (hq1.mono (by decide)))
      (ev_lowest E15.trk (a := len) (b := many) (by walk_at "ev") (by walk_at "ev") (by omega) (sz_mono sM (by decide))) ((qs_add (qs_int sT (by decide)) hq1).mono (by decide)) ((qs_frac (by omega) sL sM).mono (by decide))) q

theorem sc_along_pieces : FnScope ["pieces", "cell", "lo", "hi", "begin", "end", "found"] ["pieces", "cell"] (defScope s_along_pieces) := ⟨rfl, rfl, rfl, by decide +kernel, rfl, by decide +kernel, by decide +kernel⟩
theorem ok_along_pieces (F : Fn K mg "along_pieces" s_along_pieces) (c_under : Cal P w K mg base 1 "under" ["one", "other"] (SpD dUnder)) (c_along_straight : Cal P w K mg base 4 "along_straight" ["lo", "hi", "cell", "long"] (SpD dAlongS)) (c_plus : Cal P w K mg base 3 "plus" ["one", "other"] (SpD dPlus)) : Cal P w K mg base 5 "along_pieces" ["pieces", "cell"] (SpD dPieces) := by
  refine cal_D F sc_along_pieces (fun _ _ _ _ _ _ us hl => match us, hl with | [_, _], _ => rfl) dPieces_len (by decide) ⟨_, fun f cdv A outer s H E hr =>
      (pss_cons (ps_if (PW.pt (pw_or (pt_val (pe_cal c_under hr (by decide) (by rfl) (pa_cons (pv 1) (pa_cons (pe_ix (kx_tup (K := K) rfl) (pe_ix (kx_list (K := K) rfl) (pv 0) pe_int (fun _ _ => rfl)) pe_int (fun _ _ => rfl)) pa_nil)))) (pw_or1 (pt_val (pe_cal c_under hr (by decide) (by rfl) (pa_cons (pe_ix (kx_tup (K := K) rfl) (pe_ix (kx_list (K := K) rfl) (pv 0) (pe_un un_neg pe_int) (fun _ _ => rfl)) pe_int (fun _ _ => rfl)) (pa_cons (pv 1) pa_nil))))))) (pss_one (ps_ret pe_str)) pss_nil)
      (pss_cons (ps_for PassesOwn.never rfl (kpi_list (K := K) rfl (pv 0)) (kpg_tup (K := K) (n := 4) rfl (by rfl) (pgs_cons (pg_name (i := 2) sc_along_pieces.nd rfl (Or.inl rfl)) (pgs_cons (pg_name (i := 3) sc_along_pieces.nd rfl (Or.inl rfl)) (pgs_cons (pg_name (i := 4) sc_along_pieces.nd rfl (Or.inl rfl)) (pgs_cons (pg_name (i := 5) sc_along_pieces.nd rfl (Or.inl rfl)) pgs_nil)))))
        (pss_cons (ps_set (i := 6) sc_along_pieces.nd rfl (Or.inl rfl) (pe_cal c_along_straight hr (by decide) (by rfl) (pa_cons (pv 2) (pa_cons (pv 3) (pa_cons (pv 1) (pa_cons (pe_op op_sub (pv 5) (pv 4)) pa_nil))))))
        (pss_one (ps_if (pt_cmpR op_notN (pv 6) pe_non (nomark _)) (pss_one (ps_ret (pe_cal c_plus hr (by decide) (by rfl) (pa_cons (pe_tup (pa_cons (pv 4) (pa_cons pe_int pa_nil))) (pa_cons (pv 6) pa_nil))))) pss_nil))))
      (pss_one (ps_ret pe_str)))), fun ds r hd B H σ D E0 q => ?_⟩
  obtain ⟨ps, len, c, rfl, hok, hc, rfl⟩ := hd
  obtain ⟨hp1, hp2, hr, hn1, hn2⟩ := id hok
  obtain ⟨p0, r0, rfl⟩ : ∃ p0 r0, ps = p0 :: r0 := by
    cases ps with
    | nil => simp at hp1
    | cons p r => exact ⟨p, r, rfl⟩
  obtain ⟨pl, el, hl⟩ := last_of (p0 :: r0) (by simp)
  have all := rising_all _ _ _ hr
  have m0 := all p0 (by simp)
  have ml := all pl (List.mem_of_getElem? el)
  have a0 : atI ((p0 :: r0).map encPc) 0 = some (encPc p0) := atI_nat (j := 0) rfl
  have al : atI ((p0 :: r0).map encPc) (-1) = some (encPc pl) := atI_neg1 _ (by simp) (by rw [List.length_map, List.getElem?_map, el]; rfl)
  refine ss_ifR E0 (et_or (et_B (ev_under E0.trk (x := c) (y := p0.1) (by walk_at "ev") (ev_ixT (ds := [encQ p0.1, encQ p0.2.1, .int p0.2.2.1, .int p0.2.2.2]) (ev_ixL (d := encPc p0) (by walk_at "ev") (by walk_at "ev") a0) (by walk_at "ev") rfl) (hc.mono (by decide)) (m0.1.mono (by decide))))
    (fun _ => et_B (ev_under E0.trk (x := pl.2.1) (y := c) (ev_ixT (ds := [encQ pl.1, encQ pl.2.1, .int pl.2.2.1, .int pl.2.2.2]) (ev_ixL (d := encPc pl) (by walk_at "ev") (by walk_at "ev") al) (by walk_at "ev") rfl) (by walk_at "ev") (ml.2.1.mono (by decide)) (hc.mono (by decide))))) (fun hb H1 E1 => ?_) (fun hb H1 E1 => ?_)
  · rw [Bool.or_eq_true, decide_eq_true_iff, decide_eq_true_iff, hl] at hb
    refine s_ret E1 (Ev.is (ev_str (s := "outside")) ?_) q
    unfold placeB
    rw [if_pos (show c < firstLo (p0 :: r0) ∨ _ from hb)]
    rfl
  rw [Bool.or_eq_false_iff, decide_eq_false_iff_not, decide_eq_false_iff_not, hl] at hb
  have e0 : placeB (p0 :: r0) c = (match alongPs c (p0 :: r0) with
    | some q => .at_ q
    | none => .no .gap) := if_neg (by
      rintro (z | z)
      · exact hb.1 z
      · exact hb.2 z)
  rw [e0] at q
  clear e0 hb a0 al
  generalize p0 :: r0 = ps at *
  refine ss_forL (ds := ps.map encPc) (by walk_at "ev") (fun Hb i σ' H' => alongPs c ps = alongPs c (ps.drop i) ∧ ∃ s1 s2 s3 s4 s5, Evn [] Hb B σ' H' [.dat (.list (ps.map encPc)), .dat (encQ c), s1, s2, s3, s4, s5])
    (fun Hb e => ⟨rfl, _, _, _, _, _, E1.base e []⟩) (fun Hb i σ' H' e ⟨_, _, _, _, _, _, E2⟩ => E2.ex.mono (by simp)) (fun Hb i x d σ' H' e hd r ⟨ea, s1, s2, s3, s4, s5, E2⟩ => ?_) (fun Hb σ' H' e ⟨ea, s1, s2, s3, s4, s5, E2⟩ => ?_)
  · rw [List.getElem?_map] at hd
    cases hp : ps[i]? with
    | none =>
      rw [hp] at hd
      cases hd
    | some p =>
      rw [hp] at hd
      obtain rfl := Option.some.inj hd
      obtain ⟨lo, hi, f, t⟩ := p
      obtain ⟨b1, b2, b3, b4, b5, b6⟩ := all _ (List.mem_of_getElem? hp)
      have ed : ps.drop i = (lo, hi, f, t) :: ps.drop (i + 1) := by
        obtain ⟨hi', e'⟩ := List.getElem?_eq_some_iff.mp hp
        rw [List.drop_eq_getElem_cons hi', e']
      refine g_tup (ds := [encQ lo, encQ hi, .int f, .int t]) r rfl fun vs a0 => gs_cons E2 a0 fun σ2 vs E3 a0 => gs_cons E3 a0 fun σ3 vs E4 a0 => gs_cons E4 a0 fun σ4 vs E5 a0 => gs_cons E5 a0 fun σ5 vs E6 a0 => gs_nil a0 ?_
      have E6 : Evn [] Hb B σ5 H' [.dat (.list (ps.map encPc)), .dat (encQ c), .dat (encQ lo), .dat (encQ hi), .dat (.int f), .dat (.int t), s5] := E6
      clear E2 E3 E4 E5
      refine ss_set E6 (d := encO (alongS lo hi c (t - f))) (ev_alongS E6.trk (by walk_at "ev") (by walk_at "ev") (by walk_at "ev") (ev_I0 (i := t) (j := f) (by walk_at "ev") (by walk_at "ev")) b1 b2 hc b3 (by unfold Sz; simp only at b4 b5 b6; omega)) (fun σ6 H2 E7 => ?_)
      rw [ed, show alongPs c ((lo, hi, f, t) :: ps.drop (i + 1)) = (match alongS lo hi c (t - f) with
        | some q => some ((f : Rat) + q)
        | none => alongPs c (ps.drop (i + 1))) from rfl] at ea
      cases w : alongS lo hi c (t - f) with
      | some v =>
        rw [w] at ea E7
        refine s_ifT E7 (et_test (Ev.is (ev_notN (d := encQ v) (by walk_at "ev")) rfl)) (fun H3 E8 => ?_)
        have hv := alongS_qs b1 b2 hc b3 w (by unfold Sz; simp only at b4 b5 b6; omega)
        have sf : Sz 12 f := by unfold Sz; simp only at b4 b5 b6; omega
        refine s_ret E8 (Ev.is (ev_plus E8.trk (ev_pair1 (a := f) E8.trk (by walk_at "ev")) (y := v) (by walk_at "ev") ((qs_int sf (by decide)).mono (by decide)) (hv.mono (by decide))) ?_) (fun v H' e2 rr => q v H' (E1.ex.trans ((ExB.of e).trans e2)) rr)
        rw [ea]
        rfl
      | none =>
        rw [w] at ea E7
        refine s_ifF E7 (et_test (Ev.is (ev_notN (d := .none) (by walk_at "ev")) rfl)) (fun H3 E8 => ?_)
        exact ⟨ea, _, _, _, _, _, E8⟩
  · refine s_ret E2 (Ev.is (ev_str (s := "gap")) ?_) (fun v H' e2 rr => q v H' (E1.ex.trans ((ExB.of e).trans e2)) rr)
    rw [ea, List.length_map, List.drop_length]
    rfl

theorem sc_stretch_on : FnScope ["scale", "word", "words", "at"] ["scale", "word"] (defScope s_stretch_on) := ⟨rfl, rfl, rfl, by decide +kernel, rfl, by decide +kernel, by decide +kernel⟩
theorem ok_stretch_on (F : Fn K mg "stretch_on" s_stretch_on) (c_lowest : Cal P w K mg base 2 "lowest" ["top", "bottom"] (SpD dLowest)) (m_len : mg "len" = none) : Cal P w K mg base 3 "stretch_on" ["scale", "word"] (SpD dStretch) := by
  refine cal_D F sc_stretch_on (fun _ _ _ _ _ _ us hl => match us, hl with | [_, _], _ => rfl) dStretch_len (by decide) ⟨_, fun f cdv A outer s H E hr =>
      (pss_cons (ps_set (i := 2) sc_stretch_on.nd rfl (Or.inl rfl) (pe_ix (kx_tup (K := K) rfl) (pv 0) pe_int (fun _ _ => rfl)))
      (pss_cons (ps_set (i := 3) sc_stretch_on.nd rfl (Or.inl rfl) (kpe_bm (K := K) rfl PySem.F.plainAttrs_list PySem.F.slot_list_index PySem.F.type_list_index (kmt_index (K := K) rfl) (pv 2) (pa_cons (pv 1) pa_nil)))
      (pss_one (ps_ret (pe_tup (pa_cons (pe_cal c_lowest hr (by decide) (by rfl) (pa_cons (pe_op op_mulW (pv 3) (pe_ix (kx_tup (K := K) rfl) (pv 0) pe_int (fun _ _ => rfl))) (pa_cons (pe_callB (kcall_len (K := K) rfl) (by rfl) m_len bt_len (pa_cons (pv 2) pa_nil)) pa_nil))) (pa_cons (pe_cal c_lowest hr (by decide) (by rfl) (pa_cons (pe_op op_mulW (pe_op op_add (pv 3) pe_int) (pe_ix (kx_tup (K := K) rfl) (pv 0) pe_int (fun _ _ => rfl))) (pa_cons (pe_callB (kcall_len (K := K) rfl) (by rfl) m_len bt_len (pa_cons (pv 2) pa_nil)) pa_nil))) pa_nil))))))), fun ds r hd B H σ D E0 q => ?_⟩
  obtain ⟨ws, len, w, rfl, hx, hw, rfl⟩ := hd
  have n1 := hx.n1
  have n60 := hx.n60
  have hi : ws.idxOf w < ws.length := List.idxOf_lt_length_of_mem hw
  have sl : Sz 12 len := by unfold Sz; have := hx.l1; have := hx.l4; omega
  have s1 : Sz 7 (ws.idxOf w : Int) := sz_nat (by omega)
  have s2 : Sz 7 ((ws.idxOf w : Int) + 1) := by unfold Sz; omega
  have sn : Sz 7 (ws.length : Int) := sz_nat (by omega)
  refine ss_set E0 (d := .list (ws.map .str)) (by walk_at "ev") (fun σ1 H1 E1 => ?_)
  refine ss_set E1 (d := .int (ws.idxOf w : Int)) (ev_indexS (by walk_at "ev") (by walk_at "ev") hw) (fun σ2 H2 E2 => ?_)
  have el : (((ws.map PyData.str).length : Nat) : Int) = (ws.length : Int) := by rw [List.length_map]
  refine s_ret E2 (ev_tup E2.trk (ea_cons (ev_lowest E2.trk (a := (ws.idxOf w : Int) * len) (b := (ws.length : Int)) (ev_I (i := (ws.idxOf w : Int)) (j := len) (by walk_at "ev") (by walk_at "ev") (cm s1 sl (by decide) (by decide))) (Ev.is (ev_lenL (ds := ws.map .str) (by walk_at "ev")) (congrArg PyData.int el)) (by omega) (sz_mono sn (by decide)))
    (ea_cons (ev_lowest E2.trk (a := ((ws.idxOf w : Int) + 1) * len) (b := (ws.length : Int)) (ev_I (i := (ws.idxOf w : Int) + 1) (j := len) (ev_I0 (i := (ws.idxOf w : Int)) (j := 1) (by walk_at "ev") (by walk_at "ev")) (by walk_at "ev") (cm s2 sl (by decide) (by decide))) (Ev.is (ev_lenL (ds := ws.map .str) (by walk_at "ev")) (congrArg PyData.int el)) (by omega) (sz_mono sn (by decide))) ea_nil)) (Nat.le_of_ble_eq_true rfl)) q

theorem sc_amid : FnScope ["stretch"] ["stretch"] (defScope s_amid) := ⟨rfl, rfl, rfl, by decide +kernel, rfl, by decide +kernel, by decide +kernel⟩
theorem ok_amid (F : Fn K mg "amid" s_amid) (c_times : Cal P w K mg base 3 "times" ["one", "other"] (SpD dTimes)) (c_plus : Cal P w K mg base 3 "plus" ["one", "other"] (SpD dPlus)) : Cal P w K mg base 4 "amid" ["stretch"] (SpD dAmid) := by
  refine cal_D F sc_amid (fun _ _ _ _ _ _ us hl => match us, hl with | [_], _ => rfl) dAmid_len (by decide) ⟨_, fun f cdv A outer s H E hr =>
      (pss_one (ps_ret (pe_cal c_times hr (by decide) (by rfl) (pa_cons (pe_cal c_plus hr (by decide) (by rfl) (pa_cons (pe_ix (kx_tup (K := K) rfl) (pv 0) pe_int (fun _ _ => rfl)) (pa_cons (pe_ix (kx_tup (K := K) rfl) (pv 0) pe_int (fun _ _ => rfl)) pa_nil))) (pa_cons (pe_tup (pa_cons pe_int (pa_cons pe_int pa_nil))) pa_nil))))), fun ds r hd B H σ D E0 q => ?_⟩
  obtain ⟨x, y, rfl, hx, hy, rfl⟩ := hd
  have s3 := qs_add hx hy
  exact s_ret E0 (ev_times E0.trk (ev_plus E0.trk (x := x) (y := y) (by walk_at "ev") (by walk_at "ev") (hx.mono (by decide)) (hy.mono (by decide))) (ev_pairC (a := 1) (b := 2) E0.trk (by walk_at "ev") (by walk_at "ev") (x := 1 / 2) enc_half) (s3.mono (by decide)) qs_half) q

theorem sc_along_order : FnScope ["scale", "cell"] ["scale", "cell"] (defScope s_along_order) := ⟨rfl, rfl, rfl, by decide +kernel, rfl, by decide +kernel, by decide +kernel⟩
theorem ok_along_order (F : Fn K mg "along_order" s_along_order) (c_amid : Cal P w K mg base 4 "amid" ["stretch"] (SpD dAmid)) (c_stretch_on : Cal P w K mg base 3 "stretch_on" ["scale", "word"] (SpD dStretch)) : Cal P w K mg base 5 "along_order" ["scale", "cell"] (SpD dOrder) := by
  refine cal_D F sc_along_order (fun _ _ _ _ _ _ us hl => match us, hl with | [_, _], _ => rfl) dOrder_len (by decide) ⟨_, fun f cdv A outer s H E hr =>
      (pss_cons (ps_if (pt_cmpR (kop_notIn (K := K) rfl) (pv 1) (pe_ix (kx_tup (K := K) rfl) (pv 0) pe_int (fun _ _ => rfl)) (by rfl)) (pss_one (ps_ret pe_str)) pss_nil)
      (pss_one (ps_ret (pe_cal c_amid hr (by decide) (by rfl) (pa_cons (pe_cal c_stretch_on hr (by decide) (by rfl) (pa_cons (pv 0) (pa_cons (pv 1) pa_nil))) pa_nil))))), fun ds r hd B H σ D E0 q => ?_⟩
  obtain ⟨ws, len, w, rfl, hx, rfl⟩ := hd
  refine ss_ifR E0 (et_test (ev_notInS (w := w) (ws := ws) (by walk_at "ev") (by walk_at "ev"))) (fun hb H1 E1 => ?_) (fun hb H1 E1 => ?_)
  · refine s_ret E1 (Ev.is (ev_str (s := "unknown")) ?_) q
    have : ¬ w ∈ ws := by simpa using hb
    rw [placeX_out this]
    rfl
  · have hw : w ∈ ws := by simpa using hb
    have n60 := hx.n60
    have hi : ws.idxOf w < ws.length := List.idxOf_lt_length_of_mem hw
    refine s_ret E1 (Ev.is (ev_amid E1.trk (ev_stretch (ws := ws) (len := len) (w := w) E1.trk (by walk_at "ev") (by walk_at "ev") hx hw) ((strB_qs hx (by omega)).mono (by decide)) ((strB_qs hx (by omega)).mono (by decide))) ?_) q
    rw [placeX_in hw]
    rfl

theorem sc_place_on : FnScope ["scale", "cell", "found"] ["scale", "cell"] (defScope s_place_on) := ⟨rfl, rfl, rfl, by decide +kernel, rfl, by decide +kernel, by decide +kernel⟩
theorem ok_place_onY (F : Fn K mg "place_on" s_place_on) (c_along_turns : Cal P w K mg base 4 "along_turns" ["scale", "cell"] (SpD dTurns)) (c_along_pieces : Cal P w K mg base 5 "along_pieces" ["pieces", "cell"] (SpD dPieces)) (c_along_order : Cal P w K mg base 5 "along_order" ["scale", "cell"] (SpD dOrder)) (c_along_straight : Cal P w K mg base 4 "along_straight" ["lo", "hi", "cell", "long"] (SpD dAlongS)) : Cal P w K mg base 6 "place_on" ["scale", "cell"] (SpD dPlaceY) := by
  refine cal_D F sc_place_on (fun _ _ _ _ _ _ us hl => match us, hl with | [_, _], _ => rfl) dPlaceY_len (by decide) ⟨_, fun f cdv A outer s H E hr =>
      (pss_cons (ps_if (pt_cmpR op_isN (pv 1) pe_non (nomark _)) (pss_one (ps_ret pe_str)) pss_nil)
      (pss_cons (ps_if (pt_cmpR op_eq (pe_ix (kx_tup (K := K) rfl) (pv 0) pe_int (fun _ _ => rfl)) pe_str (nomark _)) (pss_one (ps_ret (pe_cal c_along_turns hr (by decide) (by rfl) (pa_cons (pv 0) (pa_cons (pv 1) pa_nil))))) pss_nil)
      (pss_cons (ps_if (pt_cmpR op_eq (pe_ix (kx_tup (K := K) rfl) (pv 0) pe_int (fun _ _ => rfl)) pe_str (nomark _)) (pss_one (ps_ret (pe_cal c_along_pieces hr (by decide) (by rfl) (pa_cons (pe_ix (kx_tup (K := K) rfl) (pv 0) pe_int (fun _ _ => rfl)) (pa_cons (pv 1) pa_nil))))) pss_nil)
      (pss_cons (ps_if (pt_cmpR op_eq (pe_ix (kx_tup (K := K) rfl) (pv 0) pe_int (fun _ _ => rfl)) pe_str (nomark _)) (pss_one (ps_ret (pe_cal c_along_order hr (by decide) (by rfl) (pa_cons (pv 0) (pa_cons (pv 1) pa_nil))))) pss_nil)
      (pss_cons (ps_if (pt_cmpR op_eq (pe_ix (kx_tup (K := K) rfl) (pv 0) pe_int (fun _ _ => rfl)) pe_str (nomark _)) (pss_one (ps_set (i := 2) sc_place_on.nd rfl (Or.inl rfl) (pe_cal c_along_straight hr (by decide) (by rfl) (pa_cons (pe_tup (pa_cons (pe_ix (kx_tup (K := K) rfl) (pv 0) pe_int (fun _ _ => rfl)) (pa_cons pe_int pa_nil))) (pa_cons (pe_tup (pa_cons (pe_ix (kx_tup (K := K) rfl) (pv 0) pe_int (fun _ _ => rfl)) (pa_cons pe_int pa_nil))) (pa_cons (pe_tup (pa_cons (pv 1) (pa_cons pe_int pa_nil))) (pa_cons (pe_ix (kx_tup (K := K) rfl) (pv 0) pe_int (fun _ _ => rfl)) pa_nil))))))) (pss_one (ps_set (i := 2) sc_place_on.nd rfl (Or.inl rfl) (pe_cal c_along_straight hr (by decide) (by rfl) (pa_cons (pe_ix (kx_tup (K := K) rfl) (pv 0) pe_int (fun _ _ => rfl)) (pa_cons (pe_ix (kx_tup (K := K) rfl) (pv 0) pe_int (fun _ _ => rfl)) (pa_cons (pv 1) (pa_cons (pe_ix (kx_tup (K := K) rfl) (pv 0) pe_int (fun _ _ => rfl)) pa_nil))))))))
      (pss_cons (ps_if (pt_cmpR op_isN (pv 2) pe_non (nomark _)) (pss_one (ps_ret pe_str)) pss_nil)
      (pss_one (ps_ret (pv 2))))))))), fun ds r hd B H σ D E0 q => ?_⟩
  obtain ⟨s, c, rfl, hok, hc, rfl⟩ := hd
  refine ss_ifF E0 (et_test (Ev.is (ev_isN (d := encQ c) (by walk_at "ev")) rfl)) (fun H1 E1 => ?_)
  cases s with
  | turns b low many len =>
    refine ss_ifT E1 (et_test (Ev.is (ev_eqS (s := "turns") (w := "turns") (by walk_at "ev") (by walk_at "ev")) (congrArg PyData.bool (decide_eq_true rfl)))) (fun H2 E2 => ?_)
    exact s_ret E2 (ev_turns E2.trk (by walk_at "ev") (by walk_at "ev") hok hc) q
  | broken ps len =>
    refine ss_ifF E1 (et_test (Ev.is (ev_eqS (s := "broken") (w := "turns") (by walk_at "ev") (by walk_at "ev")) (congrArg PyData.bool (by decide +kernel)))) (fun H2 E2 => ?_)
    refine ss_ifT E2 (et_test (Ev.is (ev_eqS (s := "broken") (w := "broken") (by walk_at "ev") (by walk_at "ev")) (congrArg PyData.bool (decide_eq_true rfl)))) (fun H3 E3 => ?_)
    exact s_ret E3 (ev_pieces E3.trk (ps := ps) (len := len) (by walk_at "ev") (by walk_at "ev") hok hc) q
  | straight lo hi len =>
    obtain ⟨h1, h2, h3, h4, h5⟩ := id hok
    refine ss_ifF E1 (et_test (Ev.is (ev_eqS (s := "straight") (w := "turns") (by walk_at "ev") (by walk_at "ev")) (congrArg PyData.bool (by decide +kernel)))) (fun H2 E2 => ?_)
    refine ss_ifF E2 (et_test (Ev.is (ev_eqS (s := "straight") (w := "broken") (by walk_at "ev") (by walk_at "ev")) (congrArg PyData.bool (by decide +kernel)))) (fun H3 E3 => ?_)
    refine ss_ifF E3 (et_test (Ev.is (ev_eqS (s := "straight") (w := "order") (by walk_at "ev") (by walk_at "ev")) (congrArg PyData.bool (by decide +kernel)))) (fun H4 E4 => ?_)
    refine ss_ifE E4 (et_test (Ev.is (ev_eqS (s := "straight") (w := "days") (by walk_at "ev") (by walk_at "ev")) (congrArg PyData.bool (by decide +kernel)))) (fun H5 E5 => ?_)
    refine s_set E5 (d := encO (alongS lo hi c len)) (ev_alongS E5.trk (by walk_at "ev") (by walk_at "ev") (by walk_at "ev") (by walk_at "ev") h2 h3 hc h1 (by unfold Sz; omega)) (fun σ6 H6 E6 => ?_)
    unfold placeY at q
    dsimp only at q ⊢
    cases w : alongS lo hi c len with
    | some v =>
      rw [w] at q E6
      refine ss_ifF E6 (et_test (Ev.is (ev_isN (d := encQ v) (by walk_at "ev")) rfl)) (fun H7 E7 => ?_)
      exact s_ret E7 (d := encQ v) (by walk_at "ev") q
    | none =>
      rw [w] at q E6
      refine ss_ifT E6 (et_test (Ev.is (ev_isN (d := .none) (by walk_at "ev")) rfl)) (fun H7 E7 => ?_)
      exact s_ret E7 (ev_str (s := "outside")) q

theorem ok_place_onX (F : Fn K mg "place_on" s_place_on) (c_along_turns : Cal P w K mg base 4 "along_turns" ["scale", "cell"] (SpD dTurns)) (c_along_pieces : Cal P w K mg base 5 "along_pieces" ["pieces", "cell"] (SpD dPieces)) (c_along_order : Cal P w K mg base 5 "along_order" ["scale", "cell"] (SpD dOrder)) (c_along_straight : Cal P w K mg base 4 "along_straight" ["lo", "hi", "cell", "long"] (SpD dAlongS)) : Cal P w K mg base 6 "place_on" ["scale", "cell"] (SpD dPlaceX) := by
  refine cal_D F sc_place_on (fun _ _ _ _ _ _ us hl => match us, hl with | [_, _], _ => rfl) dPlaceX_len (by decide) ⟨_, fun f cdv A outer s H E hr =>
      (pss_cons (ps_if (pt_cmpR op_isN (pv 1) pe_non (nomark _)) (pss_one (ps_ret pe_str)) pss_nil)
      (pss_cons (ps_if (pt_cmpR op_eq (pe_ix (kx_tup (K := K) rfl) (pv 0) pe_int (fun _ _ => rfl)) pe_str (nomark _)) (pss_one (ps_ret (pe_cal c_along_turns hr (by decide) (by rfl) (pa_cons (pv 0) (pa_cons (pv 1) pa_nil))))) pss_nil)
      (pss_cons (ps_if (pt_cmpR op_eq (pe_ix (kx_tup (K := K) rfl) (pv 0) pe_int (fun _ _ => rfl)) pe_str (nomark _)) (pss_one (ps_ret (pe_cal c_along_pieces hr (by decide) (by rfl) (pa_cons (pe_ix (kx_tup (K := K) rfl) (pv 0) pe_int (fun _ _ => rfl)) (pa_cons (pv 1) pa_nil))))) pss_nil)
      (pss_cons (ps_if (pt_cmpR op_eq (pe_ix (kx_tup (K := K) rfl) (pv 0) pe_int (fun _ _ => rfl)) pe_str (nomark _)) (pss_one (ps_ret (pe_cal c_along_order hr (by decide) (by rfl) (pa_cons (pv 0) (pa_cons (pv 1) pa_nil))))) pss_nil)
      (pss_cons (ps_if (pt_cmpR op_eq (pe_ix (kx_tup (K := K) rfl) (pv 0) pe_int (fun _ _ => rfl)) pe_str (nomark _)) (pss_one (ps_set (i := 2) sc_place_on.nd rfl (Or.inl rfl) (pe_cal c_along_straight hr (by decide) (by rfl) (pa_cons (pe_tup (pa_cons (pe_ix (kx_tup (K := K) rfl) (pv 0) pe_int (fun _ _ => rfl)) (pa_cons pe_int pa_nil))) (pa_cons (pe_tup (pa_cons (pe_ix (kx_tup (K := K) rfl) (pv 0) pe_int (fun _ _ => rfl)) (pa_cons pe_int pa_nil))) (pa_cons (pe_tup (pa_cons (pv 1) (pa_cons pe_int pa_nil))) (pa_cons (pe_ix (kx_tup (K := K) rfl) (pv 0) pe_int (fun _ _ => rfl)) pa_nil))))))) (pss_one (ps_set (i := 2) sc_place_on.nd rfl (Or.inl rfl) (pe_cal c_along_straight hr (by decide) (by rfl) (pa_cons (pe_ix (kx_tup (K := K) rfl) (pv 0) pe_int (fun _ _ => rfl)) (pa_cons (pe_ix (kx_tup (K := K) rfl) (pv 0) pe_int (fun _ _ => rfl)) (pa_cons (pv 1) (pa_cons (pe_ix (kx_tup (K := K) rfl) (pv 0) pe_int (fun _ _ => rfl)) pa_nil))))))))
      (pss_cons (ps_if (pt_cmpR op_isN (pv 2) pe_non (nomark _)) (pss_one (ps_ret pe_str)) pss_nil)
      (pss_one (ps_ret (pv 2))))))))), fun ds r hd B H σ D E0 q => ?_⟩
  obtain ⟨ws, len, c, rfl, hx, rfl⟩ := hd
  cases c with
  | none =>
    refine ss_ifT E0 (et_test (Ev.is (ev_isN (d := .none) (by walk_at "ev")) rfl)) (fun H1 E1 => ?_)
    exact s_ret E1 (ev_str (s := "nothing")) q
  | some w =>
    refine ss_ifF E0 (et_test (Ev.is (ev_isN (d := .str w) (by walk_at "ev")) rfl)) (fun H1 E1 => ?_)
    refine ss_ifF E1 (et_test (Ev.is (ev_eqS (s := "order") (w := "turns") (by walk_at "ev") (by walk_at "ev")) (congrArg PyData.bool (by decide +kernel)))) (fun H2 E2 => ?_)
    refine ss_ifF E2 (et_test (Ev.is (ev_eqS (s := "order") (w := "broken") (by walk_at "ev") (by walk_at "ev")) (congrArg PyData.bool (by decide +kernel)))) (fun H3 E3 => ?_)
    refine ss_ifT E3 (et_test (Ev.is (ev_eqS (s := "order") (w := "order") (by walk_at "ev") (by walk_at "ev")) (congrArg PyData.bool (decide_eq_true rfl)))) (fun H4 E4 => ?_)
    exact s_ret E4 (ev_order (ws := ws) (len := len) (w := w) E4.trk (by walk_at "ev") (by walk_at "ev") hx) q

end
end M

end
section
set_option maxHeartbeats 4000000
set_option exponentiation.threshold 10000
namespace M
open PySem PySem.Spec PyProof.Rows L2

theorem encP_nd (q : Rat) : encP (nd q) = encQ q := rfl
theorem encQ_neg (q : Rat) : PyData.tuple [.int (-q.num), .int (q.den : Int)] = encQ (-q) := by
  unfold encQ
  rw [Rat.neg_num, Rat.neg_den]
def dPart (ds : List PyData) (r : PyData) : Prop := ∃ (lo hi : Rat) (f g : Int), ds = [encQ lo, encQ hi, .int f, .int g] ∧ QS 400 lo ∧ QS 400 hi ∧ Sz 20 f ∧ Sz 20 g ∧ 0 < g ∧ r = encQ (lo + (hi - lo) * ((f : Rat) / (g : Rat)))
def numTop (d0 d1 d2 d3 : Int) : Int := [d2 % 10, d2 % 1000, d2, d2 * 10 ^ 9 + d3].getD d1.toNat 0
def numBot (d4 : Int) : Int := if 60 ≤ d4 then 1 else d4 + 1
def numQ (d0 d1 d2 d3 d4 : Int) : Rat := (((1 - 2 * d0) * numTop d0 d1 d2 d3 : Int) : Rat) / ((numBot d4 : Int) : Rat)
def dNumber (ds : List PyData) (r : PyData) : Prop := ∃ d0 d1 d2 d3 d4 : Int, ds = [.list ([d0, d1, d2, d3, d4].map .int)] ∧ (0 ≤ d0 ∧ d0 < 2) ∧ (0 ≤ d1 ∧ d1 < 4) ∧ (0 ≤ d2 ∧ d2 < 10 ^ 9) ∧ (0 ≤ d3 ∧ d3 < 10 ^ 9) ∧ (0 ≤ d4 ∧ d4 < 90) ∧ r = encQ (numQ d0 d1 d2 d3 d4)
def PS4 (p : Int × Int) : Prop := Sz 4000 p.1 ∧ Sz 4000 p.2
def dBetween (ds : List PyData) (r : PyData) : Prop := ∃ (lo hi c : Int × Int) (s t : Int), ds = [encP lo, encP hi, encP c, .int s, .int t] ∧ PS4 lo ∧ PS4 hi ∧ PS4 c ∧ Sz 20 s ∧ Sz 20 t ∧ r = encP (lBetween lo hi c s t)
def dWithin (ds : List PyData) (r : PyData) : Prop := ∃ (lo hi c : Int × Int), ds = [encP lo, encP hi, encP c] ∧ PS4 lo ∧ PS4 hi ∧ PS4 c ∧ r = .bool (lWithin lo hi c)
def dLTurn (ds : List PyData) (r : PyData) : Prop := ∃ (base low many len : Int) (c : Rat), ds = [encYS (.turns base low many len), encQ c] ∧ (YS.turns base low many len).Ok ∧ QS 1500 c ∧ r = encLPl (lTurn base low many len c)
def dLPlaceY (ds : List PyData) (r : PyData) : Prop := ∃ (s : YS) (c : Rat), ds = [encYS s, encQ c] ∧ s.Ok ∧ QS 1500 c ∧ r = encLPl (lPlace s c)
def lPlaceX (ws : List Str) (len : Int) : Option Str → LPl
  | none => .no .nothing
  | some w => if w ∈ ws then .at_ ((2 * (ws.idxOf w : Int) + 1) * len, 2 * (ws.length : Int)) else .no .unknown
def dLPlaceX (ds : List PyData) (r : PyData) : Prop := ∃ (ws : List Str) (len : Int) (c : Option Str), ds = [encX ws len, encC c] ∧ XOk ws len ∧ r = encLPl (lPlaceX ws len c)
def dLRounded (ds : List PyData) (r : PyData) : Prop := ∃ (p : Int × Int), ds = [encP p] ∧ 0 < p.2 ∧ Sz 8900 p.1 ∧ Sz 8900 p.2 ∧ r = .int ((2 * p.1 + p.2) / (2 * p.2))
theorem dPart_len : ∀ ds r, dPart ds r → ds.length = 4 := by rintro _ _ ⟨_, _, _, _, rfl, _⟩; rfl
theorem dNumber_len : ∀ ds r, dNumber ds r → ds.length = 1 := by rintro _ _ ⟨_, _, _, _, _, rfl, _⟩; rfl
theorem dBetween_len : ∀ ds r, dBetween ds r → ds.length = 5 := by rintro _ _ ⟨_, _, _, _, _, rfl, _⟩; rfl
theorem dWithin_len : ∀ ds r, dWithin ds r → ds.length = 3 := by rintro _ _ ⟨_, _, _, rfl, _⟩; rfl
theorem dLTurn_len : ∀ ds r, dLTurn ds r → ds.length = 2 := by rintro _ _ ⟨_, _, _, _, _, rfl, _⟩; rfl
theorem dLPlaceY_len : ∀ ds r, dLPlaceY ds r → ds.length = 2 := by rintro _ _ ⟨_, _, rfl, _⟩; rfl
theorem dLPlaceX_len : ∀ ds r, dLPlaceX ds r → ds.length = 2 := by rintro _ _ ⟨_, _, _, rfl, _⟩; rfl
theorem dLRounded_len : ∀ ds r, dLRounded ds r → ds.length = 1 := by rintro _ _ ⟨_, rfl, _⟩; rfl
section
variable {K : PySem.W.Frag} {C B : List Addr} {σ : L2.St} {H H0 H' : Hp} {G : List Sl} {ta tb tc td tf te tx tl : TE} {x y lo hi c : Rat} {a b : Int} {E : XK} {p p' p2 : Int × Int}
theorem ev_part (ht : Trk B H) (h1 : Ev B ta σ H (encQ lo)) (h2 : Ev B tb σ H (encQ hi)) (h3 : Ev B tc σ H (.int a)) (h4 : Ev B td σ H (.int b)) (q1 : QS 400 lo) (q2 : QS 400 hi) (s1 : Sz 20 a) (s2 : Sz 20 b) (h0 : 0 < b) :
    Ev B (tCall (SpD dPart) [] E (tCons ta (tCons tb (tCons tc (tCons td tNil))))) σ H (encQ (lo + (hi - lo) * ((a : Rat) / (b : Rat)))) := ev_call ht (ea_cons h1 (ea_cons h2 (ea_cons h3 (ea_cons h4 ea_nil)))) ⟨lo, hi, a, b, rfl, q1, q2, s1, s2, h0, rfl⟩
theorem ev_between (ht : Trk B H) (h1 : Ev B ta σ H (encP p)) (h2 : Ev B tb σ H (encP p')) (h3 : Ev B tc σ H (encP p2)) (h4 : Ev B td σ H (.int a)) (h5 : Ev B tf σ H (.int b)) (q1 : PS4 p) (q2 : PS4 p') (q3 : PS4 p2) (s1 : Sz 20 a) (s2 : Sz 20 b) :
    Ev B (tCall (SpD dBetween) [] E (tCons ta (tCons tb (tCons tc (tCons td (tCons tf tNil)))))) σ H (encP (lBetween p p' p2 a b)) := ev_call ht (ea_cons h1 (ea_cons h2 (ea_cons h3 (ea_cons h4 (ea_cons h5 ea_nil))))) ⟨p, p', p2, a, b, rfl, q1, q2, q3, s1, s2, rfl⟩
theorem ev_within (ht : Trk B H) (h1 : Ev B ta σ H (encP p)) (h2 : Ev B tb σ H (encP p')) (h3 : Ev B tc σ H (encP p2)) (q1 : PS4 p) (q2 : PS4 p') (q3 : PS4 p2) : Ev B (tCall (SpD dWithin) [] E (tCons ta (tCons tb (tCons tc tNil)))) σ H (.bool (lWithin p p' p2)) := ev_call ht (ea_cons h1 (ea_cons h2 (ea_cons h3 ea_nil))) ⟨p, p', p2, rfl, q1, q2, q3, rfl⟩
theorem ev_lturn {base low many len : Int} (ht : Trk B H) (ha : Ev B ta σ H (encYS (.turns base low many len))) (hb : Ev B tb σ H (encQ c)) (h1 : (YS.turns base low many len).Ok) (h2 : QS 1500 c) : Ev B (tCall (SpD dLTurn) [] E (tCons ta (tCons tb tNil))) σ H (encLPl (lTurn base low many len c)) := ev_call ht (ea_cons ha (ea_cons hb ea_nil)) ⟨base, low, many, len, c, rfl, h1, h2, rfl⟩
theorem ev_lplaceY {s : YS} (ht : Trk B H) (ha : Ev B ta σ H (encYS s)) (hb : Ev B tb σ H (encQ c)) (h1 : s.Ok) (h2 : QS 1500 c) : Ev B (tCall (SpD dLPlaceY) [] E (tCons ta (tCons tb tNil))) σ H (encLPl (lPlace s c)) := ev_call ht (ea_cons ha (ea_cons hb ea_nil)) ⟨s, c, rfl, h1, h2, rfl⟩
theorem ev_lplaceX {ws : List Str} {len : Int} {c : Option Str} (ht : Trk B H) (ha : Ev B ta σ H (encX ws len)) (hb : Ev B tb σ H (encC c)) (h1 : XOk ws len) : Ev B (tCall (SpD dLPlaceX) [] E (tCons ta (tCons tb tNil))) σ H (encLPl (lPlaceX ws len c)) := ev_call ht (ea_cons ha (ea_cons hb ea_nil)) ⟨ws, len, c, rfl, h1, rfl⟩
theorem ev_lrounded (ht : Trk B H) (ha : Ev B ta σ H (encP p)) (h0 : 0 < p.2) (h1 : Sz 8900 p.1) (h2 : Sz 8900 p.2) : Ev B (tCall (SpD dLRounded) [] E (tCons ta tNil)) σ H (.int ((2 * p.1 + p.2) / (2 * p.2))) := ev_call ht (ea_cons ha ea_nil) ⟨p, rfl, h0, h1, h2, rfl⟩
theorem ev_number {d0 d1 d2 d3 d4 : Int} (ht : Trk B H) (ha : Ev B ta σ H (.list ([d0, d1, d2, d3, d4].map .int))) (h0 : 0 ≤ d0 ∧ d0 < 2) (h1 : 0 ≤ d1 ∧ d1 < 4) (h2 : 0 ≤ d2 ∧ d2 < 10 ^ 9) (h3 : 0 ≤ d3 ∧ d3 < 10 ^ 9) (h4 : 0 ≤ d4 ∧ d4 < 90) :
    Ev B (tCall (SpD dNumber) [] E (tCons ta tNil)) σ H (encQ (numQ d0 d1 d2 d3 d4)) := ev_call ht (ea_cons ha ea_nil) ⟨d0, d1, d2, d3, d4, rfl, h0, h1, h2, h3, h4, rfl⟩
end

local macro_rules | `(tactic| walk_at "ev") => `(tactic| first
  | with_reducible exact ev_int
  | with_reducible exact ev_str
  | with_reducible exact ev_bl
  | with_reducible exact ev_non
  | ((with_reducible refine' ev_var (by assumption) ?_); rfl)
  | ((with_reducible refine ev_I0 (i := ?i) (j := ?j) ?h1 ?h2); (case h1 => walk_at "ev"); (case h2 => walk_at "ev"))
  | ((with_reducible refine ev_I0b (i := ?i) (j := ?j) ?h1 ?h2); (case h1 => walk_at "ev"); (case h2 => walk_at "ev"))
  | ((with_reducible refine ev_eqI (i := ?i) (j := ?j) ?h1 ?h2); (case h1 => walk_at "ev"); (case h2 => walk_at "ev"))
  | ((with_reducible refine ev_neI (i := ?i) (j := ?j) ?h1 ?h2); (case h1 => walk_at "ev"); (case h2 => walk_at "ev"))
  | ((with_reducible refine ev_neg (i := ?i) ?h1); (case h1 => walk_at "ev"))
  | ((with_reducible refine ev_fst (x := ?x) ?h1); (case h1 => walk_at "ev"))
  | ((with_reducible refine ev_snd (x := ?x) ?h1); (case h1 => walk_at "ev"))
  | ((with_reducible refine ev_fstP (p := ?x) ?h1); (case h1 => walk_at "ev"))
  | ((with_reducible refine ev_sndP (p := ?x) ?h1); (case h1 => walk_at "ev"))
  | ((with_reducible refine ev_ixT (ds := ?ds) (i := ?i) ?h1 ?h2 ?h3); (case h1 => walk_at "ev"); (case h2 => walk_at "ev"); (case h3 => rfl))
  | ((with_reducible refine ev_ixL (ds := ?ds) (i := ?i) ?h1 ?h2 ?h3); (case h1 => walk_at "ev"); (case h2 => walk_at "ev"); (case h3 => rfl))
  | ((with_reducible refine ev_pair1 (a := ?a) (Evn.trk (by assumption)) ?h1); (case h1 => walk_at "ev"))
  | ((with_reducible refine ev_abs (i := ?i) ?h1); (case h1 => walk_at "ev")))

section
variable {P : Program} {w : World} {K : PySem.W.Frag} {mg : Str → Option Value} {base : Heap}
theorem ps_nd {n : Nat} {q : Rat} (h : QS n q) (l : n ≤ 4000) : PS4 (nd q) := ⟨sz_mono h.num l, sz_mono h.den l⟩
theorem lBetween_sz {n m k : Nat} {lo hi c : Int × Int} {s t : Int} (h1 : Sz n lo.1) (h2 : Sz n lo.2) (h3 : Sz m hi.1) (h4 : Sz m hi.2) (h5 : Sz k c.1) (h6 : Sz k c.2) (hs : Sz 20 s) (ht : Sz 20 t) :
    Sz (n + m + k + 44) (lBetween lo hi c s t).1 ∧ Sz (n + m + k + 44) (lBetween lo hi c s t).2 := by
  have m1 := sz_mul h6 (sz_sub (sz_mul h3 h2) (sz_mul h1 h4))
  have u1 := sz_mul (sz_sub (sz_mul h5 h2) (sz_mul h1 h6)) h4
  constructor
  · exact sz_mono (sz_add (sz_mul hs m1) (sz_mul u1 (sz_sub ht hs))) (by omega)
  · exact sz_mono m1 (by omega)
theorem sc__law_divisor : FnScope ["_law_one", "_law_other"] ["_law_one", "_law_other"] (defScope s__law_divisor) := ⟨rfl, rfl, rfl, by decide +kernel, rfl, by decide +kernel, by decide +kernel⟩
theorem ok__law_divisor (F : Fn K mg "_law_divisor" s__law_divisor) (m_abs : mg "abs" = none) : Cal P w K mg base 1 "_law_divisor" ["_law_one", "_law_other"] (SpD dDivisor) := by
  refine cal_D F sc__law_divisor (fun _ _ _ _ _ _ us hl => match us, hl with | [_, _], _ => rfl) dDivisor_len (by decide) ⟨_, fun f cdv A outer s H E hr =>
      (pss_cons (ps_while PassesOwn.never (pt_cmpR op_ne (pv 1) pe_int (nomark _)) (pss_one (ps_par (i := 0) (j := 1) (by rfl) sc__law_divisor.nd rfl rfl (by decide) rfl rfl (pa_cons (pv 1) (pa_cons (pe_op op_modN (pv 0) (pv 1)) pa_nil)) (by rfl))))
      (pss_one (ps_ret (pe_callB call_abs (by rfl) m_abs bt_abs (pa_cons (pv 0) pa_nil))))), fun ds r hd B H σ D E0 q => ?_⟩
  obtain ⟨a, b, rfl, rfl⟩ := hd
  refine (ss_while B (fun m σ' H' => ∃ x y : Int, m = y.natAbs ∧ Int.gcd x y = Int.gcd a b ∧ Evn [] H B σ' H' [.dat (.int x), .dat (.int y)]) b.natAbs ⟨a, b, rfl, rfl, E0⟩ fun m σ' H' ⟨x, y, em, eg, E1⟩ => ?_)
  refine ⟨_, et_test (ev_neI (i := y) (j := 0) (by walk_at "ev") (by walk_at "ev")), fun hb H1 e => ?_, fun hb H1 e => ?_⟩
  · have hy : y ≠ 0 := by simpa using hb
    refine ⟨fun σ2 H2 => Evn [] H B σ2 H2 [.dat (.int y), .dat (.int (x.fmod y))], fun σ2 H2 E2 => ⟨_, by rw [em]; exact fmod_lt x hy, _, _, rfl, by rw [fmod_gcd, eg], E2⟩, ?_⟩
    have E2 := E1.same e
    exact s_par E2 (ea_cons (by walk_at "ev") (ea_cons (ev_I (i := x) (j := y) (by walk_at "ev") (by walk_at "ev") hy) ea_nil)) fun σ' H' E3 => E3
  · have hy : y = 0 := by simpa using hb
    subst hy
    have E2 := E1.same e
    refine s_ret E2 (Ev.is (ev_abs (i := x) (by walk_at "ev")) ?_) q
    rw [← eg, Int.gcd_zero_right]
    congr 1
    split <;> omega

theorem sc__law_low : FnScope ["_law_top", "_law_bottom", "_law_share"] ["_law_top", "_law_bottom"] (defScope s__law_low) := ⟨rfl, rfl, rfl, by decide +kernel, rfl, by decide +kernel, by decide +kernel⟩
theorem ok__law_low (F : Fn K mg "_law_low" s__law_low) (c__law_divisor : Cal P w K mg base 1 "_law_divisor" ["_law_one", "_law_other"] (SpD dDivisor)) : Cal P w K mg base 2 "_law_low" ["_law_top", "_law_bottom"] (SpD dLowest) := by
  refine cal_D F sc__law_low (fun _ _ _ _ _ _ us hl => match us, hl with | [_, _], _ => rfl) dLowest_len (by decide) ⟨_, fun f cdv A outer s H E hr =>
      (pss_cons (ps_set (i := 2) sc__law_low.nd rfl (Or.inl rfl) (pe_cal c__law_divisor hr (by decide) (by rfl) (pa_cons (pv 0) (pa_cons (pv 1) pa_nil))))
      (pss_one (ps_ret (pe_tup (pa_cons (pe_op op_fdivW (pv 0) (pv 2)) (pa_cons (pe_op op_fdivW (pv 1) (pv 2)) pa_nil)))))), fun ds r hd B H σ D E0 q => ?_⟩
  obtain ⟨a, b, rfl, h0, hs, rfl⟩ := hd
  refine (ss_set E0 (ev_divisor E0.trk (a := a) (b := b) (by walk_at "ev") (by walk_at "ev")) fun σ1 H1 E1 => ?_)
  have g0 := gcd_pos (a := a) h0
  have g1 := gcd_le (a := a) h0 hs
  refine s_ret E1 (Ev.is (ev_tup E1.trk (ea_cons (ev_I (i := a) (by walk_at "ev") (by walk_at "ev") (cd g0 g1 (by decide))) (ea_cons (ev_I (i := b) (by walk_at "ev") (by walk_at "ev") (cd g0 g1 (by decide))) ea_nil)) (Nat.le_of_ble_eq_true rfl)) ?_) q
  rw [low_num h0, low_den h0]
  rfl
theorem sc__law_plus : FnScope ["_law_one", "_law_other"] ["_law_one", "_law_other"] (defScope s__law_plus) := ⟨rfl, rfl, rfl, by decide +kernel, rfl, by decide +kernel, by decide +kernel⟩
theorem ok__law_plus (F : Fn K mg "_law_plus" s__law_plus) (c__law_low : Cal P w K mg base 2 "_law_low" ["_law_top", "_law_bottom"] (SpD dLowest)) : Cal P w K mg base 3 "_law_plus" ["_law_one", "_law_other"] (SpD dPlus) := by
  refine cal_D F sc__law_plus (fun _ _ _ _ _ _ us hl => match us, hl with | [_, _], _ => rfl) dPlus_len (by decide) ⟨_, fun f cdv A outer s H E hr =>
      (pss_one (ps_ret (pe_cal c__law_low hr (by decide) (by rfl) (pa_cons (pe_op op_add (pe_op op_mulW (pe_ix (kx_tup (K := K) rfl) (pv 0) pe_int (fun _ _ => rfl)) (pe_ix (kx_tup (K := K) rfl) (pv 1) pe_int (fun _ _ => rfl))) (pe_op op_mulW (pe_ix (kx_tup (K := K) rfl) (pv 1) pe_int (fun _ _ => rfl)) (pe_ix (kx_tup (K := K) rfl) (pv 0) pe_int (fun _ _ => rfl)))) (pa_cons (pe_op op_mulW (pe_ix (kx_tup (K := K) rfl) (pv 0) pe_int (fun _ _ => rfl)) (pe_ix (kx_tup (K := K) rfl) (pv 1) pe_int (fun _ _ => rfl))) pa_nil))))), fun ds r hd B H σ D E0 q => ?_⟩
  obtain ⟨x, y, rfl, hx, hy, rfl⟩ := hd
  have c1 := cm hx.num hy.den (by decide) (by decide)
  have c2 := cm hy.num hx.den (by decide) (by decide)
  have c3 := cm hx.den hy.den (by decide) (by decide)
  refine s_ret E0 (Ev.is (ev_lowest E0.trk (ev_I0 (ev_I (i := x.num) (j := y.den) (by walk_at "ev") (by walk_at "ev") c1) (ev_I (i := y.num) (j := x.den) (by walk_at "ev") (by walk_at "ev") c2)) (ev_I (i := x.den) (j := y.den) (by walk_at "ev") (by walk_at "ev") c3)
    (Int.mul_pos (den_pos x) (den_pos y)) (sz_mono (sz_mul hx.den hy.den) (by decide))) ?_) q
  exact congrArg encQ (add_div x y)
theorem sc__law_part : FnScope ["_law_lo", "_law_hi", "_law_f", "_law_g", "_law_span"] ["_law_lo", "_law_hi", "_law_f", "_law_g"] (defScope s__law_part) := ⟨rfl, rfl, rfl, by decide +kernel, rfl, by decide +kernel, by decide +kernel⟩
theorem ok__law_part (F : Fn K mg "_law_part" s__law_part) (c__law_plus : Cal P w K mg base 3 "_law_plus" ["_law_one", "_law_other"] (SpD dPlus)) (c__law_low : Cal P w K mg base 2 "_law_low" ["_law_top", "_law_bottom"] (SpD dLowest)) : Cal P w K mg base 4 "_law_part" ["_law_lo", "_law_hi", "_law_f", "_law_g"] (SpD dPart) := by
  refine cal_D F sc__law_part (fun _ _ _ _ _ _ us hl => match us, hl with | [_, _, _, _], _ => rfl) dPart_len (by decide) ⟨_, fun f cdv A outer s H E hr =>
      (pss_cons (ps_set (i := 4) sc__law_part.nd rfl (Or.inl rfl) (pe_cal c__law_plus hr (by decide) (by rfl) (pa_cons (pv 1) (pa_cons (pe_tup (pa_cons (pe_un un_neg (pe_ix (kx_tup (K := K) rfl) (pv 0) pe_int (fun _ _ => rfl))) (pa_cons (pe_ix (kx_tup (K := K) rfl) (pv 0) pe_int (fun _ _ => rfl)) pa_nil))) pa_nil))))
      (pss_one (ps_ret (pe_cal c__law_plus hr (by decide) (by rfl) (pa_cons (pv 0) (pa_cons (pe_cal c__law_low hr (by decide) (by rfl) (pa_cons (pe_op op_mulW (pe_ix (kx_tup (K := K) rfl) (pv 4) pe_int (fun _ _ => rfl)) (pv 2)) (pa_cons (pe_op op_mulW (pe_ix (kx_tup (K := K) rfl) (pv 4) pe_int (fun _ _ => rfl)) (pv 3)) pa_nil))) pa_nil)))))), fun ds r hd B H σ D E0 q => ?_⟩
  obtain ⟨lo, hi, f, g, rfl, q1, q2, s1, s2, h0, rfl⟩ := hd
  have q1' : QS 400 (-lo) := ⟨by rw [Rat.neg_num]; exact sz_neg q1.num, by rw [Rat.neg_den]; exact q1.den⟩
  have q3 := qs_add q2 q1'
  refine ss_set E0 (d := encQ (hi + -lo)) (ev_plus E0.trk (by walk_at "ev") (Ev.is (ev_tup E0.trk (ea_cons (d := .int (-lo.num)) (by walk_at "ev") (ea_cons (d := .int (lo.den : Int)) (by walk_at "ev") ea_nil)) (Nat.le_of_ble_eq_true rfl)) (encQ_neg lo)) (q2.mono (by decide)) (q1'.mono (by decide))) (fun σ1 H1 E1 => ?_)
  have e : (((hi + -lo).num * f : Int) : Rat) / ((((hi + -lo).den : Int) * g : Int) : Rat) = (hi - lo) * ((f : Rat) / (g : Rat)) := by
    refine div_of (Int.mul_pos (den_pos _) h0) ?_
    have g0 := cast_ne (show g ≠ 0 by omega)
    have e1 := q_mul (hi + -lo)
    rw [Rat.intCast_mul, Rat.intCast_mul, ← e1]
    generalize (((hi + -lo).den : Int) : Rat) = dd
    generalize (g : Rat) = g' at *
    grind
  refine s_ret E1 (Ev.is (ev_plus E1.trk (x := lo) (by walk_at "ev") (ev_lowest E1.trk (a := (hi + -lo).num * f) (b := ((hi + -lo).den : Int) * g) (ev_I (i := (hi + -lo).num) (j := f) (by walk_at "ev") (by walk_at "ev") (cm q3.num s1 (by decide) (by decide))) (ev_I (i := ((hi + -lo).den : Int)) (j := g) (by walk_at "ev") (by walk_at "ev") (cm q3.den s2 (by decide) (by decide)))
    (Int.mul_pos (den_pos _) h0) (sz_mono (sz_mul q3.den s2) (by decide))) (q1.mono (by decide)) ((qs_frac (Int.mul_pos (den_pos _) h0) (sz_mul q3.num s1) (sz_mul q3.den s2)).mono (by decide))) (by rw [e])) q
theorem sc__law_number : FnScope ["_law_d", "_law_top", "_law_bottom", "_law_share"] ["_law_d"] (defScope s__law_number) := ⟨rfl, rfl, rfl, by decide +kernel, rfl, by decide +kernel, by decide +kernel⟩
theorem ok__law_number (F : Fn K mg "_law_number" s__law_number) (c__law_divisor : Cal P w K mg base 1 "_law_divisor" ["_law_one", "_law_other"] (SpD dDivisor)) (m_int : mg "int" = none) : Cal P w K mg base 2 "_law_number" ["_law_d"] (SpD dNumber) := by
  refine cal_D F sc__law_number (fun _ _ _ _ _ _ us hl => match us, hl with | [_], _ => rfl) dNumber_len (by decide) ⟨_, fun f cdv A outer s H E hr =>
      (pss_cons (ps_set (i := 1) sc__law_number.nd rfl (Or.inl rfl) (pe_ix (kx_list (K := K) rfl) (pe_lst (pa_cons (pe_op op_mod (pe_ix (kx_list (K := K) rfl) (pv 0) pe_int (fun _ _ => rfl)) pe_int) (pa_cons (pe_op op_mod (pe_ix (kx_list (K := K) rfl) (pv 0) pe_int (fun _ _ => rfl)) pe_int) (pa_cons (pe_ix (kx_list (K := K) rfl) (pv 0) pe_int (fun _ _ => rfl)) (pa_cons (pe_op op_add (pe_op op_mulW (pe_ix (kx_list (K := K) rfl) (pv 0) pe_int (fun _ _ => rfl)) (pe_op op_pow pe_int pe_int)) (pe_ix (kx_list (K := K) rfl) (pv 0) pe_int (fun _ _ => rfl))) pa_nil))))) (pe_ix (kx_list (K := K) rfl) (pv 0) pe_int (fun _ _ => rfl)) (fun _ _ => rfl)))
      (pss_cons (ps_set (i := 2) sc__law_number.nd rfl (Or.inl rfl) (pe_ix (kx_list (K := K) rfl) (pe_lst (pa_cons (pe_op op_add (pe_ix (kx_list (K := K) rfl) (pv 0) pe_int (fun _ _ => rfl)) pe_int) (pa_cons pe_int pa_nil))) (pe_callTy call_int1 (by rfl) m_int bt_int (pa_cons (pe_cmpR op_ge (pe_ix (kx_list (K := K) rfl) (pv 0) pe_int (fun _ _ => rfl)) pe_int (nomark _)) pa_nil)) (fun _ _ => rfl)))
      (pss_cons (ps_set (i := 3) sc__law_number.nd rfl (Or.inl rfl) (pe_cal c__law_divisor hr (by decide) (by rfl) (pa_cons (pv 1) (pa_cons (pv 2) pa_nil))))
      (pss_one (ps_ret (pe_tup (pa_cons (pe_op op_fdivW (pe_op op_mulW (pe_op op_sub pe_int (pe_op op_mulW pe_int (pe_ix (kx_list (K := K) rfl) (pv 0) pe_int (fun _ _ => rfl)))) (pv 1)) (pv 3)) (pa_cons (pe_op op_fdivW (pv 2) (pv 3)) pa_nil)))))))), fun ds r hd B H σ D E0 q => ?_⟩
  obtain ⟨d0, d1, d2, d3, d4, rfl, h0, h1, h2, h3, h4, rfl⟩ := hd
  have e9 : ((10 : Int) ^ (9 : Int).toNat) = 10 ^ 9 := rfl
  have sd2 : Sz 30 d2 := by unfold Sz; omega
  refine ss_set E0 (d := .int (numTop d0 d1 d2 d3)) (ev_pick (xs := [d2 % 10, d2 % 1000, d2, d2 * 10 ^ 9 + d3]) (ev_lst E0.trk (ea_cons (ev_I (i := d2) (j := 10) (by walk_at "ev") (by walk_at "ev") (by decide)) (ea_cons (ev_I (i := d2) (j := 1000) (by walk_at "ev") (by walk_at "ev") (by decide)) (ea_cons (by walk_at "ev") (ea_cons (ev_I0 (i := d2 * 10 ^ 9) (j := d3) (ev_I (i := d2) (j := 10 ^ 9) (by walk_at "ev") (Ev.is (ev_I (i := 10) (j := 9) (by walk_at "ev") (by walk_at "ev") ⟨by decide, by decide, by decide⟩) (congrArg PyData.int e9)) (cm sd2 (sz_lit (n := 40) (by decide)) (by decide) (by decide))) (by walk_at "ev")) ea_nil)))) (Nat.le_of_ble_eq_true rfl)) (i := d1) (by walk_at "ev") (by omega) (by simp; omega)) (fun σ1 H1 E1 => ?_)
  have eb : [d4 + 1, 1].getD (if decide (60 ≤ d4) then (1 : Int) else 0).toNat 0 = numBot d4 := by
    unfold numBot
    by_cases z : 60 ≤ d4
    · rw [if_pos z, decide_eq_true z]
      rfl
    · rw [if_neg z, decide_eq_false z]
      rfl
  refine ss_set E1 (d := .int (numBot d4)) (Ev.is (ev_pick (xs := [d4 + 1, 1]) (i := if decide (60 ≤ d4) then 1 else 0) (ev_lst E1.trk (ea_cons (ev_I0 (i := d4) (j := 1) (by walk_at "ev") (by walk_at "ev")) (ea_cons (by walk_at "ev") ea_nil)) (Nat.le_of_ble_eq_true rfl)) (ev_intB (ev_I0b (i := d4) (j := 60) (by walk_at "ev") (by walk_at "ev"))) (by split <;> omega) (by simp; split <;> omega)) (congrArg PyData.int eb)) (fun σ2 H2 E2 => ?_)
  have hb : 0 < numBot d4 := by unfold numBot; split <;> omega
  have sb : Sz 7 (numBot d4) := by unfold numBot Sz; split <;> omega
  have st : Sz 62 (numTop d0 d1 d2 d3) := by
    unfold numTop
    have : d1 = 0 ∨ d1 = 1 ∨ d1 = 2 ∨ d1 = 3 := by omega
    rcases this with z | z | z | z <;> subst z <;> unfold Sz
    · show (d2 % 10).natAbs < _
      omega
    · show (d2 % 1000).natAbs < _
      omega
    · show (d2).natAbs < _
      omega
    · show (d2 * 10 ^ 9 + d3).natAbs < _
      omega
  have hs : d0 = 0 ∨ d0 = 1 := by omega
  have sg : Sz 2 (1 - 2 * d0) := by rcases hs with z | z <;> subst z <;> exact sz_lit (by decide)
  generalize hT : numTop d0 d1 d2 d3 = T at *
  generalize hB : numBot d4 = Bt at *
  have g0 := gcd_pos (a := T) hb
  have g1 := gcd_le (a := T) hb sb
  have eg : Int.gcd ((1 - 2 * d0) * T) Bt = Int.gcd T Bt := by
    rcases hs with z | z <;> subst z
    · rw [show (1 - 2 * 0) * T = T by omega]
    · rw [show (1 - 2 * 1) * T = -T by omega, Int.neg_gcd]
  refine ss_set E2 (d := .int (Int.gcd T Bt : Int)) (ev_divisor E2.trk (by walk_at "ev") (by walk_at "ev")) (fun σ3 H3 E3 => ?_)
  refine s_ret E3 (Ev.is (ev_tup E3.trk (ea_cons (ev_I (i := (1 - 2 * d0) * T) (j := (Int.gcd T Bt : Int)) (ev_I (i := 1 - 2 * d0) (j := T) (ev_I0 (i := 1) (j := 2 * d0) (by walk_at "ev") (ev_I (i := 2) (j := d0) (by walk_at "ev") (by walk_at "ev") (cm (sz_lit (n := 2) (z := 2) (by decide)) (sz_mono (show Sz 1 d0 by unfold Sz; omega) (Nat.le_refl _)) (by decide) (by decide)))) (by walk_at "ev") (cm sg st (by decide) (by decide))) (by walk_at "ev") (cd g0 g1 (by decide)))
    (ea_cons (ev_I (i := Bt) (j := (Int.gcd T Bt : Int)) (by walk_at "ev") (by walk_at "ev") (cd g0 g1 (by decide))) ea_nil)) (Nat.le_of_ble_eq_true rfl)) ?_) q
  have e1 := low_num (a := (1 - 2 * d0) * T) hb
  have e2 := low_den (a := (1 - 2 * d0) * T) hb
  rw [eg] at e1 e2
  unfold numQ
  rw [hT, hB, e1, e2]
  rfl
theorem sc__law_power : FnScope ["_law_base", "_law_many", "_law_found", "_law_k"] ["_law_base", "_law_many"] (defScope s__law_power) := ⟨rfl, rfl, rfl, by decide +kernel, rfl, by decide +kernel, by decide +kernel⟩
theorem ok__law_power (F : Fn K mg "_law_power" s__law_power) (m_range : mg "range" = none) : Cal P w K mg base 1 "_law_power" ["_law_base", "_law_many"] (SpD dPower) := by
  refine cal_D F sc__law_power (fun _ _ _ _ _ _ us hl => match us, hl with | [_, _], _ => rfl) dPower_len (by decide) ⟨_, fun f cdv A outer s H E hr =>
      (pss_cons (ps_set (i := 2) sc__law_power.nd rfl (Or.inl rfl) pe_int)
      (pss_cons (ps_for PassesOwn.never rfl (pi_range1 (by rfl) m_range (pa_cons (pv 1) pa_nil)) (pg_name (i := 3) sc__law_power.nd rfl (Or.inl rfl))
        (pss_one (ps_set (i := 2) sc__law_power.nd rfl (Or.inl rfl) (pe_op op_mulW (pv 2) (pv 0)))))
      (pss_one (ps_ret (pv 2))))), fun ds r hd B H σ D E0 q => ?_⟩
  obtain ⟨b, n, rfl, hb, hn0, hn, rfl⟩ := hd
  refine ss_set E0 (d := .int 1) (by walk_at "ev") (fun σ1 H1 E1 => ?_)
  refine ss_forR B (ea_cons (d := .int n) (by walk_at "ev") ea_nil) ⟨by omega, by omega⟩ (fun i σ' H' => ∃ s, Evn [] H B σ' H' [.dat (.int b), .dat (.int n), .dat (.int (b ^ i)), s]) (fun H2 e => ⟨.no, by rw [Int.pow_zero]; exact E1.same e⟩) (fun i σ' H' hi ⟨s, E2⟩ => ?_) (fun σ' H' ⟨s, E2⟩ => ?_)
  · have E3 := E2.set (i := 3) (v := .int (i : Int)) (.int _)
    refine s_set E3 (ev_I (i := b ^ i) (j := b) (by walk_at "ev") (by walk_at "ev") (cm (pow_sz hb (by omega)) (sz_lit (n := 4) (by rcases hb with z | z <;> subst z <;> decide)) (by decide) (by decide))) (fun σ3 H3 E4 => ⟨.dat (.int (i : Int)), by rw [Int.pow_succ]; exact E4⟩)
  · exact s_ret E2 (d := .int (b ^ n.toNat)) (by walk_at "ev") q

theorem sc__law_between : FnScope ["_law_lo", "_law_hi", "_law_cell_here", "_law_start", "_law_stop", "_law_m", "_law_up"] ["_law_lo", "_law_hi", "_law_cell_here", "_law_start", "_law_stop"] (defScope s__law_between) := ⟨rfl, rfl, rfl, by decide +kernel, rfl, by decide +kernel, by decide +kernel⟩
theorem ok__law_between (F : Fn K mg "_law_between" s__law_between) : Cal P w K mg base 1 "_law_between" ["_law_lo", "_law_hi", "_law_cell_here", "_law_start", "_law_stop"] (SpD dBetween) := by
  refine cal_D F sc__law_between (fun _ _ _ _ _ _ us hl => match us, hl with | [_, _, _, _, _], _ => rfl) dBetween_len (by decide) ⟨_, fun f cdv A outer s H E hr =>
      (pss_cons (ps_set (i := 5) sc__law_between.nd rfl (Or.inl rfl) (pe_op op_mulW (pe_ix (kx_tup (K := K) rfl) (pv 2) pe_int (fun _ _ => rfl)) (pe_op op_sub (pe_op op_mulW (pe_ix (kx_tup (K := K) rfl) (pv 1) pe_int (fun _ _ => rfl)) (pe_ix (kx_tup (K := K) rfl) (pv 0) pe_int (fun _ _ => rfl))) (pe_op op_mulW (pe_ix (kx_tup (K := K) rfl) (pv 0) pe_int (fun _ _ => rfl)) (pe_ix (kx_tup (K := K) rfl) (pv 1) pe_int (fun _ _ => rfl))))))
      (pss_cons (ps_set (i := 6) sc__law_between.nd rfl (Or.inl rfl) (pe_op op_mulW (pe_op op_sub (pe_op op_mulW (pe_ix (kx_tup (K := K) rfl) (pv 2) pe_int (fun _ _ => rfl)) (pe_ix (kx_tup (K := K) rfl) (pv 0) pe_int (fun _ _ => rfl))) (pe_op op_mulW (pe_ix (kx_tup (K := K) rfl) (pv 0) pe_int (fun _ _ => rfl)) (pe_ix (kx_tup (K := K) rfl) (pv 2) pe_int (fun _ _ => rfl)))) (pe_ix (kx_tup (K := K) rfl) (pv 1) pe_int (fun _ _ => rfl))))
      (pss_one (ps_ret (pe_tup (pa_cons (pe_op op_add (pe_op op_mulW (pv 3) (pv 5)) (pe_op op_mulW (pv 6) (pe_op op_sub (pv 4) (pv 3)))) (pa_cons (pv 5) pa_nil))))))), fun ds r hd B H σ D E0 q => ?_⟩
  obtain ⟨lo, hi, c, s, t, rfl, ⟨a1, a2⟩, ⟨b1, b2⟩, ⟨c1, c2⟩, hs, ht, rfl⟩ := hd
  have m1 := sz_mul b1 a2
  have m2 := sz_mul a1 b2
  have m3 := sz_sub m1 m2
  have m4 := sz_mul c2 m3
  have u1 := sz_mul c1 a2
  have u2 := sz_mul a1 c2
  have u3 := sz_sub u1 u2
  have u4 := sz_mul u3 b2
  refine ss_set E0 (d := .int (c.2 * (hi.1 * lo.2 - lo.1 * hi.2))) (ev_I (i := c.2) (j := hi.1 * lo.2 - lo.1 * hi.2) (by walk_at "ev") (ev_I0 (i := hi.1 * lo.2) (j := lo.1 * hi.2) (ev_I (i := hi.1) (j := lo.2) (by walk_at "ev") (by walk_at "ev") (cm b1 a2 (by decide) (by decide))) (ev_I (i := lo.1) (j := hi.2) (by walk_at "ev") (by walk_at "ev") (cm a1 b2 (by decide) (by decide)))) (cm c2 m3 (by decide) (by decide))) (fun σ1 H1 E1 => ?_)
  refine ss_set E1 (d := .int ((c.1 * lo.2 - lo.1 * c.2) * hi.2)) (ev_I (i := c.1 * lo.2 - lo.1 * c.2) (j := hi.2) (ev_I0 (i := c.1 * lo.2) (j := lo.1 * c.2) (ev_I (i := c.1) (j := lo.2) (by walk_at "ev") (by walk_at "ev") (cm c1 a2 (by decide) (by decide))) (ev_I (i := lo.1) (j := c.2) (by walk_at "ev") (by walk_at "ev") (cm a1 c2 (by decide) (by decide)))) (by walk_at "ev") (cm u3 b2 (by decide) (by decide))) (fun σ2 H2 E2 => ?_)
  exact s_ret E2 (ev_pairP E2.trk (a := s * (c.2 * (hi.1 * lo.2 - lo.1 * hi.2)) + (c.1 * lo.2 - lo.1 * c.2) * hi.2 * (t - s)) (b := c.2 * (hi.1 * lo.2 - lo.1 * hi.2)) (ev_I0 (i := s * (c.2 * (hi.1 * lo.2 - lo.1 * hi.2))) (j := (c.1 * lo.2 - lo.1 * c.2) * hi.2 * (t - s)) (ev_I (i := s) (j := c.2 * (hi.1 * lo.2 - lo.1 * hi.2)) (by walk_at "ev") (by walk_at "ev") (cm hs m4 (by decide) (by decide))) (ev_I (i := (c.1 * lo.2 - lo.1 * c.2) * hi.2) (j := t - s) (by walk_at "ev") (ev_I0 (i := t) (j := s) (by walk_at "ev") (by walk_at "ev")) (cm u4 (sz_sub ht hs) (by decide) (by decide)))) (by walk_at "ev")) q
theorem sc__law_within : FnScope ["_law_lo", "_law_hi", "_law_cell_here"] ["_law_lo", "_law_hi", "_law_cell_here"] (defScope s__law_within) := ⟨rfl, rfl, rfl, by decide +kernel, rfl, by decide +kernel, by decide +kernel⟩
theorem ok__law_within (F : Fn K mg "_law_within" s__law_within) : Cal P w K mg base 1 "_law_within" ["_law_lo", "_law_hi", "_law_cell_here"] (SpD dWithin) := by
  refine cal_D F sc__law_within (fun _ _ _ _ _ _ us hl => match us, hl with | [_, _, _], _ => rfl) dWithin_len (by decide) ⟨_, fun f cdv A outer s H E hr =>
      (pss_one (ps_ret (pe_and (pe_cmpR op_le (pe_op op_mulW (pe_ix (kx_tup (K := K) rfl) (pv 0) pe_int (fun _ _ => rfl)) (pe_ix (kx_tup (K := K) rfl) (pv 2) pe_int (fun _ _ => rfl))) (pe_op op_mulW (pe_ix (kx_tup (K := K) rfl) (pv 2) pe_int (fun _ _ => rfl)) (pe_ix (kx_tup (K := K) rfl) (pv 0) pe_int (fun _ _ => rfl))) (nomark _)) (pe_one (pe_cmpR op_le (pe_op op_mulW (pe_ix (kx_tup (K := K) rfl) (pv 2) pe_int (fun _ _ => rfl)) (pe_ix (kx_tup (K := K) rfl) (pv 1) pe_int (fun _ _ => rfl))) (pe_op op_mulW (pe_ix (kx_tup (K := K) rfl) (pv 1) pe_int (fun _ _ => rfl)) (pe_ix (kx_tup (K := K) rfl) (pv 2) pe_int (fun _ _ => rfl))) (nomark _)))))), fun ds r hd B H σ D E0 q => ?_⟩
  obtain ⟨lo, hi, c, rfl, ⟨a1, a2⟩, ⟨b1, b2⟩, ⟨c1, c2⟩, rfl⟩ := hd
  exact s_ret E0 (ev_andV (ev_I0b (i := lo.1 * c.2) (j := c.1 * lo.2) (ev_I (i := lo.1) (j := c.2) (by walk_at "ev") (by walk_at "ev") (cm a1 c2 (by decide) (by decide))) (ev_I (i := c.1) (j := lo.2) (by walk_at "ev") (by walk_at "ev") (cm c1 a2 (by decide) (by decide))))
    (fun _ => ev_I0b (i := c.1 * hi.2) (j := hi.1 * c.2) (ev_I (i := c.1) (j := hi.2) (by walk_at "ev") (by walk_at "ev") (cm c1 b2 (by decide) (by decide))) (ev_I (i := hi.1) (j := c.2) (by walk_at "ev") (by walk_at "ev") (cm b1 c2 (by decide) (by decide))))) q
theorem sc__law_rounded : FnScope ["_law_place_here"] ["_law_place_here"] (defScope s__law_rounded) := ⟨rfl, rfl, rfl, by decide +kernel, rfl, by decide +kernel, by decide +kernel⟩
theorem ok__law_rounded (F : Fn K mg "_law_rounded" s__law_rounded) : Cal P w K mg base 1 "_law_rounded" ["_law_place_here"] (SpD dLRounded) := by
  refine cal_D F sc__law_rounded (fun _ _ _ _ _ _ us hl => match us, hl with | [_], _ => rfl) dLRounded_len (by decide) ⟨_, fun f cdv A outer s H E hr =>
      (pss_one (ps_ret (pe_op op_fdivW (pe_op op_add (pe_op op_mulW pe_int (pe_ix (kx_tup (K := K) rfl) (pv 0) pe_int (fun _ _ => rfl))) (pe_ix (kx_tup (K := K) rfl) (pv 0) pe_int (fun _ _ => rfl))) (pe_op op_mulW pe_int (pe_ix (kx_tup (K := K) rfl) (pv 0) pe_int (fun _ _ => rfl)))))), fun ds r hd B H σ D E0 q => ?_⟩
  obtain ⟨p, rfl, h0, h1, h2, rfl⟩ := hd
  have c1 := cm (sz_lit (n := 2) (z := 2) (by decide)) h1 (by decide) (by decide)
  have c2 := cm (sz_lit (n := 2) (z := 2) (by decide)) h2 (by decide) (by decide)
  exact s_ret E0 (ev_I (ev_I0 (ev_I (i := 2) (j := p.1) (by walk_at "ev") (by walk_at "ev") c1) (by walk_at "ev")) (ev_I (i := 2) (j := p.2) (by walk_at "ev") (by walk_at "ev") c2) (cd (by omega) (sz_mul (sz_lit (n := 2) (z := 2) (by decide)) h2) (by decide))) q
end
end M

end
section
set_option maxHeartbeats 4000000
set_option exponentiation.threshold 10000
namespace M
open PySem PySem.Spec PyProof.Rows L2

/-! ### the field -/
structure Fld where
  ws : List Str
  s : YS
  x0 : Int
  y0 : Int
  lx : Int
structure Fld.Ok (F : Fld) : Prop where
  x : XOk F.ws F.lx
  y : F.s.Ok
  bx : Sz 30 F.x0
  by_ : Sz 30 F.y0
def encF (F : Fld) : PyData := .tuple [encX F.ws F.lx, encYS F.s, .int F.x0, .int F.y0, .int F.lx, .int F.s.len]
def edge (F : Fld) (t : Rat) : Int := match placeY F.s t with
  | .no _ => F.y0 + F.s.len
  | .at_ q => F.y0 + F.s.len - rnd q
def endA (F : Fld) (w : Str) : Rat := strB F.ws F.lx (F.ws.idxOf w)
def endB (F : Fld) (w : Str) : Rat := strB F.ws F.lx (F.ws.idxOf w + 1)
def endsOf (F : Fld) (w : Str) : Int × Int := (F.x0 + rnd (endA F w + (endB F w - endA F w) * (1 / 10)), F.x0 + rnd (endB F w - (endB F w - endA F w) * (1 / 10)))
def YS.nm : YS → Str
  | .straight .. => "straight"
  | .turns .. => "turns"
  | .broken .. => "broken"
theorem nm_st : decide (("straight" : Str) = "turns") = false := by decide +kernel
theorem nm_bt : decide (("broken" : Str) = "turns") = false := by decide +kernel
theorem nm_sb : decide (("straight" : Str) = "broken") = false := by decide +kernel
theorem nm_bb : decide (("broken" : Str) = "broken") = true := by decide +kernel
theorem nm_so : decide (("straight" : Str) = "order") = false := by decide +kernel
theorem nm_to : decide (("turns" : Str) = "order") = false := by decide +kernel
theorem nm_bo : decide (("broken" : Str) = "order") = false := by decide +kernel
theorem nm_order (s : YS) : decide (s.nm = "order") = false := by
  cases s
  · exact nm_so
  · exact nm_to
  · exact nm_bo
def pcs : YS → List Pc
  | .straight lo hi len => [(lo, hi, 0, len)]
  | .turns .. => []
  | .broken ps _ => ps
def preD : YS → PyData
  | .straight lo hi len => .list ([(lo, hi, 0, len)].map encPc)
  | .turns .. => .none
  | .broken ps len => .list [.tuple [.list (ps.map encPc), .int len, .int 0, .int len]]
def dLEdge (ds : List PyData) (r : PyData) : Prop := ∃ (F : Fld) (t : Rat), ds = [encF F, encQ t] ∧ F.Ok ∧ QS 1500 t ∧ r = .int (edge F t)
def dLEnds (ds : List PyData) (r : PyData) : Prop := ∃ (F : Fld) (w : Str), ds = [encF F, .str w] ∧ F.Ok ∧ w ∈ F.ws ∧ r = encP (endsOf F w)
def dPutX (ds : List PyData) (r : PyData) : Prop := ∃ (F : Fld) (q : Rat), ds = [encF F, encQ q] ∧ QS 4000 q ∧ r = .int (F.x0 + rnd q)
def dPutY (ds : List PyData) (r : PyData) : Prop := ∃ (F : Fld) (q : Rat), ds = [encF F, encQ q] ∧ QS 4000 q ∧ r = .int (F.y0 + F.s.len - rnd q)
def plQ : Pl → Rat
  | .no _ => 0
  | .at_ q => q
def dPlaceFrom (ds : List PyData) (r : PyData) : Prop := ∃ (s : YS) (c : Rat), ds = [encYS s, encQ c] ∧ s.Ok ∧ QS 1500 c ∧ r = encQ (plQ (placeY s c))
theorem dLEdge_len : ∀ ds r, dLEdge ds r → ds.length = 2 := by rintro _ _ ⟨_, _, rfl, _⟩; rfl
theorem dLEnds_len : ∀ ds r, dLEnds ds r → ds.length = 2 := by rintro _ _ ⟨_, _, rfl, _⟩; rfl
theorem dPutX_len : ∀ ds r, dPutX ds r → ds.length = 2 := by rintro _ _ ⟨_, _, rfl, _⟩; rfl
theorem dPutY_len : ∀ ds r, dPutY ds r → ds.length = 2 := by rintro _ _ ⟨_, _, rfl, _⟩; rfl
theorem dPlaceFrom_len : ∀ ds r, dPlaceFrom ds r → ds.length = 2 := by rintro _ _ ⟨_, _, rfl, _⟩; rfl
section
variable {K : PySem.W.Frag} {C B : List Addr} {σ : L2.St} {H H0 H' : Hp} {G : List Sl} {ta tb tc td tf te tx tl : TE} {x y lo hi c q t : Rat} {a b : Int} {E : XK} {p p' p2 : Int × Int} {F : Fld} {w : Str}
theorem ev_ledge (ht : Trk B H) (h1 : Ev B ta σ H (encF F)) (h2 : Ev B tb σ H (encQ t)) (h3 : F.Ok) (h4 : QS 1500 t) : Ev B (tCall (SpD dLEdge) [] E (tCons ta (tCons tb tNil))) σ H (.int (edge F t)) := ev_call ht (ea_cons h1 (ea_cons h2 ea_nil)) ⟨F, t, rfl, h3, h4, rfl⟩
theorem ev_lends (ht : Trk B H) (h1 : Ev B ta σ H (encF F)) (h2 : Ev B tb σ H (.str w)) (h3 : F.Ok) (h4 : w ∈ F.ws) : Ev B (tCall (SpD dLEnds) [] E (tCons ta (tCons tb tNil))) σ H (encP (endsOf F w)) := ev_call ht (ea_cons h1 (ea_cons h2 ea_nil)) ⟨F, w, rfl, h3, h4, rfl⟩
theorem ev_putX (ht : Trk B H) (h1 : Ev B ta σ H (encF F)) (h2 : Ev B tb σ H (encQ q)) (h4 : QS 4000 q) : Ev B (tCall (SpD dPutX) [] E (tCons ta (tCons tb tNil))) σ H (.int (F.x0 + rnd q)) := ev_call ht (ea_cons h1 (ea_cons h2 ea_nil)) ⟨F, q, rfl, h4, rfl⟩
theorem ev_putY (ht : Trk B H) (h1 : Ev B ta σ H (encF F)) (h2 : Ev B tb σ H (encQ q)) (h4 : QS 4000 q) : Ev B (tCall (SpD dPutY) [] E (tCons ta (tCons tb tNil))) σ H (.int (F.y0 + F.s.len - rnd q)) := ev_call ht (ea_cons h1 (ea_cons h2 ea_nil)) ⟨F, q, rfl, h4, rfl⟩
theorem ev_placeFrom {s : YS} (ht : Trk B H) (ha : Ev B ta σ H (encYS s)) (hb : Ev B tb σ H (encQ c)) (h1 : s.Ok) (h2 : QS 1500 c) : Ev B (tCall (SpD dPlaceFrom) [] E (tCons ta (tCons tb tNil))) σ H (encQ (plQ (placeY s c))) := ev_call ht (ea_cons ha (ea_cons hb ea_nil)) ⟨s, c, rfl, h1, h2, rfl⟩
end
section
variable {K : PySem.W.Frag} {C B : List Addr} {σ : L2.St} {H H0 H' : Hp} {G : List Sl} {ta tb tc td tf te tx tl : TE} {s : YS} {t : TT} {b : Bool} {D : Ends} {u : TS} {k : Nat} {d : PyData}
theorem ev_nm (h : Ev B te σ H (encYS s)) : Ev B (tOp (rIxT K) te (tC (.int 0))) σ H (.str s.nm) := by
  cases s <;> exact ev_ixT h ev_int rfl
theorem ev_len (h : Ev B te σ H (encYS s)) : Ev B (tOp (rIxT K) te (tUn (rU fun i => .int (-i)) (tC (.int 1)))) σ H (.int s.len) := by
  cases s <;> exact ev_ixT h (ev_neg ev_int) rfl
/-- if t: x = e, and x holds the same otherwise -/
theorem ss_ifSet (E : Evn C H0 B σ H G) (h : EvT B t σ H b) (h1 : b = true → ∀ H', Same H H' → Ev B te σ H' d) (h2 : b = false → G[k]? = some (.dat d)) (q : ∀ σ' H', Evn C H0 B σ' H' (G.set k (.dat d)) → u D σ' H') : tSeq (tIfS t (tAsg te (gName k)) tNext) u D σ H := h H (Same.refl H) _ fun H1 e => by
  cases b with
  | true =>
    show tAsg te (gName k) { D with nx := u D } σ H1
    exact s_set (E.same e) (h1 rfl H1 e) q
  | false =>
    show u D σ H1
    refine q σ H1 ?_
    have e2 : G.set k (.dat d) = G := by
      have h3 := h2 rfl
      obtain ⟨hk, h4⟩ := List.getElem?_eq_some_iff.mp h3
      rw [← h4]
      exact List.set_getElem_self hk
    rw [e2]
    exact E.same e
end
/-! sizes of places -/
theorem placeY_qs {s : YS} {c q : Rat} (hs : s.Ok) (hc : QS 1500 c) (e : placeY s c = .at_ q) : QS 3900 q := by
  cases s with
  | straight lo hi len =>
    obtain ⟨h1, h2, h3, h4, h5⟩ := hs
    unfold placeY at e
    dsimp only at e
    cases w : alongS lo hi c len with
    | none => rw [w] at e; cases e
    | some v =>
      rw [w] at e
      cases e
      exact (alongS_qs h2 h3 hc h1 w (by unfold Sz; omega)).mono (by decide)
  | broken ps len =>
    obtain ⟨h1, h2, h3, h4, h5⟩ := hs
    have key : ∀ (ps : List Pc), (∀ p ∈ ps, QS 400 p.1 ∧ QS 400 p.2.1 ∧ p.1 < p.2.1 ∧ 0 ≤ p.2.2.1 ∧ p.2.2.1 < p.2.2.2 ∧ p.2.2.2 ≤ 4000) → ∀ v, alongPs c ps = some v → QS 2900 v := by
      intro ps
      induction ps with
      | nil => intro _ v e; cases e
      | cons p r ih =>
        intro hp v e
        obtain ⟨lo, hi, f, t⟩ := p
        obtain ⟨a1, a2, a3, a4, a5, a6⟩ := hp _ (List.mem_cons_self ..)
        simp only at a1 a2 a3 a4 a5 a6
        have e' : (match alongS lo hi c (t - f) with
          | some q => some ((f : Rat) + q)
          | none => alongPs c r) = some v := e
        cases w : alongS lo hi c (t - f) with
        | none =>
          rw [w] at e'
          exact ih (fun p hp' => hp p (List.mem_cons_of_mem _ hp')) v e'
        | some u =>
          rw [w] at e'
          obtain rfl := Option.some.inj e'
          have hu := alongS_qs a1 a2 hc a3 w (by unfold Sz; omega)
          exact (qs_add (qs_int (n := 12) (by unfold Sz; omega) (by decide)) hu).mono (by decide)
    unfold placeY placeB at e
    dsimp only at e
    split at e
    · cases e
    · cases w : alongPs c ps with
      | none => rw [w] at e; cases e
      | some v =>
        rw [w] at e
        cases e
        exact (key ps (rising_all _ _ _ h3) _ w).mono (by decide)
  | turns b low many len =>
    obtain ⟨hb, hl1, hl2, hm1, hm2, hn1, hn2⟩ := hs
    unfold placeY at e
    dsimp only at e
    unfold placeT placeT2 placeT3 at e
    split at e
    · cases e
    · have sL : Sz 12 len := by unfold Sz; omega
      have sM : Sz 12 many := by unfold Sz; omega
      split at e
      · cases e
      · rename_i h0 h1
        have sq := pw_sz (n := -low) hb (by omega)
        have sp := pw_sz (n := low) hb (by omega)
        have pp := pw_pos (show 0 < b by omega) low
        have pd := den_pos c
        have st : Sz 2301 (c.num * pw b (-low)) := sz_mul hc.num sq
        have sb0 : Sz 2301 ((c.den : Int) * pw b low) := sz_mul hc.den sp
        have hbot : 0 < (c.den : Int) * pw b low := Int.mul_pos pd pp
        generalize c.num * pw b (-low) = top at *
        generalize (c.den : Int) * pw b low = bot at *
        obtain ⟨t1, t2, t3⟩ := tcount_spec (base := b) (top := top) many.toNat bot
        generalize tcount b top many.toNat bot = t at *
        split at e
        · split at e
          · cases e
          · cases e
            exact (qs_int sL (by decide)).mono (by decide)
        · cases e
          have pt := Int.mul_pos hbot (pow_pos' (show 0 < b by omega) t)
          have ss : Sz 2301 (bot * b ^ t) := by
            cases t with
            | zero => rw [Int.pow_zero, Int.mul_one]; exact sb0
            | succ t => exact sz_le st (by have := t2 t (Nat.lt_succ_self t); omega)
          have sb1 : Sz 5 (b - 1) := sz_lit (by rcases hb with z | z <;> subst z <;> decide)
          have pm : 0 < bot * b ^ t * (b - 1) := Int.mul_pos pt (by omega)
          have sm := sz_mul ss sb1
          have sd := sz_sub st ss
          have hq1 : QS 2306 (((top - bot * b ^ t : Int) : Rat) / ((bot * b ^ t * (b - 1) : Int) : Rat)) := qs_frac pm (sz_mono sd (by decide)) sm
          have sT : Sz 12 (t : Int) := sz_nat (by omega)
          exact (qs_mul (qs_add (qs_int sT (by decide)) hq1) (qs_frac (by omega) sL sM)).mono (by decide)
theorem plQ_qs {s : YS} {c : Rat} (hs : s.Ok) (hc : QS 1500 c) : QS 3900 (plQ (placeY s c)) := by
  cases e : placeY s c with
  | no w =>
    show QS 3900 0
    exact ⟨sz_lit (by decide), sz_mono (n := 1) (sz_lit (by decide)) (by decide)⟩
  | at_ q => exact placeY_qs hs hc e

local macro_rules | `(tactic| walk_at "ev") => `(tactic| first
  | with_reducible exact ev_int
  | with_reducible exact ev_str
  | with_reducible exact ev_bl
  | with_reducible exact ev_non
  | ((with_reducible refine' ev_var (by assumption) ?_); rfl)
  | ((with_reducible refine ev_I0 (i := ?i) (j := ?j) ?h1 ?h2); (case h1 => walk_at "ev"); (case h2 => walk_at "ev"))
  | ((with_reducible refine ev_I0b (i := ?i) (j := ?j) ?h1 ?h2); (case h1 => walk_at "ev"); (case h2 => walk_at "ev"))
  | ((with_reducible refine ev_eqI (i := ?i) (j := ?j) ?h1 ?h2); (case h1 => walk_at "ev"); (case h2 => walk_at "ev"))
  | ((with_reducible refine ev_neI (i := ?i) (j := ?j) ?h1 ?h2); (case h1 => walk_at "ev"); (case h2 => walk_at "ev"))
  | ((with_reducible refine ev_neg (i := ?i) ?h1); (case h1 => walk_at "ev"))
  | ((with_reducible refine ev_fst (x := ?x) ?h1); (case h1 => walk_at "ev"))
  | ((with_reducible refine ev_snd (x := ?x) ?h1); (case h1 => walk_at "ev"))
  | ((with_reducible refine ev_fstP (p := ?x) ?h1); (case h1 => walk_at "ev"))
  | ((with_reducible refine ev_sndP (p := ?x) ?h1); (case h1 => walk_at "ev"))
  | ((with_reducible refine ev_ixT (ds := ?ds) (i := ?i) ?h1 ?h2 ?h3); (case h1 => walk_at "ev"); (case h2 => walk_at "ev"); (case h3 => rfl))
  | ((with_reducible refine ev_ixL (ds := ?ds) (i := ?i) ?h1 ?h2 ?h3); (case h1 => walk_at "ev"); (case h2 => walk_at "ev"); (case h3 => rfl))
  | ((with_reducible refine ev_pair1 (a := ?a) (Evn.trk (by assumption)) ?h1); (case h1 => walk_at "ev"))
  | ((with_reducible refine ev_abs (i := ?i) ?h1); (case h1 => walk_at "ev")))

section
variable {P : Program} {w : World} {K : PySem.W.Frag} {mg : Str → Option Value} {base : Heap}
theorem lcount_le {base top : Int} (hb : 2 ≤ base) {f : Nat} {b : Int} (h : 0 < b) (j : Nat) (hj : j ≤ lcount base top f b) : b * base ^ j ≤ b ∨ b * base ^ j < top := by
  obtain ⟨h1, h2, h3⟩ := lcount_spec (base := base) (top := top) f b
  cases j with
  | zero => left; rw [Int.pow_zero]; omega
  | succ j => exact .inr (h2 j (by omega))
theorem sc__law_turn : FnScope ["_law_scale_here", "_law_cell_here", "_law_name", "_law_base", "_law_low_here", "_law_many", "_law_length", "_law_p", "_law_q", "_law_k", "_law_top", "_law_bottom"] ["_law_scale_here", "_law_cell_here"] (defScope s__law_turn) := ⟨rfl, rfl, rfl, by decide +kernel, rfl, by decide +kernel, by decide +kernel⟩
theorem ok__law_turn (F : Fn K mg "_law_turn" s__law_turn) (c__law_power : Cal P w K mg base 1 "_law_power" ["_law_base", "_law_many"] (SpD dPower)) (c__law_within : Cal P w K mg base 1 "_law_within" ["_law_lo", "_law_hi", "_law_cell_here"] (SpD dWithin)) (c__law_between : Cal P w K mg base 1 "_law_between" ["_law_lo", "_law_hi", "_law_cell_here", "_law_start", "_law_stop"] (SpD dBetween)) : Cal P w K mg base 2 "_law_turn" ["_law_scale_here", "_law_cell_here"] (SpD dLTurn) := by
  refine cal_D F sc__law_turn (fun _ _ _ _ _ _ us hl => match us, hl with | [_, _], _ => rfl) dLTurn_len (by decide) ⟨_, fun f cdv A outer s H E hr =>
      (pss_cons (ps_asg (pv 0) (kpg_tup (K := K) (n := 5) rfl (by rfl) (pgs_cons (pg_name (i := 2) sc__law_turn.nd rfl (Or.inl rfl)) (pgs_cons (pg_name (i := 3) sc__law_turn.nd rfl (Or.inl rfl)) (pgs_cons (pg_name (i := 4) sc__law_turn.nd rfl (Or.inl rfl)) (pgs_cons (pg_name (i := 5) sc__law_turn.nd rfl (Or.inl rfl)) (pgs_cons (pg_name (i := 6) sc__law_turn.nd rfl (Or.inl rfl)) pgs_nil)))))))
      (pss_cons (ps_if (pt_cmpR op_le (pe_ix (kx_tup (K := K) rfl) (pv 1) pe_int (fun _ _ => rfl)) pe_int (nomark _)) (pss_one (ps_ret pe_str)) pss_nil)
      (pss_cons (ps_set (i := 7) sc__law_turn.nd rfl (Or.inl rfl) (pe_cal c__law_power hr (by decide) (by rfl) (pa_cons (pv 3) (pa_cons (pv 4) pa_nil))))
      (pss_cons (ps_set (i := 8) sc__law_turn.nd rfl (Or.inl rfl) (pe_cal c__law_power hr (by decide) (by rfl) (pa_cons (pv 3) (pa_cons (pe_un un_neg (pv 4)) pa_nil))))
      (pss_cons (ps_set (i := 9) sc__law_turn.nd rfl (Or.inl rfl) pe_int)
      (pss_cons (ps_while PassesOwn.never (PW.pt (pw_and (pt_cmpR op_lt (pv 9) (pe_op op_sub (pv 5) pe_int) (nomark _)) (pw_and1 (pt_cmpR op_lt (pe_op op_mulW (pe_op op_mulW (pv 7) (pv 3)) (pe_ix (kx_tup (K := K) rfl) (pv 1) pe_int (fun _ _ => rfl))) (pe_op op_mulW (pe_ix (kx_tup (K := K) rfl) (pv 1) pe_int (fun _ _ => rfl)) (pv 8)) (nomark _))))) (pss_cons (ps_set (i := 7) sc__law_turn.nd rfl (Or.inl rfl) (pe_op op_mulW (pv 7) (pv 3)))
        (pss_one (ps_set (i := 9) sc__law_turn.nd rfl (Or.inl rfl) (pe_op op_add (pv 9) pe_int)))))
      (pss_cons (ps_if (pt_not (pt_val (pe_cal c__law_within hr (by decide) (by rfl) (pa_cons (pe_tup (pa_cons (pv 7) (pa_cons (pv 8) pa_nil))) (pa_cons (pe_tup (pa_cons (pe_op op_mulW (pv 7) (pv 3)) (pa_cons (pv 8) pa_nil))) (pa_cons (pv 1) pa_nil)))))) (pss_one (ps_ret pe_str)) pss_nil)
      (pss_cons (ps_asg (pe_cal c__law_between hr (by decide) (by rfl) (pa_cons (pe_tup (pa_cons (pv 7) (pa_cons (pv 8) pa_nil))) (pa_cons (pe_tup (pa_cons (pe_op op_mulW (pv 7) (pv 3)) (pa_cons (pv 8) pa_nil))) (pa_cons (pv 1) (pa_cons (pv 9) (pa_cons (pe_op op_add (pv 9) pe_int) pa_nil)))))) (kpg_tup (K := K) (n := 2) rfl (by rfl) (pgs_cons (pg_name (i := 10) sc__law_turn.nd rfl (Or.inl rfl)) (pgs_cons (pg_name (i := 11) sc__law_turn.nd rfl (Or.inl rfl)) pgs_nil))))
      (pss_one (ps_ret (pe_tup (pa_cons (pe_op op_mulW (pv 10) (pv 6)) (pa_cons (pe_op op_mulW (pv 11) (pv 5)) pa_nil))))))))))))), fun ds r hd B H σ D E0 q => ?_⟩
  obtain ⟨b, low, many, len, c, rfl, hok, hc, rfl⟩ := hd
  obtain ⟨hb, hl1, hl2, hm1, hm2, hn1, hn2⟩ := id hok
  have hb2 : 2 ≤ b := by omega
  have sb : Sz 4 b := sz_lit (by rcases hb with z | z <;> subst z <;> decide)
  refine ss_unp E0 (d := encYS (.turns b low many len)) (by walk_at "ev") (fun v1 H1 E1 r1 => g_tup r1 rfl fun vs a0 => gs_cons E1 a0 fun σ2 vs E2 a0 => gs_cons E2 a0 fun σ3 vs E3 a0 => gs_cons E3 a0 fun σ4 vs E4 a0 => gs_cons E4 a0 fun σ5 vs E5 a0 => gs_cons E5 a0 fun σ6 vs E6 a0 => gs_nil a0 ?_)
  have E6 : Evn [] H B σ6 H1 [.dat (encYS (.turns b low many len)), .dat (encQ c), .dat (.str "turns"), .dat (.int b), .dat (.int low), .dat (.int many), .dat (.int len), .no, .no, .no, .no, .no] := E6
  clear E1 E2 E3 E4 E5 r1
  refine ss_ifR E6 (et_test (ev_I0b (i := c.num) (j := 0) (by walk_at "ev") (by walk_at "ev"))) (fun hb H2 E7 => ?_) (fun hb H2 E7 => ?_)
  · refine s_ret E7 (Ev.is (ev_str (s := "nought")) ?_) q
    unfold lTurn
    rw [if_pos (of_decide_eq_true hb)]
    rfl
  have h0 : ¬ c.num ≤ 0 := of_decide_eq_false hb
  unfold lTurn at q
  rw [if_neg h0] at q
  have sq := pw_sz (n := -low) ‹b = 2 ∨ b = 10› (by omega)
  have sp := pw_sz (n := low) ‹b = 2 ∨ b = 10› (by omega)
  have pq := pw_pos (show 0 < b by omega) (-low)
  have pp := pw_pos (show 0 < b by omega) low
  have pd := den_pos c
  refine ss_set E7 (d := .int (pw b low)) (ev_power E7.trk (a := b) (b := low) (by walk_at "ev") (by walk_at "ev") ‹_› (by omega) (by omega)) (fun σ8 H3 E8 => ?_)
  refine ss_set E8 (d := .int (pw b (-low))) (ev_power E8.trk (a := b) (b := -low) (by walk_at "ev") (by walk_at "ev") ‹_› (by omega) (by omega)) (fun σ9 H4 E9 => ?_)
  refine ss_set E9 (d := .int 0) (by walk_at "ev") (fun σ10 H5 E10 => ?_)
  have E10 : Evn [] H B σ10 H5 [.dat (encYS (.turns b low many len)), .dat (encQ c), .dat (.str "turns"), .dat (.int b), .dat (.int low), .dat (.int many), .dat (.int len), .dat (.int (pw b low)), .dat (.int (pw b (-low))), .dat (.int 0), .no, .no] := E10
  clear E6 E7 E8 E9
  dsimp only at q
  generalize hP : pw b low = p at *
  generalize hQ : pw b (-low) = qq at *
  have sP : ∀ i : Nat, i ≤ 400 → Sz 3000 (p * b ^ i) := fun i hi => by
    refine sz_mono (sz_mul sp (n := 801) (m := 1601) ?_) (by decide)
    have h : (b ^ i).natAbs ≤ 2 ^ (4 * i) := sz_pow (by omega)
    exact Nat.lt_of_le_of_lt h (Nat.pow_lt_pow_right (by decide) (by omega))
  have sT : Sz 2301 (c.num * qq) := sz_mul hc.num sq
  refine ss_while B (fun m σ' H' => ∃ t : Nat, t ≤ (many - 1).toNat ∧ m = (many - 1).toNat - t ∧ lcount b (c.num * qq) ((many - 1).toNat - t) ((c.den : Int) * (p * b ^ t)) + t = lcount b (c.num * qq) (many - 1).toNat ((c.den : Int) * p) ∧
    Evn [] H B σ' H' [.dat (encYS (.turns b low many len)), .dat (encQ c), .dat (.str "turns"), .dat (.int b), .dat (.int low), .dat (.int many), .dat (.int len), .dat (.int (p * b ^ t)), .dat (.int qq), .dat (.int (t : Int)), .no, .no]) (many - 1).toNat
    ⟨0, by omega, by omega, by rw [Int.pow_zero, Int.mul_one]; rfl, by rw [Int.pow_zero, Int.mul_one]; exact E10⟩ (fun m σ' H' ⟨t, ht, em, ec, E12⟩ => ?_)
  have st := sP t (by omega)
  have st2 := sz_mul st sb
  have e1 : p * b ^ t * b = p * b ^ (t + 1) := by rw [Int.pow_succ, Int.mul_assoc]
  have e2 : (c.den : Int) * (p * b ^ (t + 1)) = (c.den : Int) * (p * b ^ t) * b := by rw [← e1, ← Int.mul_assoc (c.den : Int)]
  have e3 : p * b ^ t * b * (c.den : Int) = (c.den : Int) * (p * b ^ t) * b := by rw [← e2, e1, Int.mul_comm]
  refine ⟨_, et_and (et_test (ev_I0b (i := (t : Int)) (j := many - 1) (by walk_at "ev") (by walk_at "ev"))) (fun _ => et_test (ev_I0b (i := p * b ^ t * b * (c.den : Int)) (j := c.num * qq) (ev_I (i := p * b ^ t * b) (j := (c.den : Int)) (ev_I (i := p * b ^ t) (j := b) (by walk_at "ev") (by walk_at "ev") (cm st sb (by decide) (by decide))) (by walk_at "ev") (cm st2 hc.den (by decide) (by decide))) (ev_I (i := c.num) (j := qq) (by walk_at "ev") (by walk_at "ev") (cm hc.num sq (by decide) (by decide))))), fun hc2 H7 e => ?_, fun hc2 H7 e => ?_⟩
  · rw [Bool.and_eq_true, decide_eq_true_iff, decide_eq_true_iff] at hc2
    have E13 := E12.same e
    refine ⟨_, fun σ2 H2 h => h, ss_set E13 (d := .int (p * b ^ (t + 1))) (Ev.is (ev_I (i := p * b ^ t) (j := b) (by walk_at "ev") (by walk_at "ev") (cm st sb (by decide) (by decide))) (by rw [e1])) (fun σ14 H8 E14 => s_set E14 (d := .int ((t : Int) + 1)) (ev_I0 (i := (t : Int)) (j := 1) (by walk_at "ev") (by walk_at "ev")) (fun σ15 H9 E15 => ?_))⟩
    refine ⟨(many - 1).toNat - (t + 1), by omega, t + 1, by omega, rfl, ?_, E15⟩
    rw [← ec]
    obtain ⟨f, hf⟩ : ∃ f, (many - 1).toNat - t = f + 1 := ⟨(many - 1).toNat - t - 1, by omega⟩
    rw [hf, show (many - 1).toNat - (t + 1) = f by omega]
    show _ = (if (c.den : Int) * (p * b ^ t) * b < c.num * qq then lcount b (c.num * qq) f ((c.den : Int) * (p * b ^ t) * b) + 1 else 0) + t
    rw [if_pos (by rw [← e3]; exact hc2.2), e2]
    omega
  have E13 := E12.same e
  rw [Bool.and_eq_false_iff, decide_eq_false_iff_not, decide_eq_false_iff_not] at hc2
  have et : lcount b (c.num * qq) (many - 1).toNat ((c.den : Int) * p) = t := by
    rw [← ec]
    cases hf : (many - 1).toNat - t with
    | zero =>
      show 0 + t = t
      omega
    | succ f =>
      show (if (c.den : Int) * (p * b ^ t) * b < c.num * qq then lcount b (c.num * qq) f ((c.den : Int) * (p * b ^ t) * b) + 1 else 0) + t = t
      rw [if_neg (by rw [← e3]; rcases hc2 with z | z <;> omega)]
      omega
  rw [et] at q
  clear E0 E10 E12 ec
  have q1 : PS4 (p * b ^ t, qq) := ⟨sz_mono st (by decide), sz_mono sq (by decide)⟩
  have q2 : PS4 (p * b ^ t * b, qq) := ⟨sz_mono st2 (by decide), sz_mono sq (by decide)⟩
  have q3 : PS4 (nd c) := ps_nd hc (by decide)
  refine ss_ifR E13 (et_not (et_B (ev_within E13.trk (p := (p * b ^ t, qq)) (p' := (p * b ^ t * b, qq)) (p2 := nd c) (ev_pairP E13.trk (by walk_at "ev") (by walk_at "ev")) (ev_pairP E13.trk (a := p * b ^ t * b) (b := qq) (ev_I (i := p * b ^ t) (j := b) (by walk_at "ev") (by walk_at "ev") (cm st sb (by decide) (by decide))) (by walk_at "ev")) (by walk_at "ev") q1 q2 q3))) (fun hb2 H8 E14 => ?_) (fun hb2 H8 E14 => ?_)
  · rw [Bool.not_eq_true'] at hb2
    rw [hb2, if_neg Bool.false_ne_true] at q
    exact s_ret E14 (ev_str (s := "outside")) q
  · rw [Bool.not_eq_false'] at hb2
    rw [hb2, if_pos rfl] at q
    have sT2 : Sz 20 (t : Int) := sz_nat (by omega)
    have sT3 : Sz 20 ((t : Int) + 1) := by unfold Sz; omega
    obtain ⟨z1, z2⟩ := lBetween_sz (n := 3004) (m := 3004) (k := 1500) (lo := (p * b ^ t, qq)) (hi := (p * b ^ t * b, qq)) (c := nd c) (sz_mono st (by decide)) (sz_mono sq (by decide)) (sz_mono st2 (by decide)) (sz_mono sq (by decide)) hc.num hc.den sT2 sT3
    generalize hr : lBetween (p * b ^ t, qq) (p * b ^ t * b, qq) (nd c) (t : Int) ((t : Int) + 1) = r at *
    refine ss_unp E14 (d := encP r) (Ev.is (ev_between E14.trk (p := (p * b ^ t, qq)) (p' := (p * b ^ t * b, qq)) (p2 := nd c) (a := (t : Int)) (b := (t : Int) + 1) (ev_pairP E14.trk (by walk_at "ev") (by walk_at "ev")) (ev_pairP E14.trk (a := p * b ^ t * b) (b := qq) (ev_I (i := p * b ^ t) (j := b) (by walk_at "ev") (by walk_at "ev") (cm st sb (by decide) (by decide))) (by walk_at "ev")) (by walk_at "ev") (by walk_at "ev") (by walk_at "ev") q1 q2 q3 sT2 sT3) (congrArg encP hr)) (fun v1 H9 E15 r1 => g_tup (ds := [.int r.1, .int r.2]) r1 rfl fun vs a0 => gs_cons E15 a0 fun σ2 vs E16 a0 => gs_cons E16 a0 fun σ3 vs E17 a0 => gs_nil a0 ?_)
    have sL : Sz 12 len := by unfold Sz; omega
    have sM : Sz 12 many := by unfold Sz; omega
    exact s_ret E17 (ev_pairP E17.trk (a := r.1 * len) (b := r.2 * many) (ev_I (i := r.1) (j := len) (by walk_at "ev") (by walk_at "ev") (cm z1 sL (by decide) (by decide))) (ev_I (i := r.2) (j := many) (by walk_at "ev") (by walk_at "ev") (cm z2 sM (by decide) (by decide)))) q

theorem sc__law_place : FnScope ["_law_scale_here", "_law_cell_here", "_law_pieces", "_law_lo", "_law_hi", "_law_start", "_law_stop"] ["_law_scale_here", "_law_cell_here"] (defScope s__law_place) := ⟨rfl, rfl, rfl, by decide +kernel, rfl, by decide +kernel, by decide +kernel⟩
theorem ok__law_placeX (F : Fn K mg "_law_place" s__law_place) (c__law_turn : Cal P w K mg base 2 "_law_turn" ["_law_scale_here", "_law_cell_here"] (SpD dLTurn)) (c__law_within : Cal P w K mg base 1 "_law_within" ["_law_lo", "_law_hi", "_law_cell_here"] (SpD dWithin)) (c__law_between : Cal P w K mg base 1 "_law_between" ["_law_lo", "_law_hi", "_law_cell_here", "_law_start", "_law_stop"] (SpD dBetween)) (m_len : mg "len" = none) : Cal P w K mg base 3 "_law_place" ["_law_scale_here", "_law_cell_here"] (SpD dLPlaceX) := by
  refine cal_D F sc__law_place (fun _ _ _ _ _ _ us hl => match us, hl with | [_, _], _ => rfl) dLPlaceX_len (by decide) ⟨_, fun f cdv A outer s H E hr =>
      (pss_cons (ps_if (pt_cmpR op_isN (pv 1) pe_non (nomark _)) (pss_one (ps_ret pe_str)) pss_nil)
      (pss_cons (ps_if (pt_cmpR op_eq (pe_ix (kx_tup (K := K) rfl) (pv 0) pe_int (fun _ _ => rfl)) pe_str (nomark _)) (pss_cons (ps_if (pt_cmpR (kop_notIn (K := K) rfl) (pv 1) (pe_ix (kx_tup (K := K) rfl) (pv 0) pe_int (fun _ _ => rfl)) (by rfl)) (pss_one (ps_ret pe_str)) pss_nil)
        (pss_one (ps_ret (pe_tup (pa_cons (pe_op op_mulW (pe_op op_add (pe_op op_mulW pe_int (kpe_bm (K := K) rfl PySem.F.plainAttrs_list PySem.F.slot_list_index PySem.F.type_list_index (kmt_index (K := K) rfl) (pe_ix (kx_tup (K := K) rfl) (pv 0) pe_int (fun _ _ => rfl)) (pa_cons (pv 1) pa_nil))) pe_int) (pe_ix (kx_tup (K := K) rfl) (pv 0) pe_int (fun _ _ => rfl))) (pa_cons (pe_op op_mulW pe_int (pe_callB (kcall_len (K := K) rfl) (by rfl) m_len bt_len (pa_cons (pe_ix (kx_tup (K := K) rfl) (pv 0) pe_int (fun _ _ => rfl)) pa_nil))) pa_nil)))))) pss_nil)
      (pss_cons (ps_if (pt_cmpR op_eq (pe_ix (kx_tup (K := K) rfl) (pv 0) pe_int (fun _ _ => rfl)) pe_str (nomark _)) (pss_one (ps_ret (pe_cal c__law_turn hr (by decide) (by rfl) (pa_cons (pv 0) (pa_cons (pv 1) pa_nil))))) pss_nil)
      (pss_cons (ps_set (i := 2) sc__law_place.nd rfl (Or.inl rfl) (pe_lst (pa_cons (pe_op (kop_catT (K := K) rfl) (pe_slice (ksl_tup (K := K) rfl) (pv 0) (po_some pe_int) (po_some pe_int)) (pe_tup (pa_cons pe_int (pa_cons (pe_ix (kx_tup (K := K) rfl) (pv 0) (pe_un un_neg pe_int) (fun _ _ => rfl)) pa_nil)))) pa_nil)))
      (pss_cons (ps_if (pt_cmpR op_eq (pe_ix (kx_tup (K := K) rfl) (pv 0) pe_int (fun _ _ => rfl)) pe_str (nomark _)) (pss_one (ps_set (i := 2) sc__law_place.nd rfl (Or.inl rfl) (pe_ix (kx_tup (K := K) rfl) (pv 0) pe_int (fun _ _ => rfl)))) pss_nil)
      (pss_cons (ps_for PassesOwn.never rfl (kpi_list (K := K) rfl (pv 2)) (kpg_tup (K := K) (n := 4) rfl (by rfl) (pgs_cons (pg_name (i := 3) sc__law_place.nd rfl (Or.inl rfl)) (pgs_cons (pg_name (i := 4) sc__law_place.nd rfl (Or.inl rfl)) (pgs_cons (pg_name (i := 5) sc__law_place.nd rfl (Or.inl rfl)) (pgs_cons (pg_name (i := 6) sc__law_place.nd rfl (Or.inl rfl)) pgs_nil)))))
        (pss_one (ps_if (pt_val (pe_cal c__law_within hr (by decide) (by rfl) (pa_cons (pv 3) (pa_cons (pv 4) (pa_cons (pv 1) pa_nil))))) (pss_one (ps_ret (pe_cal c__law_between hr (by decide) (by rfl) (pa_cons (pv 3) (pa_cons (pv 4) (pa_cons (pv 1) (pa_cons (pv 5) (pa_cons (pv 6) pa_nil)))))))) pss_nil)))
      (pss_cons (ps_if (PW.pt (pw_and (pt_cmpR op_gt (pe_callB (kcall_len (K := K) rfl) (by rfl) m_len bt_len (pa_cons (pv 2) pa_nil)) pe_int (nomark _)) (pw_and1 (pt_val (pe_cal c__law_within hr (by decide) (by rfl) (pa_cons (pe_ix (kx_tup (K := K) rfl) (pe_ix (kx_list (K := K) rfl) (pv 2) pe_int (fun _ _ => rfl)) pe_int (fun _ _ => rfl)) (pa_cons (pe_ix (kx_tup (K := K) rfl) (pe_ix (kx_list (K := K) rfl) (pv 2) (pe_un un_neg pe_int) (fun _ _ => rfl)) pe_int (fun _ _ => rfl)) (pa_cons (pv 1) pa_nil)))))))) (pss_one (ps_ret pe_str)) pss_nil)
      (pss_one (ps_ret pe_str))))))))), fun ds r hd B H σ D E0 q => ?_⟩
  obtain ⟨ws, len, c, rfl, hx, rfl⟩ := hd
  cases c with
  | none =>
    refine ss_ifT E0 (et_test (Ev.is (ev_isN (d := .none) (by walk_at "ev")) rfl)) (fun H1 E1 => ?_)
    exact s_ret E1 (ev_str (s := "nothing")) q
  | some w =>
    refine ss_ifF E0 (et_test (Ev.is (ev_isN (d := .str w) (by walk_at "ev")) rfl)) (fun H1 E1 => ?_)
    refine ss_ifT E1 (et_test (Ev.is (ev_eqS (s := "order") (w := "order") (by walk_at "ev") (by walk_at "ev")) (congrArg PyData.bool (decide_eq_true rfl)))) (fun H4 E4 => ?_)
    refine ss_ifR E4 (et_test (ev_notInS (w := w) (ws := ws) (by walk_at "ev") (by walk_at "ev"))) (fun hb H5 E5 => ?_) (fun hb H5 E5 => ?_)
    · have hw : ¬ w ∈ ws := by simpa using hb
      refine s_ret E5 (Ev.is (ev_str (s := "unknown")) ?_) q
      rw [show lPlaceX ws len (some w) = .no .unknown from if_neg hw]
      rfl
    · have hw : w ∈ ws := by simpa using hb
      have n60 := hx.n60
      have hi : ws.idxOf w < ws.length := List.idxOf_lt_length_of_mem hw
      have sl : Sz 12 len := by unfold Sz; have := hx.l1; have := hx.l4; omega
      have s1 : Sz 8 (2 * (ws.idxOf w : Int) + 1) := by unfold Sz; omega
      have el : (((ws.map PyData.str).length : Nat) : Int) = (ws.length : Int) := by rw [List.length_map]
      have two := sz_lit (n := 2) (z := 2) (by decide)
      refine s_ret E5 (Ev.is (ev_pairP E5.trk (a := (2 * (ws.idxOf w : Int) + 1) * len) (b := 2 * (ws.length : Int)) (ev_I (i := 2 * (ws.idxOf w : Int) + 1) (j := len) (ev_I0 (i := 2 * (ws.idxOf w : Int)) (j := 1) (ev_I (i := 2) (j := (ws.idxOf w : Int)) (by walk_at "ev") (ev_indexS (by walk_at "ev") (by walk_at "ev") hw) (cm two (sz_nat (n := 7) (by omega)) (by decide) (by decide))) (by walk_at "ev")) (by walk_at "ev") (cm s1 sl (by decide) (by decide)))
        (ev_I (i := 2) (j := (ws.length : Int)) (by walk_at "ev") (Ev.is (ev_lenL (ds := ws.map .str) (by walk_at "ev")) (congrArg PyData.int el)) (cm two (sz_nat (n := 7) (by omega)) (by decide) (by decide)))) ?_) q
      rw [show lPlaceX ws len (some w) = .at_ ((2 * (ws.idxOf w : Int) + 1) * len, 2 * (ws.length : Int)) from if_pos hw]
      rfl

theorem ok__law_placeY (F : Fn K mg "_law_place" s__law_place) (c__law_turn : Cal P w K mg base 2 "_law_turn" ["_law_scale_here", "_law_cell_here"] (SpD dLTurn)) (c__law_within : Cal P w K mg base 1 "_law_within" ["_law_lo", "_law_hi", "_law_cell_here"] (SpD dWithin)) (c__law_between : Cal P w K mg base 1 "_law_between" ["_law_lo", "_law_hi", "_law_cell_here", "_law_start", "_law_stop"] (SpD dBetween)) (m_len : mg "len" = none) : Cal P w K mg base 3 "_law_place" ["_law_scale_here", "_law_cell_here"] (SpD dLPlaceY) := by
  refine cal_D F sc__law_place (fun _ _ _ _ _ _ us hl => match us, hl with | [_, _], _ => rfl) dLPlaceY_len (by decide) ⟨_, fun f cdv A outer s H E hr =>
      (pss_cons (ps_if (pt_cmpR op_isN (pv 1) pe_non (nomark _)) (pss_one (ps_ret pe_str)) pss_nil)
      (pss_cons (ps_if (pt_cmpR op_eq (pe_ix (kx_tup (K := K) rfl) (pv 0) pe_int (fun _ _ => rfl)) pe_str (nomark _)) (pss_cons (ps_if (pt_cmpR (kop_notIn (K := K) rfl) (pv 1) (pe_ix (kx_tup (K := K) rfl) (pv 0) pe_int (fun _ _ => rfl)) (by rfl)) (pss_one (ps_ret pe_str)) pss_nil)
        (pss_one (ps_ret (pe_tup (pa_cons (pe_op op_mulW (pe_op op_add (pe_op op_mulW pe_int (kpe_bm (K := K) rfl PySem.F.plainAttrs_list PySem.F.slot_list_index PySem.F.type_list_index (kmt_index (K := K) rfl) (pe_ix (kx_tup (K := K) rfl) (pv 0) pe_int (fun _ _ => rfl)) (pa_cons (pv 1) pa_nil))) pe_int) (pe_ix (kx_tup (K := K) rfl) (pv 0) pe_int (fun _ _ => rfl))) (pa_cons (pe_op op_mulW pe_int (pe_callB (kcall_len (K := K) rfl) (by rfl) m_len bt_len (pa_cons (pe_ix (kx_tup (K := K) rfl) (pv 0) pe_int (fun _ _ => rfl)) pa_nil))) pa_nil)))))) pss_nil)
      (pss_cons (ps_if (pt_cmpR op_eq (pe_ix (kx_tup (K := K) rfl) (pv 0) pe_int (fun _ _ => rfl)) pe_str (nomark _)) (pss_one (ps_ret (pe_cal c__law_turn hr (by decide) (by rfl) (pa_cons (pv 0) (pa_cons (pv 1) pa_nil))))) pss_nil)
      (pss_cons (ps_set (i := 2) sc__law_place.nd rfl (Or.inl rfl) (pe_lst (pa_cons (pe_op (kop_catT (K := K) rfl) (pe_slice (ksl_tup (K := K) rfl) (pv 0) (po_some pe_int) (po_some pe_int)) (pe_tup (pa_cons pe_int (pa_cons (pe_ix (kx_tup (K := K) rfl) (pv 0) (pe_un un_neg pe_int) (fun _ _ => rfl)) pa_nil)))) pa_nil)))
      (pss_cons (ps_if (pt_cmpR op_eq (pe_ix (kx_tup (K := K) rfl) (pv 0) pe_int (fun _ _ => rfl)) pe_str (nomark _)) (pss_one (ps_set (i := 2) sc__law_place.nd rfl (Or.inl rfl) (pe_ix (kx_tup (K := K) rfl) (pv 0) pe_int (fun _ _ => rfl)))) pss_nil)
      (pss_cons (ps_for PassesOwn.never rfl (kpi_list (K := K) rfl (pv 2)) (kpg_tup (K := K) (n := 4) rfl (by rfl) (pgs_cons (pg_name (i := 3) sc__law_place.nd rfl (Or.inl rfl)) (pgs_cons (pg_name (i := 4) sc__law_place.nd rfl (Or.inl rfl)) (pgs_cons (pg_name (i := 5) sc__law_place.nd rfl (Or.inl rfl)) (pgs_cons (pg_name (i := 6) sc__law_place.nd rfl (Or.inl rfl)) pgs_nil)))))
        (pss_one (ps_if (pt_val (pe_cal c__law_within hr (by decide) (by rfl) (pa_cons (pv 3) (pa_cons (pv 4) (pa_cons (pv 1) pa_nil))))) (pss_one (ps_ret (pe_cal c__law_between hr (by decide) (by rfl) (pa_cons (pv 3) (pa_cons (pv 4) (pa_cons (pv 1) (pa_cons (pv 5) (pa_cons (pv 6) pa_nil)))))))) pss_nil)))
      (pss_cons (ps_if (PW.pt (pw_and (pt_cmpR op_gt (pe_callB (kcall_len (K := K) rfl) (by rfl) m_len bt_len (pa_cons (pv 2) pa_nil)) pe_int (nomark _)) (pw_and1 (pt_val (pe_cal c__law_within hr (by decide) (by rfl) (pa_cons (pe_ix (kx_tup (K := K) rfl) (pe_ix (kx_list (K := K) rfl) (pv 2) pe_int (fun _ _ => rfl)) pe_int (fun _ _ => rfl)) (pa_cons (pe_ix (kx_tup (K := K) rfl) (pe_ix (kx_list (K := K) rfl) (pv 2) (pe_un un_neg pe_int) (fun _ _ => rfl)) pe_int (fun _ _ => rfl)) (pa_cons (pv 1) pa_nil)))))))) (pss_one (ps_ret pe_str)) pss_nil)
      (pss_one (ps_ret pe_str))))))))), fun ds r hd B H σ D E0 q => ?_⟩
  obtain ⟨s, c, rfl, hok, hc, rfl⟩ := hd
  have qc : PS4 (nd c) := ps_nd hc (by decide)
  refine ss_ifF E0 (et_test (Ev.is (ev_isN (d := encQ c) (by walk_at "ev")) rfl)) (fun H1 E1 => ?_)
  refine ss_ifF E1 (et_test (Ev.is (ev_eqS (s := s.nm) (w := "order") (ev_nm (by walk_at "ev")) (by walk_at "ev")) (congrArg PyData.bool (nm_order s)))) (fun H2 E2 => ?_)
  by_cases hT : ∃ b low many len, s = .turns b low many len
  · obtain ⟨b, low, many, len, rfl⟩ := hT
    refine ss_ifT E2 (et_test (Ev.is (ev_eqS (s := "turns") (w := "turns") (by walk_at "ev") (by walk_at "ev")) (congrArg PyData.bool (decide_eq_true rfl)))) (fun H3 E3 => ?_)
    exact s_ret E3 (ev_lturn E3.trk (by walk_at "ev") (by walk_at "ev") hok hc) q
  have nT : decide (s.nm = "turns") = false := by
    cases s with
    | turns b low many len => exact absurd ⟨b, low, many, len, rfl⟩ hT
    | straight => exact nm_st
    | broken => exact nm_bt
  refine ss_ifF E2 (et_test (Ev.is (ev_eqS (s := s.nm) (w := "turns") (ev_nm (by walk_at "ev")) (by walk_at "ev")) (congrArg PyData.bool nT))) (fun H3 E3 => ?_)
  obtain ⟨all, hp1, hp4, el⟩ : (∀ p ∈ pcs s, QS 400 p.1 ∧ QS 400 p.2.1 ∧ p.1 < p.2.1 ∧ 0 ≤ p.2.2.1 ∧ p.2.2.1 < p.2.2.2 ∧ p.2.2.2 ≤ 4000) ∧ 1 ≤ (pcs s).length ∧ (pcs s).length ≤ 4 ∧
      lPlace s c = (match lPieces c (pcs s) with
        | some p => .at_ p
        | none => if 1 < (pcs s).length ∧ lWithin (nd (firstLo (pcs s))) (nd (lastHi (pcs s))) (nd c) = true then .no .gap else .no .outside) := by
    cases s with
    | turns b low many len => exact absurd ⟨b, low, many, len, rfl⟩ hT
    | straight lo hi len =>
      obtain ⟨h1, h2, h3, h4, h5⟩ := id hok
      refine ⟨fun p hp => ?_, by simp [pcs], by simp [pcs], ?_⟩
      · have hp : p ∈ [(lo, hi, (0 : Int), len)] := hp
        rw [List.mem_singleton] at hp
        subst hp
        exact ⟨h2, h3, h1, by simp, by simp only; omega, h5⟩
      · unfold lPlace pcs
        dsimp only
        cases lPieces c [(lo, hi, 0, len)] <;> simp
    | broken ps len =>
      obtain ⟨hp1, hp2, hr, hn1, hn2⟩ := id hok
      refine ⟨rising_all _ _ _ hr, by simp only [pcs]; omega, hp2, ?_⟩
      unfold lPlace pcs
      dsimp only
      cases lPieces c ps
      · dsimp only
        by_cases z : lWithin (nd (firstLo ps)) (nd (lastHi ps)) (nd c) = true
        · rw [if_pos z, if_pos ⟨by omega, z⟩]
        · rw [if_neg z, if_neg fun h => z h.2]
      · rfl
  refine ss_set E3 (d := preD s) ?_ (fun σ4 H4 E4 => ?_)
  · cases s with
    | turns b low many len => exact absurd ⟨b, low, many, len, rfl⟩ hT
    | straight lo hi len => exact ev_lst E3.trk (ea_cons (ev_catT E3.trk (ds := [encQ lo, encQ hi]) (es := [.int 0, .int len]) (ev_slT E3.trk (ds := [.str "straight", encQ lo, encQ hi, .int len]) (by walk_at "ev") (eo_some (i := 1) (by walk_at "ev")) (eo_some (i := 3) (by walk_at "ev")) (by show ¬ (HT.sIx 4 0 (some 1) = 0 ∧ HT.sIx 4 4 (some 3) = 4); decide)) (ev_tup E3.trk (ea_cons (d := .int 0) (by walk_at "ev") (ea_cons (d := .int len) (ev_len (s := .straight lo hi len) (by walk_at "ev")) ea_nil)) (Nat.le_of_ble_eq_true rfl)) (by simp) (by simp) (by simp)) ea_nil) (Nat.le_of_ble_eq_true rfl)
    | broken ps len => exact ev_lst E3.trk (ea_cons (ev_catT E3.trk (ds := [.list (ps.map encPc), .int len]) (es := [.int 0, .int len]) (ev_slT E3.trk (ds := [.str "broken", .list (ps.map encPc), .int len]) (by walk_at "ev") (eo_some (i := 1) (by walk_at "ev")) (eo_some (i := 3) (by walk_at "ev")) (by show ¬ (HT.sIx 3 0 (some 1) = 0 ∧ HT.sIx 3 3 (some 3) = 3); decide)) (ev_tup E3.trk (ea_cons (d := .int 0) (by walk_at "ev") (ea_cons (d := .int len) (ev_len (s := .broken ps len) (by walk_at "ev")) ea_nil)) (Nat.le_of_ble_eq_true rfl)) (by simp) (by simp) (by simp)) ea_nil) (Nat.le_of_ble_eq_true rfl)
  refine ss_ifSet E4 (b := decide (s.nm = "broken")) (d := .list ((pcs s).map encPc)) (et_test (ev_eqS (s := s.nm) (w := "broken") (ev_nm (by walk_at "ev")) (by walk_at "ev"))) (fun hb H5 e5 => ?_) (fun hb => ?_) (fun σ5 H5 E5 => ?_)
  · have E5 := E4.same e5
    cases s with
    | broken ps len => exact ev_ixT (ds := [.str "broken", .list (ps.map encPc), .int len]) (by walk_at "ev") (by walk_at "ev") rfl
    | turns b low many len => exact absurd ⟨b, low, many, len, rfl⟩ hT
    | straight => exact absurd hb (by rw [show decide ((YS.straight _ _ _).nm = "broken") = false from nm_sb]; exact Bool.false_ne_true)
  · cases s with
    | broken ps len => exact absurd hb (by rw [show decide ((YS.broken ps len).nm = "broken") = true from nm_bb]; exact fun z => Bool.false_ne_true z.symm)
    | turns b low many len => exact absurd ⟨b, low, many, len, rfl⟩ hT
    | straight => rfl
  have E3 : Evn [] H B σ5 H5 [.dat (encYS s), .dat (encQ c), .dat (.list ((pcs s).map encPc)), .no, .no, .no, .no] := E5
  clear E0 E1 E2 E4 E5
  rw [el] at q
  clear el
  generalize pcs s = ps at *
  refine ss_forL (ds := ps.map encPc) (by walk_at "ev") (fun Hb i σ' H' => lPieces c ps = lPieces c (ps.drop i) ∧ ∃ s1 s2 s3 s4, Evn [] Hb B σ' H' [.dat (encYS s), .dat (encQ c), .dat (.list (ps.map encPc)), s1, s2, s3, s4])
    (fun Hb e => ⟨rfl, _, _, _, _, E3.base e []⟩) (fun Hb i σ' H' e ⟨_, _, _, _, _, E2⟩ => E2.ex.mono (by simp)) (fun Hb i x d σ' H' e hd r ⟨ea, s1, s2, s3, s4, E2⟩ => ?_) (fun Hb σ' H' e ⟨ea, s1, s2, s3, s4, E2⟩ => ?_)
  · rw [List.getElem?_map] at hd
    cases hp : ps[i]? with
    | none =>
      rw [hp] at hd
      cases hd
    | some p =>
      rw [hp] at hd
      obtain rfl := Option.some.inj hd
      obtain ⟨lo, hi, f, t⟩ := p
      obtain ⟨b1, b2, b3, b4, b5, b6⟩ := all _ (List.mem_of_getElem? hp)
      simp only at b1 b2 b3 b4 b5 b6
      have ed : ps.drop i = (lo, hi, f, t) :: ps.drop (i + 1) := by
        obtain ⟨hi', e'⟩ := List.getElem?_eq_some_iff.mp hp
        rw [List.drop_eq_getElem_cons hi', e']
      refine g_tup (ds := [encQ lo, encQ hi, .int f, .int t]) r rfl fun vs a0 => gs_cons E2 a0 fun σ2 vs E3 a0 => gs_cons E3 a0 fun σ3 vs E4 a0 => gs_cons E4 a0 fun σ4 vs E5 a0 => gs_cons E5 a0 fun σ5 vs E6 a0 => gs_nil a0 ?_
      have E6 : Evn [] Hb B σ5 H' [.dat (encYS s), .dat (encQ c), .dat (.list (ps.map encPc)), .dat (encQ lo), .dat (encQ hi), .dat (.int f), .dat (.int t)] := E6
      clear E2 E3 E4 E5
      have p1 : PS4 (nd lo) := ps_nd b1 (by decide)
      have p2 : PS4 (nd hi) := ps_nd b2 (by decide)
      rw [ed, show lPieces c ((lo, hi, f, t) :: ps.drop (i + 1)) = (if lWithin (nd lo) (nd hi) (nd c) then some (lBetween (nd lo) (nd hi) (nd c) f t) else lPieces c (ps.drop (i + 1))) from rfl] at ea
      refine s_if E6 (et_B (ev_within E6.trk (p := nd lo) (p' := nd hi) (p2 := nd c) (by walk_at "ev") (by walk_at "ev") (by walk_at "ev") p1 p2 qc)) (fun hb H7 E7 => ?_) (fun hb H7 E7 => ?_)
      · rw [hb, if_pos rfl] at ea
        refine s_ret E7 (Ev.is (ev_between E7.trk (p := nd lo) (p' := nd hi) (p2 := nd c) (a := f) (b := t) (by walk_at "ev") (by walk_at "ev") (by walk_at "ev") (by walk_at "ev") (by walk_at "ev") p1 p2 qc (by unfold Sz; omega) (by unfold Sz; omega)) ?_) (fun v H' e2 rr => q v H' (E3.ex.trans ((ExB.of e).trans e2)) rr)
        rw [ea]
        rfl
      · rw [hb, if_neg Bool.false_ne_true] at ea
        exact ⟨ea, _, _, _, _, E7⟩
  · rw [List.length_map, List.drop_length] at ea
    rw [ea, show lPieces c [] = none from rfl] at q
    obtain ⟨p0, r0, rfl⟩ : ∃ p0 r0, ps = p0 :: r0 := by
      cases ps with
      | nil => simp at hp1
      | cons p r => exact ⟨p, r, rfl⟩
    obtain ⟨pl, el2, hl⟩ := last_of (p0 :: r0) (by simp)
    have m0 := all p0 (by simp)
    have ml := all pl (List.mem_of_getElem? el2)
    have a0 : atI ((p0 :: r0).map encPc) 0 = some (encPc p0) := atI_nat (j := 0) rfl
    have al : atI ((p0 :: r0).map encPc) (-1) = some (encPc pl) := atI_neg1 _ (by simp) (by rw [List.length_map, List.getElem?_map, el2]; rfl)
    have q' : ∀ v H', ExB [] Hb H' → R B H' v (encLPl (if 1 < (p0 :: r0).length ∧ lWithin (nd (firstLo (p0 :: r0))) (nd (lastHi (p0 :: r0))) (nd c) = true then .no .gap else .no .outside)) → D.rt v H' := fun v H' e2 rr => q v H' (E3.ex.trans ((ExB.of e).trans e2)) rr
    refine ss_ifR E2 (et_and (et_test (ev_I0b (i := (((p0 :: r0).map encPc).length : Int)) (j := 1) (ev_lenL (ds := (p0 :: r0).map encPc) (by walk_at "ev")) (by walk_at "ev"))) (fun _ => et_B (ev_within E2.trk (p := nd p0.1) (p' := nd pl.2.1) (p2 := nd c)
      (ev_ixT (ds := [encQ p0.1, encQ p0.2.1, .int p0.2.2.1, .int p0.2.2.2]) (ev_ixL (d := encPc p0) (by walk_at "ev") (by walk_at "ev") a0) (by walk_at "ev") rfl) (ev_ixT (ds := [encQ pl.1, encQ pl.2.1, .int pl.2.2.1, .int pl.2.2.2]) (ev_ixL (d := encPc pl) (by walk_at "ev") (by walk_at "ev") al) (by walk_at "ev") rfl) (by walk_at "ev") (ps_nd m0.1 (by decide)) (ps_nd ml.2.1 (by decide)) qc))) (fun hb H7 E7 => ?_) (fun hb H7 E7 => ?_)
    · rw [Bool.and_eq_true, decide_eq_true_iff, List.length_map, hl] at hb
      rw [if_pos ⟨by omega, hb.2⟩] at q'
      exact s_ret E7 (ev_str (s := "gap")) q'
    · rw [Bool.and_eq_false_iff, decide_eq_false_iff_not, List.length_map, hl] at hb
      rw [if_neg (by
        rintro ⟨z1, z2⟩
        rcases hb with z | z
        · omega
        · rw [show firstLo (p0 :: r0) = p0.1 from rfl] at z2
          rw [z2] at z
          cases z)] at q'
      exact s_ret E7 (ev_str (s := "outside")) q'

end
end M

end
section
set_option maxHeartbeats 4000000
set_option exponentiation.threshold 10000
namespace M
open PySem PySem.Spec PyProof.Rows L2

theorem enc_tenth : PyData.tuple [.int 1, .int 10] = encQ (1 / 10) := by
  unfold encQ
  rw [show (1 / 10 : Rat).num = 1 by decide +kernel, show (1 / 10 : Rat).den = 10 by decide +kernel]
  rfl
theorem qs_tenth {n : Nat} (h : 4 ≤ n := by decide) : QS n (1 / 10 : Rat) := by
  constructor
  · rw [show (1 / 10 : Rat).num = 1 by decide +kernel]
    exact sz_mono (sz_lit (n := 4) (by decide)) h
  · rw [show (1 / 10 : Rat).den = 10 by decide +kernel]
    exact sz_mono (sz_lit (n := 4) (by decide)) h
theorem enc_zero : PyData.tuple [.int 0, .int 1] = encQ 0 := rfl
theorem lPieces_sz {c : Rat} (hc : QS 1500 c) : ∀ (ps : List Pc), (∀ p ∈ ps, QS 400 p.1 ∧ QS 400 p.2.1 ∧ p.1 < p.2.1 ∧ 0 ≤ p.2.2.1 ∧ p.2.2.1 < p.2.2.2 ∧ p.2.2.2 ≤ 4000) → ∀ v, lPieces c ps = some v → Sz 8900 v.1 ∧ Sz 8900 v.2
  | [], _, v, e => by cases e
  | (lo, hi, f, t) :: r, hp, v, e => by
    obtain ⟨a1, a2, a3, a4, a5, a6⟩ := hp _ (List.mem_cons_self ..)
    simp only at a1 a2 a3 a4 a5 a6
    have e' : (if lWithin (nd lo) (nd hi) (nd c) then some (lBetween (nd lo) (nd hi) (nd c) f t) else lPieces c r) = some v := e
    split at e'
    · obtain rfl := Option.some.inj e'
      obtain ⟨z1, z2⟩ := lBetween_sz (n := 400) (m := 400) (k := 1500) (lo := nd lo) (hi := nd hi) (c := nd c) (s := f) (t := t) a1.num a1.den a2.num a2.den hc.num hc.den (by unfold Sz; omega) (by unfold Sz; omega)
      exact ⟨sz_mono z1 (by decide), sz_mono z2 (by decide)⟩
    · exact lPieces_sz hc r (fun p h => hp p (List.mem_cons_of_mem _ h)) v e'
theorem lPlace_sz {s : YS} {c : Rat} {v : Int × Int} (hs : s.Ok) (hc : QS 1500 c) (e : lPlace s c = .at_ v) : Sz 8900 v.1 ∧ Sz 8900 v.2 := by
  cases s with
  | straight lo hi len =>
    obtain ⟨h1, h2, h3, h4, h5⟩ := hs
    unfold lPlace at e
    dsimp only at e
    cases w : lPieces c [(lo, hi, 0, len)] with
    | none => rw [w] at e; cases e
    | some p =>
      rw [w] at e
      cases e
      refine lPieces_sz hc _ (fun p hp => ?_) _ w
      rw [List.mem_singleton] at hp
      subst hp
      exact ⟨h2, h3, h1, by simp, by simp only; omega, h5⟩
  | broken ps len =>
    obtain ⟨h1, h2, h3, h4, h5⟩ := hs
    unfold lPlace at e
    dsimp only at e
    cases w : lPieces c ps with
    | none => rw [w] at e; dsimp only at e; split at e <;> cases e
    | some p =>
      rw [w] at e
      cases e
      exact lPieces_sz hc _ (rising_all _ _ _ h3) _ w
  | turns b low many len =>
    obtain ⟨hb, hl1, hl2, hm1, hm2, hn1, hn2⟩ := hs
    have e' : lTurn b low many len c = .at_ v := e
    unfold lTurn at e'
    split at e'
    · cases e'
    · dsimp only at e'
      obtain ⟨k1, _, _⟩ := lcount_spec (base := b) (top := c.num * pw b (-low)) (many - 1).toNat ((c.den : Int) * pw b low)
      generalize lcount b (c.num * pw b (-low)) (many - 1).toNat ((c.den : Int) * pw b low) = t at *
      have sb : Sz 4 b := sz_lit (by rcases hb with z | z <;> subst z <;> decide)
      have sq := pw_sz (n := -low) hb (by omega)
      have sp := pw_sz (n := low) hb (by omega)
      have st : Sz 3000 (pw b low * b ^ t) := by
        refine sz_mono (sz_mul sp (n := 801) (m := 1601) ?_) (by decide)
        have h : (b ^ t).natAbs ≤ 2 ^ (4 * t) := sz_pow (by omega)
        exact Nat.lt_of_le_of_lt h (Nat.pow_lt_pow_right (by decide) (by omega))
      split at e'
      · cases e'
        have sT2 : Sz 20 (t : Int) := sz_nat (by omega)
        have sT3 : Sz 20 ((t : Int) + 1) := by unfold Sz; omega
        obtain ⟨z1, z2⟩ := lBetween_sz (n := 3004) (m := 3004) (k := 1500) (lo := (pw b low * b ^ t, pw b (-low))) (hi := (pw b low * b ^ t * b, pw b (-low))) (c := nd c) (s := t) (t := t + 1) (sz_mono st (by decide)) (sz_mono sq (by decide)) (sz_mono (sz_mul st sb) (by decide)) (sz_mono sq (by decide)) hc.num hc.den sT2 sT3
        have sL : Sz 12 len := by unfold Sz; omega
        have sM : Sz 12 many := by unfold Sz; omega
        exact ⟨sz_mono (sz_mul z1 sL) (by decide), sz_mono (sz_mul z2 sM) (by decide)⟩
      · cases e'
theorem strB_val {ws : List Str} {len : Int} (h : XOk ws len) (k : Nat) : strB ws len k * (((ws.length : Int)) : Rat) = (((k : Int) * len : Int) : Rat) := by
  have h1 := h.n1
  have h2 := cast_ne (show (ws.length : Int) ≠ 0 by omega)
  unfold strB
  generalize (((ws.length : Int)) : Rat) = n at *
  generalize (((k : Int) * len : Int) : Rat) = m at *
  grind

local macro_rules | `(tactic| walk_at "ev") => `(tactic| first
  | with_reducible exact ev_int
  | with_reducible exact ev_str
  | with_reducible exact ev_bl
  | with_reducible exact ev_non
  | ((with_reducible refine' ev_var (by assumption) ?_); rfl)
  | ((with_reducible refine ev_I0 (i := ?i) (j := ?j) ?h1 ?h2); (case h1 => walk_at "ev"); (case h2 => walk_at "ev"))
  | ((with_reducible refine ev_I0b (i := ?i) (j := ?j) ?h1 ?h2); (case h1 => walk_at "ev"); (case h2 => walk_at "ev"))
  | ((with_reducible refine ev_eqI (i := ?i) (j := ?j) ?h1 ?h2); (case h1 => walk_at "ev"); (case h2 => walk_at "ev"))
  | ((with_reducible refine ev_neI (i := ?i) (j := ?j) ?h1 ?h2); (case h1 => walk_at "ev"); (case h2 => walk_at "ev"))
  | ((with_reducible refine ev_neg (i := ?i) ?h1); (case h1 => walk_at "ev"))
  | ((with_reducible refine ev_fst (x := ?x) ?h1); (case h1 => walk_at "ev"))
  | ((with_reducible refine ev_snd (x := ?x) ?h1); (case h1 => walk_at "ev"))
  | ((with_reducible refine ev_fstP (p := ?x) ?h1); (case h1 => walk_at "ev"))
  | ((with_reducible refine ev_sndP (p := ?x) ?h1); (case h1 => walk_at "ev"))
  | ((with_reducible refine ev_ixT (ds := ?ds) (i := ?i) ?h1 ?h2 ?h3); (case h1 => walk_at "ev"); (case h2 => walk_at "ev"); (case h3 => rfl))
  | ((with_reducible refine ev_ixL (ds := ?ds) (i := ?i) ?h1 ?h2 ?h3); (case h1 => walk_at "ev"); (case h2 => walk_at "ev"); (case h3 => rfl))
  | ((with_reducible refine ev_pair1 (a := ?a) (Evn.trk (by assumption)) ?h1); (case h1 => walk_at "ev"))
  | ((with_reducible refine ev_abs (i := ?i) ?h1); (case h1 => walk_at "ev")))

section
variable {P : Program} {w : World} {K : PySem.W.Frag} {mg : Str → Option Value} {base : Heap}
theorem sc__law_edge : FnScope ["_law_field_here", "_law_total", "_law_place_here"] ["_law_field_here", "_law_total"] (defScope s__law_edge) := ⟨rfl, rfl, rfl, by decide +kernel, rfl, by decide +kernel, by decide +kernel⟩
theorem ok__law_edge (F : Fn K mg "_law_edge" s__law_edge) (c__law_placeY : Cal P w K mg base 3 "_law_place" ["_law_scale_here", "_law_cell_here"] (SpD dLPlaceY)) (c__law_rounded : Cal P w K mg base 1 "_law_rounded" ["_law_place_here"] (SpD dLRounded)) (m_str : mg "str" = none) (m_isinstance : mg "isinstance" = none) : Cal P w K mg base 4 "_law_edge" ["_law_field_here", "_law_total"] (SpD dLEdge) := by
  refine cal_D F sc__law_edge (fun _ _ _ _ _ _ us hl => match us, hl with | [_, _], _ => rfl) dLEdge_len (by decide) ⟨_, fun f cdv A outer s H E hr =>
      (pss_cons (ps_set (i := 2) sc__law_edge.nd rfl (Or.inl rfl) (pe_cal c__law_placeY hr (by decide) (by rfl) (pa_cons (pe_ix (kx_tup (K := K) rfl) (pv 0) pe_int (fun _ _ => rfl)) (pa_cons (pv 1) pa_nil))))
      (pss_cons (ps_if (pt_val (pe_callB (kcall_isi (K := K) rfl) (by rfl) m_isinstance bt_isinstance (pa_cons (pv 2) (pa_cons (pe_bltn (v := .ty "str") (by rfl) m_str bt_str rfl) pa_nil)))) (pss_one (ps_ret (pe_op op_add (pe_ix (kx_tup (K := K) rfl) (pv 0) pe_int (fun _ _ => rfl)) (pe_ix (kx_tup (K := K) rfl) (pv 0) pe_int (fun _ _ => rfl))))) pss_nil)
      (pss_one (ps_ret (pe_op op_sub (pe_op op_add (pe_ix (kx_tup (K := K) rfl) (pv 0) pe_int (fun _ _ => rfl)) (pe_ix (kx_tup (K := K) rfl) (pv 0) pe_int (fun _ _ => rfl))) (pe_cal c__law_rounded hr (by decide) (by rfl) (pa_cons (pv 2) pa_nil))))))), fun ds r hd B H σ D E0 q => ?_⟩
  obtain ⟨F, t, rfl, hF, ht, rfl⟩ := hd
  have A := place_agree hF.y t
  refine ss_set E0 (d := encLPl (lPlace F.s t)) (ev_lplaceY E0.trk (by walk_at "ev") (by walk_at "ev") hF.y ht) (fun σ1 H1 E1 => ?_)
  unfold edge at q
  cases e : placeY F.s t with
  | no w1 =>
    rw [e] at q A
    cases e2 : lPlace F.s t with
    | at_ p => rw [e2] at A; exact A.elim
    | no w2 =>
      rw [e2] at A E1
      refine ss_ifT E1 (et_B (ev_isi (d := .str (whyS w2)) (by walk_at "ev") kb_ss)) (fun H2 E2 => ?_)
      exact s_ret E2 (ev_I0 (i := F.y0) (j := F.s.len) (by walk_at "ev") (by walk_at "ev")) q
  | at_ v =>
    rw [e] at q A
    cases e2 : lPlace F.s t with
    | no w2 => rw [e2] at A; exact A.elim
    | at_ p =>
      rw [e2] at A E1
      obtain ⟨z1, z2⟩ := lPlace_sz hF.y ht e2
      refine ss_ifF E1 (et_B (ev_isi (d := encP p) (by walk_at "ev") kb_ts)) (fun H2 E2 => ?_)
      refine s_ret E2 (Ev.is (ev_I0 (i := F.y0 + F.s.len) (j := (2 * p.1 + p.2) / (2 * p.2)) (by walk_at "ev") (ev_lrounded E2.trk (by walk_at "ev") A.1 z1 z2)) ?_) q
      rw [rnd_of A.1 A.2]
theorem sc__law_ends : FnScope ["_law_field_here", "_law_word", "_law_many", "_law_at", "_law_begin"] ["_law_field_here", "_law_word"] (defScope s__law_ends) := ⟨rfl, rfl, rfl, by decide +kernel, rfl, by decide +kernel, by decide +kernel⟩
theorem ok__law_ends (F : Fn K mg "_law_ends" s__law_ends) (c__law_rounded : Cal P w K mg base 1 "_law_rounded" ["_law_place_here"] (SpD dLRounded)) (m_len : mg "len" = none) : Cal P w K mg base 2 "_law_ends" ["_law_field_here", "_law_word"] (SpD dLEnds) := by
  refine cal_D F sc__law_ends (fun _ _ _ _ _ _ us hl => match us, hl with | [_, _], _ => rfl) dLEnds_len (by decide) ⟨_, fun f cdv A outer s H E hr =>
      (pss_cons (ps_set (i := 2) sc__law_ends.nd rfl (Or.inl rfl) (pe_callB (kcall_len (K := K) rfl) (by rfl) m_len bt_len (pa_cons (pe_ix (kx_tup (K := K) rfl) (pe_ix (kx_tup (K := K) rfl) (pv 0) pe_int (fun _ _ => rfl)) pe_int (fun _ _ => rfl)) pa_nil)))
      (pss_cons (ps_set (i := 3) sc__law_ends.nd rfl (Or.inl rfl) (kpe_bm (K := K) rfl PySem.F.plainAttrs_list PySem.F.slot_list_index PySem.F.type_list_index (kmt_index (K := K) rfl) (pe_ix (kx_tup (K := K) rfl) (pe_ix (kx_tup (K := K) rfl) (pv 0) pe_int (fun _ _ => rfl)) pe_int (fun _ _ => rfl)) (pa_cons (pv 1) pa_nil)))
      (pss_cons (ps_set (i := 4) sc__law_ends.nd rfl (Or.inl rfl) (pe_cal c__law_rounded hr (by decide) (by rfl) (pa_cons (pe_tup (pa_cons (pe_op op_mulW (pe_op op_add (pe_op op_mulW pe_int (pv 3)) pe_int) (pe_ix (kx_tup (K := K) rfl) (pv 0) pe_int (fun _ _ => rfl))) (pa_cons (pe_op op_mulW pe_int (pv 2)) pa_nil))) pa_nil)))
      (pss_one (ps_ret (pe_tup (pa_cons (pe_op op_add (pe_ix (kx_tup (K := K) rfl) (pv 0) pe_int (fun _ _ => rfl)) (pv 4)) (pa_cons (pe_op op_add (pe_ix (kx_tup (K := K) rfl) (pv 0) pe_int (fun _ _ => rfl)) (pe_cal c__law_rounded hr (by decide) (by rfl) (pa_cons (pe_tup (pa_cons (pe_op op_mulW (pe_op op_add (pe_op op_mulW pe_int (pv 3)) pe_int) (pe_ix (kx_tup (K := K) rfl) (pv 0) pe_int (fun _ _ => rfl))) (pa_cons (pe_op op_mulW pe_int (pv 2)) pa_nil))) pa_nil))) pa_nil)))))))), fun ds r hd B H σ D E0 q => ?_⟩
  obtain ⟨F, w, rfl, hF, hw, rfl⟩ := hd
  have hx := hF.x
  have n1 := hx.n1
  have n60 := hx.n60
  have hi : F.ws.idxOf w < F.ws.length := List.idxOf_lt_length_of_mem hw
  have sl : Sz 12 F.lx := by unfold Sz; have := hx.l1; have := hx.l4; omega
  have s1 : Sz 10 (10 * (F.ws.idxOf w : Int) + 1) := by unfold Sz; omega
  have s9 : Sz 10 (10 * (F.ws.idxOf w : Int) + 9) := by unfold Sz; omega
  have sn : Sz 10 (10 * (F.ws.length : Int)) := by unfold Sz; omega
  have ten := sz_lit (n := 4) (z := 10) (by decide)
  have el : (((F.ws.map PyData.str).length : Nat) : Int) = (F.ws.length : Int) := by rw [List.length_map]
  have k0 := strB_val hx (F.ws.idxOf w)
  have k1 := strB_val hx (F.ws.idxOf w + 1)
  refine ss_set E0 (d := .int (F.ws.length : Int)) (Ev.is (ev_lenL (ds := F.ws.map .str) (by walk_at "ev")) (congrArg PyData.int el)) (fun σ1 H1 E1 => ?_)
  refine ss_set E1 (d := .int (F.ws.idxOf w : Int)) (ev_indexS (by walk_at "ev") (by walk_at "ev") hw) (fun σ2 H2 E2 => ?_)
  have r1 := rnd_of (a := (10 * (F.ws.idxOf w : Int) + 1) * F.lx) (b := 10 * (F.ws.length : Int)) (q := endA F w + (endB F w - endA F w) * (1 / 10)) (by omega) (by
    unfold endA endB
    simp only [Rat.intCast_mul, Rat.intCast_add, Rat.intCast_natCast] at *
    generalize strB F.ws F.lx (F.ws.idxOf w) = a at *
    generalize strB F.ws F.lx (F.ws.idxOf w + 1) = b at *
    have e10 : ((10 : Int) : Rat) = 10 := rfl
    have e1 : ((1 : Int) : Rat) = 1 := rfl
    have ek : (((F.ws.idxOf w + 1 : Nat) : Rat)) = ((F.ws.idxOf w : Nat) : Rat) + 1 := by rw [Rat.natCast_add]; rfl
    rw [ek] at k1
    rw [e10, e1]
    generalize ((F.ws.length : Nat) : Rat) = n at *
    generalize ((F.ws.idxOf w : Nat) : Rat) = i at *
    generalize (F.lx : Rat) = l at *
    grind)
  have r9 := rnd_of (a := (10 * (F.ws.idxOf w : Int) + 9) * F.lx) (b := 10 * (F.ws.length : Int)) (q := endB F w - (endB F w - endA F w) * (1 / 10)) (by omega) (by
    unfold endA endB
    simp only [Rat.intCast_mul, Rat.intCast_add, Rat.intCast_natCast] at *
    generalize strB F.ws F.lx (F.ws.idxOf w) = a at *
    generalize strB F.ws F.lx (F.ws.idxOf w + 1) = b at *
    have e10 : ((10 : Int) : Rat) = 10 := rfl
    have e9 : ((9 : Int) : Rat) = 9 := rfl
    have ek : (((F.ws.idxOf w + 1 : Nat) : Rat)) = ((F.ws.idxOf w : Nat) : Rat) + 1 := by rw [Rat.natCast_add]; rfl
    rw [ek] at k1
    rw [e10, e9]
    generalize ((F.ws.length : Nat) : Rat) = n at *
    generalize ((F.ws.idxOf w : Nat) : Rat) = i at *
    generalize (F.lx : Rat) = l at *
    grind)
  refine ss_set E2 (d := .int (rnd (endA F w + (endB F w - endA F w) * (1 / 10)))) (Ev.is (ev_lrounded E2.trk (p := ((10 * (F.ws.idxOf w : Int) + 1) * F.lx, 10 * (F.ws.length : Int))) (ev_pairP E2.trk (ev_I (i := 10 * (F.ws.idxOf w : Int) + 1) (j := F.lx) (ev_I0 (i := 10 * (F.ws.idxOf w : Int)) (j := 1) (ev_I (i := 10) (j := (F.ws.idxOf w : Int)) (by walk_at "ev") (by walk_at "ev") (cm ten (sz_nat (n := 7) (by omega)) (by decide) (by decide))) (by walk_at "ev")) (by walk_at "ev") (cm s1 sl (by decide) (by decide)))
    (ev_I (i := 10) (j := (F.ws.length : Int)) (by walk_at "ev") (by walk_at "ev") (cm ten (sz_nat (n := 7) (by omega)) (by decide) (by decide)))) (by simp only; omega) (sz_mono (sz_mul s1 sl) (by decide)) (sz_mono sn (by decide))) (congrArg PyData.int r1)) (fun σ3 H3 E3 => ?_)
  exact s_ret E3 (ev_pairP E3.trk (a := F.x0 + rnd (endA F w + (endB F w - endA F w) * (1 / 10))) (b := F.x0 + rnd (endB F w - (endB F w - endA F w) * (1 / 10))) (ev_I0 (i := F.x0) (j := rnd (endA F w + (endB F w - endA F w) * (1 / 10))) (by walk_at "ev") (by walk_at "ev")) (ev_I0 (i := F.x0) (j := rnd (endB F w - (endB F w - endA F w) * (1 / 10))) (by walk_at "ev")
    (Ev.is (ev_lrounded E3.trk (p := ((10 * (F.ws.idxOf w : Int) + 9) * F.lx, 10 * (F.ws.length : Int))) (ev_pairP E3.trk (ev_I (i := 10 * (F.ws.idxOf w : Int) + 9) (j := F.lx) (ev_I0 (i := 10 * (F.ws.idxOf w : Int)) (j := 9) (ev_I (i := 10) (j := (F.ws.idxOf w : Int)) (by walk_at "ev") (by walk_at "ev") (cm ten (sz_nat (n := 7) (by omega)) (by decide) (by decide))) (by walk_at "ev")) (by walk_at "ev") (cm s9 sl (by decide) (by decide)))
    (ev_I (i := 10) (j := (F.ws.length : Int)) (by walk_at "ev") (by walk_at "ev") (cm ten (sz_nat (n := 7) (by omega)) (by decide) (by decide)))) (by simp only; omega) (sz_mono (sz_mul s9 sl) (by decide)) (sz_mono sn (by decide))) (congrArg PyData.int r9)))) q
theorem sc_put_x : FnScope ["field", "place"] ["field", "place"] (defScope s_put_x) := ⟨rfl, rfl, rfl, by decide +kernel, rfl, by decide +kernel, by decide +kernel⟩
theorem ok_put_x (F : Fn K mg "put_x" s_put_x) (c_rounded : Cal P w K mg base 1 "rounded" ["one"] (SpD dRounded)) : Cal P w K mg base 2 "put_x" ["field", "place"] (SpD dPutX) := by
  refine cal_D F sc_put_x (fun _ _ _ _ _ _ us hl => match us, hl with | [_, _], _ => rfl) dPutX_len (by decide) ⟨_, fun f cdv A outer s H E hr =>
      (pss_one (ps_ret (pe_op op_add (pe_ix (kx_tup (K := K) rfl) (pv 0) pe_int (fun _ _ => rfl)) (pe_cal c_rounded hr (by decide) (by rfl) (pa_cons (pv 1) pa_nil))))), fun ds r hd B H σ D E0 q => ?_⟩
  obtain ⟨F, v, rfl, hv, rfl⟩ := hd
  exact s_ret E0 (ev_I0 (i := F.x0) (j := rnd v) (by walk_at "ev") (ev_rounded E0.trk (by walk_at "ev") (hv.mono (by decide)))) q
theorem sc_put_y : FnScope ["field", "place"] ["field", "place"] (defScope s_put_y) := ⟨rfl, rfl, rfl, by decide +kernel, rfl, by decide +kernel, by decide +kernel⟩
theorem ok_put_y (F : Fn K mg "put_y" s_put_y) (c_rounded : Cal P w K mg base 1 "rounded" ["one"] (SpD dRounded)) : Cal P w K mg base 2 "put_y" ["field", "place"] (SpD dPutY) := by
  refine cal_D F sc_put_y (fun _ _ _ _ _ _ us hl => match us, hl with | [_, _], _ => rfl) dPutY_len (by decide) ⟨_, fun f cdv A outer s H E hr =>
      (pss_one (ps_ret (pe_op op_sub (pe_op op_add (pe_ix (kx_tup (K := K) rfl) (pv 0) pe_int (fun _ _ => rfl)) (pe_ix (kx_tup (K := K) rfl) (pv 0) pe_int (fun _ _ => rfl))) (pe_cal c_rounded hr (by decide) (by rfl) (pa_cons (pv 1) pa_nil))))), fun ds r hd B H σ D E0 q => ?_⟩
  obtain ⟨F, v, rfl, hv, rfl⟩ := hd
  exact s_ret E0 (ev_I0 (i := F.y0 + F.s.len) (j := rnd v) (ev_I0 (i := F.y0) (j := F.s.len) (by walk_at "ev") (by walk_at "ev")) (ev_rounded E0.trk (by walk_at "ev") (hv.mono (by decide)))) q
theorem sc_ends_of : FnScope ["field", "word", "begin", "end", "tenth"] ["field", "word"] (defScope s_ends_of) := ⟨rfl, rfl, rfl, by decide +kernel, rfl, by decide +kernel, by decide +kernel⟩
theorem ok_ends_of (F : Fn K mg "ends_of" s_ends_of) (c_stretch_on : Cal P w K mg base 3 "stretch_on" ["scale", "word"] (SpD dStretch)) (c_times : Cal P w K mg base 3 "times" ["one", "other"] (SpD dTimes)) (c_minus : Cal P w K mg base 3 "minus" ["one", "other"] (SpD dMinus)) (c_put_x : Cal P w K mg base 2 "put_x" ["field", "place"] (SpD dPutX)) (c_plus : Cal P w K mg base 3 "plus" ["one", "other"] (SpD dPlus)) : Cal P w K mg base 4 "ends_of" ["field", "word"] (SpD dLEnds) := by
  refine cal_D F sc_ends_of (fun _ _ _ _ _ _ us hl => match us, hl with | [_, _], _ => rfl) dLEnds_len (by decide) ⟨_, fun f cdv A outer s H E hr =>
      (pss_cons (ps_asg (pe_cal c_stretch_on hr (by decide) (by rfl) (pa_cons (pe_ix (kx_tup (K := K) rfl) (pv 0) pe_int (fun _ _ => rfl)) (pa_cons (pv 1) pa_nil))) (kpg_tup (K := K) (n := 2) rfl (by rfl) (pgs_cons (pg_name (i := 2) sc_ends_of.nd rfl (Or.inl rfl)) (pgs_cons (pg_name (i := 3) sc_ends_of.nd rfl (Or.inl rfl)) pgs_nil))))
      (pss_cons (ps_set (i := 4) sc_ends_of.nd rfl (Or.inl rfl) (pe_cal c_times hr (by decide) (by rfl) (pa_cons (pe_cal c_minus hr (by decide) (by rfl) (pa_cons (pv 3) (pa_cons (pv 2) pa_nil))) (pa_cons (pe_tup (pa_cons pe_int (pa_cons pe_int pa_nil))) pa_nil))))
      (pss_one (ps_ret (pe_tup (pa_cons (pe_cal c_put_x hr (by decide) (by rfl) (pa_cons (pv 0) (pa_cons (pe_cal c_plus hr (by decide) (by rfl) (pa_cons (pv 2) (pa_cons (pv 4) pa_nil))) pa_nil))) (pa_cons (pe_cal c_put_x hr (by decide) (by rfl) (pa_cons (pv 0) (pa_cons (pe_cal c_minus hr (by decide) (by rfl) (pa_cons (pv 3) (pa_cons (pv 4) pa_nil))) pa_nil))) pa_nil))))))), fun ds r hd B H σ D E0 q => ?_⟩
  obtain ⟨F, w, rfl, hF, hw, rfl⟩ := hd
  have hx := hF.x
  have hi : F.ws.idxOf w < F.ws.length := List.idxOf_lt_length_of_mem hw
  have n60 := hx.n60
  have sa := strB_qs hx (k := F.ws.idxOf w) (by omega)
  have sb := strB_qs hx (k := F.ws.idxOf w + 1) (by omega)
  refine ss_unp E0 (d := .tuple [encQ (endA F w), encQ (endB F w)]) (ev_stretch E0.trk (by walk_at "ev") (by walk_at "ev") hx hw) (fun v1 H1 E1 r1 => g_tup r1 rfl fun vs a0 => gs_cons E1 a0 fun σ2 vs E2 a0 => gs_cons E2 a0 fun σ3 vs E3 a0 => gs_nil a0 ?_)
  have s1 := qs_sub sb sa
  have s2 := qs_mul s1 (qs_tenth (n := 4))
  refine ss_set E3 (d := encQ ((endB F w - endA F w) * (1 / 10))) (ev_times E3.trk (ev_minus E3.trk (x := endB F w) (y := endA F w) (by walk_at "ev") (by walk_at "ev") (sb.mono (by decide)) (sa.mono (by decide))) (ev_pairC (a := 1) (b := 10) E3.trk (by walk_at "ev") (by walk_at "ev") (x := 1 / 10) enc_tenth) (s1.mono (by decide)) qs_tenth) (fun σ4 H4 E4 => ?_)
  exact s_ret E4 (ev_pairP E4.trk (a := F.x0 + rnd (endA F w + (endB F w - endA F w) * (1 / 10))) (b := F.x0 + rnd (endB F w - (endB F w - endA F w) * (1 / 10))) (ev_putX E4.trk (by walk_at "ev") (ev_plus E4.trk (x := endA F w) (y := (endB F w - endA F w) * (1 / 10)) (by walk_at "ev") (by walk_at "ev") (sa.mono (by decide)) (s2.mono (by decide))) ((qs_add sa s2).mono (by decide)))
    (ev_putX E4.trk (by walk_at "ev") (ev_minus E4.trk (x := endB F w) (y := (endB F w - endA F w) * (1 / 10)) (by walk_at "ev") (by walk_at "ev") (sb.mono (by decide)) (s2.mono (by decide))) ((qs_sub sb s2).mono (by decide)))) q
theorem sc_place_from : FnScope ["scale", "one", "place"] ["scale", "one"] (defScope s_place_from) := ⟨rfl, rfl, rfl, by decide +kernel, rfl, by decide +kernel, by decide +kernel⟩
theorem ok_place_from (F : Fn K mg "place_from" s_place_from) (c_place_onY : Cal P w K mg base 6 "place_on" ["scale", "cell"] (SpD dPlaceY)) (m_str : mg "str" = none) (m_isinstance : mg "isinstance" = none) : Cal P w K mg base 7 "place_from" ["scale", "one"] (SpD dPlaceFrom) := by
  refine cal_D F sc_place_from (fun _ _ _ _ _ _ us hl => match us, hl with | [_, _], _ => rfl) dPlaceFrom_len (by decide) ⟨_, fun f cdv A outer s H E hr =>
      (pss_cons (ps_set (i := 2) sc_place_from.nd rfl (Or.inl rfl) (pe_cal c_place_onY hr (by decide) (by rfl) (pa_cons (pv 0) (pa_cons (pv 1) pa_nil))))
      (pss_cons (ps_if (pt_val (pe_callB (kcall_isi (K := K) rfl) (by rfl) m_isinstance bt_isinstance (pa_cons (pv 2) (pa_cons (pe_bltn (v := .ty "str") (by rfl) m_str bt_str rfl) pa_nil)))) (pss_one (ps_ret (pe_tup (pa_cons pe_int (pa_cons pe_int pa_nil))))) pss_nil)
      (pss_one (ps_ret (pv 2))))), fun ds r hd B H σ D E0 q => ?_⟩
  obtain ⟨s, c, rfl, hs, hc, rfl⟩ := hd
  refine ss_set E0 (d := encPl (placeY s c)) (ev_placeY E0.trk (by walk_at "ev") (by walk_at "ev") hs hc) (fun σ1 H1 E1 => ?_)
  cases e : placeY s c with
  | no w1 =>
    rw [e] at q E1
    refine ss_ifT E1 (et_B (ev_isi (d := .str (whyS w1)) (by walk_at "ev") kb_ss)) (fun H2 E2 => ?_)
    exact s_ret E2 (ev_pairC (a := 0) (b := 1) E2.trk (by walk_at "ev") (by walk_at "ev") (x := 0) enc_zero) q
  | at_ v =>
    rw [e] at q E1
    refine ss_ifF E1 (et_B (ev_isi (d := encQ v) (by walk_at "ev") kb_ts)) (fun H2 E2 => ?_)
    exact s_ret E2 (d := encQ v) (by walk_at "ev") q

end
end M

end
section
set_option maxHeartbeats 4000000
namespace M
open PySem PySem.Spec PySem.W PyProof.Rows L2
/-! ### items, losses -/
structure It where
  own : Int
  x : Option Str
  y : Option Rat
  rank : Int
  colour : Int
  size : Int
def encIt (i : It) : PyData := .tuple [.int i.own, encC i.x, encO i.y, .none, .int i.rank, .int i.colour, .int i.size]
structure Ls where
  own : Int
  ch : Str
  why : Str
def encL (l : Ls) : PyData := .tuple [.int l.own, .str l.ch, .str l.why]
/-! ### values that read as a list of things -/
section
variable {α : Type} {B : List Addr} {H : Hp} {enc : α → PyData}
theorem each_of : ∀ {xs : List V} {us : List Value} {bs : List α}, Vals xs us → RA B H xs (bs.map enc) → EachIs (fun u b => ∃ v, RelV v u ∧ R B H v (enc b)) us bs
  | _, _, [], .nil, r => .nil
  | _, _, [], .cons _ _, r => nomatch r
  | _, _, b :: bs, .nil, r => nomatch r
  | _, _, b :: bs, .cons r t, .cons q p => .cons ⟨_, r, q⟩ (each_of t p)
theorem of_each : ∀ {us : List Value} {bs : List α}, EachIs (fun u b => ∃ v, RelV v u ∧ R B H v (enc b)) us bs → ∃ xs, Vals xs us ∧ RA B H xs (bs.map enc)
  | _, _, .nil => ⟨[], .nil, .nil⟩
  | _, _, .cons ⟨v, r, q⟩ t => by
    obtain ⟨xs, h1, h2⟩ := of_each t
    exact ⟨v :: xs, .cons r h1, .cons q h2⟩
end
/-! ### sorted(lost) -/
def rSortedL : List V → Hp → VK → Prop := fun vs H Q => ∃ (B : List Addr) (a : Addr) (xs : List V) (ls : List Ls), vs = [.ref a] ∧ H a = some (.lst xs) ∧ RA B H xs (ls.map encL) ∧ ls.length ≤ 1000 ∧
  ∀ ys p, H p = none → RA B H ys ((ls.mergeSort (dataLe false encL)).map encL) → Q (.ref p) (upd H p (.lst ys))
theorem encL_dp {K : PySem.W.Frag} {B : List Addr} {H : Hp} {v : V} {l : Ls} (r : R B H v (encL l)) : Dp K H v (encL l) := by
  have r' : R B H v (.tuple [.int l.own, .str l.ch, .str l.why]) := r
  cases r' with
  | tup h na ra =>
    cases ra with
    | cons r1 ra =>
      cases ra with
      | cons r2 ra =>
        cases ra with
        | cons r3 ra =>
          cases ra
          cases r1
          cases r2
          cases r3
          exact .tup (Or.inl (Or.inl h)) (.cons (.int _) (.cons (.str _) (.cons (.str _) .nil)))
theorem cr_sortedL {X : Cx} (hu : X.A.units + 64 < cLine) : CallR X (.builtin "sorted") rSortedL := by
  intro pins s σ H xs us Q I r h
  obtain ⟨B, a, xs, ls, rfl, ha, ra, hl, q⟩ := h
  obtain rfl := Vals.ref1 r
  obtain ⟨its, rv, hli, hz⟩ := I.list (Or.inl (Or.inl ha))
  have e := each_of rv ra
  have er : EachIs (fun u b => ∃ as, Reads s.heap u (encL b) as) its ls := e.mono fun u b ⟨v, r1, r2⟩ => Dp.reads I _ v u (encL_dp r2) r1
  refine sorted_data (enc := encL) hli.isList e er (AllAlike.of fun b b' => by simp [encL, alike, alikeAll]) (Sortable.tuples fun b => ⟨_, _, rfl⟩) (Nat.le_of_lt (small1000 hl)) (fun b _ => ?_) fun out ho eo => ?_
  · have : (encL b).depth = 1 := by simp [encL, PyData.depth, PyData.depthAll]
    omega
  · obtain ⟨ys, rys, rays⟩ := of_each eo
    obtain ⟨ep, he'⟩ := PyProof.Rows.sortedAll_at s.heap its out.toArray
    have hlen : ys.length ≤ sizeLine := by
      rw [rys.length, ho]
      exact Nat.le_of_lt (small1000 hl)
    exact ⟨.ref _, upd H (s.heap.objs.size + 1) (.lst ys), I.laid (t' := s.toks) (fun _ _ => PyProof.Rows.sortedAll_old) (Nat.le_succ _) ⟨hlen, _, ep, rys, he'⟩, rfl, q ys _ (I.hok.fresh (Nat.le_succ _)) rays⟩
/-! ### a call of the lambda -/
section
variable {prog : Program} {w : World} {A : Around} {s : Shared} {E : Value → Shared → Prop}
theorem lam_item {env : PySem.Env} {x : Str} {p1 p2 p3 : Pos} {k : Nat} {i : Nat} {t : Addr} {its : List Value} {m : Str → Option Value} {v : Value} {Q : Value → Shared → Prop} (hk : env.scope.kind = .function) (hl : env.kindOf x = some .local) (hn : s.heap.Ns env.locals m) (hm : m x = some (.ref t))
    (ht : IsTup s.heap t its.toArray) (hi : i < 1000) (hv : its[i]? = some v) (hd : (x == ("__debug__" : Str)) = false) (h : Q v { s with toks := s.toks + 1 }) :
    wpAny (model prog w) A (eval (.Subscript (.Name x p1) (.Constant (.int (i : Int)) k p2) p3) env) Q E s := by
  refine Subscript_ (wpAny_Name (wpAny_loadName_local hk hl hn hm ?_) hd)
  refine wpAny_Constant_int ?_
  have hlen : i < its.length := (List.getElem?_eq_some_iff.mp hv).1
  have ht' : IsTup ({ s with toks := s.toks + 1 } : Shared).heap t its.toArray := ht
  exact subscriptTail_builtinR (s := { s with toks := s.toks + 1 }) (x := v) ht'.typeIs slot_tuple_getitem.lookup
    (getItem_tuple (j := i) (Q := fun r s' => r = v ∧ Q r s') ht' (by omega) (by omega) (by rw [List.size_toArray, seqIndex_of (by omega) (by omega)]; simp) (by simpa using hv) ⟨rfl, h⟩) (by with_unfolding_all rfl)
/-- the lambda's text: item: (item[4], item[0]) -/
structure KeyLam (params : Arguments) (body : Expr) (scope : Scope) : Prop where
  bind : ∀ (q : Str) (cl : List (Str × Addr)) (pm cv ctv u : Value), bindArgs (kla_fn "<lambda>" q params body scope cl pm cv ctv) ⟨[u], []⟩ = pure [(("item" : Str), u)]
  kind : scope.kind = .function
  co : scope.isCoroutine = false
  gen : scope.isGenerator = false
  names : scope.names = [(("item" : Str), NameKind.local)]
  body : ∃ p1 k1 p2 p3 p4 k2 p5 p6 k p7, body = .Tuple [.Subscript (.Name "item" p1) (.Constant (.int 4) k1 p2) p3, .Subscript (.Name "item" p4) (.Constant (.int 0) k2 p5) p6] k p7
theorem lam_turn {q : Str} {params : Arguments} {body : Expr} {scope : Scope} {cl : List (Str × Addr)} {pm ctv : Value} {f c' t : Addr} {its : List Value} {rank own : Int} {t4 t0 : Tok} (L : KeyLam params body scope) (hroom : A.depth < recursionLimit) (lim : s.heap.NoLimit)
    (ho : s.heap.get? f = some (kla_obj "<lambda>" q params body scope cl pm c' ctv)) (hcd : s.heap.CodeRec (.ref c') q) (ht : IsTup s.heap t its.toArray) (h4 : its[4]? = some (.int rank t4)) (h0 : its[0]? = some (.int own t0)) :
    wpAny (model prog w) A (call (.ref f) [.ref t]) (KeyPure (.tuple [.int rank, .int own]) s) (fun _ _ => False) s := by
  obtain ⟨p1, k1, p2, p3, p4, k2, p5, p6, k, p7, rfl⟩ := L.body
  have rc : codeAny (model prog w) A (.call (.ref f) ⟨[.ref t], []⟩) (fun r s' => ∃ v, r = .ok (.ret v) ∧ KeyPure (.tuple [.int rank, .int own]) s v s') s := by
    refine kla_callFunE hroom ho rfl L.co L.gen rfl hcd ?_
    rw [L.bind]
    refine wpAny_pure (wpAny_newFunctionEnv (fun y hy => ?_) (fun y hy => ?_) (fun h₁ hns hsb => ⟨lim.fresh _ hsb, ?_⟩) L.kind)
    · rw [L.names, List.mem_singleton] at hy
      subst hy
      exact fun z => nomatch z
    · rw [List.mem_singleton] at hy
      subst hy
      rw [L.names]
      rfl
    have kp : ∀ (z : Addr) (u : Obj), s.heap.get? z = some u → h₁.get? z = some u := fun b o e =>
      hsb.extBut b o (Nat.ne_of_lt (Heap.lt_size e)) (Heap.get?_push_of_some _ e)
    refine kla_codeExpr ?_
    have hl : (newEnv scope s.heap.objs.size mainGlobals cl (q ++ "<locals>.") (some f) (.ref c') none builtinsNs).kindOf "item" = some .local := by
      show scope.names.lookup ("item" : Str) = some NameKind.local
      rw [L.names]
      rfl
    refine wpAny_Tuple_spliced ?_
    refine Calls.spliced_cons (lam_item (i := 4) (x := "item") L.kind hl hns rfl (ht.keeps kp) (by decide) h4 (by decide) ?_)
    refine Calls.spliced_cons (lam_item (i := 0) (x := "item") L.kind hl hns rfl (ht.keeps kp) (by decide) h0 (by decide) ?_)
    refine Calls.spliced_nil ⟨by show 2 ≤ sizeLine; decide, _, rfl, _, _, rfl, fun b o e => Heap.get?_push_of_some _ (kp b o e), ?_⟩
    exact Reads.tuple (Heap.get?_push_size _ rfl) rfl rfl (ReadsAll.cons (Reads.int _ _) (ReadsAll.cons (Reads.int _ _) ReadsAll.nil))
  refine wpAny_call (codeAny_mono rc fun r s' hq => ?_)
  obtain ⟨v, rfl, h⟩ := hq
  exact h
end
/-! ### sorted(xs, key=lambda item: (item[4], item[0])) -/
/-- all but what stands at B and the tables is as it was -/
def ExN (B : List Addr) (H H' : Hp) : Prop := ∀ a o, a ∉ B → H a = some o → (∀ ps, o ≠ .tbl ps) → H' a = some o
theorem ExN.refl (B : List Addr) (H : Hp) : ExN B H H := fun _ _ _ h _ => h
theorem ExN.trans {B : List Addr} {H H1 H2 : Hp} (a : ExN B H H1) (b : ExN B H1 H2) : ExN B H H2 := fun x o n h t => b x o n (a x o n h t) t
theorem ExN.of {B : List Addr} {H H' : Hp} (e : ExB B H H') : ExN B H H' := fun a o n h _ => e a o n h
theorem ExN.ofS {B : List Addr} {H H' : Hp} (e : Same H H') : ExN B H H' := fun a o _ h _ => e a o h
theorem ExN.ofN {B : List Addr} {H H' : Hp} (e : LamX.ExtN H H') : ExN B H H' := fun a o _ h t => e a o h t
theorem ExN.mono {B B' : List Addr} {H H' : Hp} (s : ∀ a ∈ B, a ∈ B') (e : ExN B H H') : ExN B' H H' := fun a o n h t => e a o (fun z => n (s a z)) h t
mutual
theorem R.exN {B : List Addr} {H H' : Hp} (e : ExN B H H') : ∀ {d : PyData} {v : V}, R B H v d → R B H' v d
  | _, _, .non => .non
  | _, _, .bl b => .bl b
  | _, _, .int i => .int i
  | _, _, .str x => .str x
  | _, _, .lst h n r => .lst (e _ _ n h fun _ z => nomatch z) n (RA.exN e r)
  | _, _, .tup h n r => .tup (e _ _ n h fun _ z => nomatch z) n (RA.exN e r)
  | _, _, .dct h n r => .dct (e _ _ n h fun _ z => nomatch z) n (RD.exN e r)
theorem RA.exN {B : List Addr} {H H' : Hp} (e : ExN B H H') : ∀ {ds : List PyData} {vs : List V}, RA B H vs ds → RA B H' vs ds
  | _, _, .nil => .nil
  | _, _, .cons h r => .cons (R.exN e h) (RA.exN e r)
theorem RD.exN {B : List Addr} {H H' : Hp} (e : ExN B H H') : ∀ {ds : List (PyData × PyData)} {vs : List (Key × V)}, RD B H vs ds → RD B H' vs ds
  | _, _, .nil => .nil
  | _, _, .cons h r => .cons (R.exN e h) (RD.exN e r)
end
theorem R.extN {B : List Addr} {H H' : Hp} (e : LamX.ExtN H H') {d : PyData} {v : V} (r : R B H v d) : R B H' v d := r.exN (.ofN e)
theorem RA.extN {B : List Addr} {H H' : Hp} (e : LamX.ExtN H H') {ds : List PyData} {vs : List V} (r : RA B H vs ds) : RA B H' vs ds := r.exN (.ofN e)
def keyD (i : It) : PyData := .tuple [.int i.rank, .int i.own]
def sortR (l : List It) : List It := l.mergeSort (dataLe false keyD)
def tSortLam (P : Addr) (q : Str) (te : TE) : TE := fun σ H Q => te σ H fun v H1 => LamX.Tabs [(P, q)] H1 ∧ ∃ (B : List Addr) (a : Addr) (xs : List V) (items : List It), v = .ref a ∧ H1 a = some (.lst xs) ∧ RA B H1 xs (items.map encIt) ∧ items.length ≤ 1000 ∧
  ∀ H2 ys p, LamX.ExtN H1 H2 → LamX.Tabs [(P, q)] H2 → H2 p = none → RA B H2 ys ((sortR items).map encIt) → Q (.ref p) (upd H2 p (.lst ys))
theorem item_at {w : World} {P : Program} {B : List Addr} {H : Hp} {h : Heap} {v : V} {u : Value} {i : It} (ok : HOk P w H h) (r : R B H v (encIt i)) (rv : RelV v u) : ∃ (t : Addr) (its : List Value) (t4 t0 : Tok), u = .ref t ∧ IsTup h t its.toArray ∧ its[4]? = some (.int i.rank t4) ∧ its[0]? = some (.int i.own t0) := by
  have r' : R B H v (.tuple [.int i.own, encC i.x, encO i.y, .none, .int i.rank, .int i.colour, .int i.size]) := r
  cases r' with
  | @tup a xs _ ha na ra =>
    obtain rfl : u = .ref a := rv
    obtain ⟨_, its, rv, ht⟩ := ok a _ ha
    obtain ⟨v0, e0, r0⟩ := ra.get (i := 0) rfl
    obtain ⟨v4, e4, r4⟩ := ra.get (i := 4) rfl
    cases r0
    cases r4
    obtain ⟨u0, f0, g0⟩ := rv.get e0
    obtain ⟨u4, f4, g4⟩ := rv.get e4
    obtain ⟨t0, rfl⟩ := g0
    obtain ⟨t4, rfl⟩ := g4
    exact ⟨a, its, t4, t0, rfl, ht, f4, f0⟩
theorem pe_sortedLam {X : Cx} {e : Expr} {te : TE} {params : Arguments} {body : Expr} {scope : Scope} {lpos p pos kpos : Pos} {c P : Addr} {k : Nat} (hg : Gl X "sorted") (hm : X.mg "sorted" = none) (TB : LamX.TabB X.base X.mg c P) (hcode : X.env.code = .ref c)
    (L : KeyLam params body scope) (hr : Room (k + 2) X.A) (he : PE X e te) (hdef : defaultsOf params X.env = ([], []))
    (hst : starEach [e] X.env = (false, eval e X.env) :: starEach [] X.env := by rfl)
    (hall : (backToKw pos (keywordEach [⟨some "key", .Lambda params body scope lpos, kpos⟩] X.env)).all (·.1.isSome) = true := by rfl) (hnone : (backToKw pos (keywordEach [⟨some "key", .Lambda params body scope lpos, kpos⟩] X.env)).any (·.1.isNone) = false := by rfl)
    (hks : (backToKw pos (keywordEach [⟨some "key", .Lambda params body scope lpos, kpos⟩] X.env)).filterMap (·.1) = [Str.ofString "key"] := by rfl) :
    PE X (.Call (.Name "sorted" p) [e] [⟨some "key", .Lambda params body scope lpos, kpos⟩] pos) (tSortLam P (X.env.qual ++ "<lambda>") te) := by
  refine ⟨fun pins s σ H Q I h => ?_⟩
  refine wpAny_Call_Name_kw (ld_blt I hg hm bt_sorted ?_ (by decide) (by decide))
  refine PyProof.Rows.callWith_kw (thn ((pa_cons (t := tNil) he pa_nil hst).run pos pins s σ H (fun vs H1 => ∃ v, vs = [v] ∧ LamX.Tabs [(P, X.env.qual ++ "<lambda>")] H1 ∧ ∃ (B : List Addr) (a : Addr) (xs : List V) (items : List It), v = .ref a ∧ H1 a = some (.lst xs) ∧ RA B H1 xs (items.map encIt) ∧ items.length ≤ 1000 ∧
      ∀ H2 ys p, LamX.ExtN H1 H2 → LamX.Tabs [(P, X.env.qual ++ "<lambda>")] H2 → H2 p = none → RA B H2 ys ((sortR items).map encIt) → Q (.ref p) (upd H2 p (.lst ys))) I ?_) fun us s1 ⟨vs, H1, I1, r1, q1⟩ => ?_) (by rw [hst]; rfl) (by rw [hst]; rfl) hall hnone
  · show te σ H _
    have h' : te σ H fun v H1 => LamX.Tabs [(P, X.env.qual ++ "<lambda>")] H1 ∧ ∃ (B : List Addr) (a : Addr) (xs : List V) (items : List It), v = .ref a ∧ H1 a = some (.lst xs) ∧ RA B H1 xs (items.map encIt) ∧ items.length ≤ 1000 ∧
      ∀ H2 ys p, LamX.ExtN H1 H2 → LamX.Tabs [(P, X.env.qual ++ "<lambda>")] H2 → H2 p = none → RA B H2 ys ((sortR items).map encIt) → Q (.ref p) (upd H2 p (.lst ys)) := h
    have e2 : (fun (x : V) (H1 : Hp) => tNil σ H1 fun xs H2 => ∃ v, x :: xs = [v] ∧ LamX.Tabs [(P, X.env.qual ++ "<lambda>")] H2 ∧ ∃ (B : List Addr) (a : Addr) (xs : List V) (items : List It), v = .ref a ∧ H2 a = some (.lst xs) ∧ RA B H2 xs (items.map encIt) ∧ items.length ≤ 1000 ∧
      ∀ H3 ys p, LamX.ExtN H2 H3 → LamX.Tabs [(P, X.env.qual ++ "<lambda>")] H3 → H3 p = none → RA B H3 ys ((sortR items).map encIt) → Q (.ref p) (upd H3 p (.lst ys))) = fun v H1 => LamX.Tabs [(P, X.env.qual ++ "<lambda>")] H1 ∧ ∃ (B : List Addr) (a : Addr) (xs : List V) (items : List It), v = .ref a ∧ H1 a = some (.lst xs) ∧ RA B H1 xs (items.map encIt) ∧ items.length ≤ 1000 ∧
      ∀ H2 ys p, LamX.ExtN H1 H2 → LamX.Tabs [(P, X.env.qual ++ "<lambda>")] H2 → H2 p = none → RA B H2 ys ((sortR items).map encIt) → Q (.ref p) (upd H2 p (.lst ys)) := by
      funext x H1
      unfold tNil
      exact propext ⟨fun ⟨v, z, h⟩ => by
        obtain rfl : x = v := (List.cons.inj z).1
        exact h, fun h => ⟨x, rfl, h⟩⟩
    rw [e2]
    exact h'
  · rw [hks]
    obtain ⟨v, rfl, hT, B, a, xs, items, rfl, ha, ra, hl, q⟩ := q1
    obtain rfl := Vals.ref1 r1
    show wpAny _ _ (evalAll [do let v ← eval (.Lambda params body scope lpos) X.env; standAt pos; pure v]) _ _ s1
    refine wpAny_evalAll_cons (wpAny_bind (LamX.lam_make2 (T := [(P, X.env.qual ++ "<lambda>")]) I1 TB hcode (List.mem_singleton.mpr rfl) (fun p hp _ => by rw [List.mem_singleton] at hp; rw [hp]) hT hdef (fun y hy e => ?_) fun f c' pm ctv H2 s2 I2 eN T2 hf hfn hfr hco => ?_))
    · rw [L.names, List.mem_singleton] at hy
      subst hy
      cases e
    refine wpAny_bind (wpAny_standAt (wpAny_pure (wpAny_evalAll_nil ?_)))
    show wpAny _ _ (call (.builtin "sorted") [.ref a] [(Str.ofString "key", .ref f)]) _ _ s2
    have ha2 : H2 a = some (.lst xs) := eN a _ ha fun _ z => nomatch z
    have ra2 : RA B H2 xs (items.map encIt) := RA.extN eN ra
    obtain ⟨its, rv, hli, hz⟩ := I2.list (Or.inl (Or.inl ha2))
    have e1 := each_of rv ra2
    obtain ⟨⟨oc, vs', t', hoc, hdc, hvc⟩, _, _⟩ := I2.hok c' _ hco
    refine sorted_key_data (b := false) keyD hli.isList e1 (AllAlike.of fun b b' => by simp [keyD, alike, alikeAll]) (Sortable.tuples fun b => ⟨_, _, rfl⟩) (Nat.le_of_lt (small1000 hl)) (fun b _ => ?_) (PyProof.Rows.ksk_s1 _ _) (fun _ => PyProof.Rows.ksk_l1 _ _) (fun _ => PyProof.Rows.ksk_t1 _ _) (fun u it ⟨v, r1, r2⟩ _ h tk kp => ?_) fun out ep h' tk kp fresh hD ho eo => ?_
    · have : (keyD b).depth = 1 := by simp [keyD, PyData.depth, PyData.depthAll]
      have := hr.units
      omega
    · obtain ⟨t, its', t4, t0, rfl, htup, h4, h0⟩ := item_at I2.hok r2 r1
      exact lam_turn (s := { s2 with heap := h, toks := tk }) L (hr.in1.in1.depth) (I2.nolimit.keeps kp) (kp _ _ hf) ⟨c', oc, vs', t', rfl, kp _ _ hoc, hdc, hvc⟩ (htup.keeps kp) h4 h0
    · obtain ⟨ys, rys, rays⟩ := of_each eo
      have hlen : ys.length ≤ sizeLine := by
        rw [rys.length, ho]
        exact Nat.le_of_lt (small1000 hl)
      have hlen2 : out.toArray = (List.toArray out) := rfl
      exact ⟨.ref _, upd H2 (s2.heap.objs.size + 1) (.lst ys), I2.laid (t' := tk) kp (Nat.le_succ _) ⟨hlen, out, ep, rys, hD⟩, rfl, q H2 ys _ eN T2 (I2.hok.fresh (Nat.le_succ _)) rays⟩
end M

end
section
set_option maxHeartbeats 4000000
namespace M
open PySem PySem.Spec PySem.W PyProof.Rows L2
/-! ### (a, b) >= (c, d) -/
def rGe2 : R2 := fun x y H Q => ∃ (a b : Addr) (i j k l : Int), x = .ref a ∧ y = .ref b ∧ H a = some (.tup [.int i, .int j]) ∧ H b = some (.tup [.int k, .int l]) ∧ Q (.bl (decide (k < i ∨ (i = k ∧ l ≤ j)))) H
theorem op_ge2 {X : Cx} (hu : X.A.units < cLine) : OpR X (compareOp .GtE) rGe2 := by
  intro pins s σ H x y v u Q I rx ry h
  obtain ⟨a, b, i, j, k, l, rfl, rfl, ha, hb, q⟩ := h
  obtain rfl : v = .ref a := rx
  obtain rfl : u = .ref b := ry
  obtain ⟨_, p1, v1, t1⟩ := I.hok a _ ha
  obtain ⟨_, p2, v2, t2⟩ := I.hok b _ hb
  obtain ⟨w1, w2, rfl, ⟨c1, rfl⟩, ⟨c2, rfl⟩⟩ := vals2 v1
  obtain ⟨w3, w4, rfl, ⟨c3, rfl⟩, ⟨c4, rfl⟩⟩ := vals2 v2
  have ez : ∀ m n : Int, (m == n) = decide (m = n) := fun m n => by
    rw [Bool.eq_iff_iff, beq_iff_eq, decide_eq_true_iff]
  have go := Ob.RcOp.tuples_ge (A := X.A) (s := s) (e := fun n => if n = 0 then decide (i = k) else decide (j = l)) (r := fun n => if n = 0 then decide (k ≤ i) else decide (l ≤ j)) t1 t2 hu
    (fun n h1 h2 => by
      match n, h1, h2 with
      | 0, _, _ => exact (ez i k) ▸ SeqAt.EqAt.int_int i c1 k c3
      | 1, _, _ => exact (ez j l) ▸ SeqAt.EqAt.int_int j c2 l c4
      | n + 2, h1, _ => exact absurd h1 (by simp))
    (fun n h1 h2 _ => by
      match n, h1, h2 with
      | 0, _, _ => exact Ob.RcOp.ge_int i k c1 c3
      | 1, _, _ => exact Ob.RcOp.ge_int j l c2 c4
      | n + 2, h1, _ => exact absurd h1 (by simp))
  refine go X.prog X.w X.xe (EP X pins σ Q) ⟨.bl _, H, I, rfl, ?_⟩
  have e : Ob.lexAt (fun n => if n = 0 then decide (i = k) else decide (j = l)) (fun n => if n = 0 then decide (k ≤ i) else decide (l ≤ j)) (decide ([Value.int i c1, Value.int j c2].toArray.size ≥ [Value.int k c3, Value.int l c4].toArray.size)) 0 (min [Value.int i c1, Value.int j c2].toArray.size [Value.int k c3, Value.int l c4].toArray.size) = decide (k < i ∨ (i = k ∧ l ≤ j)) := by
    show (if decide (i = k) = true then (if decide (j = l) = true then decide (2 ≥ 2) else decide (l ≤ j)) else decide (k ≤ i)) = _
    rw [Bool.eq_iff_iff]
    by_cases z1 : i = k <;> by_cases z2 : j = l <;> simp [z1, z2] <;> omega
  rw [e]
  exact q
/-! ### text * number -/
theorem size_reps (z : Array Nat) : ∀ (n : Nat) (acc : Array Nat), ((List.replicate n z).foldl (· ++ ·) acc).size = acc.size + n * z.size
  | 0, acc => by simp
  | n + 1, acc => by
    rw [List.replicate_succ, List.foldl_cons, size_reps z n, Array.size_append, Nat.add_mul]
    omega
def repS (z : Str) (n : Int) : Str := if n < 1 then Str.empty else if (n == 1 || z.length == 0) = true then z else ⟨(List.replicate n.toNat z.cps).foldl (· ++ ·) #[]⟩
theorem op_repS {X : Cx} : OpR X (binaryOp .Mult) (fun x y H Q => ∃ (z : Str) (n : Int), x = .str z ∧ y = .int n ∧ z.length = 1 ∧ 0 ≤ n ∧ n ≤ 1000 ∧ Q (.str (repS z n)) H) := by
  intro pins s σ H x y v u Q I rx ry h
  obtain ⟨z, n, rfl, rfl, hz, h0, h1, q⟩ := h
  obtain ⟨t, rfl⟩ := rx
  obtain ⟨t', rfl⟩ := ry
  refine PySem.P.mul_str (by rw [decide_eq_false (by omega), decide_eq_false (by omega)]; rfl) (fun hn _ z => ?_) (fun _ _ => ?_) ?_
  · rw [hz] at z
    have : (1 : Int) ≤ (2 ^ 63 - 1) / n := by
      rw [Int.le_ediv_iff_mul_le (by omega)]
      omega
    omega
  · rw [hz, Nat.one_mul]
    have e : (sizeLine : Nat) = 16777216 := by decide
    unfold Builtin.Str.tooLong
    simp
    omega
  · unfold repS at q
    split
    · rename_i hn
      rw [if_pos hn] at q
      exact ⟨by decide, .str _, H, I.tok _, ⟨_, rfl⟩, q⟩
    · rename_i hn
      rw [if_neg hn] at q
      split
      · rename_i hc
        rw [if_pos hc] at q
        exact ⟨.str _, H, I, ⟨_, rfl⟩, q⟩
      · rename_i hc
        rw [if_neg hc] at q
        refine ⟨?_, .str _, H, I.tok _, ⟨_, rfl⟩, q⟩
        have e : (sizeLine : Nat) = 16777216 := by decide
        show ((List.replicate n.toNat z.cps).foldl (· ++ ·) #[]).size ≤ sizeLine
        rw [size_reps]
        have hz' : z.cps.size = 1 := hz
        rw [hz']
        simp
        omega
/-! ### script + [0] -/
def rCatS (K : PySem.W.Frag) : R2 := fun x y H Q => ∃ l b xs zs, x = .ref l ∧ y = .ref b ∧ SqL K H l xs ∧ SqL K H b zs ∧ xs.length + zs.length ≤ 1000 ∧ ∀ p, H p = none → Q (.ref p) (upd H p (.lst (xs ++ zs)))
theorem op_catS {X : Cx} {K : PySem.W.Frag} (hK : X.K = K) : OpR X (binaryOp .Add) (rCatS K) := by
  subst hK
  intro pins s σ H x y v u Q I rx ry h
  obtain ⟨l, b, xs, zs, rfl, rfl, h1, h2, hz, q⟩ := h
  obtain rfl : v = .ref l := rx
  obtain rfl : u = .ref b := ry
  obtain ⟨i1, v1, ⟨⟨o1, d1, dt1, sl1⟩, n1, g1, a1, a2, a3⟩, _⟩ := I.list h1
  obtain ⟨i2, v2, ⟨⟨o2, d2, dt2, sl2⟩, n2, g2, b1, b2, b3⟩, _⟩ := I.list h2
  dsimp only at a1 a2 a3 b1 b2 b3
  subst a1 a2 a3 b1 b2 b3
  have e1 := v1.length
  have e2 := v2.length
  have sz : (xs ++ zs).length ≤ sizeLine := by rw [List.length_append]; exact Nat.le_of_lt (small1000 hz)
  refine concat_meets (T := "list") ⟨_, g1, rfl⟩ ⟨_, g2, rfl⟩ noFill_list_add seq_list_add PySem.F.slot_list_add PySem.F.entry_list_add (PySem.F.args_list_add_2 _ _)
    (list_addW l b i1.toArray i2.toArray n1 n2 none none sl1 sl2 (by rw [List.size_toArray, List.size_toArray, ← e1, ← e2, ← List.length_append]; exact sz)) ⟨g1, g2, ?_⟩
  have fresh : H s.heap.objs.size = none := I.hok.fresh (Nat.le_refl _)
  exact ⟨.ref s.heap.objs.size, upd H s.heap.objs.size (.lst (xs ++ zs)), I.laid (t' := s.toks) (fun b o e => Heap.get?_push_of_some _ e) (Nat.le_refl _) ⟨sz, i1 ++ i2, 0, v1.append v2, by rw [← List.append_toArray]; exact Heap.get?_push_size _ rfl⟩, rfl, q _ fresh⟩
end M

end
section
set_option maxHeartbeats 4000000
namespace M
open PySem PySem.Spec PyProof.Rows L2
section
variable {K : PySem.W.Frag} {C B : List Addr} {σ : L2.St} {H H0 H' : Hp} {G : List Sl} {ta tb te tx tl : TE} {t : TT} {x y z d e : PyData} {i j k l : Int} {a b : Bool} {ds es : List PyData} {D : Ends} {tu tw u : TS} {v : V} {vs : List V}
/-! texts -/
theorem ev_addS {s w : Str} (ha : Ev B ta σ H (.str s)) (hb : Ev B tb σ H (.str w)) (hl : s.length + w.length ≤ sizeLine) : Ev B (tOp (fun x y H Q => ∃ i j, x = .str i ∧ y = .str j ∧ i.length + j.length ≤ sizeLine ∧ Q (.str (i ++ j)) H) ta tb) σ H (.str (s ++ w)) := ev_op ha hb fun H1 _ v' w' r1 r2 Q q => by
  cases r1
  cases r2
  exact ⟨s, w, rfl, rfl, hl, q _ H1 (Same.refl H1) (.str _)⟩
theorem ev_repS {z : Str} {n : Int} (ha : Ev B ta σ H (.str z)) (hb : Ev B tb σ H (.int n)) (hz : z.length = 1) (h0 : 0 ≤ n) (h1 : n ≤ 1000) : Ev B (tOp (fun x y H Q => ∃ (z : Str) (n : Int), x = .str z ∧ y = .int n ∧ z.length = 1 ∧ 0 ≤ n ∧ n ≤ 1000 ∧ Q (.str (repS z n)) H) ta tb) σ H (.str (repS z n)) := ev_op ha hb fun H1 _ v' w' r1 r2 Q q => by
  cases r1
  cases r2
  exact ⟨z, n, rfl, rfl, hz, h0, h1, q _ H1 (Same.refl H1) (.str _)⟩
/-! the same data -/
theorem ev_eqD (ha : Ev B ta σ H d) (hb : Ev B tb σ H d) (hs : SeqAt.shaped d = true) : Ev B (tOp (rEqD K) ta tb) σ H (.bool true) := ev_op ha hb fun H1 _ v w r1 r2 Q q => by
  have hc := SeqAt.canLay_of_shaped hs
  exact ⟨d, d, r1.dp hc, r2.dp hc, hs, hs, by rw [SeqAt.eqv_refl d hc]; exact q _ H1 (Same.refl H1) (.bl _)⟩
theorem ev_neD (ha : Ev B ta σ H d) (hb : Ev B tb σ H d) (hs : SeqAt.shaped d = true) : Ev B (tOp (rNeD K) ta tb) σ H (.bool false) := ev_op ha hb fun H1 _ v w r1 r2 Q q => by
  have hc := SeqAt.canLay_of_shaped hs
  exact ⟨d, d, r1.dp hc, r2.dp hc, hs, hs, by rw [SeqAt.eqv_refl d hc]; exact q _ H1 (Same.refl H1) (.bl _)⟩
/-! pairs of numbers, in order -/
theorem ev_ltT (ha : Ev B ta σ H (.tuple [.int i, .int j])) (hb : Ev B tb σ H (.tuple [.int k, .int l])) : Ev B (tOp (rLtT K) ta tb) σ H (.bool (decide (i < k ∨ (i = k ∧ j < l)))) := ev_op ha hb fun H1 _ v w r1 r2 Q q => by
  have e : HT.lexLt [i, j] [k, l] = decide (i < k ∨ (i = k ∧ j < l)) := by
    rw [HT.lexLt_cons, HT.lexLt_cons, HT.lexLt_nil_nil, Bool.eq_iff_iff]
    by_cases z1 : i = k <;> by_cases z2 : j = l <;> simp [z1, z2]
  cases r1 with
  | tup ha na ra =>
    cases r2 with
    | tup hb nb rb =>
      obtain rfl := RA.ints (ns := [i, j]) ra
      obtain rfl := RA.ints (ns := [k, l]) rb
      exact ⟨_, _, [i, j], [k, l], rfl, rfl, Or.inl (Or.inl ha), Or.inl (Or.inl hb), by rw [e]; exact q _ H1 (Same.refl H1) (.bl _)⟩
theorem ev_geT (ha : Ev B ta σ H (.tuple [.int i, .int j])) (hb : Ev B tb σ H (.tuple [.int k, .int l])) : Ev B (tOp rGe2 ta tb) σ H (.bool (decide (k < i ∨ (i = k ∧ l ≤ j)))) := ev_op ha hb fun H1 _ v w r1 r2 Q q => by
  cases r1 with
  | tup ha na ra =>
    cases r2 with
    | tup hb nb rb =>
      obtain rfl := RA.ints (ns := [i, j]) ra
      obtain rfl := RA.ints (ns := [k, l]) rb
      exact ⟨_, _, i, j, k, l, rfl, rfl, ha, hb, q _ H1 (Same.refl H1) (.bl _)⟩
/-! lists -/
theorem ev_listOf (ht : Trk B H) (h : Ev B te σ H (.list ds)) : Ev B (tCB (rListOf K) (tCons te tNil)) σ H (.list ds) := ev_cb (ea_cons h ea_nil) fun H1 e vs r Q q => by
  cases r with
  | cons r1 r =>
    cases r
    cases r1 with
    | lst ha na ra => exact ⟨_, _, rfl, .inl (Or.inl (Or.inl ha)), fun p hp => q _ _ (same_new hp) (.lst upd_same (Trk.out (ht.same e) hp) (ra.same (same_new hp)))⟩
theorem ev_catS (ht : Trk B H) (ha : Ev B ta σ H (.list ds)) (hb : Ev B tb σ H (.list es)) (hl : ds.length + es.length ≤ 1000) : Ev B (tOp (rCatS K) ta tb) σ H (.list (ds ++ es)) := ev_op ha hb fun H1 e1 v w r1 r2 Q q => by
  cases r1 with
  | lst ha na ra =>
    cases r2 with
    | lst hb nb rb =>
      exact ⟨_, _, _, _, rfl, rfl, Or.inl (Or.inl ha), Or.inl (Or.inl hb), by rw [ra.len, rb.len]; exact hl, fun p hp => q _ _ (same_new hp) (.lst upd_same (Trk.out (ht.same e1) hp) ((ra.app rb).same (same_new hp)))⟩
/-- sorted(numbers), when what it gives is known -/
theorem ev_sortI {ns ms : List Int} (ht : Trk B H) (h : Ev B te σ H (.list (ns.map .int))) (hp : ms.Perm ns) (hs : ms.Pairwise (· ≤ ·)) : Ev B (tCB (rSortedI K) (tCons te tNil)) σ H (.list (ms.map .int)) := ev_cb (ea_cons h ea_nil) fun H1 e vs r Q q => by
  cases r with
  | cons r1 r =>
    cases r
    cases r1 with
    | lst ha na ra =>
      obtain rfl := RA.ints ra
      refine ⟨_, ns, rfl, Or.inl (Or.inl ha), fun ns' p h1 h2 hp' => ?_⟩
      have e2 : ns' = ms := List.Perm.eq_of_pairwise (le := fun a b : Int => a ≤ b) (fun a b _ _ h h' => Int.le_antisymm h h') h2 hs (h1.trans hp.symm)
      subst e2
      exact q _ _ (same_new hp') (.lst upd_same (Trk.out (ht.same e) hp') (RA.ofInts ns'))
theorem ev_all {bs : List Bool} (h : Ev B te σ H (.list (bs.map .bool))) : Ev B (tCB (rAll K) (tCons te tNil)) σ H (.bool (bs.all id)) := ev_cb (ea_cons h ea_nil) fun H1 e vs r Q q => by
  cases r with
  | cons r1 r =>
    cases r
    cases r1 with
    | lst ha na ra =>
      obtain rfl := RA.bools ra
      exact ⟨_, bs, rfl, Or.inl (Or.inl ha), q _ H1 (Same.refl H1) (.bl _)⟩
theorem et_yes : EvT B tYes σ H true := fun H1 _ Q q => q H1 (Same.refl H1)
/-- [f(x) for x in xs if p(x)] -/
theorem ev_lc {α : Type} {xs : List α} {enc f : α → PyData} {p : α → Bool} {m : Nat} (E : Evn C H0 B σ H G) (hC : ∀ l ∈ C, l ∈ B) (hm : m < G.length) (h : Ev B tl σ H (.list (xs.map enc))) (hl : xs.length ≤ 1000)
    (hs : ∀ (l : Addr) (x : α) σ' H', x ∈ xs → Evn C H0 (l :: B) σ' H' (G.set m (.dat (enc x))) → EvT (l :: B) t σ' H' (p x) ∧ (p x = true → ∀ H2, Evn C H0 (l :: B) σ' H2 (G.set m (.dat (enc x))) → Ev (l :: B) te σ' H2 (f x))) :
    Ev B (tLc (iList K tl) (gName m) t te [m]) σ H (.list ((xs.filter p).map f)) := fun H1 e Q q => by
  have E1 := E.same e
  refine h H1 e _ fun v H2 e2 r => ?_
  have E2 := E1.same e2
  cases r with
  | @lst a ys _ ha na ra =>
    refine ⟨a, rfl, ⟨ys, Or.inl (Or.inl ha)⟩, fun p0 hp => ?_⟩
    have hB := Trk.out E2.trk hp
    have hne : a ≠ p0 := fun z => by rw [z, hp] at ha; cases ha
    have mk : ∀ (H3 : Hp) (vs : List V), (∀ b o, b ≠ p0 → H2 b = some o → H3 b = some o) → H3 p0 = some (.lst vs) → Evn C H0 (p0 :: B) (wipe σ [m]) H3 (G.set m .no) := fun H3 vs k1 k2 => by
      have ex : ExB [p0] H2 H3 := fun b o n ho => k1 b o (fun z => n (z ▸ List.mem_singleton.mpr rfl)) ho
      refine ⟨fun b o n ho => ?_, fun b hb => ?_, by rw [wipe_length, List.length_set, E2.len], fun j s hj => ?_⟩
      · have := E2.ex b o n ho
        exact k1 b o (fun z => by rw [z, hp] at this; cases this) this
      · rcases List.mem_cons.mp hb with rfl | hb
        · rw [k2]
          exact fun z => nomatch z
        · have := E2.trk b hb
          cases hh : H2 b with
          | none => exact absurd hh this
          | some o =>
            rw [k1 b o (fun z => hB (z ▸ hb)) hh]
            exact fun z => nomatch z
      · by_cases hjm : m = j
        · subst hjm
          rw [List.getElem?_set_self hm] at hj
          cases hj
          trivial
        · rw [List.getElem?_set_ne hjm] at hj
          have ew : (wipe σ [m])[j]? = σ[j]? := wipe_out (by rw [List.mem_singleton]; exact fun z => hjm z.symm)
          rw [ew]
          cases s with
          | no => trivial
          | dat d =>
            obtain ⟨u, a1, a2⟩ := E2.at_ j _ hj
            exact ⟨u, a1, (a2.grow hp).exB (fun b o n ho => k1 b o (fun z => n (z ▸ List.mem_cons_self ..)) ho)⟩
          | mu l' es =>
            obtain ⟨a1, a2, us, a3, a4⟩ := E2.at_ j _ hj
            exact ⟨a1, List.mem_cons_of_mem _ a2, us, k1 _ _ (fun z => by rw [z, hp] at a3; cases a3) a3, (a4.grow hp).exB (fun b o n ho => k1 b o (fun z => n (z ▸ List.mem_cons_self ..)) ho)⟩
          | ptr l' => exact E2.at_ j _ hj
    have ral := ra.len
    refine lc_list (K := K) (a := a) (xs := ys) (fun i H3 => (∀ b o, b ≠ p0 → H2 b = some o → H3 b = some o) ∧ ∃ acc, H3 p0 = some (.lst acc) ∧ RA (p0 :: B) H3 acc (((xs.take i).filter p).map f)) ⟨fun b o hb ho => by rw [upd_ne hb]; exact ho, [], upd_same, by rw [List.take_zero]; exact .nil⟩ (fun i H3 _ p3 => Or.inl (Or.inl (p3.1 a _ hne ha))) (fun i x H3 hx p3 => ?_) fun H3 p3 => ?_
    · obtain ⟨k1, acc, k2, k3⟩ := p3
      have M3 := mk H3 acc k1 k2
      obtain ⟨d, h1, h2⟩ := ra.getV hx
      have hi : i < xs.length := by
        have := (List.getElem?_eq_some_iff.mp h1).1
        rwa [List.length_map] at this
      have hd : d = enc xs[i] := by
        rw [List.getElem?_map, List.getElem?_eq_getElem hi] at h1
        exact (Option.some.inj h1).symm
      subst hd
      have r3 : R (p0 :: B) H3 x (enc xs[i]) := (h2.grow hp).exB fun b o n ho => k1 b o (fun z => n (z ▸ List.mem_cons_self ..)) ho
      have M4 : Evn C H0 (p0 :: B) ((wipe σ [m]).set m (some x)) H3 (G.set m (.dat (enc xs[i]))) := by
        have := M3.set (i := m) r3
        rwa [List.set_set] at this
      obtain ⟨s1, s2⟩ := hs p0 xs[i] _ _ (List.getElem_mem hi) M4
      have htk : xs.take (i + 1) = xs.take i ++ [xs[i]] := by rw [List.take_add_one, List.getElem?_eq_getElem hi]; rfl
      refine ⟨by
        show ((((σ.set m none)).set m (some x))).set m none = σ.set m none
        rw [List.set_set, List.set_set], s1 H3 (Same.refl H3) _ fun H4 e4 => ?_⟩
      cases hb : p xs[i] with
      | false =>
        simp only [Bool.false_eq_true, if_false]
        refine ⟨fun b o hb ho => e4 b o (k1 b o hb ho), acc, e4 _ _ k2, ?_⟩
        rw [htk, List.filter_append, List.filter_cons_of_neg (by rw [hb]; decide), List.filter_nil, List.append_nil]
        exact k3.same e4
      | true =>
        simp only [if_true]
        refine s2 hb H4 (M4.same e4) H4 (Same.refl H4) _ fun y H5 e5 r5 => ?_
        have e45 := e4.trans e5
        have al : acc.length ≤ 1000 := by
          rw [k3.len, List.length_map]
          exact Nat.le_trans (List.length_filter_le ..) (by rw [List.length_take]; omega)
        refine ⟨acc, e45 _ _ k2, small1000 al, fun b o hb ho => by rw [upd_ne hb]; exact e45 b o (k1 b o hb ho), acc ++ [y], upd_same, ?_⟩
        rw [htk, List.filter_append, List.filter_cons_of_pos hb, List.filter_nil, List.map_append]
        have ex : ExB (p0 :: B) H5 (upd H5 p0 (.lst (acc ++ [y]))) := fun b o n ho => by
          rw [upd_ne (fun z => n (by rw [z]; exact List.mem_cons_self ..))]
          exact ho
        exact (((k3.same e45).app (.one r5)).exB ex)
    · obtain ⟨k1, acc, k2, k3⟩ := p3
      rw [ral, List.length_map, List.take_length] at k3
      refine q _ _ (e2.trans fun b o ho => k1 b o (fun z => by rw [z, hp] at ho; cases ho) ho) (.lst k2 hB (k3.sub fun a h => List.mem_cons_of_mem _ h))
end
end M

end
section
set_option maxHeartbeats 4000000
set_option exponentiation.threshold 10000
namespace M
open PySem PySem.Spec PyProof.Rows L2

/-! ### how large sums get -/
def Bn (D k : Nat) (q : Rat) : Prop := ∃ g : Nat, 0 < g ∧ g ≤ 8000 ^ k ∧ (∃ z : Int, q * (((D * g : Nat) : Int) : Rat) = (z : Rat)) ∧ -(((k : Int) * 2 ^ 140 : Int) : Rat) ≤ q ∧ q ≤ (((k : Int) * 2 ^ 140 : Int) : Rat)
theorem bn_zero {D : Nat} : Bn D 0 0 := ⟨1, Nat.one_pos, by decide, ⟨0, by rw [Rat.zero_mul]; rfl⟩, by decide +kernel, by decide +kernel⟩
theorem bn_add {D k m : Nat} {x y : Rat} (hx : Bn D k x) (hy : Bn D m y) : Bn D (k + m) (x + y) := by
  obtain ⟨g, h1, h2, ⟨z, h3⟩, h4, h5⟩ := hx
  obtain ⟨g', i1, i2, ⟨z', i3⟩, i4, i5⟩ := hy
  refine ⟨g * g', Nat.mul_pos h1 i1, by rw [Nat.pow_add]; exact Nat.mul_le_mul h2 i2, ⟨z * g' + z' * g, ?_⟩, ?_, ?_⟩
  · simp only [Rat.intCast_add, Rat.intCast_mul, Rat.intCast_natCast, Rat.natCast_mul, Int.natCast_mul] at *
    generalize ((g : Nat) : Rat) = a at *
    generalize ((g' : Nat) : Rat) = b at *
    generalize ((D : Nat) : Rat) = c at *
    grind
  · simp only [Rat.intCast_add, Rat.intCast_mul, Rat.intCast_natCast, Int.natCast_add] at *
    generalize ((k : Nat) : Rat) = a at *
    generalize ((m : Nat) : Rat) = b at *
    generalize ((2 ^ 140 : Int) : Rat) = c at *
    grind
  · simp only [Rat.intCast_add, Rat.intCast_mul, Rat.intCast_natCast, Int.natCast_add] at *
    generalize ((k : Nat) : Rat) = a at *
    generalize ((m : Nat) : Rat) = b at *
    generalize ((2 ^ 140 : Int) : Rat) = c at *
    grind
theorem qs_zero {n : Nat} (h : 1 ≤ n := by decide) : QS n 0 := ⟨sz_mono (n := 0) (z := 0) (by show (0 : Int).natAbs < 2 ^ 0; decide) (Nat.zero_le _), sz_mono (n := 1) (z := 1) (by show (1 : Int).natAbs < 2 ^ 1; decide) h⟩
theorem le_cast {a b : Int} (h : (a : Rat) ≤ (b : Rat)) : a ≤ b := Rat.intCast_le_intCast.mp h
theorem bn_qs {D k : Nat} {q : Rat} (hD : 0 < D ∧ D < 2 ^ 140) (hk : k ≤ 61) (h : Bn D k q) : QS 1500 q := by
  obtain ⟨g, h1, h2, ⟨z, h3⟩, h4, h5⟩ := h
  have hpos : (0 : Int) < ((D * g : Nat) : Int) := Int.natCast_pos.mpr (Nat.mul_pos hD.1 h1)
  have e := div_of hpos h3
  have hg : g ≤ 8000 ^ 61 := Nat.le_trans h2 (Nat.pow_le_pow_right (by decide) hk)
  have hg2 : g < 2 ^ 800 := Nat.lt_of_le_of_lt hg (by decide +kernel)
  have sD : Sz 140 (D : Int) := sz_nat hD.2
  have sg : Sz 800 (g : Int) := sz_nat hg2
  have sDg : Sz 940 ((D * g : Nat) : Int) := by
    rw [Int.natCast_mul]
    exact sz_mul sD sg
  have hc := cast_pos hpos
  have sz : Sz 1200 z := by
    have u1 : z ≤ (k : Int) * 2 ^ 140 * ((D * g : Nat) : Int) := le_cast (by
      rw [Rat.intCast_mul, ← h3]
      exact Rat.mul_le_mul_of_nonneg_right h5 (Rat.le_of_lt hc))
    have u2 : -((k : Int) * 2 ^ 140 * ((D * g : Nat) : Int)) ≤ z := le_cast (by
      rw [Rat.intCast_neg, Rat.intCast_mul, ← h3]
      have := Rat.mul_le_mul_of_nonneg_right h4 (Rat.le_of_lt hc)
      generalize ((((D * g : Nat) : Int)) : Rat) = a at *
      generalize (((k : Int) * 2 ^ 140 : Int) : Rat) = b at *
      grind)
    have s1 : Sz 147 ((k : Int) * 2 ^ 140) := sz_mul (n := 6) (m := 141) (sz_nat (by omega)) (sz_lit (by decide +kernel))
    have s2 : Sz 1087 ((k : Int) * 2 ^ 140 * ((D * g : Nat) : Int)) := sz_mul s1 sDg
    refine sz_mono (sz_le s2 ?_) (by decide)
    generalize (k : Int) * 2 ^ 140 * ((D * g : Nat) : Int) = m at *
    omega
  rw [← e]
  exact (qs_frac hpos (sz_mono sz (by decide)) (sz_mono sDg (by decide)))
/-! ### the parts of a heap -/
structure Mk where
  x0 : Int
  x1 : Int
  lo : Int
  hi : Int
  col : Int
  own : Int
def encM (side : Str) (m : Mk) : PyData := .tuple [.tuple [.str "part", .str side, .int m.x0, .int m.x1, .int m.lo, .int m.hi, .int m.col], .list [.int m.own]]
structure PSt where
  ms : List Mk
  ls : List Ls
  tot : Rat
def mark (F : Fld) (w : Str) (t y : Rat) (i : It) : Mk := ⟨(endsOf F w).1, (endsOf F w).2, edge F t, edge F (t + y), i.colour, i.own⟩
def pstep (F : Fld) (w : Str) (s : PSt) (i : It) : PSt := match i.y with
  | none => s
  | some y => if y < 0 then ⟨s.ms, s.ls ++ [⟨i.own, "y", "below"⟩], s.tot⟩ else match placeY F.s (s.tot + y) with
    | .no why => ⟨s.ms, s.ls ++ [⟨i.own, "y", whyS why⟩], s.tot⟩
    | .at_ _ => ⟨s.ms ++ [mark F w s.tot y i], s.ls, s.tot + y⟩
def prun (F : Fld) (w : Str) (its : List It) : PSt := its.foldl (pstep F w) ⟨[], [], 0⟩
def GI (D : Nat) (w : Str) (i : It) : Prop := i.x = some w ∧ ∃ y, i.y = some y ∧ Bn D 1 y
theorem prun_snoc (F : Fld) (w : Str) (its : List It) (i : It) : prun F w (its ++ [i]) = pstep F w (prun F w its) i := by
  unfold prun
  rw [List.foldl_append]
  rfl
theorem pfold_fits {F : Fld} {w : Str} {D : Nat} : ∀ (its : List It) (s : PSt) (k : Nat), (∀ i ∈ its, GI D w i) → Bn D k s.tot ∧ s.ms.length ≤ k ∧ s.ls.length ≤ k →
    Bn D (k + its.length) (its.foldl (pstep F w) s).tot ∧ (its.foldl (pstep F w) s).ms.length ≤ k + its.length ∧ (its.foldl (pstep F w) s).ls.length ≤ k + its.length
  | [], s, k, _, h => h
  | i :: r, s, k, hi, ⟨h1, h2, h3⟩ => by
    obtain ⟨_, y, hy, by_⟩ := hi i (List.mem_cons_self ..)
    rw [List.foldl_cons, List.length_cons, Nat.add_comm r.length 1, ← Nat.add_assoc]
    refine pfold_fits r _ (k + 1) (fun j hj => hi j (List.mem_cons_of_mem _ hj)) ?_
    have up : Bn D (k + 1) s.tot := by
      have := bn_add h1 (y := 0) (m := 1) ⟨1, Nat.one_pos, by decide, ⟨0, by rw [Rat.zero_mul]; rfl⟩, by decide +kernel, by decide +kernel⟩
      rwa [Rat.add_zero] at this
    unfold pstep
    rw [hy]
    dsimp only
    split
    · exact ⟨up, Nat.le_succ_of_le h2, by rw [List.length_append]; exact Nat.add_le_add_right h3 _⟩
    · split
      · exact ⟨up, Nat.le_succ_of_le h2, by rw [List.length_append]; exact Nat.add_le_add_right h3 _⟩
      · exact ⟨bn_add h1 by_, by rw [List.length_append]; exact Nat.add_le_add_right h2 _, Nat.le_succ_of_le h3⟩
theorem prun_fits {F : Fld} {w : Str} {D : Nat} (its : List It) (h : ∀ i ∈ its, GI D w i) : Bn D its.length (prun F w its).tot ∧ (prun F w its).ms.length ≤ its.length ∧ (prun F w its).ls.length ≤ its.length := by
  have := pfold_fits (F := F) its ⟨[], [], 0⟩ 0 h ⟨bn_zero, Nat.le_refl _, Nat.le_refl _⟩
  rwa [Nat.zero_add] at this
theorem edge_q (F : Fld) (t : Rat) : edge F t = F.y0 + F.s.len - rnd (plQ (placeY F.s t)) := by
  unfold edge
  cases placeY F.s t with
  | no w =>
    show F.y0 + F.s.len = F.y0 + F.s.len - rnd 0
    rw [show rnd 0 = 0 by decide +kernel]
    omega
  | at_ q => rfl
def SpParts : Sp := fun vs H Q _ => ∃ (D : Nat) (B : List Addr) (F : Fld) (side w : Str) (its : List It) (ls : List Ls) (l : Addr) (vf vd vi : V) (us : List V), vs = [vf, vd, vi, .ref l] ∧ (0 < D ∧ D < 2 ^ 140) ∧ Trk B H ∧ F.Ok ∧ w ∈ F.ws ∧ its ≠ [] ∧ its.length ≤ 60 ∧ ls.length ≤ 200 ∧ (∀ i ∈ its, GI D w i) ∧
  R B H vf (encF F) ∧ R B H vd (.str side) ∧ R B H vi (.list (its.map encIt)) ∧ l ∈ B ∧ H l = some (.lst us) ∧ RA B H us (ls.map encL) ∧
  ∀ v H' us', ExB [l] H H' → Trk B H' → R B H' v (.list ((prun F w its).ms.map (encM side))) → H' l = some (.lst us') → RA B H' us' ((ls ++ (prun F w its).ls).map encL) → Q v H'
/-- none but the k-th slot holds l -/
def muNe (l : Addr) : Option Nat → List Sl → Prop
  | _, [] => True
  | some 0, _ :: r => muNe l none r
  | some (k + 1), s :: r => (match s with | .mu l' _ => l' ≠ l | _ => True) ∧ muNe l (some k) r
  | none, s :: r => (match s with | .mu l' _ => l' ≠ l | _ => True) ∧ muNe l none r
theorem muNe_get {l : Addr} : ∀ {k : Option Nat} {G : List Sl}, muNe l k G → ∀ j l' es, some j ≠ k → G[j]? = some (.mu l' es) → l' ≠ l
  | _, [], _, j, l', es, _, h => by simp at h
  | some 0, s :: r, m, 0, l', es, n, h => absurd rfl n
  | some 0, s :: r, m, j + 1, l', es, n, h => muNe_get (k := none) (G := r) m j l' es (fun z => nomatch z) (by simpa using h)
  | some (k + 1), s :: r, m, 0, l', es, n, h => by
    have e : s = .mu l' es := by simpa using h
    subst e
    exact m.1
  | some (k + 1), s :: r, m, j + 1, l', es, n, h => muNe_get (k := some k) (G := r) m.2 j l' es (fun z => n (by cases z; rfl)) (by simpa using h)
  | none, s :: r, m, 0, l', es, n, h => by
    have e : s = .mu l' es := by simpa using h
    subst e
    exact m.1
  | none, s :: r, m, j + 1, l', es, n, h => muNe_get (k := none) (G := r) m.2 j l' es (fun z => nomatch z) (by simpa using h)
theorem mu_ok {l : Addr} {k : Nat} {G : List Sl} (m : muNe l (some k) G) : ∀ j l' es, j ≠ k → G[j]? = some (.mu l' es) → l' ≠ l := fun j l' es n h => muNe_get m j l' es (fun z => n (Option.some.inj z)) h
/-- told less -/
def fewer : List Sl → List Sl → Prop
  | [], [] => True
  | a :: r, b :: t => (b = .no ∨ a = b) ∧ fewer r t
  | _, _ => False
theorem fewer_get : ∀ {G G' : List Sl}, fewer G G' → G'.length = G.length ∧ ∀ (i : Nat) (s : Sl), G'[i]? = some s → s = Sl.no ∨ G[i]? = some s
  | [], [], _ => ⟨rfl, fun i s h => by simp at h⟩
  | [], _ :: _, h => h.elim
  | _ :: _, [], h => h.elim
  | a :: r, b :: t, h => by
    obtain ⟨h1, h2⟩ := fewer_get (G := r) (G' := t) h.2
    refine ⟨by rw [List.length_cons, List.length_cons, h1], fun i s hs => ?_⟩
    cases i with
    | zero =>
      have e : b = s := by simpa using hs
      subst e
      rcases h.1 with z | z
      · exact .inl z
      · exact .inr (by rw [z]; rfl)
    | succ i => exact h2 i s (by simpa using hs)
theorem Evn.few {C B : List Addr} {σ : L2.St} {H H0 : Hp} {G : List Sl} (E : Evn C H0 B σ H G) (G' : List Sl) (h : fewer G G') : Evn C H0 B σ H G' := E.forget G' (fewer_get h).2 (fewer_get h).1
theorem Evn.startG {C B : List Addr} {H : Hp} {N : List Str} {vs : List V} {G : List Sl} (t : Trk B H) (hl : G.length = N.length) (hv : vs.length ≤ N.length) (h : ∀ (i : Nat) (s : Sl), G[i]? = some s → s = .no ∨ ∃ v, vs[i]? = some v ∧ SlOk B H (some (some v)) s) : Evn C H B (L2.start N vs) H G := by
  refine ⟨ExB.refl _ _, t, by rw [hl]; simp [L2.start]; omega, fun i s hs => ?_⟩
  rcases h i s hs with z | ⟨v, h1, h2⟩
  · rw [z]
    trivial
  · have hi : i < vs.length := (List.getElem?_eq_some_iff.mp h1).1
    have e : (L2.start N vs)[i]? = some (some v) := by
      unfold L2.start
      rw [List.getElem?_append_left (by simpa using hi), List.getElem?_map, h1]
      rfl
    rw [e]
    exact h2

local macro_rules | `(tactic| walk_at "ev") => `(tactic| first
  | with_reducible exact ev_int
  | with_reducible exact ev_str
  | with_reducible exact ev_bl
  | with_reducible exact ev_non
  | ((with_reducible refine' ev_var (by assumption) ?_); rfl)
  | ((with_reducible refine ev_I0 (i := ?i) (j := ?j) ?h1 ?h2); (case h1 => walk_at "ev"); (case h2 => walk_at "ev"))
  | ((with_reducible refine ev_I0b (i := ?i) (j := ?j) ?h1 ?h2); (case h1 => walk_at "ev"); (case h2 => walk_at "ev"))
  | ((with_reducible refine ev_eqI (i := ?i) (j := ?j) ?h1 ?h2); (case h1 => walk_at "ev"); (case h2 => walk_at "ev"))
  | ((with_reducible refine ev_neI (i := ?i) (j := ?j) ?h1 ?h2); (case h1 => walk_at "ev"); (case h2 => walk_at "ev"))
  | ((with_reducible refine ev_neg (i := ?i) ?h1); (case h1 => walk_at "ev"))
  | ((with_reducible refine ev_fst (x := ?x) ?h1); (case h1 => walk_at "ev"))
  | ((with_reducible refine ev_snd (x := ?x) ?h1); (case h1 => walk_at "ev"))
  | ((with_reducible refine ev_fstP (p := ?x) ?h1); (case h1 => walk_at "ev"))
  | ((with_reducible refine ev_sndP (p := ?x) ?h1); (case h1 => walk_at "ev"))
  | ((with_reducible refine ev_ixT (ds := ?ds) (i := ?i) ?h1 ?h2 ?h3); (case h1 => walk_at "ev"); (case h2 => walk_at "ev"); (case h3 => rfl))
  | ((with_reducible refine ev_ixL (ds := ?ds) (i := ?i) ?h1 ?h2 ?h3); (case h1 => walk_at "ev"); (case h2 => walk_at "ev"); (case h3 => rfl))
  | ((with_reducible refine ev_pair1 (a := ?a) (Evn.trk (by assumption)) ?h1); (case h1 => walk_at "ev"))
  | ((with_reducible refine ev_abs (i := ?i) ?h1); (case h1 => walk_at "ev")))

section
variable {P : Program} {w : World} {K : PySem.W.Frag} {mg : Str → Option Value} {base : Heap}
theorem sc_parts_of : FnScope ["field", "side", "items", "lost", "x0", "x1", "marks", "total", "item", "reason", "raised", "low"] ["field", "side", "items", "lost"] (defScope s_parts_of) := ⟨rfl, rfl, rfl, by decide +kernel, rfl, by decide +kernel, by decide +kernel⟩
theorem ok_parts_of (F : Fn K mg "parts_of" s_parts_of) (c_ends_of : Cal P w K mg base 4 "ends_of" ["field", "word"] (SpD dLEnds)) (c_under : Cal P w K mg base 1 "under" ["one", "other"] (SpD dUnder)) (c_plus : Cal P w K mg base 3 "plus" ["one", "other"] (SpD dPlus)) (c_place_onY : Cal P w K mg base 6 "place_on" ["scale", "cell"] (SpD dPlaceY)) (c_put_y : Cal P w K mg base 2 "put_y" ["field", "place"] (SpD dPutY)) (c_place_from : Cal P w K mg base 7 "place_from" ["scale", "one"] (SpD dPlaceFrom)) (m_str : mg "str" = none) (m_isinstance : mg "isinstance" = none) : Cal P w K mg base 8 "parts_of" ["field", "side", "items", "lost"] SpParts := by
  refine cal_of F sc_parts_of (fun vs H Q E ⟨_, _, _, _, _, _, _, _, _, _, _, _, h, _⟩ => by rw [h]; rfl) (fun _ _ _ _ _ _ us hl => match us, hl with | [_, _, _, _], _ => rfl) fun f cdv A outer s H vs Q E hr hsp => ⟨_,
      (pss_cons (ps_asg (pe_cal c_ends_of hr (by decide) (by rfl) (pa_cons (pv 0) (pa_cons (pe_ix (kx_tup (K := K) rfl) (pe_ix (kx_list (K := K) rfl) (pv 2) pe_int (fun _ _ => rfl)) pe_int (fun _ _ => rfl)) pa_nil))) (kpg_tup (K := K) (n := 2) rfl (by rfl) (pgs_cons (pg_name (i := 4) sc_parts_of.nd rfl (Or.inl rfl)) (pgs_cons (pg_name (i := 5) sc_parts_of.nd rfl (Or.inl rfl)) pgs_nil))))
      (pss_cons (ps_set (i := 6) sc_parts_of.nd rfl (Or.inl rfl) (pe_lst pa_nil))
      (pss_cons (ps_set (i := 7) sc_parts_of.nd rfl (Or.inl rfl) (pe_tup (pa_cons pe_int (pa_cons pe_int pa_nil))))
      (pss_cons (ps_for PassesOwn.never rfl (kpi_list (K := K) rfl (pv 2)) (pg_name (i := 8) sc_parts_of.nd rfl (Or.inl rfl))
        (pss_cons (ps_set (i := 9) sc_parts_of.nd rfl (Or.inl rfl) pe_str)
        (pss_cons (ps_if (pt_not (pt_val (pe_cal c_under hr (by decide) (by rfl) (pa_cons (pe_ix (kx_tup (K := K) rfl) (pv 8) pe_int (fun _ _ => rfl)) (pa_cons (pe_tup (pa_cons pe_int (pa_cons pe_int pa_nil))) pa_nil))))) (pss_cons (ps_set (i := 10) sc_parts_of.nd rfl (Or.inl rfl) (pe_cal c_plus hr (by decide) (by rfl) (pa_cons (pv 7) (pa_cons (pe_ix (kx_tup (K := K) rfl) (pv 8) pe_int (fun _ _ => rfl)) pa_nil))))
          (pss_one (ps_set (i := 9) sc_parts_of.nd rfl (Or.inl rfl) (pe_cal c_place_onY hr (by decide) (by rfl) (pa_cons (pe_ix (kx_tup (K := K) rfl) (pv 0) pe_int (fun _ _ => rfl)) (pa_cons (pv 10) pa_nil)))))) pss_nil)
        (pss_one (ps_if (pt_val (pe_callB (kcall_isi (K := K) rfl) (by rfl) m_isinstance bt_isinstance (pa_cons (pv 9) (pa_cons (pe_bltn (v := .ty "str") (by rfl) m_str bt_str rfl) pa_nil)))) (pss_one (ps_expr (kpe_bm (K := K) rfl PySem.F.plainAttrs_list PySem.F.slot_list_append PySem.F.type_list_append mt_append (pv 3) (pa_cons (pe_tup (pa_cons (pe_ix (kx_tup (K := K) rfl) (pv 8) pe_int (fun _ _ => rfl)) (pa_cons pe_str (pa_cons (pv 9) pa_nil)))) pa_nil)))) (pss_cons (ps_set (i := 11) sc_parts_of.nd rfl (Or.inl rfl) (pe_cal c_put_y hr (by decide) (by rfl) (pa_cons (pv 0) (pa_cons (pe_cal c_place_from hr (by decide) (by rfl) (pa_cons (pe_ix (kx_tup (K := K) rfl) (pv 0) pe_int (fun _ _ => rfl)) (pa_cons (pv 7) pa_nil))) pa_nil))))
          (pss_cons (ps_expr (kpe_bm (K := K) rfl PySem.F.plainAttrs_list PySem.F.slot_list_append PySem.F.type_list_append mt_append (pv 6) (pa_cons (pe_tup (pa_cons (pe_tup (pa_cons pe_str (pa_cons (pv 1) (pa_cons (pv 4) (pa_cons (pv 5) (pa_cons (pv 11) (pa_cons (pe_cal c_put_y hr (by decide) (by rfl) (pa_cons (pv 0) (pa_cons (pv 9) pa_nil))) (pa_cons (pe_ix (kx_tup (K := K) rfl) (pv 8) pe_int (fun _ _ => rfl)) pa_nil)))))))) (pa_cons (pe_lst (pa_cons (pe_ix (kx_tup (K := K) rfl) (pv 8) pe_int (fun _ _ => rfl)) pa_nil)) pa_nil))) pa_nil)))
          (pss_one (ps_set (i := 7) sc_parts_of.nd rfl (Or.inl rfl) (pv 10))))))))))
      (pss_one (ps_ret (pv 6))))))), ?_⟩
  obtain ⟨D, B, F, side, w, its, ls, l, vf, vd, vi, us, rfl, hD, ht, hF, hw, hne, hlen, hls, hit, rf, rd, ri, hl, hus, rus, q⟩ := hsp
  have E0 : Evn [l] H B (L2.start ["field", "side", "items", "lost", "x0", "x1", "marks", "total", "item", "reason", "raised", "low"] [vf, vd, vi, .ref l]) H [.dat (encF F), .dat (.str side), .dat (.list (its.map encIt)), .mu l (ls.map encL), .no, .no, .no, .no, .no, .no, .no, .no] := Evn.startG ht rfl (by show 4 ≤ 12; decide) fun i s h => by
    match i, h with
    | 0, h => cases h; exact .inr ⟨_, rfl, _, rfl, rf⟩
    | 1, h => cases h; exact .inr ⟨_, rfl, _, rfl, rd⟩
    | 2, h => cases h; exact .inr ⟨_, rfl, _, rfl, ri⟩
    | 3, h => cases h; exact .inr ⟨_, rfl, rfl, hl, us, hus, rus⟩
    | 4, h => cases h; exact .inl rfl
    | 5, h => cases h; exact .inl rfl
    | 6, h => cases h; exact .inl rfl
    | 7, h => cases h; exact .inl rfl
    | 8, h => cases h; exact .inl rfl
    | 9, h => cases h; exact .inl rfl
    | 10, h => cases h; exact .inl rfl
    | 11, h => cases h; exact .inl rfl
    | n + 12, h => simp at h
  obtain ⟨i0, r0, rfl⟩ := List.exists_cons_of_ne_nil hne
  obtain ⟨hx0, _⟩ := hit i0 (List.mem_cons_self ..)
  refine ss_unp E0 (d := encP (endsOf F w)) (ev_lends E0.trk (F := F) (w := w) (by walk_at "ev") (Ev.is (ev_ixT (ds := [.int i0.own, encC i0.x, encO i0.y, .none, .int i0.rank, .int i0.colour, .int i0.size]) (i := 1) (d := encC i0.x) (ev_ixL (ds := encIt i0 :: r0.map encIt) (i := 0) (d := encIt i0) (by walk_at "ev") (by walk_at "ev") (atI_pick (by decide) rfl)) (by walk_at "ev") rfl) (by rw [hx0]; rfl)) hF hw) (fun v1 H1 E1 r1 => g_tup r1 rfl fun vs a0 => gs_cons E1 a0 fun σ2 vs E2 a0 => gs_cons E2 a0 fun σ3 vs E3 a0 => gs_nil a0 ?_)
  refine ss_new E3 (fun m σ4 H4 hm0 hmC hmB E4 => ?_) (fun x hx => by rw [List.mem_singleton] at hx; rw [hx]; exact hl)
  have hml : m ≠ l := fun z => hmC (by rw [z]; exact List.mem_singleton.mpr rfl)
  refine ss_set E4 (d := encQ 0) (ev_pairC (a := 0) (b := 1) E4.trk (by walk_at "ev") (by walk_at "ev") enc_zero) (fun σ5 H5 E5 => ?_)
  have E5 : Evn [l] H (m :: B) σ5 H5 [.dat (encF F), .dat (.str side), .dat (.list ((i0 :: r0).map encIt)), .mu l (ls.map encL), .dat (.int (endsOf F w).1), .dat (.int (endsOf F w).2), .mu m [], .dat (encQ 0), .no, .no, .no, .no] := E5
  clear E0 E1 E2 E3 E4
  refine ss_forL (ds := (i0 :: r0).map encIt) (B := m :: B) (by walk_at "ev") (fun H1 i σ' H' => Evn [l, m] H1 (m :: B) σ' H' [.dat (encF F), .dat (.str side), .dat (.list ((i0 :: r0).map encIt)), .mu l ((ls ++ (prun F w ((i0 :: r0).take i)).ls).map encL), .dat (.int (endsOf F w).1), .dat (.int (endsOf F w).2), .mu m ((prun F w ((i0 :: r0).take i)).ms.map (encM side)), .dat (encQ (prun F w ((i0 :: r0).take i)).tot), .no, .no, .no, .no])
    (fun H6 e => by
      have := E5.base e [l, m]
      rw [List.take_zero, show (prun F w []).ls = [] from rfl, List.append_nil]
      exact this) (fun H6 i σ' H' e E6 => ExB.mono (fun a ha => by
        rcases List.mem_cons.mp ha with z | ha
        · rw [z]; exact List.mem_cons_of_mem _ hl
        · rw [List.mem_singleton] at ha; rw [ha]; exact List.mem_cons_self ..) E6.ex) (fun H6 i x d σ' H' e hx rx E6 => ?_) (fun H6 σ' H' e E6 => ?_)
  · have hi : i < (i0 :: r0).length := by
      have := (List.getElem?_eq_some_iff.mp hx).1
      rwa [List.length_map] at this
    have hd : d = encIt (i0 :: r0)[i] := by
      rw [List.getElem?_map, List.getElem?_eq_getElem hi] at hx
      exact (Option.some.inj hx).symm
    subst hd
    have htk : (i0 :: r0).take (i + 1) = (i0 :: r0).take i ++ [(i0 :: r0)[i]] := by rw [List.take_add_one, List.getElem?_eq_getElem hi]; rfl
    rw [htk, prun_snoc]
    obtain ⟨hxi, y, hy, hbn⟩ := hit _ (List.getElem_mem hi)
    generalize (i0 :: r0)[i] = it at *
    obtain ⟨k1, k2, k3⟩ := prun_fits (F := F) (w := w) (D := D) ((i0 :: r0).take i) (fun j hj => hit j (List.mem_of_mem_take hj))
    have hti : ((i0 :: r0).take i).length ≤ 60 := by rw [List.length_take]; omega
    generalize prun F w ((i0 :: r0).take i) = p at *
    have qt : QS 1500 p.tot := bn_qs hD (by omega) k1
    have qy : QS 1500 y := bn_qs hD (by omega) hbn
    have qr : QS 1500 (p.tot + y) := bn_qs hD (by omega) (bn_add k1 hbn)
    refine g_name (i := 8) E6 rx (fun σ7 E7 => ?_)
    have E7 : Evn [l, m] H6 (m :: B) σ7 H' [.dat (encF F), .dat (.str side), .dat (.list ((i0 :: r0).map encIt)), .mu l ((ls ++ p.ls).map encL), .dat (.int (endsOf F w).1), .dat (.int (endsOf F w).2), .mu m (p.ms.map (encM side)), .dat (encQ p.tot), .dat (.tuple [.int it.own, encC it.x, encQ y, .none, .int it.rank, .int it.colour, .int it.size]), .no, .no, .no] := by
      have : encIt it = .tuple [.int it.own, encC it.x, encQ y, .none, .int it.rank, .int it.colour, .int it.size] := by
        unfold encIt
        rw [hy]
        rfl
      rw [this] at E7
      exact E7
    refine ss_set E7 (d := .str "below") (by walk_at "ev") (fun σ8 H8 E8 => ?_)
    have lostApp : ∀ (σ9 : L2.St) (H9 : Hp) (why : Str) (z : Sl), muNe l none [z] → Evn [l, m] H6 (m :: B) σ9 H9 [.dat (encF F), .dat (.str side), .dat (.list ((i0 :: r0).map encIt)), .mu l ((ls ++ p.ls).map encL), .dat (.int (endsOf F w).1), .dat (.int (endsOf F w).2), .mu m (p.ms.map (encM side)), .dat (encQ p.tot), .dat (.tuple [.int it.own, encC it.x, encQ y, .none, .int it.rank, .int it.colour, .int it.size]), .dat (.str why), z, .no] →
        pstep F w p it = ⟨p.ms, p.ls ++ [⟨it.own, "y", why⟩], p.tot⟩ → ∀ D' : Ends, D'.nx = (fun σ' H' => Evn [l, m] H6 (m :: B) σ' H' [.dat (encF F), .dat (.str side), .dat (.list ((i0 :: r0).map encIt)), .mu l ((ls ++ (pstep F w p it).ls).map encL), .dat (.int (endsOf F w).1), .dat (.int (endsOf F w).2), .mu m ((pstep F w p it).ms.map (encM side)), .dat (encQ (pstep F w p it).tot), .no, .no, .no, .no]) →
        tDrop (tBM K "list" rAppend (tVar 3) (tCons (tTup (tCons (tOp (rIxT K) (tVar 8) (tC (.int 0))) (tCons (tC (.str "y")) (tCons (tVar 9) tNil)))) tNil)) D' σ9 H9 := fun σ9 H9 why z hz E9 hp D' hD' => by
      refine s_app (d := encL ⟨it.own, "y", why⟩) E9 rfl (.inr (List.mem_cons_self ..)) (mu_ok ⟨trivial, trivial, trivial, trivial, trivial, hml, trivial, trivial, trivial, hz.1, trivial, trivial⟩) (ev_tup E9.trk (ea_cons (d := .int it.own) (by walk_at "ev") (ea_cons (d := .str "y") (by walk_at "ev") (ea_cons (d := .str why) (by walk_at "ev") ea_nil))) (by simp)) (by simp; omega) (fun H10 E10 => ?_)
      rw [hD', hp]
      refine Evn.few E10 _ ⟨.inr rfl, .inr rfl, .inr rfl, .inr ?_, .inr rfl, .inr rfl, .inr rfl, .inr rfl, .inl rfl, .inl rfl, .inl rfl, .inl rfl, trivial⟩
      simp
    refine ss_ifR E8 (et_not (et_B (ev_under E8.trk (x := y) (y := 0) (by walk_at "ev") (ev_pairC (a := 0) (b := 1) E8.trk (by walk_at "ev") (by walk_at "ev") enc_zero) (qy.mono (by decide)) qs_zero))) (fun hc H9 E9 => ?_) (fun hc H9 E9 => ?_)
    · rw [Bool.not_eq_true', decide_eq_false_iff_not] at hc
      have hno : ∀ why, placeY F.s (p.tot + y) = .no why → pstep F w p it = ⟨p.ms, p.ls ++ [⟨it.own, "y", whyS why⟩], p.tot⟩ := fun why e => by
        unfold pstep
        rw [hy]
        dsimp only
        rw [if_neg hc, e]
      refine ss_set E9 (d := encQ (p.tot + y)) (ev_plus E9.trk (x := p.tot) (y := y) (by walk_at "ev") (by walk_at "ev") (qt.mono (by decide)) (qy.mono (by decide))) (fun σ10 H10 E10 => ?_)
      refine s_set E10 (d := encPl (placeY F.s (p.tot + y))) (ev_placeY E10.trk (by walk_at "ev") (by walk_at "ev") hF.y qr) (fun σ11 H11 E11 => ?_)
      dsimp only
      cases e : placeY F.s (p.tot + y) with
      | no why =>
        rw [e] at E11
        refine s_ifT E11 (et_B (ev_isi (d := .str (whyS why)) (by walk_at "ev") kb_ss)) (fun H12 E12 => by
          refine lostApp _ _ (whyS why) (.dat (encQ (p.tot + y))) ⟨trivial, trivial⟩ E12 ?_ _ ?_
          case refine_2 => rfl
          exact hno why e)
      | at_ v =>
        rw [e] at E11
        have qv : QS 3900 v := placeY_qs hF.y qr e
        refine s_ifF E11 (et_B (ev_isi (d := encQ v) (by walk_at "ev") kb_ts)) (fun H12 E12 => ?_)
        refine ss_set E12 (d := .int (edge F p.tot)) (Ev.is (ev_putY E12.trk (F := F) (by walk_at "ev") (ev_placeFrom E12.trk (s := F.s) (c := p.tot) (by walk_at "ev") (by walk_at "ev") hF.y qt) ((plQ_qs hF.y qt).mono (by decide))) (by rw [edge_q])) (fun σ13 H13 E13 => ?_)
        have ee : edge F (p.tot + y) = F.y0 + F.s.len - rnd v := by
          rw [edge_q, e]
          rfl
        refine ss_app (d := encM side (mark F w p.tot y it)) E13 rfl (.inr (by simp)) (mu_ok ⟨trivial, trivial, trivial, fun z => hml z.symm, trivial, trivial, trivial, trivial, trivial, trivial, trivial, trivial⟩) (ev_tup E13.trk (ea_cons (d := .tuple [.str "part", .str side, .int (endsOf F w).1, .int (endsOf F w).2, .int (edge F p.tot), .int (edge F (p.tot + y)), .int it.colour]) (ev_tup E13.trk (ea_cons (by walk_at "ev") (ea_cons (by walk_at "ev") (ea_cons (by walk_at "ev") (ea_cons (by walk_at "ev") (ea_cons (by walk_at "ev") (ea_cons (Ev.is (ev_putY E13.trk (F := F) (q := v) (by walk_at "ev") (by walk_at "ev") (qv.mono (by decide))) (by rw [ee])) (ea_cons (by walk_at "ev") ea_nil))))))) (by simp)) (ea_cons (d := .list [.int it.own]) (ev_lst E13.trk (ea_cons (by walk_at "ev") ea_nil) (by simp)) ea_nil)) (by simp)) (by simp; omega) (fun H14 E14 => ?_)
        refine s_set E14 (d := encQ (p.tot + y)) (by walk_at "ev") (fun σ15 H15 E15 => ?_)
        have hp : pstep F w p it = ⟨p.ms ++ [mark F w p.tot y it], p.ls, p.tot + y⟩ := by
          unfold pstep
          rw [hy]
          dsimp only
          rw [if_neg hc, e]
        show Evn _ _ _ _ _ _
        rw [hp]
        refine Evn.few E15 _ ⟨.inr rfl, .inr rfl, .inr rfl, .inr rfl, .inr rfl, .inr rfl, .inr ?_, .inr rfl, .inl rfl, .inl rfl, .inl rfl, .inl rfl, trivial⟩
        simp
    · rw [Bool.not_eq_false', decide_eq_true_iff] at hc
      refine s_ifT E9 (et_B (ev_isi (d := .str "below") (by walk_at "ev") kb_ss)) (fun H10 E10 => by
        refine lostApp _ _ "below" .no ⟨trivial, trivial⟩ E10 ?_ _ ?_
        case refine_2 => rfl
        unfold pstep
        rw [hy]
        dsimp only
        rw [if_pos hc])
  · rw [List.length_map, List.take_length] at E6
    have E7 := E5.back e E6 (fun x hx => by
      rcases List.mem_cons.mp hx with z | hx
      · exact .inl (by rw [z]; exact List.mem_singleton.mpr rfl)
      · rw [List.mem_singleton] at hx
        exact .inr (by rw [hx]; exact hm0))
    obtain ⟨a1, a2, ms, a3, a4⟩ := E7.at_ 6 _ rfl
    obtain ⟨b1, b2, us', b3, b4⟩ := E7.at_ 3 _ rfl
    have sub : ∀ a ∈ B, a ∈ m :: B := fun a h => List.mem_cons_of_mem _ h
    exact ⟨_, a1, q _ _ us' E7.ex (fun x hx => E7.trk x (sub x hx)) (.lst a3 hmB (a4.sub sub)) b3 (b4.sub sub)⟩
end
end M

end
section
set_option maxHeartbeats 4000000
set_option exponentiation.threshold 10000
namespace M
open PySem PySem.Spec PyProof.Rows L2

/-! ### heaps: what it computes -/
def isW (w : Str) (i : It) : Bool := decide (i.x = some w)
def goodI (F : Fld) (i : It) : Bool := (match placeX F.ws F.lx i.x with | .at_ _ => true | .no _ => false) && i.y.isSome
def loss1 (F : Fld) (i : It) : List Ls := match placeX F.ws F.lx i.x with
  | .no w => [⟨i.own, "x", whyS w⟩]
  | .at_ _ => match i.y with
    | none => [⟨i.own, "y", "nothing"⟩]
    | some _ => []
def hItems (F : Fld) (its : List It) (w : Str) : List It := sortR ((its.filter (goodI F)).filter (isW w))
def hw (F : Fld) (its : List It) (w : Str) : PSt := prun F w (hItems F its w)
def hMarks (F : Fld) (its : List It) : List Mk := F.ws.flatMap fun w => (hw F its w).ms
def hLost (F : Fld) (its : List It) : List Ls := its.flatMap (loss1 F) ++ F.ws.flatMap fun w => (hw F its w).ls
def hRes (F : Fld) (side : Str) (its : List It) : PyData := .tuple [.list ((hMarks F its).map (encM side)), .list (((hLost F its).mergeSort (PySem.W.dataLe false encL)).map encL)]
def IOk (D : Nat) (its : List It) : Prop := ∀ i ∈ its, ∀ y, i.y = some y → Bn D 1 y
def SpHeaps (P0 : Addr) (q : Str) : Sp := fun vs H Q _ => ∃ (D : Nat) (F : Fld) (side : Str) (its : List It), (0 < D ∧ D < 2 ^ 140) ∧ F.Ok ∧ its.length ≤ 60 ∧ IOk D its ∧ LamX.Tabs [(P0, q)] H ∧ RA [P0] H vs [encF F, .str side, .list (its.map encIt)] ∧
  ∀ v H', LamX.ExtN H H' → LamX.Tabs [(P0, q)] H' → R [P0] H' v (hRes F side its) → Q v H'
theorem hItems_gi {F : Fld} {its : List It} {D : Nat} (h : IOk D its) (w : Str) : ∀ i ∈ hItems F its w, GI D w i := fun i hi => by
  have h1 := (List.mem_mergeSort.mp hi)
  obtain ⟨h2, h3⟩ := List.mem_filter.mp h1
  obtain ⟨h4, h5⟩ := List.mem_filter.mp h2
  refine ⟨of_decide_eq_true h3, ?_⟩
  have h6 := (Bool.and_eq_true_iff.mp h5).2
  obtain ⟨y, hy⟩ := Option.isSome_iff_exists.mp h6
  exact ⟨y, hy, h i h4 y hy⟩
/-- the words part the good ones -/
theorem part_perm : ∀ (M : List It) (ws : List Str), ws.Nodup → (∀ i ∈ M, ∃ w ∈ ws, i.x = some w) → (ws.flatMap fun w => M.filter (isW w)).Perm M
  | [], ws, _, _ => by
    have : (ws.flatMap fun w => ([] : List It).filter (isW w)) = [] := by simp
    rw [this]
  | m :: r, ws, nd, h => by
    have ih := part_perm r ws nd fun i hi => h i (List.mem_cons_of_mem _ hi)
    obtain ⟨w0, hw0, e0⟩ := h m (List.mem_cons_self ..)
    refine List.Perm.trans ?_ (List.Perm.cons m ih)
    have go : ∀ (ws : List Str), ws.Nodup → (w0 ∉ ws → (ws.flatMap fun w => (m :: r).filter (isW w)) = ws.flatMap fun w => r.filter (isW w)) ∧ (w0 ∈ ws → (ws.flatMap fun w => (m :: r).filter (isW w)).Perm (m :: ws.flatMap fun w => r.filter (isW w))) := by
      intro ws
      induction ws with
      | nil => exact fun _ => ⟨fun _ => rfl, fun z => nomatch z⟩
      | cons v t ih2 =>
        intro nd2
        obtain ⟨n1, n2⟩ := List.nodup_cons.mp nd2
        obtain ⟨g1, g2⟩ := ih2 n2
        have hv : isW v m = decide (w0 = v) := by
          unfold isW
          rw [e0]
          simp
        refine ⟨fun n => ?_, fun hm => ?_⟩
        · have nv : w0 ≠ v := fun z => n (z ▸ List.mem_cons_self ..)
          have nt : w0 ∉ t := fun z => n (List.mem_cons_of_mem _ z)
          rw [List.flatMap_cons, List.flatMap_cons, g1 nt, List.filter_cons_of_neg (by rw [hv]; simpa using nv)]
        · by_cases z : w0 = v
          · subst z
            rw [List.flatMap_cons, List.flatMap_cons, g1 n1, List.filter_cons_of_pos (by rw [hv]; simp)]
            exact List.Perm.refl _
          · have ht : w0 ∈ t := (List.mem_cons.mp hm).resolve_left z
            rw [List.flatMap_cons, List.flatMap_cons, List.filter_cons_of_neg (by rw [hv]; simpa using z)]
            exact ((g2 ht).append_left _).trans List.perm_middle
    exact (go ws nd).2 hw0
theorem placeX_at {ws : List Str} {len : Int} {x : Option Str} {v : Rat} (h : placeX ws len x = .at_ v) : ∃ w ∈ ws, x = some w := by
  cases x with
  | none => cases h
  | some w =>
    unfold placeX at h
    dsimp only at h
    split at h
    · exact ⟨w, ‹_›, rfl⟩
    · cases h
theorem good_word {F : Fld} {its : List It} : ∀ i ∈ its.filter (goodI F), ∃ w ∈ F.ws, i.x = some w := fun i hi => by
  have h := (Bool.and_eq_true_iff.mp (List.mem_filter.mp hi).2).1
  cases e : placeX F.ws F.lx i.x with
  | no w => rw [e] at h; cases h
  | at_ v => exact placeX_at e
theorem flat_len {α β γ : Type} (f : α → List β) (g : α → List γ) : ∀ ws : List α, (∀ w ∈ ws, (f w).length ≤ (g w).length) → (ws.flatMap f).length ≤ (ws.flatMap g).length
  | [], _ => Nat.le_refl _
  | w :: r, h => by
    rw [List.flatMap_cons, List.flatMap_cons, List.length_append, List.length_append]
    exact Nat.add_le_add (h w (List.mem_cons_self ..)) (flat_len f g r fun v hv => h v (List.mem_cons_of_mem _ hv))
theorem flat_take {α β : Type} (f : α → List β) (ws : List α) (i : Nat) : ((ws.take i).flatMap f).length ≤ (ws.flatMap f).length := by
  conv => rhs; rw [← List.take_append_drop i ws, List.flatMap_append, List.length_append]
  exact Nat.le_add_right _ _
theorem h_fits {F : Fld} {its : List It} {D : Nat} (hx : XOk F.ws F.lx) (h : IOk D its) (i : Nat) : ((F.ws.take i).flatMap fun w => (hw F its w).ls).length ≤ its.length ∧ ((F.ws.take i).flatMap fun w => (hw F its w).ms).length ≤ its.length := by
  have hp := (part_perm (its.filter (goodI F)) F.ws hx.nd good_word).length_eq
  have hf : (its.filter (goodI F)).length ≤ its.length := List.length_filter_le ..
  have hl : ∀ w, (hItems F its w).length = ((its.filter (goodI F)).filter (isW w)).length := fun w => by unfold hItems sortR; rw [List.length_mergeSort]
  constructor
  · refine Nat.le_trans (flat_take ..) (Nat.le_trans (flat_len _ (fun w => (its.filter (goodI F)).filter (isW w)) _ fun w _ => ?_) (by omega))
    rw [← hl]
    exact (prun_fits _ (hItems_gi h w)).2.2
  · refine Nat.le_trans (flat_take ..) (Nat.le_trans (flat_len _ (fun w => (its.filter (goodI F)).filter (isW w)) _ fun w _ => ?_) (by omega))
    rw [← hl]
    exact (prun_fits _ (hItems_gi h w)).2.1
theorem loss1_len (F : Fld) : ∀ its : List It, (its.flatMap (loss1 F)).length ≤ its.length
  | [] => Nat.le_refl _
  | i :: r => by
    rw [List.flatMap_cons, List.length_append, List.length_cons, Nat.add_comm r.length]
    refine Nat.add_le_add ?_ (loss1_len F r)
    unfold loss1
    split
    · exact Nat.le_refl _
    · split
      · exact Nat.le_refl _
      · exact Nat.zero_le _
/-! ### the heap while it runs -/
structure WL (HI : Hp) (B : List Addr) (H : Hp) (D L : Addr) (M : List It) : Prop where
  ex : ∃ kvs : List (Key × V), H D = some (.dK kvs) ∧ kvs.length ≤ M.length ∧ (∀ w : Str, valV kvs (.inr w) = none → M.filter (isW w) = []) ∧
    (∀ (w : Str) (v : V), valV kvs (.inr w) = some v → ∃ (l : Addr) (vs : List V), v = .ref l ∧ l ∈ B ∧ l ≠ D ∧ l ≠ L ∧ HI l = none ∧ H l = some (.lst vs) ∧ RA B H vs ((M.filter (isW w)).map encIt) ∧ M.filter (isW w) ≠ []) ∧
    ∀ (w w' : Str) (l : Addr), valV kvs (.inr w) = some (.ref l) → valV kvs (.inr w') = some (.ref l) → w = w'
theorem WL.exN {HI H H' : Hp} {B : List Addr} {D L : Addr} {M : List It} (h : WL HI B H D L M) (e : ExN [L] H H') (hDL : D ≠ L) (hLB : L ∈ B) : WL HI B H' D L M := by
  obtain ⟨kvs, h1, h2, h3, h4, h5⟩ := h.ex
  have out : ∀ {a : Addr}, a ≠ L → a ∉ [L] := fun n z => n (List.mem_singleton.mp z)
  refine ⟨kvs, e _ _ (out hDL) h1 (fun _ z => nomatch z), h2, h3, fun w v hv => ?_, h5⟩
  obtain ⟨l, vs, k1, k2, k3, k4, k5, k6, k7, k8⟩ := h4 w v hv
  exact ⟨l, vs, k1, k2, k3, k4, k5, e _ _ (out k4) k6 (fun _ z => nomatch z), k7.exN (e.mono fun a ha => by rw [List.mem_singleton] at ha; rw [ha]; exact hLB), k8⟩
/-- mutable ones stand, tables or not -/
def TrkN (P0 : Addr) (B : List Addr) (H : Hp) : Prop := ∀ b ∈ B, b = P0 ∨ ∃ o, H b = some o ∧ ∀ ps, o ≠ HO.tbl ps
theorem TrkN.trk {P0 : Addr} {q : Str} {B : List Addr} {H : Hp} (t : TrkN P0 B H) (T : LamX.Tabs [(P0, q)] H) : Trk B H := fun b hb z => by
  rcases t b hb with rfl | ⟨o, h, _⟩
  · obtain ⟨ps, h1, _⟩ := T (b, q) (List.mem_singleton.mpr rfl)
    rw [h1] at z
    cases z
  · rw [h] at z
    cases z
theorem TrkN.exN {P0 : Addr} {B C : List Addr} {H H' : Hp} (t : TrkN P0 B H) (e : ExN C H H') (hC : ∀ a ∈ C, a ∈ B → ∃ o, H' a = some o ∧ ∀ ps, o ≠ HO.tbl ps) : TrkN P0 B H' := fun b hb => by
  by_cases z : b ∈ C
  · exact .inr (hC b z hb)
  · rcases t b hb with h | ⟨o, h1, h2⟩
    · exact .inl h
    · exact .inr ⟨o, e b o z h1 h2, h2⟩
theorem tabs_exB {P0 : Addr} {q : Str} {C : List Addr} {H H' : Hp} (T : LamX.Tabs [(P0, q)] H) (e : ExB C H H') (h : P0 ∉ C) (hC : ∀ a ∈ C, ∀ φ, H a ≠ some (.ext φ)) : LamX.Tabs [(P0, q)] H' := fun p hp => by
  rw [List.mem_singleton] at hp
  subst hp
  obtain ⟨ps, h1, h2, h3⟩ := T (P0, q) (List.mem_singleton.mpr rfl)
  refine ⟨ps, e _ _ h h1, h2, fun pos cv hc => ?_⟩
  obtain ⟨c, e1, e2⟩ := h3 pos cv hc
  exact ⟨c, e1, e _ _ (fun z => hC c z _ e2) e2⟩
section
variable {C B B' : List Addr} {σ : L2.St} {H H0 H' : Hp} {G : List Sl} {v : V} {d : PyData} {k : Nat} {p : Addr}
theorem Evn.chg (E : Evn C H0 B σ H G) (e : ExN B H H') (s : ∀ a o, a ∉ B → H a = some o → a ∉ B') (sub : ∀ b ∈ B, b ∈ B') (t : Trk B' H') (mu : ∀ (i : Nat) (l : Addr) ds, G[i]? = some (.mu l ds) → H' l = H l) (C' : List Addr) : Evn C' H' B' σ H' G := by
  have e' : ExN B' H H' := e.mono sub
  refine ⟨ExB.refl _ _, t, E.len, fun i s' h => ?_⟩
  cases s' with
  | no => trivial
  | ptr l => exact E.at_ i _ h
  | dat d =>
    obtain ⟨v, h1, h2⟩ := E.at_ i _ h
    exact ⟨v, h1, (R.ex (ExB.refl _ _) s h2).exN e'⟩
  | mu l ds =>
    obtain ⟨h1, h2, vs, h3, h4⟩ := E.at_ i _ h
    exact ⟨h1, sub _ h2, vs, by rw [mu i l ds h]; exact h3, (RA.ex (ExB.refl _ _) s h4).exN e'⟩
theorem Evn.ptr (E : Evn C H0 B σ H G) (k : Nat) (p : Addr) : Evn C H0 B (σ.set k (some (.ref p))) H (G.set k (.ptr p)) := by
  refine ⟨E.ex, E.trk, by rw [List.length_set, List.length_set, E.len], fun j s h => ?_⟩
  by_cases hj : k = j
  · subst hj
    by_cases hi : k < G.length
    · rw [List.getElem?_set_self hi] at h
      cases h
      exact List.getElem?_set_self (by rw [E.len]; exact hi)
    · rw [List.getElem?_eq_none (by rw [List.length_set]; omega)] at h
      cases h
  · rw [List.getElem?_set_ne hj] at h ⊢
    exact E.at_ j s h
theorem Evn.toPtr {l : Addr} {ds : List PyData} (E : Evn C H0 B σ H G) (hk : G[k]? = some (.mu l ds)) : Evn C H0 B σ H (G.set k (.ptr l)) := by
  refine ⟨E.ex, E.trk, by rw [List.length_set, E.len], fun j s h => ?_⟩
  by_cases hj : k = j
  · subst hj
    have hi : k < G.length := (List.getElem?_eq_some_iff.mp hk).1
    rw [List.getElem?_set_self hi] at h
    cases h
    exact (E.at_ k _ hk).1
  · rw [List.getElem?_set_ne hj] at h
    exact E.at_ j s h
theorem fresh_out {a : Addr} {o : HO} (h : H p = none) (ha : H a = some o) (n : a ∉ B) : a ∉ p :: B := fun z => by
  rcases List.mem_cons.mp z with z | z
  · rw [z, h] at ha
    cases ha
  · exact n z
def noMu : List Sl → Prop
  | [] => True
  | s :: r => (match s with | .mu _ _ => False | _ => True) ∧ noMu r
theorem noMu_get : ∀ {G : List Sl}, noMu G → ∀ (i : Nat) (l : Addr) ds, G[i]? = some (.mu l ds) → False
  | [], _, i, l, ds, h => by simp at h
  | s :: r, m, 0, l, ds, h => by
    have e : s = .mu l ds := by simpa using h
    subst e
    exact m.1
  | s :: r, m, i + 1, l, ds, h => noMu_get m.2 i l ds (by simpa using h)
end
section
variable {K : PySem.W.Frag} {C B : List Addr} {σ : L2.St} {H H0 H' : Hp} {tl : TE} {ds : List PyData} {D : Ends} {tu u : TS}
theorem ss_forN {g : TG} (h : Ev B tl σ H (.list ds)) (Pv : Hp → Nat → L2.St → Hp → Prop) (h0 : ∀ H1, Same H H1 → Pv H1 0 σ H1) (hk : ∀ H1 i σ' H', Same H H1 → Pv H1 i σ' H' → ExN B H1 H')
    (hs : ∀ H1 i x d σ' H', Same H H1 → ds[i]? = some d → R B H1 x d → Pv H1 i σ' H' → g x σ' H' fun σ2 H2 => tu { D with nx := Pv H1 (i + 1), ct := Pv H1 (i + 1), bk := u D } σ2 H2) (hd : ∀ H1 σ' H', Same H H1 → Pv H1 ds.length σ' H' → u D σ' H') : tSeq (tFor (iList K tl) g tu) u D σ H :=
  h H (Same.refl H) _ fun v H1 e r => by
    cases r with
    | @lst a xs _ ha na ra =>
      have keep : ∀ {i : Nat} {σ' : L2.St} {H' : Hp}, Pv H1 i σ' H' → H' a = some (.lst xs) := fun {i σ' H'} p => hk H1 i σ' H' e p a _ na ha (fun _ z => nomatch z)
      refine ⟨a, rfl, ⟨xs, Or.inl (Or.inl ha)⟩, for_list (xs := xs) (Pv H1) (h0 H1 e) (fun i σ' H' _ p => Or.inl (Or.inl (keep p))) (fun i x σ' H' hx p => ?_) (fun σ' H' p => hd H1 σ' H' e (by rw [← ra.len]; exact p))⟩
      obtain ⟨d, h1, h2⟩ := ra.getV hx
      exact hs H1 i x d σ' H' e h1 h2 p
end

section
/-- tables and code objects stay -/
def KeepT (H H' : Hp) : Prop := ∀ b o, H b = some o → (∀ xs, o ≠ .lst xs) → (∀ kvs, o ≠ .dK kvs) → H' b = some o
theorem KeepT.trans {H H1 H2 : Hp} (a : KeepT H H1) (b : KeepT H1 H2) : KeepT H H2 := fun x o h n m => b x o (a x o h n m) n m
theorem KeepT.same {H H' : Hp} (e : Same H H') : KeepT H H' := fun b o h _ _ => e b o h
theorem KeepT.lst {H : Hp} {l : Addr} {xs : List V} {o : HO} (h : H l = some (.lst xs)) : KeepT H (upd H l o) := fun b o' hb n _ => by
  rw [upd_ne (fun z => by rw [z, h] at hb; exact n xs (Option.some.inj hb).symm)]
  exact hb
theorem KeepT.dk {H : Hp} {l : Addr} {kvs : List (Key × V)} {o : HO} (h : H l = some (.dK kvs)) : KeepT H (upd H l o) := fun b o' hb _ m => by
  rw [upd_ne (fun z => by rw [z, h] at hb; exact m kvs (Option.some.inj hb).symm)]
  exact hb
theorem KeepT.exB {C : List Addr} {H H' : Hp} (e : ExB C H H') (h : ∀ a ∈ C, (∃ xs, H a = some (.lst xs)) ∨ (∃ kvs, H a = some (.dK kvs)) ∨ H a = none) : KeepT H H' := fun b o hb n m => e b o (fun z => by
  rcases h b z with ⟨xs, e⟩ | ⟨kvs, e⟩ | e
  · rw [e] at hb
    exact n xs (Option.some.inj hb).symm
  · rw [e] at hb
    exact m kvs (Option.some.inj hb).symm
  · rw [e] at hb
    cases hb) hb
theorem tabs_keep {P0 : Addr} {q : Str} {H H' : Hp} (T : LamX.Tabs [(P0, q)] H) (e : KeepT H H') : LamX.Tabs [(P0, q)] H' := fun p hp => by
  rw [List.mem_singleton] at hp
  subst hp
  obtain ⟨ps, h1, h2, h3⟩ := T (P0, q) (List.mem_singleton.mpr rfl)
  refine ⟨ps, e _ _ h1 (fun _ z => nomatch z) (fun _ z => nomatch z), h2, fun pos cv hc => ?_⟩
  obtain ⟨c, e1, e2⟩ := h3 pos cv hc
  exact ⟨c, e1, e _ _ e2 (fun _ z => nomatch z) (fun _ z => nomatch z)⟩
theorem TrkN.upd {P0 p : Addr} {B : List Addr} {H : Hp} {o : HO} (t : TrkN P0 B H) (h : ∀ ps, o ≠ .tbl ps) : TrkN P0 B (upd H p o) := fun b hb => by
  by_cases z : b = p
  · exact .inr ⟨o, by rw [z, upd_same], h⟩
  · rw [upd_ne z]
    exact t b hb
theorem TrkN.cons {P0 p : Addr} {B : List Addr} {H : Hp} {o : HO} (t : TrkN P0 B H) (h : H p = some o) (h2 : ∀ ps, o ≠ .tbl ps) : TrkN P0 (p :: B) H := fun b hb => by
  rcases List.mem_cons.mp hb with z | z
  · exact .inr ⟨o, by rw [z, h], h2⟩
  · exact t b z
theorem TrkN.same {P0 : Addr} {B : List Addr} {H H' : Hp} (t : TrkN P0 B H) (e : Same H H') : TrkN P0 B H' := fun b hb => by
  rcases t b hb with z | ⟨o, h1, h2⟩
  · exact .inl z
  · exact .inr ⟨o, e b o h1, h2⟩
theorem exN_upd {C : List Addr} {H H' : Hp} {p : Addr} {o : HO} (e : ExN C H H') (h : H p = none ∨ p ∈ C) : ExN C H (upd H' p o) := fun a o' n ha t => by
  rw [upd_ne (fun z => by
    rcases h with h | h
    · rw [z, h] at ha
      cases ha
    · exact n (z ▸ h))]
  exact e a o' n ha t
theorem exB_upd {C : List Addr} {H H' : Hp} {p : Addr} {o : HO} (e : ExB C H H') (h : p ∈ C) : ExB C H (upd H' p o) := fun a o' n ha => by
  have hne : a ≠ p := fun z => n (z ▸ h)
  rw [upd_ne hne]
  exact e a o' n ha
theorem exB_updN {C : List Addr} {H H' : Hp} {p : Addr} {o : HO} (e : ExB C H H') (h : H p = none) : ExB C H (upd H' p o) := fun a o' n ha => by
  have hne : a ≠ p := fun z => by
    rw [z, h] at ha
    cases ha
  rw [upd_ne hne]
  exact e a o' n ha
variable {K : PySem.W.Frag} {C B : List Addr} {σ : L2.St} {H H0 HI : Hp} {G : List Sl} {t1 : TE} {vi : V} {D : Ends} {P0 Dd L : Addr} {q w : Str} {M : List It} {it : It}
theorem h_put (hs : σ[3]? = some (some (.ref Dd))) (hw : WL HI B H Dd L M) (T : LamX.Tabs [(P0, q)] H) (tn : TrkN P0 B H) (hDB : Dd ∈ B) (hLB : L ∈ B) (hDL : Dd ≠ L) (e1 : Ev B t1 σ H (.str w)) (s5 : σ[5]? = some (some vi)) (r5 : R B H vi (encIt it)) (hx : it.x = some w) (hM : M.length ≤ 60) (hD0 : HI P0 ≠ none) (hPD : P0 ≠ Dd) (hPL : P0 ≠ L)
    (eN : ExB [L, Dd] HI H)
    (q0 : ∀ H6 B', (∀ b ∈ B, b ∈ B') → (∀ b ∈ B', b ∈ B ∨ HI b = none) → ExB [L, Dd] HI H6 → LamX.Tabs [(P0, q)] H6 → TrkN P0 B' H6 → WL HI B' H6 Dd L (M ++ [it]) → (∀ C H0 G, Evn C H0 B σ H G → (∀ (i : Nat) (l : Addr) ds, G[i]? = some (.mu l ds) → l = L) → ∀ C', Evn C' H6 B' σ H6 G) → D.nx σ H6) :
    tDrop (tBM K "list" rAppend (tDSetd (tVar 3) t1 (tLst tNil)) (tCons (tVar 5) tNil)) D σ H := by
  obtain ⟨kvs, k1, k2, k3, k4, k5⟩ := hw.ex
  have trk := tn.trk T
  have sz : sizeLine = 16777216 := by decide
  refine ⟨_, hs, Dd, rfl, .inl ⟨kvs, .inl k1⟩, e1 H (Same.refl H) _ fun y H4 e4 ry => ?_⟩
  cases ry
  refine ⟨Nat.zero_le _, fun p hp => ?_⟩
  have hpB : p ∉ B := Trk.out (trk.same e4) hp
  have hpD : p ≠ Dd := fun z => hpB (z ▸ hDB)
  have hpL : p ≠ L := fun z => hpB (z ▸ hLB)
  have h5 : Same H (upd H4 p (.lst [])) := e4.trans (same_new hp)
  have hpH : HI p = none := by
    cases h : HI p with
    | none => rfl
    | some o =>
      have := e4 _ _ (eN p o (fun z => by
        rcases List.mem_cons.mp z with z | z
        · exact hpL z
        · exact hpD (List.mem_singleton.mp z)) h)
      rw [hp] at this
      cases this
  have hpH1 : H p = none := by
    cases h : H p with
    | none => rfl
    | some o =>
      have := e4 _ _ h
      rw [hp] at this
      cases this
  have eN5 : ExB [L, Dd] HI (upd H4 p (.lst [])) := eN.trans (ExB.of h5)
  have hwit : isW w it = true := by
    unfold isW
    rw [hx]
    exact decide_eq_true rfl
  have hwne : ∀ w' : Str, w' ≠ w → isW w' it = false := fun w' n => by
    unfold isW
    rw [hx]
    exact decide_eq_false (fun z => n (Option.some.inj z).symm)
  have ft : ∀ w' : Str, w' ≠ w → (M ++ [it]).filter (isW w') = M.filter (isW w') := fun w' n => by
    rw [List.filter_append, List.filter_cons_of_neg (by rw [hwne w' n]; decide), List.filter_nil, List.append_nil]
  have fw : (M ++ [it]).filter (isW w) = M.filter (isW w) ++ [it] := by
    rw [List.filter_append, List.filter_cons_of_pos hwit, List.filter_nil]
  refine ⟨kvs, .inr w, ?_, rfl, ?_, fun v hv => ?_, fun hn => ?_⟩
  · rw [upd_ne hpD.symm]
    exact e4 _ _ k1
  · omega
  · obtain ⟨l, vs, rfl, l1, l2, l3, l4, l5, l6, l7⟩ := k4 w v hv
    have h6 := h5
    generalize upd H4 p (.lst []) = H6 at *
    have len : vs.length ≤ 60 := by
      rw [l6.len, List.length_map]
      exact Nat.le_trans (List.length_filter_le ..) hM
    refine ⟨Or.inl ⟨rfl, vs, Or.inl (Or.inl (h6 _ _ l5))⟩, vi, s5, l, vs, vi, rfl, rfl, h6 _ _ l5, by omega, ?_⟩
    have exB : ExB B H (upd H6 l (.lst (vs ++ [vi]))) := exB_upd (ExB.of h6) l1
    have tn7 : TrkN P0 B (upd H6 l (.lst (vs ++ [vi]))) := (tn.same h6).upd fun _ z => nomatch z
    have T7 : LamX.Tabs [(P0, q)] (upd H6 l (.lst (vs ++ [vi]))) := tabs_keep T ((KeepT.same h6).trans (KeepT.lst (h6 _ _ l5)))
    refine q0 (upd H6 l (.lst (vs ++ [vi]))) B (fun b h => h) (fun b h => .inl h) (exB_updN eN5 l4) T7 tn7 ?_ (fun C H0 G E hm C' => E.chg (.of exB) (fun _ _ n _ => n) (fun _ h => h) (tn7.trk T7) (fun i l' ds hi => ?_) C')
    · refine ⟨kvs, by rw [upd_ne l2.symm]; exact h6 _ _ k1, by rw [List.length_append]; omega, fun w' hn => ?_, fun w' v' hv' => ?_, k5⟩
      · have n : w' ≠ w := fun z => by rw [z, hv] at hn; cases hn
        rw [ft w' n]
        exact k3 w' hn
      · obtain ⟨l', vs', rfl, m1, m2, m3, m4, m5, m6, m7⟩ := k4 w' v' hv'
        by_cases z : w' = w
        · subst z
          rw [hv] at hv'
          cases hv'
          have e : vs = vs' := by
            rw [l5] at m5
            cases m5
            rfl
          subst e
          refine ⟨l, vs ++ [vi], rfl, l1, l2, l3, l4, upd_same, ?_, ?_⟩
          · rw [fw, List.map_append]
            exact (l6.exB exB).app (.one (r5.exB exB))
          · rw [fw]
            exact fun z => by simp at z
        · have nl : l' ≠ l := fun e => z (k5 w' w l (e ▸ hv') hv)
          refine ⟨l', vs', rfl, m1, m2, m3, m4, by rw [upd_ne nl]; exact h6 _ _ m5, ?_, ?_⟩
          · rw [ft w' z]
            exact m6.exB exB
          · rw [ft w' z]
            exact m7
    · rw [hm i l' ds hi, upd_ne l3.symm]
      exact (show H6 L = H L from by
        rcases tn L hLB with z | ⟨o, h1, h2⟩
        · exact absurd z.symm hPL
        · rw [h1, h6 _ _ h1])
  · have hd : upd H4 p (.lst []) Dd = some (.dK kvs) := by
      rw [upd_ne hpD.symm]
      exact e4 _ _ k1
    have hp5 : upd H4 p (.lst []) p = some (.lst []) := upd_same
    have h5L : upd H4 p (.lst []) L = H L := by
      rcases tn L hLB with z | ⟨o, h1, h2⟩
      · exact absurd z.symm hPL
      · rw [h1, h5 _ _ h1]
    generalize upd H4 p (.lst []) = H5 at *
    generalize hH6 : upd H5 Dd (.dK (putK kvs (.inr w) (.ref p))) = H6
    have hp6 : H6 p = some (.lst []) := by
      rw [← hH6, upd_ne hpD]
      exact hp5
    refine ⟨Or.inl ⟨rfl, [], Or.inl (Or.inl hp6)⟩, vi, s5, p, [], vi, rfl, rfl, hp6, by rw [sz]; decide, ?_⟩
    generalize hH7 : upd H6 p (.lst ([] ++ [vi])) = H7
    have exB7 : ExB (p :: B) H H7 := by
      rw [← hH7, ← hH6]
      exact exB_upd (exB_upd (ExB.of h5) (List.mem_cons_of_mem _ hDB)) (List.mem_cons_self ..)
    have tn7 : TrkN P0 (p :: B) H7 := by
      rw [← hH7, ← hH6]
      exact (((tn.same h5).cons hp5 (by intro _ z; cases z)).upd (by intro _ z; cases z)).upd (by intro _ z; cases z)
    have T7 : LamX.Tabs [(P0, q)] H7 := by
      rw [← hH7]
      refine tabs_keep (tabs_keep T (?_ : KeepT H H6)) (KeepT.lst hp6)
      rw [← hH6]
      exact (KeepT.same h5).trans (KeepT.dk hd)
    have hD7 : H7 Dd = some (.dK (putK kvs (.inr w) (.ref p))) := by
      rw [← hH7, upd_ne hpD.symm, ← hH6, upd_same]
    have hp7 : H7 p = some (.lst [vi]) := by
      rw [← hH7, upd_same]
      rfl
    have keep : ∀ a o, a ≠ p → a ≠ Dd → H a = some o → H7 a = some o := fun a o n1 n2 ha => by
      rw [← hH7, upd_ne n1, ← hH6, upd_ne n2]
      exact h5 a o ha
    have hL7 : H7 L = H L := by
      rw [← hH7, upd_ne hpL.symm, ← hH6, upd_ne hDL.symm]
      exact h5L
    have RA7 : ∀ {us : List V} {es : List PyData}, RA B H us es → RA (p :: B) H7 us es := fun r => (r.grow hpH1).exB exB7
    have eN7 : ExB [L, Dd] HI H7 := by
      rw [← hH7, ← hH6]
      exact exB_updN (exB_upd eN5 (by simp)) hpH
    refine q0 H7 (p :: B) (fun b h => List.mem_cons_of_mem _ h) (fun b h => ?_) eN7 T7 tn7 ?_ (fun C H0 G E hm C' => E.chg (.of ?_) (fun a o n ha => fresh_out hpH1 ha n) (fun _ h => List.mem_cons_of_mem _ h) (tn7.trk T7) (fun i l' ds hi => by rw [hm i l' ds hi, hL7]) C')
    · rcases List.mem_cons.mp h with z | z
      · exact .inr (by rw [z]; exact hpH)
      · exact .inl z
    · have vp : ∀ j : Str, valV (putK kvs (.inr w) (.ref p)) (.inr j) = if j = w then some (.ref p) else valV kvs (.inr j) := fun j => by
        rw [valV_put]
        by_cases z : j = w
        · rw [if_pos (by rw [z]), if_pos z]
        · rw [if_neg (fun e => z (Sum.inr.inj e)), if_neg z]
      have hpv : ∀ (j : Str), valV kvs (.inr j) ≠ some (.ref p) := fun j h => by
        obtain ⟨l', _, e, m1, _⟩ := k4 j _ h
        cases e
        exact hpB m1
      refine ⟨_, hD7, Nat.le_trans (length_putK ..) (by rw [List.length_append]; exact Nat.add_le_add_right k2 1), fun w' h => ?_, fun w' v' hv' => ?_, fun w1 w2 l h1 h2 => ?_⟩
      · rw [vp] at h
        split at h
        · cases h
        · rw [ft w' ‹_›]
          exact k3 w' h
      · rw [vp] at hv'
        split at hv'
        · rename_i z
          subst z
          cases hv'
          refine ⟨p, [vi], rfl, List.mem_cons_self .., hpD, hpL, hpH, hp7, ?_, ?_⟩
          · rw [fw, k3 _ hn]
            exact .one ((r5.grow hpH1).exB exB7)
          · rw [fw]
            exact fun z => by simp at z
        · rename_i z
          obtain ⟨l', vs', rfl, m1, m2, m3, m4, m5, m6, m7⟩ := k4 w' v' hv'
          refine ⟨l', vs', rfl, List.mem_cons_of_mem _ m1, m2, m3, m4, keep _ _ (fun e => hpB (e ▸ m1)) m2 m5, ?_, ?_⟩
          · rw [ft w' z]
            exact RA7 m6
          · rw [ft w' z]
            exact m7
      · rw [vp] at h1 h2
        split at h1
        · split at h2
          · rename_i z1 z2
            rw [z1, z2]
          · cases h1
            exact absurd h2 (hpv w2)
        · split at h2
          · cases h2
            exact absurd h1 (hpv w1)
          · exact k5 w1 w2 l h1 h2
    · exact fun a o n ha => by
        by_cases z : a = p
        · rw [z, hpH1] at ha
          cases ha
        · exact exB7 a o (fun h => by
            rcases List.mem_cons.mp h with h | h
            · exact z h
            · exact n h) ha
end

section
variable {K : PySem.W.Frag} {C B : List Addr} {σ : L2.St} {H H0 HI : Hp} {G : List Sl} {D : Ends} {P0 Dd L : Addr} {q w side : Str} {M : List It} {F : Fld}
theorem Evt_isNone {t : TT} {a b : Bool} (h : EvT B t σ H a) (e : a = b) : EvT B t σ H b := e ▸ h
theorem et_din (hs3 : σ[3]? = some (some (.ref Dd))) (hs8 : σ[8]? = some (some (.str w))) (hw : WL HI B H Dd L M) : EvT B (tB (tDIn (tVar 8) (tVar 3))) σ H (decide (M.filter (isW w) ≠ [])) := fun H1 e Q q0 => by
  obtain ⟨kvs, k1, k2, k3, k4, k5⟩ := hw.ex
  refine ⟨_, hs8, _, hs3, Dd, _, rfl, DGet.k (k := .inr w) (e _ _ k1), _, rfl, ?_⟩
  have e2 : (valV kvs (.inr w)).isSome = decide (M.filter (isW w) ≠ []) := by
    cases h : valV kvs (.inr w) with
    | none =>
      rw [k3 w h]
      rfl
    | some v =>
      obtain ⟨_, _, _, _, _, _, _, _, _, n⟩ := k4 w v h
      exact (decide_eq_true n).symm
  rw [e2]
  exact q0 H1 (Same.refl H1)
theorem h_rise (hs3 : σ[3]? = some (some (.ref Dd))) (hs8 : σ[8]? = some (some (.str w))) (hw : WL HI B H Dd L M) (T : LamX.Tabs [(P0, q)] H) (tn : TrkN P0 B H) (hM : M.length ≤ 60) (hn : M.filter (isW w) ≠ [])
    (q0 : ∀ p H', ExN [] H H' → LamX.Tabs [(P0, q)] H' → TrkN P0 B H' → R B H' (.ref p) (.list ((sortR (M.filter (isW w))).map encIt)) → D.nx (σ.set 9 (some (.ref p))) H') :
    tAsg (tSortLam P0 q (tDGet (tVar 3) (tVar 8))) (gName 9) D σ H := by
  obtain ⟨kvs, k1, k2, k3, k4, k5⟩ := hw.ex
  have hv : ∃ v, valV kvs (.inr w) = some v := by
    cases h : valV kvs (.inr w) with
    | none => exact absurd (k3 w h) hn
    | some v => exact ⟨v, rfl⟩
  obtain ⟨v, hv⟩ := hv
  obtain ⟨l, vs, rfl, l1, l2, l3, l4, l5, l6, l7⟩ := k4 w v hv
  have g := DGet.k (k := .inr w) k1
  rw [hv] at g
  refine ⟨_, hs3, _, hs8, Dd, .ref l, rfl, g, T, B, l, vs, M.filter (isW w), rfl, l5, l6, Nat.le_trans (List.length_filter_le ..) (by omega), fun H2 ys p eN T2 hp rys => ?_⟩
  have tn2 : TrkN P0 B H2 := tn.exN (C := []) (.ofN eN) fun a z => absurd z (by simp)
  have hpB : p ∉ B := Trk.out (tn2.trk T2) hp
  exact q0 p _ ((ExN.ofN eN).trans (.ofS (same_new hp))) (tabs_keep T2 (KeepT.same (same_new hp))) (tn2.same (same_new hp)) (.lst upd_same hpB (rys.same (same_new hp)))
theorem h_parts {Dn : Nat} {its : List It} {ls : List Ls} {mks : List Mk} {us : List V} (E : Evn C H0 B σ H G) (g0 : G[0]? = some (.dat (encF F))) (g1 : G[1]? = some (.dat (.str side))) (g9 : G[9]? = some (.dat (.list (its.map encIt)))) (g4 : G[4]? = some (.ptr L)) (g7 : G[7]? = some (.dat (.list (mks.map (encM side))))) (gm : noMu G)
    (T : LamX.Tabs [(P0, q)] H) (tn : TrkN P0 B H) (hLB : L ∈ B) (hL : H L = some (.lst us)) (ra : RA B H us (ls.map encL)) (hD : 0 < Dn ∧ Dn < 2 ^ 140) (hF : F.Ok) (hw : w ∈ F.ws) (hne : its ≠ []) (hlen : its.length ≤ 60) (hls : ls.length ≤ 200) (hms : mks.length ≤ 200) (hit : ∀ i ∈ its, GI Dn w i)
    (q0 : ∀ H' σ', ExN [L] H H' → LamX.Tabs [(P0, q)] H' → TrkN P0 B H' → (∃ us', H' L = some (.lst us') ∧ RA B H' us' ((ls ++ (prun F w its).ls).map encL)) → Evn [] H' B σ' H' (G.set 7 (.dat (.list ((mks ++ (prun F w its).ms).map (encM side))))) → D.nx σ' H') :
    tAsg (tOp rCat (tVar 7) (tCall SpParts [] E0 (tCons (tVar 0) (tCons (tVar 1) (tCons (tVar 9) (tCons (tVar 4) tNil)))))) (gName 7) D σ H := by
  obtain ⟨v0, s0, r0⟩ := E.at_ 0 _ g0
  obtain ⟨v1, s1, r1⟩ := E.at_ 1 _ g1
  obtain ⟨v9, s9, r9⟩ := E.at_ 9 _ g9
  obtain ⟨v7, s7, r7⟩ := E.at_ 7 _ g7
  have s4 : σ[4]? = some (some (.ref L)) := E.at_ 4 _ g4
  have trk := tn.trk T
  refine ⟨v7, s7, v0, s0, v1, s1, v9, s9, .ref L, s4, Dn, B, F, side, w, its, ls, L, v0, v1, v9, us, rfl, hD, trk, hF, hw, hne, hlen, hls, hit, r0, r1, r9, hLB, hL, ra, fun v H' us' eB tk rv hl' ra' => ?_⟩
  have eB2 : ExB B H H' := eB.mono fun a ha => by rw [List.mem_singleton] at ha; rw [ha]; exact hLB
  have r7' := r7.exB eB2
  obtain ⟨k1, k2, k3⟩ := prun_fits (F := F) (w := w) its hit
  have tn' : TrkN P0 B H' := tn.exN (.of eB) fun a ha _ => by
    rw [List.mem_singleton] at ha
    exact ⟨_, by rw [ha]; exact hl', by intro _ z; cases z⟩
  have T' : LamX.Tabs [(P0, q)] H' := tabs_keep T (KeepT.exB eB fun a ha => by
    rw [List.mem_singleton] at ha
    exact .inl ⟨us, by rw [ha]; exact hL⟩)
  cases r7' with
  | @lst a7 xs _ ha na ra7 =>
    cases rv with
    | @lst b zs _ hb nb rb =>
      refine ⟨a7, b, xs, zs, rfl, rfl, ha, hb, ?_, fun p hp => ?_⟩
      · rw [ra7.len, rb.len, List.length_map, List.length_map]
        exact Nat.le_of_lt (small1000 (by omega))
      · have hs := same_new (o := .lst (xs ++ zs)) hp
        have ex : ExN [L] H (upd H' p (.lst (xs ++ zs))) := (ExN.of eB).trans (.ofS hs)
        have tn2 := tn'.same hs
        have T2 := tabs_keep T' (KeepT.same hs)
        have hne : L ≠ p := fun z => Trk.out tk hp (z ▸ hLB)
        refine q0 _ _ ex T2 tn2 ⟨us', hs _ _ hl', ra'.same hs⟩ ?_
        have E2 := E.chg (ex.mono fun a ha => by rw [List.mem_singleton] at ha; rw [ha]; exact hLB) (fun _ _ n _ => n) (fun _ h => h) (tn2.trk T2) (fun i l ds h => (noMu_get gm i l ds h).elim) []
        refine E2.set (.lst upd_same (Trk.out tk hp) ?_)
        rw [List.map_append]
        exact (ra7.app rb).same hs
end
theorem sc_heaps : FnScope ["field", "side", "items", "heaped", "lost", "item", "reason", "marks", "word", "rising"] ["field", "side", "items"] (defScope s_heaps) := ⟨rfl, rfl, rfl, by decide +kernel, rfl, by decide +kernel, by decide +kernel⟩

/-- a def whose code object is known -/
structure FnC (K : PySem.W.Frag) (mg : Str → Option Value) (x : Str) (st : Stmt) (c : Addr) : Prop where
  ex : ∃ f fd, FunD K x x (defArgs st) (defBody st) (defScope st) [] [] f fd ∧ mg x = some (.ref f) ∧ fd.code = .ref c
theorem cal_ofC {P : Program} {w : World} {K : PySem.W.Frag} {mg : Str → Option Value} {base : Heap} {x : Str} {st : Stmt} {N ps : List Str} {k : Nat} {c : Addr} {sp : Sp} (F : FnC K mg x st c) (S : FnScope N ps (defScope st)) (len : ∀ vs H Q E, sp vs H Q E → vs.length = ps.length)
    (bind : ∀ (kV doc pm : Value) (an : Option Addr) (cdv ct : Value) (us : List Value), us.length = ps.length → bindArgs (PySem.W.fnOf x x (defArgs st) (defBody st) (defScope st) .none kV doc pm an cdv ct) ⟨us, []⟩ = pure (ps.zip us))
    (h : ∀ (f : Addr) (A : Around) (outer : List PySem.Env) (s : Shared) (H : Hp) (vs : List V) (Q : VK) (E : XK), Room k (A.deeper (envOfC x (defScope st) s.heap.objs.size f (.ref c))) → sp vs H Q E →
      ∃ t, PSs (cxOf CX0 P w K mg base N x (defScope st) f (.ref c) A outer s H E).nox (defBody st) t ∧ t { nx := fun _ H' => Q .non H', rt := Q } (L2.start N vs) H) :
    Cal P w K mg base (k + 1) x ps sp := by
  obtain ⟨f, fd, F, m, hc⟩ := F.ex
  obtain ⟨oc, od, dV, kV, doc, pm, an, cdv, ct, osl, e, lk, hcd, _, _⟩ := F.ex
  have ec : cdv = .ref c := by
    rw [e] at hc
    exact hc
  subst ec
  refine ⟨f, fd, ?_, m, F.kp, F.bindsN bind⟩
  rw [e] at lk ⊢
  refine fn_of lk hcd S len fun A outer s H vs Q E hr hs => ?_
  obtain ⟨t, a, b⟩ := h f A outer s H vs Q E hr hs
  exact ⟨t, a.nox, b⟩
def qlam : Str := ("heaps" : Str) ++ (".<locals>." : Str) ++ ("<lambda>" : Str)

local macro_rules | `(tactic| walk_at "ev") => `(tactic| first
  | with_reducible exact ev_int
  | with_reducible exact ev_str
  | with_reducible exact ev_bl
  | with_reducible exact ev_non
  | ((with_reducible refine' ev_var (by assumption) ?_); rfl)
  | ((with_reducible refine ev_I0 (i := ?i) (j := ?j) ?h1 ?h2); (case h1 => walk_at "ev"); (case h2 => walk_at "ev"))
  | ((with_reducible refine ev_I0b (i := ?i) (j := ?j) ?h1 ?h2); (case h1 => walk_at "ev"); (case h2 => walk_at "ev"))
  | ((with_reducible refine ev_eqI (i := ?i) (j := ?j) ?h1 ?h2); (case h1 => walk_at "ev"); (case h2 => walk_at "ev"))
  | ((with_reducible refine ev_neI (i := ?i) (j := ?j) ?h1 ?h2); (case h1 => walk_at "ev"); (case h2 => walk_at "ev"))
  | ((with_reducible refine ev_neg (i := ?i) ?h1); (case h1 => walk_at "ev"))
  | ((with_reducible refine ev_fst (x := ?x) ?h1); (case h1 => walk_at "ev"))
  | ((with_reducible refine ev_snd (x := ?x) ?h1); (case h1 => walk_at "ev"))
  | ((with_reducible refine ev_fstP (p := ?x) ?h1); (case h1 => walk_at "ev"))
  | ((with_reducible refine ev_sndP (p := ?x) ?h1); (case h1 => walk_at "ev"))
  | ((with_reducible refine ev_ixT (ds := ?ds) (i := ?i) ?h1 ?h2 ?h3); (case h1 => walk_at "ev"); (case h2 => walk_at "ev"); (case h3 => rfl))
  | ((with_reducible refine ev_ixL (ds := ?ds) (i := ?i) ?h1 ?h2 ?h3); (case h1 => walk_at "ev"); (case h2 => walk_at "ev"); (case h3 => rfl))
  | ((with_reducible refine ev_pair1 (a := ?a) (Evn.trk (by assumption)) ?h1); (case h1 => walk_at "ev"))
  | ((with_reducible refine ev_abs (i := ?i) ?h1); (case h1 => walk_at "ev")))
section
variable {P : Program} {w : World} {K : PySem.W.Frag} {mg : Str → Option Value} {base : Heap}
theorem ok_heaps {c P0 : Addr} (F : FnC K mg "heaps" s_heaps c) (TB : LamX.TabB base mg c P0) (c_place_onX : Cal P w K mg base 6 "place_on" ["scale", "cell"] (SpD dPlaceX)) (c_parts_of : Cal P w K mg base 8 "parts_of" ["field", "side", "items", "lost"] SpParts) (m_str : mg "str" = none) (m_isinstance : mg "isinstance" = none) (m_sorted : mg "sorted" = none) : Cal P w K mg base 9 "heaps" ["field", "side", "items"] (SpHeaps P0 qlam) := by
  refine cal_ofC F sc_heaps (fun vs H Q E ⟨_, _, _, _, _, _, _, _, _, h, _⟩ => h.len) (fun _ _ _ _ _ _ us hl => match us, hl with | [_, _, _], _ => rfl) fun f A outer s H vs Q E hr hsp => ⟨_,
      (pss_cons (ps_set (i := 3) sc_heaps.nd rfl (Or.inl rfl) pe_dnewK)
      (pss_cons (ps_set (i := 4) sc_heaps.nd rfl (Or.inl rfl) (pe_lst pa_nil))
      (pss_cons (ps_for PassesOwn.never rfl (kpi_list (K := K) rfl (pv 2)) (pg_name (i := 5) sc_heaps.nd rfl (Or.inl rfl))
        (pss_cons (ps_set (i := 6) sc_heaps.nd rfl (Or.inl rfl) (pe_cal c_place_onX hr (by decide) (by rfl) (pa_cons (pe_ix (kx_tup (K := K) rfl) (pv 0) pe_int (fun _ _ => rfl)) (pa_cons (pe_ix (kx_tup (K := K) rfl) (pv 5) pe_int (fun _ _ => rfl)) pa_nil))))
        (pss_one (ps_if (pt_val (pe_callB (kcall_isi (K := K) rfl) (by rfl) m_isinstance bt_isinstance (pa_cons (pv 6) (pa_cons (pe_bltn (v := .ty "str") (by rfl) m_str bt_str rfl) pa_nil)))) (pss_one (ps_expr (kpe_bm (K := K) rfl PySem.F.plainAttrs_list PySem.F.slot_list_append PySem.F.type_list_append mt_append (pv 4) (pa_cons (pe_tup (pa_cons (pe_ix (kx_tup (K := K) rfl) (pv 5) pe_int (fun _ _ => rfl)) (pa_cons pe_str (pa_cons (pv 6) pa_nil)))) pa_nil)))) (pss_one (ps_if (pt_cmpR op_isN (pe_ix (kx_tup (K := K) rfl) (pv 5) pe_int (fun _ _ => rfl)) pe_non (nomark _)) (pss_one (ps_expr (kpe_bm (K := K) rfl PySem.F.plainAttrs_list PySem.F.slot_list_append PySem.F.type_list_append mt_append (pv 4) (pa_cons (pe_tup (pa_cons (pe_ix (kx_tup (K := K) rfl) (pv 5) pe_int (fun _ _ => rfl)) (pa_cons pe_str (pa_cons pe_str pa_nil)))) pa_nil)))) (pss_one (ps_expr (kpe_bm (K := K) rfl PySem.F.plainAttrs_list PySem.F.slot_list_append PySem.F.type_list_append mt_append (pe_dsetd (pv 3) (pe_ix (kx_tup (K := K) rfl) (pv 5) pe_int (fun _ _ => rfl)) (pe_lst pa_nil) ⟨rfl, rfl, rfl, rfl⟩) (pa_cons (pv 5) pa_nil))))))))))
      (pss_cons (ps_set (i := 7) sc_heaps.nd rfl (Or.inl rfl) (pe_lst pa_nil))
      (pss_cons (ps_for PassesOwn.never rfl (kpi_list (K := K) rfl (pe_ix (kx_tup (K := K) rfl) (pe_ix (kx_tup (K := K) rfl) (pv 0) pe_int (fun _ _ => rfl)) pe_int (fun _ _ => rfl))) (pg_name (i := 8) sc_heaps.nd rfl (Or.inl rfl))
        (pss_one (ps_if (pt_cmp (pc_din (hu_of hr) (pv 8) (pv 3))) (pss_cons (ps_set (i := 9) sc_heaps.nd rfl (Or.inl rfl) (pe_sortedLam (k := 0) (P := P0) (by rfl) m_sorted TB rfl ⟨fun _ _ _ _ _ _ => rfl, rfl, rfl, rfl, rfl, ⟨_, _, _, _, _, _, _, _, _, _, rfl⟩⟩ (hr.mono (by decide)) (pe_dget (hu_of hr) (pv 3) (pv 8) (fun _ _ => rfl)) rfl))
          (pss_one (ps_set (i := 7) sc_heaps.nd rfl (Or.inl rfl) (pe_op op_cat (pv 7) (pe_cal c_parts_of hr (by decide) (by rfl) (pa_cons (pv 0) (pa_cons (pv 1) (pa_cons (pv 9) (pa_cons (pv 4) pa_nil))))))))) pss_nil)))
      (pss_one (ps_ret (pe_tup (pa_cons (pv 7) (pa_cons (pe_callB (cr_sortedL hr.units) (by rfl) m_sorted bt_sorted (pa_cons (pv 4) pa_nil)) pa_nil)))))))))), ?_⟩
  obtain ⟨Dn, F, side, its, hD, hF, hlen, hio, T, ra, q⟩ := hsp
  have tP : ∃ o, H P0 = some o := by
    obtain ⟨ps, h, _⟩ := T (P0, qlam) (List.mem_singleton.mpr rfl)
    exact ⟨_, h⟩
  obtain ⟨oP, tP⟩ := tP
  have tn0 : TrkN P0 [P0] H := fun b hb => .inl (List.mem_singleton.mp hb)
  have E0 : Evn [] H [P0] (L2.start ["field", "side", "items", "heaped", "lost", "item", "reason", "marks", "word", "rising"] vs) H [.dat (encF F), .dat (.str side), .dat (.list (its.map encIt)), .no, .no, .no, .no, .no, .no, .no] := Evn.start (tn0.trk T) ra (by show 3 ≤ 10; decide)
  show ∀ Dd, H Dd = none → _
  intro Dd hDd
  have sD := same_new (o := .dK []) hDd
  have hPD : P0 ≠ Dd := fun z => by rw [z, hDd] at tP; cases tP
  have hD1 : upd H Dd (.dK []) Dd = some (.dK []) := upd_same
  generalize upd H Dd (.dK []) = Ha at *
  have tna : TrkN P0 [Dd, P0] Ha := (tn0.same sD).cons hD1 fun _ z => nomatch z
  have Ta := tabs_keep T (KeepT.same sD)
  have Ea := (E0.ptr 3 Dd).chg (.ofS sD) (fun a o n ha => fresh_out hDd ha n) (fun _ h => List.mem_cons_of_mem _ h) (tna.trk Ta) (fun i l ds h => (noMu_get (G := [.dat (encF F), .dat (.str side), .dat (.list (its.map encIt)), .ptr Dd, .no, .no, .no, .no, .no, .no]) ⟨trivial, trivial, trivial, trivial, trivial, trivial, trivial, trivial, trivial, trivial, trivial⟩ i l ds h).elim) []
  refine ss_new Ea (fun L σ2 Hb hL0 _ hLB Eb => ?_) (fun l hl => nomatch hl)
  have hLD : Dd ≠ L := fun z => hLB (by rw [← z]; exact List.mem_cons_self ..)
  have hPL : P0 ≠ L := fun z => hLB (by rw [← z]; exact List.mem_cons_of_mem _ (List.mem_cons_self ..))
  have eab : Same Ha Hb := fun a o h => Eb.ex a o (fun z => nomatch z) h
  have hHL : H L = none := by
    cases h : H L with
    | none => rfl
    | some o =>
      have := sD _ _ h
      rw [hL0] at this
      cases this
  have Eb : Evn [] Ha [L, Dd, P0] σ2 Hb [.dat (encF F), .dat (.str side), .dat (.list (its.map encIt)), .ptr Dd, .mu L [], .no, .no, .no, .no, .no] := Eb
  have hLb : ∃ xs, Hb L = some (.lst xs) := by
    obtain ⟨_, _, us, h, _⟩ := Eb.at_ 4 _ rfl
    exact ⟨us, h⟩
  obtain ⟨xsb, hLb⟩ := hLb
  have tnb : TrkN P0 [L, Dd, P0] Hb := (tna.same eab).cons hLb fun _ z => nomatch z
  have Tb := tabs_keep Ta (KeepT.same eab)
  have hDb := eab _ _ hD1
  have sb0 : Same H Hb := sD.trans eab
  clear E0 Ea
  refine ss_forN (ds := its.map encIt) (B := [L, Dd, P0]) (by walk_at "ev") (fun H1 i σ' H' => ∃ B' : List Addr, (∀ b ∈ [L, Dd, P0], b ∈ B') ∧ (∀ b ∈ B', b ∈ [L, Dd, P0] ∨ H1 b = none) ∧ ExB [L, Dd] H1 H' ∧ LamX.Tabs [(P0, qlam)] H' ∧ TrkN P0 B' H' ∧ WL H1 B' H' Dd L ((its.take i).filter (goodI F)) ∧
      Evn [] H' B' σ' H' [.dat (encF F), .dat (.str side), .dat (.list (its.map encIt)), .ptr Dd, .mu L (((its.take i).flatMap (loss1 F)).map encL), .no, .no, .no, .no, .no]) (fun H1 e => ?_) (fun H1 i σ' H' e p => ?_) (fun H1 i x d σ' H' e hx rx p => ?_) (fun H1 σ' H' e p => ?_)
  · refine ⟨[L, Dd, P0], fun _ h => h, fun _ h => .inl h, ExB.refl _ _, tabs_keep Tb (KeepT.same e), tnb.same e, ⟨[], e _ _ hDb, Nat.zero_le _, fun _ _ => rfl, fun w v h => (by rw [valV_nil] at h; cases h), fun w w' l h => (by rw [valV_nil] at h; cases h)⟩, ?_⟩
    exact Eb.base e []
  · obtain ⟨B', _, _, h, _⟩ := p
    exact ExN.of (h.mono fun a ha => by
      rcases List.mem_cons.mp ha with z | ha
      · rw [z]; exact List.mem_cons_self ..
      · rw [List.mem_singleton] at ha
        rw [ha]; exact List.mem_cons_of_mem _ (List.mem_cons_self ..))
  · obtain ⟨B', b1, b2, eN, T1, tn1, w1, E1⟩ := p
    have hi : i < its.length := by
      have := (List.getElem?_eq_some_iff.mp hx).1
      rwa [List.length_map] at this
    have hd : d = encIt its[i] := by
      rw [List.getElem?_map, List.getElem?_eq_getElem hi] at hx
      exact (Option.some.inj hx).symm
    subst hd
    have htk : its.take (i + 1) = its.take i ++ [its[i]] := by rw [List.take_add_one, List.getElem?_eq_getElem hi]; rfl
    have hio' := hio _ (List.getElem_mem hi)
    rw [htk, List.filter_append, List.flatMap_append]
    generalize its[i] = it at *
    have hLB' : L ∈ B' := b1 _ (List.mem_cons_self ..)
    have hDB' : Dd ∈ B' := b1 _ (List.mem_cons_of_mem _ (List.mem_cons_self ..))
    have lM : ((its.take i).filter (goodI F)).length ≤ 60 := Nat.le_trans (List.length_filter_le ..) (by rw [List.length_take]; omega)
    have lL : ((its.take i).flatMap (loss1 F)).length ≤ 60 := Nat.le_trans (loss1_len F _) (by rw [List.length_take]; omega)
    generalize (its.take i).filter (goodI F) = M at *
    generalize (its.take i).flatMap (loss1 F) = ls at *
    have eN' : ExB B' H1 H' := eN.mono fun a ha => by
      rcases List.mem_cons.mp ha with z | ha
      · rw [z]; exact hLB'
      · rw [List.mem_singleton] at ha
        rw [ha]; exact hDB'
    have rx' : R B' H' x (encIt it) := (R.ex (ExB.refl _ _) (fun a o n ha z => by
      rcases b2 a z with h | h
      · exact n h
      · rw [h] at ha; cases ha) rx).exB eN'
    refine g_name (i := 5) (E1.base (Same.refl _) [L]) rx' (fun σ3 E3 => ?_)
    have E3 : Evn [L] H' B' σ3 H' [.dat (encF F), .dat (.str side), .dat (.list (its.map encIt)), .ptr Dd, .mu L (ls.map encL), .dat (.tuple [.int it.own, encC it.x, encO it.y, .none, .int it.rank, .int it.colour, .int it.size]), .no, .no, .no, .no] := E3
    have fin : ∀ (σ9 : L2.St) (H9 : Hp) (why ch : Str) (z : Sl) (te : TE), muNe L none [z] → Evn [L] H' B' σ9 H9 [.dat (encF F), .dat (.str side), .dat (.list (its.map encIt)), .ptr Dd, .mu L (ls.map encL), .dat (.tuple [.int it.own, encC it.x, encO it.y, .none, .int it.rank, .int it.colour, .int it.size]), z, .no, .no, .no] →
        Ev B' te σ9 H9 (.str why) → loss1 F it = [⟨it.own, ch, why⟩] → goodI F it = false → ∀ D' : Ends, D'.nx = (fun σ' H' => ∃ B' : List Addr, (∀ b ∈ [L, Dd, P0], b ∈ B') ∧ (∀ b ∈ B', b ∈ [L, Dd, P0] ∨ H1 b = none) ∧ ExB [L, Dd] H1 H' ∧ LamX.Tabs [(P0, qlam)] H' ∧ TrkN P0 B' H' ∧ WL H1 B' H' Dd L (M ++ [it].filter (goodI F)) ∧
          Evn [] H' B' σ' H' [.dat (encF F), .dat (.str side), .dat (.list (its.map encIt)), .ptr Dd, .mu L ((ls ++ [it].flatMap (loss1 F)).map encL), .no, .no, .no, .no, .no]) →
        tDrop (tBM K "list" rAppend (tVar 4) (tCons (tTup (tCons (tOp (rIxT K) (tVar 5) (tC (.int 0))) (tCons (tC (.str ch)) (tCons te tNil)))) tNil)) D' σ9 H9 := fun σ9 H9 why ch z te hz E9 ht hl hg D' hD' => by
      refine s_app (d := encL ⟨it.own, ch, why⟩) E9 rfl (.inr (List.mem_cons_self ..)) (mu_ok ⟨trivial, trivial, trivial, trivial, trivial, hz.1, trivial, trivial, trivial, trivial⟩) (ev_tup E9.trk (ea_cons (d := .int it.own) (by walk_at "ev") (ea_cons (d := .str ch) (by walk_at "ev") (ea_cons (d := .str why) ht ea_nil))) (by simp)) (by simp; omega) (fun H10 E10 => ?_)
      rw [hD']
      obtain ⟨_, _, us, hu, _⟩ := E10.at_ 4 _ rfl
      have ex : ExB [L] H' H10 := E10.ex
      have tn2 : TrkN P0 B' H10 := tn1.exN (.of ex) fun a ha _ => by
        rw [List.mem_singleton] at ha
        exact ⟨_, by rw [ha]; exact hu, by intro _ z; cases z⟩
      obtain ⟨_, _, us0, hu0, _⟩ := E1.at_ 4 _ rfl
      have T2 : LamX.Tabs [(P0, qlam)] H10 := tabs_keep T1 (KeepT.exB ex fun a ha => by
        rw [List.mem_singleton] at ha
        exact .inl ⟨us0, by rw [ha]; exact hu0⟩)
      refine ⟨B', b1, b2, eN.trans (ex.mono fun a ha => by rw [List.mem_singleton] at ha; rw [ha]; exact List.mem_cons_self ..), T2, tn2, ?_, ?_⟩
      · rw [List.filter_cons_of_neg (by rw [hg]; decide), List.filter_nil, List.append_nil]
        exact w1.exN (.of ex) hLD hLB'
      · refine Evn.few (E10.base (Same.refl _) []) _ ⟨.inr rfl, .inr rfl, .inr rfl, .inr rfl, .inr ?_, .inl rfl, .inl rfl, .inr rfl, .inr rfl, .inr rfl, trivial⟩
        rw [List.flatMap_cons, List.flatMap_nil, hl]
        simp
    refine ss_set E3 (d := encPl (placeX F.ws F.lx it.x)) (ev_placeX E3.trk (by walk_at "ev") (by walk_at "ev") hF.x) (fun σ4 H4 E4 => ?_)
    cases e4 : placeX F.ws F.lx it.x with
    | no why =>
      rw [e4] at E4
      refine s_ifT E4 (et_B (ev_isi (d := .str (whyS why)) (by walk_at "ev") kb_ss)) (fun H5 E5 => ?_)
      refine fin _ _ (whyS why) "x" (.dat (.str (whyS why))) _ ⟨trivial, trivial⟩ E5 (by walk_at "ev") ?_ ?_ _ ?_
      case refine_3 => rfl
      · unfold loss1
        rw [e4]
      · unfold goodI
        rw [e4]
        rfl
    | at_ v =>
      rw [e4] at E4
      refine s_ifF E4 (et_B (ev_isi (d := encQ v) (by walk_at "ev") kb_ts)) (fun H5 E5 => ?_)
      cases ey : it.y with
      | none =>
        refine s_ifT E5 (Evt_isNone (et_test (ev_isN (d := encO it.y) (by walk_at "ev"))) (by rw [ey]; rfl)) (fun H6 E6 => ?_)
        refine fin _ _ "nothing" "y" (.dat (encQ v)) _ ⟨trivial, trivial⟩ E6 (by walk_at "ev") ?_ ?_ _ ?_
        case refine_3 => rfl
        · unfold loss1
          rw [e4, ey]
        · unfold goodI
          rw [e4, ey]
          rfl
      | some y =>
        refine s_ifF E5 (Evt_isNone (et_test (ev_isN (d := encO it.y) (by walk_at "ev"))) (by rw [ey]; rfl)) (fun H6 E6 => ?_)
        obtain ⟨w, hw, hxw⟩ := placeX_at e4
        obtain ⟨v5, s5, r5⟩ := E6.at_ 5 _ rfl
        have s3 : σ4[3]? = some (some (.ref Dd)) := E6.at_ 3 _ rfl
        have ex : ExB [L] H' H6 := E6.ex
        obtain ⟨_, _, us, hu, _⟩ := E6.at_ 4 _ rfl
        have tn2 : TrkN P0 B' H6 := tn1.exN (.of ex) fun a ha _ => by
          rw [List.mem_singleton] at ha
          exact ⟨_, by rw [ha]; exact hu, by intro _ z; cases z⟩
        obtain ⟨_, _, us0, hu0, _⟩ := E1.at_ 4 _ rfl
        have T2 : LamX.Tabs [(P0, qlam)] H6 := tabs_keep T1 (KeepT.exB ex fun a ha => by
          rw [List.mem_singleton] at ha
          exact .inl ⟨us0, by rw [ha]; exact hu0⟩)
        have hg : goodI F it = true := by
          unfold goodI
          rw [e4, ey]
          rfl
        have hl : loss1 F it = [] := by
          unfold loss1
          rw [e4, ey]
        refine h_put (w := w) (it := it) (vi := v5) (HI := H1) s3 (w1.exN (.of ex) hLD hLB') T2 tn2 hDB' hLB' hLD (Ev.is (d := encC it.x) (by walk_at "ev") (by rw [hxw]; rfl)) s5 r5 hxw lM (by
          have := e _ _ (sb0 _ _ tP)
          rw [this]
          exact fun z => nomatch z) hPD hPL (eN.trans (ex.mono fun a ha => by rw [List.mem_singleton] at ha; rw [ha]; exact List.mem_cons_self ..)) (fun H7 B7 c1 c2 c3 c4 c5 c6 c7 => ?_)
        refine ⟨B7, fun b h => c1 b (b1 b h), fun b h => ?_, c3, c4, c5, ?_, ?_⟩
        · rcases c2 b h with z | z
          · exact b2 b z
          · exact .inr z
        · rw [List.filter_cons_of_pos hg, List.filter_nil]
          exact c6
        · refine Evn.few (c7 _ _ _ E6 (fun i l ds h => ?_) []) _ ⟨.inr rfl, .inr rfl, .inr rfl, .inr rfl, .inr ?_, .inl rfl, .inl rfl, .inr rfl, .inr rfl, .inr rfl, trivial⟩
          · by_cases z : l = L
            · exact z
            · exact absurd rfl (muNe_get (l := l) (k := none) (G := [.dat (encF F), .dat (.str side), .dat (.list (its.map encIt)), .ptr Dd, .mu L (ls.map encL), .dat (.tuple [.int it.own, encC it.x, encO it.y, .none, .int it.rank, .int it.colour, .int it.size]), .dat (encQ v), .no, .no, .no]) ⟨trivial, trivial, trivial, trivial, fun e => z e.symm, trivial, trivial, trivial, trivial, trivial, trivial⟩ i l ds (fun z => nomatch z) h)
          · rw [List.flatMap_cons, List.flatMap_nil, hl]
            simp
  obtain ⟨B', b1, b2, eN, T1, tn1, w1, E1⟩ := p
  rw [List.length_map, List.take_length] at w1 E1
  have hLB' : L ∈ B' := b1 _ (List.mem_cons_self ..)
  have hPB' : P0 ∈ B' := b1 _ (by simp)
  obtain ⟨_, _, us, hu, rau⟩ := E1.at_ 4 _ rfl
  have lM : (its.filter (goodI F)).length ≤ 60 := Nat.le_trans (List.length_filter_le ..) hlen
  have lL : (its.flatMap (loss1 F)).length ≤ 60 := Nat.le_trans (loss1_len F _) hlen
  refine ss_set (E1.toPtr (k := 4) rfl) (d := .list []) (ev_lst E1.trk ea_nil (Nat.zero_le _)) (fun σ2 H2 E2 => ?_)
  have e12 : Same H' H2 := fun a o h => E2.ex a o (fun z => nomatch z) h
  have E2 : Evn [] H' B' σ2 H2 [.dat (encF F), .dat (.str side), .dat (.list (its.map encIt)), .ptr Dd, .ptr L, .no, .no, .dat (.list []), .no, .no] := E2
  have T2 := tabs_keep T1 (KeepT.same e12)
  have tn2 := tn1.same e12
  have w2 : WL H1 B' H2 Dd L (its.filter (goodI F)) := w1.exN (.ofS e12) hLD hLB'
  have hu2 := e12 _ _ hu
  have rau2 := rau.same e12
  refine ss_forN (ds := F.ws.map .str) (B := B') (Ev.is (d := .list (F.ws.map .str)) (by walk_at "ev") rfl) (fun H3 i σ' H' => ExN [L] H3 H' ∧ LamX.Tabs [(P0, qlam)] H' ∧ TrkN P0 B' H' ∧ (∃ us', H' L = some (.lst us') ∧ RA B' H' us' ((its.flatMap (loss1 F) ++ (F.ws.take i).flatMap fun w => (hw F its w).ls).map encL)) ∧
      Evn [] H' B' σ' H' [.dat (encF F), .dat (.str side), .dat (.list (its.map encIt)), .ptr Dd, .ptr L, .no, .no, .dat (.list (((F.ws.take i).flatMap fun w => (hw F its w).ms).map (encM side))), .no, .no]) (fun H3 e3 => ?_) (fun H3 i σ' H' e3 p => p.1.mono fun a ha => by rw [List.mem_singleton] at ha; rw [ha]; exact hLB') (fun H3 i x d σ' H4 e3 hx rx p => ?_) (fun H3 σ' H4 e3 p => ?_)
  · refine ⟨ExN.refl _ _, tabs_keep T2 (KeepT.same e3), tn2.same e3, ⟨us, e3 _ _ hu2, ?_⟩, E2.base e3 []⟩
    rw [List.take_zero, List.flatMap_nil, List.append_nil]
    exact rau2.same e3
  · obtain ⟨eN4, T4, tn4, ⟨us4, hu4, ra4⟩, E4⟩ := p
    have hi : i < F.ws.length := by
      have := (List.getElem?_eq_some_iff.mp hx).1
      rwa [List.length_map] at this
    have hd : d = .str F.ws[i] := by
      rw [List.getElem?_map, List.getElem?_eq_getElem hi] at hx
      exact (Option.some.inj hx).symm
    subst hd
    have htk : F.ws.take (i + 1) = F.ws.take i ++ [F.ws[i]] := by rw [List.take_add_one, List.getElem?_eq_getElem hi]; rfl
    have hwm : F.ws[i] ∈ F.ws := List.getElem_mem hi
    obtain ⟨f1, f2⟩ := h_fits hF.x hio i
    have w4 : WL H1 B' H4 Dd L (its.filter (goodI F)) := (w2.exN (.ofS e3) hLD hLB').exN eN4 hLD hLB'
    rw [htk]
    simp only [List.flatMap_append]
    generalize F.ws[i] = w at *
    generalize ((F.ws.take i).flatMap fun w => (hw F its w).ls) = ls4 at *
    generalize ((F.ws.take i).flatMap fun w => (hw F its w).ms) = ms4 at *
    have rx4 : R B' H4 x (.str w) := rx.exN (eN4.mono fun a ha => by rw [List.mem_singleton] at ha; rw [ha]; exact hLB')
    refine g_name (i := 8) E4 rx4 (fun σ5 E5 => ?_)
    have E5 : Evn [] H4 B' σ5 H4 [.dat (encF F), .dat (.str side), .dat (.list (its.map encIt)), .ptr Dd, .ptr L, .no, .no, .dat (.list (ms4.map (encM side))), .dat (.str w), .no] := E5
    have s3 : σ5[3]? = some (some (.ref Dd)) := E5.at_ 3 _ rfl
    have s8 : σ5[8]? = some (some (.str w)) := by
      obtain ⟨v, h1, h2⟩ := E5.at_ 8 _ rfl
      cases h2
      exact h1
    refine s_if E5 (et_din s3 s8 w4) (fun hb H5 E6 => ?_) (fun hb H5 E6 => ?_)
    · have e45 : Same H4 H5 := fun a o h => E6.ex a o (fun z => nomatch z) h
      have hn := of_decide_eq_true hb
      refine s_seq (h_rise (q := qlam) s3 s8 (w4.exN (.ofS e45) hLD hLB') (tabs_keep T4 (KeepT.same e45)) (tn4.same e45) lM hn fun p H6 e6 T6 tn6 r6 => ?_)
      have E7 := (E6.chg (e6.mono fun a z => absurd z (by simp)) (fun _ _ n _ => n) (fun _ h => h) (tn6.trk T6) (fun i l ds h => (noMu_get (G := [.dat (encF F), .dat (.str side), .dat (.list (its.map encIt)), .ptr Dd, .ptr L, .no, .no, .dat (.list (ms4.map (encM side))), .dat (.str w), .no]) ⟨trivial, trivial, trivial, trivial, trivial, trivial, trivial, trivial, trivial, trivial, trivial⟩ i l ds h).elim) []).set (i := 9) r6
      have e46 : ExN [L] H4 H6 := (ExN.ofS e45).trans (e6.mono fun a z => absurd z (by simp))
      have hu6 : H6 L = some (.lst us4) := e6 _ _ (fun z => nomatch z) (e45 _ _ hu4) (by intro _ z; cases z)
      have ra6 := (ra4.same e45).exN (e6.mono fun a z => absurd z (by simp))
      have gi := hItems_gi (F := F) hio w
      refine h_parts (q := qlam) (Dn := Dn) (w := w) (its := hItems F its w) (ls := its.flatMap (loss1 F) ++ ls4) (mks := ms4) (us := us4) E7 rfl rfl rfl rfl rfl ⟨trivial, trivial, trivial, trivial, trivial, trivial, trivial, trivial, trivial, trivial, trivial⟩ T6 tn6 hLB' hu6 ra6 hD hF hwm (fun z => hn ?_) ?_ (by rw [List.length_append]; omega) (by omega) gi (fun H7 σ7 e7 T7 tn7 hL7 E8 => ?_)
      · have : (hItems F its w).length = 0 := by rw [z]; rfl
        unfold hItems sortR at this
        rw [List.length_mergeSort] at this
        exact List.eq_nil_of_length_eq_zero this
      · unfold hItems sortR
        rw [List.length_mergeSort]
        exact Nat.le_trans (List.length_filter_le ..) lM
      · refine ⟨eN4.trans (e46.trans e7), T7, tn7, ?_, ?_⟩
        · obtain ⟨us7, k1, k2⟩ := hL7
          refine ⟨us7, k1, ?_⟩
          rw [List.flatMap_cons, List.flatMap_nil, List.append_nil, ← List.append_assoc]
          exact k2
        · refine Evn.few E8 _ ⟨.inr rfl, .inr rfl, .inr rfl, .inr rfl, .inr rfl, .inr rfl, .inr rfl, .inr ?_, .inl rfl, .inl rfl, trivial⟩
          rw [List.flatMap_cons, List.flatMap_nil, List.append_nil]
          rfl
    · have e45 : Same H4 H5 := fun a o h => E6.ex a o (fun z => nomatch z) h
      have hn : (its.filter (goodI F)).filter (isW w) = [] := by
        have := of_decide_eq_false hb
        exact Classical.byContradiction this
      have hi0 : hItems F its w = [] := by
        unfold hItems sortR
        rw [hn]
        exact List.mergeSort_nil
      have hw0 : hw F its w = ⟨[], [], 0⟩ := by
        unfold hw
        rw [hi0]
        rfl
      refine ⟨eN4.trans (.ofS e45), tabs_keep T4 (KeepT.same e45), tn4.same e45, ⟨us4, e45 _ _ hu4, ?_⟩, ?_⟩
      · rw [List.flatMap_cons, List.flatMap_nil, hw0, List.append_nil, List.append_nil]
        exact ra4.same e45
      · refine Evn.few (E6.base (Same.refl _) []) _ ⟨.inr rfl, .inr rfl, .inr rfl, .inr rfl, .inr rfl, .inr rfl, .inr rfl, .inr ?_, .inl rfl, .inl rfl, trivial⟩
        rw [List.flatMap_cons, List.flatMap_nil, hw0, List.append_nil, List.append_nil]
  · obtain ⟨eN4, T4, tn4, ⟨us4, hu4, ra4⟩, E4⟩ := p
    rw [List.length_map, List.take_length] at ra4 E4
    obtain ⟨f1, f2⟩ := h_fits hF.x hio F.ws.length
    rw [List.take_length] at f1 f2
    obtain ⟨v7, s7, r7⟩ := E4.at_ 7 _ rfl
    have s4 : σ'[4]? = some (some (.ref L)) := E4.at_ 4 _ rfl
    have ll : (hLost F its).length ≤ 120 := by
      unfold hLost
      rw [List.length_append]
      omega
    have trk4 := tn4.trk T4
    refine ⟨v7, s7, .ref L, s4, B', L, us4, hLost F its, rfl, hu4, ra4, by omega, fun ys p hp rys => ⟨by show 2 ≤ sizeLine; decide, fun p2 hp2 => ?_⟩⟩
    have hs1 := same_new (o := .lst ys) hp
    have hlp : upd H4 p (.lst ys) p = some (.lst ys) := upd_same
    generalize upd H4 p (.lst ys) = H5 at *
    have hs2 := same_new (o := .tup [v7, .ref p]) hp2
    have hs := hs1.trans hs2
    have np : p ∉ [P0] := fun z => by
      rw [List.mem_singleton] at z
      exact Trk.out trk4 hp (z ▸ hPB')
    have np2 : p2 ∉ [P0] := fun z => by
      rw [List.mem_singleton] at z
      exact Trk.out (trk4.same hs1) hp2 (z ▸ hPB')
    have sub : ∀ a ∈ [P0], a ∈ B' := fun a ha => by rw [List.mem_singleton] at ha; rw [ha]; exact hPB'
    refine q (.ref p2) _ (fun a o ha ht => ?_) (tabs_keep T4 (KeepT.same hs)) (.tup upd_same np2 (.cons ((r7.sub sub).same hs) (.cons (.lst (hs2 _ _ hlp) np ((rys.sub sub).same hs)) .nil)))
    have nL : a ≠ L := fun z => by rw [z, hHL] at ha; cases ha
    have nD : a ≠ Dd := fun z => by rw [z, hDd] at ha; cases ha
    have h1 := eN a o (by simp [nL, nD]) (e _ _ (sb0 _ _ ha))
    exact hs _ _ (eN4 a o (by simp [nL]) (e3 _ _ (e12 _ _ h1)) ht)
end
end M

end
section
set_option maxHeartbeats 4000000
set_option exponentiation.threshold 10000
namespace M
open PySem PySem.Spec PyProof.Rows L2

/-! ### what is drawn -/
def dMix (m : Int) (k : Nat) : Int := (m * m + 69621 * m + 7919 * (k : Int) + 11) % 2147483647
def drawsF (big : Bool) : Nat → List Int → Int → Int → List Int
  | _, [], _, _ => []
  | k, t :: r, left, mixed => if big then (left % t) :: drawsF big (k + 1) r (left / t) mixed else (dMix mixed k * 16807 % 2147483629 % t) :: drawsF big (k + 1) r left (dMix mixed k)
def absI (c : Int) : Int := if c < 0 then -c else c
def draws (cell : Int) (tops : List Int) : List Int := drawsF (decide (10 ^ 18 ≤ absI cell)) 0 tops (absI cell) (cell * 48271 % 2147483647)
def dDraws (ds : List PyData) (r : PyData) : Prop := ∃ (cell : Int) (tops : List Int), ds = [.int cell, .list (tops.map .int)] ∧ tops.length ≤ 100 ∧ (∀ t ∈ tops, 1 ≤ t ∧ t ≤ 2 * 10 ^ 9) ∧ r = .list ((draws cell tops).map .int)
theorem dDraws_len : ∀ ds r, dDraws ds r → ds.length = 2 := by rintro _ _ ⟨_, _, rfl, _⟩; rfl
def dWhole (ds : List PyData) (r : PyData) : Prop := ∃ i : Int, ds = [.int i] ∧ r = .bool true
theorem dWhole_len : ∀ ds r, dWhole ds r → ds.length = 1 := by rintro _ _ ⟨_, rfl, _⟩; rfl
theorem drawsF_len (big : Bool) : ∀ (tops : List Int) (k : Nat) (l m : Int), (drawsF big k tops l m).length = tops.length
  | [], _, _, _ => rfl
  | t :: r, k, l, m => by
    unfold drawsF
    split <;> rw [List.length_cons, List.length_cons, drawsF_len big r]
theorem drawsF_get (big : Bool) : ∀ (tops : List Int) (k : Nat) (l m : Int), (∀ t ∈ tops, 1 ≤ t) → ∀ i, i < tops.length → 0 ≤ (drawsF big k tops l m).getD i 0 ∧ (drawsF big k tops l m).getD i 0 < tops.getD i 0
  | [], _, _, _, _, i, hi => absurd hi (Nat.not_lt_zero _)
  | t :: r, k, l, m, h, 0, _ => by
    have ht := h t (List.mem_cons_self ..)
    unfold drawsF
    split
    · exact ⟨Int.emod_nonneg _ (by omega), Int.emod_lt_of_pos _ (by omega)⟩
    · exact ⟨Int.emod_nonneg _ (by omega), Int.emod_lt_of_pos _ (by omega)⟩
  | t :: r, k, l, m, h, i + 1, hi => by
    unfold drawsF
    split
    · exact drawsF_get big r (k + 1) _ _ (fun t ht => h t (List.mem_cons_of_mem _ ht)) i (by simpa using hi)
    · exact drawsF_get big r (k + 1) _ _ (fun t ht => h t (List.mem_cons_of_mem _ ht)) i (by simpa using hi)
theorem draws_get {cell : Int} {tops : List Int} (h : ∀ t ∈ tops, 1 ≤ t) : (draws cell tops).length = tops.length ∧ ∀ i, i < tops.length → 0 ≤ (draws cell tops).getD i 0 ∧ (draws cell tops).getD i 0 < tops.getD i 0 := ⟨drawsF_len _ _ _ _ _, drawsF_get _ _ _ _ _ h⟩
section
variable {K : PySem.W.Frag} {C B : List Addr} {σ : L2.St} {H H0 H' : Hp} {G : List Sl} {ta tb te : TE} {E : XK}
theorem ev_draws {cell : Int} {tops : List Int} (ht : Trk B H) (h1 : Ev B ta σ H (.int cell)) (h2 : Ev B tb σ H (.list (tops.map .int))) (hl : tops.length ≤ 100) (hb : ∀ t ∈ tops, 1 ≤ t ∧ t ≤ 2 * 10 ^ 9) : Ev B (tCall (SpD dDraws) [] E (tCons ta (tCons tb tNil))) σ H (.list ((draws cell tops).map .int)) := ev_call ht (ea_cons h1 (ea_cons h2 ea_nil)) ⟨cell, tops, rfl, hl, hb, rfl⟩
theorem ev_whole {i : Int} (ht : Trk B H) (h1 : Ev B ta σ H (.int i)) : Ev B (tCall (SpD dWhole) [] E (tCons ta tNil)) σ H (.bool true) := ev_call ht (ea_cons h1 ea_nil) ⟨i, rfl, rfl⟩
/-- d[n] of a list of numbers -/
theorem ev_d {d : List Int} (n : Nat) (hn : n < d.length) (ha : Ev B ta σ H (.list (d.map .int))) : Ev B (tOp (rIxL K) ta (tC (.int (n : Int)))) σ H (.int (d.getD n 0)) := ev_pick (xs := d) (i := (n : Int)) ha ev_int (Int.natCast_nonneg _) (by omega)
theorem ev_dk {d : List Int} {k : Nat} (hn : k < d.length) (ha : Ev B ta σ H (.list (d.map .int))) (hb : Ev B tb σ H (.int (k : Int))) : Ev B (tOp (rIxL K) ta tb) σ H (.int (d.getD k 0)) := ev_pick (xs := d) (i := (k : Int)) ha hb (Int.natCast_nonneg _) (by omega)
theorem ev_powI {i : Int} {n : Nat} {j : Int} (ha : Ev B ta σ H (.int i)) (hb : Ev B tb σ H (.int (n : Int))) (h1 : n ≤ 1000) (h2 : i.natAbs < 2 ^ 64) (e : i ^ n = j) : Ev B (tOp (rI CPow fun i j => .int (i ^ j.toNat)) ta tb) σ H (.int j) := Ev.is (ev_I (i := i) (j := (n : Int)) ha hb ⟨by omega, by omega, h2⟩) (by
  show PyData.int (i ^ ((n : Int).toNat)) = .int j
  rw [Int.toNat_natCast, e])
end

local macro_rules | `(tactic| walk_at "ev") => `(tactic| first
  | with_reducible exact ev_int
  | with_reducible exact ev_str
  | with_reducible exact ev_bl
  | with_reducible exact ev_non
  | ((with_reducible refine' ev_var (by assumption) ?_); rfl)
  | ((with_reducible refine ev_I0 (i := ?i) (j := ?j) ?h1 ?h2); (case h1 => walk_at "ev"); (case h2 => walk_at "ev"))
  | ((with_reducible refine ev_I0b (i := ?i) (j := ?j) ?h1 ?h2); (case h1 => walk_at "ev"); (case h2 => walk_at "ev"))
  | ((with_reducible refine ev_eqI (i := ?i) (j := ?j) ?h1 ?h2); (case h1 => walk_at "ev"); (case h2 => walk_at "ev"))
  | ((with_reducible refine ev_neI (i := ?i) (j := ?j) ?h1 ?h2); (case h1 => walk_at "ev"); (case h2 => walk_at "ev"))
  | ((with_reducible refine ev_neg (i := ?i) ?h1); (case h1 => walk_at "ev"))
  | ((with_reducible refine ev_fst (x := ?x) ?h1); (case h1 => walk_at "ev"))
  | ((with_reducible refine ev_snd (x := ?x) ?h1); (case h1 => walk_at "ev"))
  | ((with_reducible refine ev_fstP (p := ?x) ?h1); (case h1 => walk_at "ev"))
  | ((with_reducible refine ev_sndP (p := ?x) ?h1); (case h1 => walk_at "ev"))
  | ((with_reducible refine ev_ixT (ds := ?ds) (i := ?i) ?h1 ?h2 ?h3); (case h1 => walk_at "ev"); (case h2 => walk_at "ev"); (case h3 => rfl))
  | ((with_reducible refine ev_ixL (ds := ?ds) (i := ?i) ?h1 ?h2 ?h3); (case h1 => walk_at "ev"); (case h2 => walk_at "ev"); (case h3 => rfl))
  | ((with_reducible refine ev_pair1 (a := ?a) (Evn.trk (by assumption)) ?h1); (case h1 => walk_at "ev"))
  | ((with_reducible refine ev_abs (i := ?i) ?h1); (case h1 => walk_at "ev")))

section
variable {P : Program} {w : World} {K : PySem.W.Frag} {mg : Str → Option Value} {base : Heap}
theorem sc__law_draws : FnScope ["_law_cell_here", "_law_tops", "_law_found", "_law_left", "_law_mixed", "_law_k"] ["_law_cell_here", "_law_tops"] (defScope s__law_draws) := ⟨rfl, rfl, rfl, by decide +kernel, rfl, by decide +kernel, by decide +kernel⟩
theorem ok__law_draws (F : Fn K mg "_law_draws" s__law_draws) (m_abs : mg "abs" = none) (m_range : mg "range" = none) (m_len : mg "len" = none) : Cal P w K mg base 1 "_law_draws" ["_law_cell_here", "_law_tops"] (SpD dDraws) := by
  refine cal_D F sc__law_draws (fun _ _ _ _ _ _ us hl => match us, hl with | [_, _], _ => rfl) dDraws_len (by decide) ⟨_, fun f cdv A outer s H E hr =>
      (pss_cons (ps_set (i := 2) sc__law_draws.nd rfl (Or.inl rfl) (pe_lst pa_nil))
      (pss_cons (ps_set (i := 3) sc__law_draws.nd rfl (Or.inl rfl) (pe_callB call_abs (by rfl) m_abs bt_abs (pa_cons (pv 0) pa_nil)))
      (pss_cons (ps_set (i := 4) sc__law_draws.nd rfl (Or.inl rfl) (pe_op op_mod (pe_op op_mul (pv 0) pe_int) pe_int))
      (pss_cons (ps_for PassesOwn.never rfl (pi_range1 (by rfl) m_range (pa_cons (pe_callB (kcall_len (K := K) rfl) (by rfl) m_len bt_len (pa_cons (pv 1) pa_nil)) pa_nil)) (pg_name (i := 5) sc__law_draws.nd rfl (Or.inl rfl))
        (pss_one (ps_if (pt_cmpR op_ge (pe_callB call_abs (by rfl) m_abs bt_abs (pa_cons (pv 0) pa_nil)) (pe_op op_pow pe_int pe_int) (nomark _)) (pss_cons (ps_expr (kpe_bm (K := K) rfl PySem.F.plainAttrs_list PySem.F.slot_list_append PySem.F.type_list_append mt_append (pv 2) (pa_cons (pe_op op_mod (pv 3) (pe_ix (kx_list (K := K) rfl) (pv 1) (pv 5) (fun _ _ => rfl))) pa_nil)))
          (pss_one (ps_set (i := 3) sc__law_draws.nd rfl (Or.inl rfl) (pe_op op_fdivW (pv 3) (pe_ix (kx_list (K := K) rfl) (pv 1) (pv 5) (fun _ _ => rfl)))))) (pss_cons (ps_set (i := 4) sc__law_draws.nd rfl (Or.inl rfl) (pe_op op_mod (pe_op op_add (pe_op op_add (pe_op op_add (pe_op op_mulW (pv 4) (pv 4)) (pe_op op_mulW pe_int (pv 4))) (pe_op op_mulW pe_int (pv 5))) pe_int) pe_int))
          (pss_one (ps_expr (kpe_bm (K := K) rfl PySem.F.plainAttrs_list PySem.F.slot_list_append PySem.F.type_list_append mt_append (pv 2) (pa_cons (pe_op op_mod (pe_op op_mod (pe_op op_mulW (pv 4) pe_int) pe_int) (pe_ix (kx_list (K := K) rfl) (pv 1) (pv 5) (fun _ _ => rfl))) pa_nil))))))))
      (pss_one (ps_ret (pv 2))))))), fun ds r hd B H σ D E0 q => ?_⟩
  obtain ⟨cell, tops, rfl, hl, hb, rfl⟩ := hd
  refine ss_new E0 (fun l σ1 H1 hl0 _ hlB E1 => ?_) (fun l hl => nomatch hl)
  refine ss_set E1 (d := .int (absI cell)) (ev_abs (by walk_at "ev")) (fun σ2 H2 E2 => ?_)
  refine ss_set E2 (d := .int (cell * 48271 % 2147483647)) (ev_I (i := cell * 48271) (j := 2147483647) (ev_I (i := cell) (j := 48271) (by walk_at "ev") (by walk_at "ev") (.inr ⟨by decide, by decide⟩)) (by walk_at "ev") (by decide)) (fun σ3 H3 E3 => ?_)
  have ha0 : 0 ≤ absI cell := by unfold absI; split <;> omega
  have hm0 : 0 ≤ cell * 48271 % 2147483647 := Int.emod_nonneg _ (by decide)
  have hm1 : cell * 48271 % 2147483647 < 2147483647 := Int.emod_lt_of_pos _ (by decide)
  refine ss_forR (l :: B) (ea_cons (d := .int (tops.length : Int)) (Ev.is (ev_lenL (ds := tops.map .int) (by walk_at "ev")) (by rw [List.length_map])) ea_nil) ⟨by omega, by omega⟩ (fun i σ' H' => ∃ fs lf mx s, Evn [] H (l :: B) σ' H' [.dat (.int cell), .dat (.list (tops.map .int)), .mu l (fs.map .int), .dat (.int lf), .dat (.int mx), s] ∧ noMu [s] ∧ fs.length = i ∧
    fs ++ drawsF (decide (10 ^ 18 ≤ absI cell)) i (tops.drop i) lf mx = draws cell tops ∧ 0 ≤ lf ∧ 0 ≤ mx ∧ mx < 2147483647) (fun H4 e => ⟨[], absI cell, cell * 48271 % 2147483647, .no, E3.same e, ⟨trivial, trivial⟩, rfl, rfl, ha0, hm0, hm1⟩) (fun i σ' H' hi ⟨fs, lf, mx, s, E4, hs, hf, hdr, b0, b2, b3⟩ => ?_) (fun σ' H' ⟨fs, lf, mx, s, E4, hs, hf, hdr, b0, b2, b3⟩ => ?_)
  · have hi' : i < tops.length := by omega
    have E5 : Evn [] H (l :: B) (σ'.set 5 (some (.int (i : Int)))) H' [.dat (.int cell), .dat (.list (tops.map .int)), .mu l (fs.map .int), .dat (.int lf), .dat (.int mx), .dat (.int (i : Int))] := E4.set (i := 5) (v := .int (i : Int)) (.int _)
    obtain ⟨t, ht⟩ : ∃ t, tops[i]? = some t := ⟨_, List.getElem?_eq_getElem hi'⟩
    have htm : t ∈ tops := List.mem_of_getElem? ht
    obtain ⟨t1, t2⟩ := hb t htm
    have hg : tops.getD i 0 = t := by rw [List.getD_eq_getElem?_getD, ht]; rfl
    have hdrop : tops.drop i = t :: tops.drop (i + 1) := by rw [List.drop_eq_getElem_cons hi']; congr 1; rw [List.getElem?_eq_getElem hi'] at ht; exact Option.some.inj ht
    rw [hdrop] at hdr
    have et : ∀ {σ H'}, Evn [] H (l :: B) σ H' [.dat (.int cell), .dat (.list (tops.map .int)), .mu l (fs.map .int), .dat (.int lf), .dat (.int mx), .dat (.int (i : Int))] → Ev (l :: B) (tOp (rIxL K) (tVar 1) (tVar 5)) σ H' (.int t) := fun E => Ev.is (ev_dk (d := tops) (k := i) hi' (by walk_at "ev") (by walk_at "ev")) (by rw [hg])
    refine s_if E5 (et_test (ev_I0b (i := absI cell) (j := 10 ^ 18) (ev_abs (by walk_at "ev")) (ev_powI (i := 10) (n := 18) (by walk_at "ev") ev_int (by decide) (by decide) rfl))) (fun hbg H5 E6 => ?_) (fun hbg H5 E6 => ?_)
    · have hbg : decide (10 ^ 18 ≤ absI cell) = true := hbg
      rw [hbg] at hdr
      refine ss_app (d := .int (lf % t)) E6 rfl (.inl hl0) (mu_ok ⟨trivial, trivial, trivial, trivial, trivial, trivial⟩) (ev_I (i := lf) (j := t) (by walk_at "ev") (et E6) (by omega)) (by rw [List.length_map]; omega) (fun H6 E7 => ?_)
      have E7 : Evn [] H (l :: B) (σ'.set 5 (some (.int (i : Int)))) H6 [.dat (.int cell), .dat (.list (tops.map .int)), .mu l ((fs ++ [lf % t]).map .int), .dat (.int lf), .dat (.int mx), .dat (.int (i : Int))] := by rw [List.map_append]; exact E7
      have et7 : Ev (l :: B) (tOp (rIxL K) (tVar 1) (tVar 5)) (σ'.set 5 (some (.int (i : Int)))) H6 (.int t) := Ev.is (ev_dk (d := tops) (k := i) hi' (by walk_at "ev") (by walk_at "ev")) (by rw [hg])
      refine s_set E7 (d := .int (lf / t)) (ev_I (i := lf) (j := t) (by walk_at "ev") et7 (cd (by omega) (show Sz 31 t by unfold Sz; omega) (by decide))) (fun σ8 H8 E8 => ?_)
      refine ⟨fs ++ [lf % t], lf / t, mx, _, E8, ⟨trivial, trivial⟩, by rw [List.length_append, hf]; rfl, ?_, Int.ediv_nonneg b0 (by omega), b2, b3⟩
      rw [hbg, ← hdr, List.append_assoc]
      conv => rhs; unfold drawsF
      rfl
    · have hbg : decide (10 ^ 18 ≤ absI cell) = false := hbg
      rw [hbg] at hdr
      have sm : Sz 31 mx := by unfold Sz; omega
      have si : Sz 10 (i : Int) := sz_nat (by omega)
      refine ss_set E6 (d := .int (dMix mx i)) (ev_I (i := mx * mx + 69621 * mx + 7919 * (i : Int) + 11) (j := 2147483647) (ev_I0 (i := mx * mx + 69621 * mx + 7919 * (i : Int)) (j := 11) (ev_I0 (i := mx * mx + 69621 * mx) (j := 7919 * (i : Int)) (ev_I0 (i := mx * mx) (j := 69621 * mx) (ev_I (i := mx) (j := mx) (by walk_at "ev") (by walk_at "ev") (cm sm sm (by decide) (by decide))) (ev_I (i := 69621) (j := mx) (by walk_at "ev") (by walk_at "ev") (cm (sz_lit (n := 20) (by decide)) sm (by decide) (by decide)))) (ev_I (i := 7919) (j := (i : Int)) (by walk_at "ev") (by walk_at "ev") (cm (sz_lit (n := 20) (by decide)) si (by decide) (by decide)))) (by walk_at "ev")) (by walk_at "ev") (by decide)) (fun σ7 H7 E7 => ?_)
      have E7 : Evn [] H (l :: B) σ7 H7 [.dat (.int cell), .dat (.list (tops.map .int)), .mu l (fs.map .int), .dat (.int lf), .dat (.int (dMix mx i)), .dat (.int (i : Int))] := E7
      have et7 : Ev (l :: B) (tOp (rIxL K) (tVar 1) (tVar 5)) σ7 H7 (.int t) := Ev.is (ev_dk (d := tops) (k := i) hi' (by walk_at "ev") (by walk_at "ev")) (by rw [hg])
      have n0 : 0 ≤ dMix mx i := Int.emod_nonneg _ (by decide)
      have n1 : dMix mx i < 2147483647 := Int.emod_lt_of_pos _ (by decide)
      generalize hn : dMix mx i = nx at *
      refine s_app (d := .int (nx * 16807 % 2147483629 % t)) E7 rfl (.inl hl0) (mu_ok ⟨trivial, trivial, trivial, trivial, trivial, trivial⟩) (ev_I (i := nx * 16807 % 2147483629) (j := t) (ev_I (i := nx * 16807) (j := 2147483629) (ev_I (i := nx) (j := 16807) (by walk_at "ev") (by walk_at "ev") (cm (show Sz 31 nx by unfold Sz; omega) (sz_lit (n := 20) (by decide)) (by decide) (by decide))) (by walk_at "ev") (by decide)) et7 (by omega)) (by rw [List.length_map]; omega) (fun H8 E8 => ?_)
      refine ⟨fs ++ [nx * 16807 % 2147483629 % t], lf, nx, .dat (.int (i : Int)), by rw [List.map_append]; exact E8, ⟨trivial, trivial⟩, by rw [List.length_append, hf]; rfl, ?_, b0, n0, n1⟩
      rw [hbg, ← hdr, List.append_assoc]
      conv => rhs; unfold drawsF
      rw [hn]
      rfl
  · have e : fs = draws cell tops := by
      rw [show ((tops.length : Int).toNat) = tops.length from Int.toNat_natCast _, List.drop_length] at hdr
      rw [← hdr]
      exact (List.append_nil _).symm
    subst e
    exact s_retM E4 rfl hlB q
theorem sc__law_whole : FnScope ["_law_found"] ["_law_found"] (defScope s__law_whole) := ⟨rfl, rfl, rfl, by decide +kernel, rfl, by decide +kernel, by decide +kernel⟩
theorem ok__law_whole (F : Fn K mg "_law_whole" s__law_whole) (m_bool : mg "bool" = none) (m_isinstance : mg "isinstance" = none) (m_int : mg "int" = none) : Cal P w K mg base 1 "_law_whole" ["_law_found"] (SpD dWhole) := by
  refine cal_D F sc__law_whole (fun _ _ _ _ _ _ us hl => match us, hl with | [_], _ => rfl) dWhole_len (by decide) ⟨_, fun f cdv A outer s H E hr =>
      (pss_one (ps_ret (pe_and (pe_callB (kcall_isi (K := K) rfl) (by rfl) m_isinstance bt_isinstance (pa_cons (pv 0) (pa_cons (pe_bltn (v := .ty "int") (by rfl) m_int bt_int rfl) pa_nil))) (pe_one (pe_not (pe_callB (kcall_isi (K := K) rfl) (by rfl) m_isinstance bt_isinstance (pa_cons (pv 0) (pa_cons (pe_bltn (v := .ty "bool") (by rfl) m_bool bt_bool rfl) pa_nil)))))))), fun ds r hd B H σ D E0 q => ?_⟩
  obtain ⟨i, rfl, rfl⟩ := hd
  exact s_ret E0 (ev_andV (ev_isi (d := .int i) (by walk_at "ev") kb_ii) (fun _ => ev_notV (ev_isi (d := .int i) (by walk_at "ev") kb_ib))) q
end
end M

end
section
set_option maxHeartbeats 4000000
set_option exponentiation.threshold 10000
namespace M
open PySem PySem.Spec PyProof.Rows L2

/-! ### words, scales as they are drawn -/
def tops1 : List Int := [4000, 2, 4, 10 ^ 9, 10 ^ 9, 90, 3, 10 ^ 9, 60, 60] ++ (List.replicate 4 [900, 50, 1000, 1000]).flatten
structure DOk (d : List Int) : Prop where
  len : d.length = 26
  b : ∀ i, i < 26 → 0 ≤ d.getD i 0 ∧ d.getD i 0 < tops1.getD i 0
def fr (a b : Int) : Rat := (a : Rat) / (b : Rat)
def alpha : Str := "abcdefghijklmnopqrstuvwxyz"
def alphaL : List Nat := alpha.cps.toList
theorem alpha_len : alphaL.length = 26 := by decide +kernel
def ch (i : Int) : Str := ⟨#[alphaL.getD i.toNat 0]⟩
def wordK (d : List Int) (k : Nat) : Str :=
  if 0 < ((k : Int) + d.getD 7 0) % 3 then repS (ch (d.getD 8 0 % 26)) (d.getD 2 0) ++ (ch ((7 * (k : Int) + d.getD 3 0) % 676 / 26) ++ ch ((7 * (k : Int) + d.getD 3 0) % 676 % 26)) ++ repS (ch (d.getD 9 0 % 26)) (d.getD 6 0)
  else ch ((7 * (k : Int) + d.getD 3 0) % 676 / 26) ++ ch ((7 * (k : Int) + d.getD 3 0) % 676 % 26)
def wordsF (many : Nat) (d : List Int) : List Str := (List.range many).map (wordK d)
def dWords (ds : List PyData) (r : PyData) : Prop := ∃ (many : Nat) (d : List Int), ds = [.int (many : Int), .list (d.map .int)] ∧ many ≤ 60 ∧ DOk d ∧ r = .list ((wordsF many d).map .str)
theorem dWords_len : ∀ ds r, dWords ds r → ds.length = 2 := by rintro _ _ ⟨_, _, rfl, _⟩; rfl
def brkGo (d : List Int) : Nat → Nat → Rat → Int → List Pc
  | 0, _, _, _ => []
  | n + 1, k, lo, at_ => (lo, lo + fr (1 + d.getD (10 + 4 * k + 2) 0) (1 + d.getD 8 0), at_, at_ + 1 + d.getD (10 + 4 * k) 0) ::
    brkGo d n (k + 1) (lo + fr (1 + d.getD (10 + 4 * k + 2) 0) (1 + d.getD 8 0) + fr (1 + d.getD (10 + 4 * k + 3) 0) (1 + d.getD 9 0)) (at_ + 2 + d.getD (10 + 4 * k) 0 + d.getD (10 + 4 * k + 1) 0)
def lo0 (d : List Int) : Rat := numQ (d.getD 1 0) (d.getD 2 0) (d.getD 3 0) (d.getD 4 0) (d.getD 5 0)
def brkPs (d : List Int) : List Pc := brkGo d (2 + d.getD 6 0).toNat 0 (lo0 d) 0
def brkLast (ps : List Pc) : Int := match ps[ps.length - 1]? with
  | some p => p.2.2.2
  | none => 0
def dBroken (ds : List PyData) (r : PyData) : Prop := ∃ d : List Int, ds = [.list (d.map .int)] ∧ DOk d ∧ r = encYS (.broken (brkPs d) (brkLast (brkPs d)))
theorem dBroken_len : ∀ ds r, dBroken ds r → ds.length = 1 := by rintro _ _ ⟨_, rfl, _⟩; rfl
def spanQ (d : List Int) : Rat := fr (1 + d.getD 7 0 % [10, 1000, 10 ^ 9].getD (d.getD 6 0).toNat 0) (1 + d.getD 8 0)
def scaleY (kind : Int) (d : List Int) : YS :=
  if kind = 0 then .straight (lo0 d) (lo0 d + spanQ d) (1 + d.getD 0 0)
  else if kind = 1 then .turns ([2, 10].getD (d.getD 1 0).toNat 0) (if d.getD 2 0 = 3 then d.getD 3 0 % 401 - 200 else d.getD 3 0 % 81 - 40) (1 + d.getD 7 0 % [6, 40, 400].getD (d.getD 6 0).toNat 0) (1 + d.getD 0 0)
  else if kind = 2 then .broken (brkPs d) (brkLast (brkPs d))
  else .straight (-spanQ d + (0 - -spanQ d) * (((d.getD 9 0 % 3 : Int) : Rat) / ((2 : Int) : Rat))) (spanQ d) (1 + d.getD 0 0)
def dScaleY (ds : List PyData) (r : PyData) : Prop := ∃ (kind : Int) (d : List Int), ds = [.int kind, .list (d.map .int)] ∧ (0 ≤ kind ∧ kind < 4) ∧ DOk d ∧ r = encYS (scaleY kind d)
theorem dScaleY_len : ∀ ds r, dScaleY ds r → ds.length = 2 := by rintro _ _ ⟨_, _, rfl, _⟩; rfl
def manyX (d : List Int) : Nat := (1 + d.getD 7 0 % [4, 12, 60].getD (d.getD 6 0).toNat 0).toNat
def wsX (d : List Int) : List Str := wordsF (manyX d) d
def dScaleX (ds : List PyData) (r : PyData) : Prop := ∃ (d : List Int), ds = [.int 4, .list (d.map .int)] ∧ DOk d ∧ r = encX (wsX d) (1 + d.getD 0 0)
theorem dScaleX_len : ∀ ds r, dScaleX ds r → ds.length = 2 := by rintro _ _ ⟨_, rfl, _⟩; rfl
theorem brkGo_len (d : List Int) : ∀ (n k : Nat) (lo : Rat) (a : Int), (brkGo d n k lo a).length = n
  | 0, _, _, _ => rfl
  | n + 1, k, lo, a => congrArg (· + 1) (brkGo_len d n (k + 1) _ _)
theorem qs_fr {n : Nat} {a b : Int} (hb : 0 < b) (ha : Sz n a) (h : Sz n b) : QS n (fr a b) := qs_frac hb ha h
theorem numTop_sz {d1 d2 d3 d4 : Int} (h1 : 0 ≤ d2 ∧ d2 < 4) (h2 : 0 ≤ d3 ∧ d3 < 10 ^ 9) (h3 : 0 ≤ d4 ∧ d4 < 10 ^ 9) : Sz 62 (numTop d1 d2 d3 d4) := by
  unfold numTop
  have : d2 = 0 ∨ d2 = 1 ∨ d2 = 2 ∨ d2 = 3 := by omega
  rcases this with z | z | z | z <;> subst z <;> unfold Sz
  · show (d3 % 10).natAbs < _
    omega
  · show (d3 % 1000).natAbs < _
    omega
  · show (d3).natAbs < _
    omega
  · show (d3 * 10 ^ 9 + d4).natAbs < _
    omega
theorem lo0_qs {d : List Int} (hd : DOk d) : QS 64 (lo0 d) := by
  have h1 : 0 ≤ d.getD 1 0 ∧ d.getD 1 0 < 2 := hd.b 1 (by decide)
  have h2 : 0 ≤ d.getD 2 0 ∧ d.getD 2 0 < 4 := hd.b 2 (by decide)
  have h3 : 0 ≤ d.getD 3 0 ∧ d.getD 3 0 < 10 ^ 9 := hd.b 3 (by decide)
  have h4 : 0 ≤ d.getD 4 0 ∧ d.getD 4 0 < 10 ^ 9 := hd.b 4 (by decide)
  have h5 : 0 ≤ d.getD 5 0 ∧ d.getD 5 0 < 90 := hd.b 5 (by decide)
  unfold lo0 numQ
  refine qs_frac (by unfold numBot; split <;> omega) (sz_mul (n := 2) (m := 62) (by unfold Sz; omega) (numTop_sz h2 h3 h4)) (by unfold numBot Sz; split <;> omega)
theorem fr_pos {a b : Int} (ha : 0 < a) (hb : 0 < b) : 0 < fr a b := by
  have h1 := cast_pos ha
  have h2 := cast_pos hb
  have h3 : fr a b * (b : Rat) = (a : Rat) := by
    have := cast_ne (show b ≠ 0 by omega)
    unfold fr
    grind
  refine Classical.byContradiction fun hn => ?_
  have := Rat.mul_le_mul_of_nonneg_right (Rat.not_lt.mp hn) (Rat.le_of_lt h2)
  rw [h3] at this
  grind
theorem brk_bounds {d : List Int} (hd : DOk d) {k : Nat} (hk : k < 4) : (0 ≤ d.getD (10 + 4 * k) 0 ∧ d.getD (10 + 4 * k) 0 < 900) ∧ (0 ≤ d.getD (10 + 4 * k + 1) 0 ∧ d.getD (10 + 4 * k + 1) 0 < 50) ∧ (0 ≤ d.getD (10 + 4 * k + 2) 0 ∧ d.getD (10 + 4 * k + 2) 0 < 1000) ∧ (0 ≤ d.getD (10 + 4 * k + 3) 0 ∧ d.getD (10 + 4 * k + 3) 0 < 1000) := by
  have : k = 0 ∨ k = 1 ∨ k = 2 ∨ k = 3 := by omega
  rcases this with z | z | z | z <;> subst z
  · exact ⟨hd.b 10 (by decide), hd.b 11 (by decide), hd.b 12 (by decide), hd.b 13 (by decide)⟩
  · exact ⟨hd.b 14 (by decide), hd.b 15 (by decide), hd.b 16 (by decide), hd.b 17 (by decide)⟩
  · exact ⟨hd.b 18 (by decide), hd.b 19 (by decide), hd.b 20 (by decide), hd.b 21 (by decide)⟩
  · exact ⟨hd.b 22 (by decide), hd.b 23 (by decide), hd.b 24 (by decide), hd.b 25 (by decide)⟩
theorem brk_step {d : List Int} (hd : DOk d) {k : Nat} (hk : k < 4) {lo : Rat} (hq : QS (64 + 24 * k) lo) : QS (64 + 24 * k + 12) (lo + fr (1 + d.getD (10 + 4 * k + 2) 0) (1 + d.getD 8 0)) ∧ QS (64 + 24 * (k + 1)) (lo + fr (1 + d.getD (10 + 4 * k + 2) 0) (1 + d.getD 8 0) + fr (1 + d.getD (10 + 4 * k + 3) 0) (1 + d.getD 9 0)) := by
  obtain ⟨_, _, h2, h3⟩ := brk_bounds hd hk
  have h8 : 0 ≤ d.getD 8 0 ∧ d.getD 8 0 < 60 := hd.b 8 (by decide)
  have h9 : 0 ≤ d.getD 9 0 ∧ d.getD 9 0 < 60 := hd.b 9 (by decide)
  have a := qs_add hq (qs_fr (n := 11) (a := 1 + d.getD (10 + 4 * k + 2) 0) (b := 1 + d.getD 8 0) (by omega) (by unfold Sz; omega) (by unfold Sz; omega))
  have b := qs_add a (qs_fr (n := 11) (a := 1 + d.getD (10 + 4 * k + 3) 0) (b := 1 + d.getD 9 0) (by omega) (by unfold Sz; omega) (by unfold Sz; omega))
  exact ⟨a.mono (by omega), b.mono (by omega)⟩
theorem brk_rising {d : List Int} (hd : DOk d) : ∀ (n k : Nat) (lo : Rat) (at_ : Int) (a : Rat) (z : Int), k + n ≤ 4 → QS (64 + 24 * k) lo → a < lo → z ≤ at_ → 0 ≤ at_ → at_ ≤ 950 * k → Rising a z (brkGo d n k lo at_)
  | 0, _, _, _, _, _, _, _, _, _, _, _ => trivial
  | n + 1, k, lo, at_, a, z, hk, hq, hl, hz, h0, ha => by
    obtain ⟨b0, b1, b2, b3⟩ := brk_bounds hd (k := k) (by omega)
    obtain ⟨s1, s2⟩ := brk_step hd (k := k) (by omega) hq
    have h8 : 0 ≤ d.getD 8 0 ∧ d.getD 8 0 < 60 := hd.b 8 (by decide)
    have h9 : 0 ≤ d.getD 9 0 ∧ d.getD 9 0 < 60 := hd.b 9 (by decide)
    have p1 := fr_pos (a := 1 + d.getD (10 + 4 * k + 2) 0) (b := 1 + d.getD 8 0) (by omega) (by omega)
    have p2 := fr_pos (a := 1 + d.getD (10 + 4 * k + 3) 0) (b := 1 + d.getD 9 0) (by omega) (by omega)
    refine ⟨hl, by grind, hz, by omega, by omega, hq.mono (by omega), s1.mono (by omega), brk_rising hd n (k + 1) _ _ _ _ (by omega) s2 (by grind) (by omega) (by omega) (by omega)⟩
theorem brk_ok {d : List Int} (hd : DOk d) : (YS.broken (brkPs d) (brkLast (brkPs d))).Ok := by
  have h6 : 0 ≤ d.getD 6 0 ∧ d.getD 6 0 < 3 := hd.b 6 (by decide)
  have hlen : (brkPs d).length = (2 + d.getD 6 0).toNat := brkGo_len ..
  have e : firstLo (brkPs d) = lo0 d := by
    unfold brkPs
    obtain ⟨m, hm⟩ : ∃ m, (2 + d.getD 6 0).toNat = m + 1 := ⟨(1 + d.getD 6 0).toNat, by omega⟩
    rw [hm]
    rfl
  have hr : Rising (firstLo (brkPs d) - 1) 0 (brkPs d) := by
    rw [e]
    exact brk_rising hd _ 0 _ _ _ _ (by omega) ((lo0_qs hd).mono (by decide)) (by grind) (Int.le_refl _) (Int.le_refl _) (by decide)
  refine ⟨by omega, by omega, hr, ?_⟩
  obtain ⟨p, hp⟩ : ∃ p, (brkPs d)[(brkPs d).length - 1]? = some p := ⟨_, List.getElem?_eq_getElem (by omega)⟩
  obtain ⟨_, _, _, a1, a2, a3⟩ := rising_all _ _ _ hr p (List.mem_of_getElem? hp)
  unfold brkLast
  rw [hp]
  simp only
  omega
theorem pick3 {xs : List Int} {i : Int} (h : xs.length = 3) (hi : 0 ≤ i ∧ i < 3) {P : Int → Prop} (h0 : P (xs.getD 0 0)) (h1 : P (xs.getD 1 0)) (h2 : P (xs.getD 2 0)) : P (xs.getD i.toNat 0) := by
  have : i = 0 ∨ i = 1 ∨ i = 2 := by omega
  rcases this with z | z | z <;> subst z
  · exact h0
  · exact h1
  · exact h2
theorem span_facts {d : List Int} (hd : DOk d) : QS 32 (spanQ d) ∧ 0 < spanQ d ∧ 0 ≤ d.getD 7 0 % [10, 1000, 10 ^ 9].getD (d.getD 6 0).toNat 0 ∧ d.getD 7 0 % [10, 1000, 10 ^ 9].getD (d.getD 6 0).toNat 0 < 10 ^ 9 ∧ (0 : Int) < ([10, 1000, 10 ^ 9] : List Int).getD (d.getD 6 0).toNat 0 := by
  have h6 : 0 ≤ d.getD 6 0 ∧ d.getD 6 0 < 3 := hd.b 6 (by decide)
  have h7 : 0 ≤ d.getD 7 0 ∧ d.getD 7 0 < 10 ^ 9 := hd.b 7 (by decide)
  have h8 : 0 ≤ d.getD 8 0 ∧ d.getD 8 0 < 60 := hd.b 8 (by decide)
  have hm : 0 < ([10, 1000, 10 ^ 9] : List Int).getD (d.getD 6 0).toNat 0 ∧ ([10, 1000, 10 ^ 9] : List Int).getD (d.getD 6 0).toNat 0 ≤ 10 ^ 9 := pick3 (P := fun z => 0 < z ∧ z ≤ 10 ^ 9) rfl h6 (by decide) (by decide) (by decide)
  unfold spanQ
  generalize ([10, 1000, 10 ^ 9] : List Int).getD (d.getD 6 0).toNat 0 = m at *
  have e0 := Int.emod_nonneg (d.getD 7 0) (show m ≠ 0 by omega)
  have e1 := Int.emod_lt_of_pos (d.getD 7 0) hm.1
  exact ⟨qs_fr (by omega) (by unfold Sz; omega) (by unfold Sz; omega), fr_pos (by omega) (by omega), e0, by omega, hm.1⟩
theorem qs_neg {n : Nat} {q : Rat} (h : QS n q) : QS n (-q) := ⟨by rw [Rat.neg_num]; exact sz_neg h.num, by rw [Rat.neg_den]; exact h.den⟩
theorem scaleY_ok {kind : Int} {d : List Int} (hk : 0 ≤ kind ∧ kind < 4) (hd : DOk d) : (scaleY kind d).Ok := by
  have h0 : 0 ≤ d.getD 0 0 ∧ d.getD 0 0 < 4000 := hd.b 0 (by decide)
  have h1 : 0 ≤ d.getD 1 0 ∧ d.getD 1 0 < 2 := hd.b 1 (by decide)
  have h3 : 0 ≤ d.getD 3 0 ∧ d.getD 3 0 < 10 ^ 9 := hd.b 3 (by decide)
  have h6 : 0 ≤ d.getD 6 0 ∧ d.getD 6 0 < 3 := hd.b 6 (by decide)
  have h7 : 0 ≤ d.getD 7 0 ∧ d.getD 7 0 < 10 ^ 9 := hd.b 7 (by decide)
  have h9 : 0 ≤ d.getD 9 0 ∧ d.getD 9 0 < 60 := hd.b 9 (by decide)
  obtain ⟨s1, s2, _⟩ := span_facts hd
  have l0 := lo0_qs hd
  unfold scaleY
  split
  · exact ⟨by grind, l0.mono (by decide), (qs_add l0 s1).mono (by decide), by omega, by omega⟩
  · split
    · have hb : ([2, 10] : List Int).getD (d.getD 1 0).toNat 0 = 2 ∨ ([2, 10] : List Int).getD (d.getD 1 0).toNat 0 = 10 := by
        have : d.getD 1 0 = 0 ∨ d.getD 1 0 = 1 := by omega
        rcases this with z | z <;> rw [z]
        · exact .inl rfl
        · exact .inr rfl
      have hm : 0 < ([6, 40, 400] : List Int).getD (d.getD 6 0).toNat 0 ∧ ([6, 40, 400] : List Int).getD (d.getD 6 0).toNat 0 ≤ 400 := pick3 (P := fun z => 0 < z ∧ z ≤ 400) rfl h6 (by decide) (by decide) (by decide)
      generalize ([6, 40, 400] : List Int).getD (d.getD 6 0).toNat 0 = m at *
      have e0 := Int.emod_nonneg (d.getD 7 0) (show m ≠ 0 by omega)
      have e1 := Int.emod_lt_of_pos (d.getD 7 0) hm.1
      refine ⟨hb, ?_, ?_, by omega, by omega, by omega, by omega⟩ <;> split <;> omega
    · split
      · exact brk_ok hd
      · have s3 := qs_frac (a := d.getD 9 0 % 3) (b := 2) (n := 3) (by decide) (by unfold Sz; omega) (by unfold Sz; decide)
        have z2 : ((2 : Int) : Rat) = 2 := rfl
        have hle : ((d.getD 9 0 % 3 : Int) : Rat) ≤ 2 := by
          have := Rat.intCast_le_intCast.mpr (show d.getD 9 0 % 3 ≤ 2 by omega)
          exact this
        have hlt : d.getD 9 0 % 3 = 0 ∨ d.getD 9 0 % 3 = 1 ∨ d.getD 9 0 % 3 = 2 := by omega
        refine ⟨?_, ?_, s1.mono (by decide), by omega, by omega⟩
        · generalize spanQ d = sp at *
          rcases hlt with z | z | z <;> rw [z]
          · rw [show (((0 : Int) : Rat) / ((2 : Int) : Rat)) = 0 by decide +kernel]; grind
          · rw [show (((1 : Int) : Rat) / ((2 : Int) : Rat)) = 1 / 2 by decide +kernel]; grind
          · rw [show (((2 : Int) : Rat) / ((2 : Int) : Rat)) = 1 by decide +kernel]; grind
        · exact (qs_add (qs_neg s1) (qs_mul (qs_sub (qs_zero (n := 1)) (qs_neg s1)) s3)).mono (by decide)
theorem repS_len {z : Str} {n : Int} (hz : z.length = 1) (h0 : 0 ≤ n) (h : n ≤ 1000) : (repS z n).length ≤ 1000 := by
  unfold repS
  split
  · exact Nat.zero_le _
  · split
    · omega
    · show ((List.replicate n.toNat z.cps).foldl (· ++ ·) #[]).size ≤ 1000
      have hz' : z.cps.size = 1 := hz
      rw [size_reps, hz']
      simp
      omega
theorem ch_len (i : Int) : (ch i).length = 1 := rfl
section
variable {K : PySem.W.Frag} {C B : List Addr} {σ : L2.St} {H H0 H' : Hp} {G : List Sl} {ta tb te : TE} {E : XK} {i : Int} {d : List Int}
theorem ev_ch (ha : Ev B ta σ H (.str alpha)) (hb : Ev B tb σ H (.int i)) (h0 : 0 ≤ i) (h1 : i < 26) : Ev B (tOp rIxS ta tb) σ H (.str (ch i)) := by
  have hl := alpha_len
  have hi : i.toNat < alphaL.length := by omega
  have e : alphaL[i.toNat]? = some (alphaL.getD i.toNat 0) := by
    rw [List.getD_eq_getElem?_getD, List.getElem?_eq_getElem hi]
    rfl
  exact ev_ixS ha hb (by decide +kernel) (atI_pick h0 e)
theorem ev_words {many : Nat} (ht : Trk B H) (h1 : Ev B ta σ H (.int (many : Int))) (h2 : Ev B tb σ H (.list (d.map .int))) (hm : many ≤ 60) (hd : DOk d) : Ev B (tCall (SpD dWords) [] E (tCons ta (tCons tb tNil))) σ H (.list ((wordsF many d).map .str)) := ev_call ht (ea_cons h1 (ea_cons h2 ea_nil)) ⟨many, d, rfl, hm, hd, rfl⟩
theorem ev_broken (ht : Trk B H) (h2 : Ev B tb σ H (.list (d.map .int))) (hd : DOk d) : Ev B (tCall (SpD dBroken) [] E (tCons tb tNil)) σ H (encYS (.broken (brkPs d) (brkLast (brkPs d)))) := ev_call ht (ea_cons h2 ea_nil) ⟨d, rfl, hd, rfl⟩
theorem ev_scaleY {kind : Int} (ht : Trk B H) (h1 : Ev B ta σ H (.int kind)) (h2 : Ev B tb σ H (.list (d.map .int))) (hk : 0 ≤ kind ∧ kind < 4) (hd : DOk d) : Ev B (tCall (SpD dScaleY) [] E (tCons ta (tCons tb tNil))) σ H (encYS (scaleY kind d)) := ev_call ht (ea_cons h1 (ea_cons h2 ea_nil)) ⟨kind, d, rfl, hk, hd, rfl⟩
theorem ev_scaleX (ht : Trk B H) (h1 : Ev B ta σ H (.int 4)) (h2 : Ev B tb σ H (.list (d.map .int))) (hd : DOk d) : Ev B (tCall (SpD dScaleX) [] E (tCons ta (tCons tb tNil))) σ H (encX (wsX d) (1 + d.getD 0 0)) := ev_call ht (ea_cons h1 (ea_cons h2 ea_nil)) ⟨d, rfl, hd, rfl⟩
end
def frzG (ds : List PyData) : Option Nat → List Sl → List Sl → Prop
  | _, [], [] => True
  | some 0, _ :: r, b :: t => b = .dat (.list ds) ∧ frzG ds none r t
  | some (k + 1), a :: r, b :: t => (b = .no ∨ ∃ d, b = .dat d ∧ a = b) ∧ frzG ds (some k) r t
  | none, a :: r, b :: t => (b = .no ∨ ∃ d, b = .dat d ∧ a = b) ∧ frzG ds none r t
  | _, _, _ => False
theorem frzG_get {ds : List PyData} : ∀ {k : Option Nat} {G G' : List Sl}, frzG ds k G G' → G'.length = G.length ∧ ∀ (j : Nat) (s : Sl), G'[j]? = some s → (some j = k ∧ s = .dat (.list ds)) ∨ s = .no ∨ (∃ d, s = .dat d ∧ G[j]? = some s)
  | _, [], [], _ => ⟨rfl, fun j s h => by simp at h⟩
  | some 0, _ :: r, b :: t, h => by
    obtain ⟨h1, h2⟩ := frzG_get (k := none) (G := r) (G' := t) h.2
    refine ⟨by rw [List.length_cons, List.length_cons, h1], fun j s hs => ?_⟩
    cases j with
    | zero =>
      have e : b = s := by simpa using hs
      exact .inl ⟨rfl, by rw [← e, h.1]⟩
    | succ j =>
      rcases h2 j s (by simpa using hs) with ⟨z, _⟩ | z | ⟨d, z1, z2⟩
      · cases z
      · exact .inr (.inl z)
      · exact .inr (.inr ⟨d, z1, by simpa using z2⟩)
  | some (k + 1), a :: r, b :: t, h => by
    obtain ⟨h1, h2⟩ := frzG_get (k := some k) (G := r) (G' := t) h.2
    refine ⟨by rw [List.length_cons, List.length_cons, h1], fun j s hs => ?_⟩
    cases j with
    | zero =>
      have e : b = s := by simpa using hs
      rcases h.1 with z | ⟨d, z1, z2⟩
      · exact .inr (.inl (by rw [← e, z]))
      · exact .inr (.inr ⟨d, by rw [← e, z1], by rw [← e, ← z2]; rfl⟩)
    | succ j =>
      rcases h2 j s (by simpa using hs) with ⟨z, z3⟩ | z | ⟨d, z1, z2⟩
      · cases z
        exact .inl ⟨rfl, z3⟩
      · exact .inr (.inl z)
      · exact .inr (.inr ⟨d, z1, by simpa using z2⟩)
  | none, a :: r, b :: t, h => by
    obtain ⟨h1, h2⟩ := frzG_get (k := none) (G := r) (G' := t) h.2
    refine ⟨by rw [List.length_cons, List.length_cons, h1], fun j s hs => ?_⟩
    cases j with
    | zero =>
      have e : b = s := by simpa using hs
      rcases h.1 with z | ⟨d, z1, z2⟩
      · exact .inr (.inl (by rw [← e, z]))
      · exact .inr (.inr ⟨d, by rw [← e, z1], by rw [← e, ← z2]; rfl⟩)
    | succ j =>
      rcases h2 j s (by simpa using hs) with ⟨z, _⟩ | z | ⟨d, z1, z2⟩
      · cases z
      · exact .inr (.inl z)
      · exact .inr (.inr ⟨d, z1, by simpa using z2⟩)
  | none, [], _ :: _, h => h.elim
  | none, _ :: _, [], h => h.elim
  | some _, [], _ :: _, h => by simp [frzG] at h
  | some _, _ :: _, [], h => by simp [frzG] at h
theorem Evn.froz {C B' : List Addr} {σ : L2.St} {H H0 : Hp} {G : List Sl} {k : Nat} {l : Addr} {ds : List PyData} (E : Evn C H0 (l :: B') σ H G) (hk : G[k]? = some (.mu l ds)) (hl : l ∉ B') (G' : List Sl) (h : frzG ds (some k) G G') : Evn C H0 B' σ H G' :=
  E.freeze hk hl G' (frzG_get h).1 fun j s hs => by
    rcases (frzG_get h).2 j s hs with ⟨z, z2⟩ | z | z
    · exact .inl ⟨Option.some.inj z, z2⟩
    · exact .inr (.inl z)
    · exact .inr (.inr (.inl z))
theorem sIx_nat (n : Nat) (def_ a : Nat) (h : a ≤ n) : HT.sIx n def_ (some (a : Int)) = a := by
  unfold HT.sIx
  simp
  split <;> omega
theorem cut_nat {ds : List PyData} {a b : Nat} (h1 : a ≤ b) (h2 : b ≤ ds.length) : cutD ds (some (a : Int)) (some (b : Int)) = (ds.drop a).take (b - a) := by
  unfold cutD
  rw [sIx_nat ds.length 0 a (by omega), sIx_nat ds.length ds.length b h2]
theorem take_list : ∀ (n : Nat) (d : List Int), n ≤ d.length → d.take n = (List.range n).map fun i => d.getD i 0
  | 0, d, _ => rfl
  | n + 1, [], h => absurd h (by simp)
  | n + 1, x :: r, h => by
    rw [List.range_succ_eq_map, List.map_cons, List.map_map, List.take_succ_cons, take_list n r (by simpa using h)]
    rfl
theorem cut_list {d : List Int} {a n : Nat} (h : a + n ≤ d.length) : cutD (d.map .int) (some (a : Int)) (some ((a + n : Nat) : Int)) = ((List.range n).map fun i => d.getD (a + i) 0).map .int := by
  rw [cut_nat (Nat.le_add_right ..) (by rw [List.length_map]; exact h), Nat.add_sub_cancel_left, ← List.map_drop, ← List.map_take, take_list n _ (by rw [List.length_drop]; omega)]
  congr 1
  refine List.map_congr_left fun i _ => ?_
  rw [List.getD_eq_getElem?_getD, List.getD_eq_getElem?_getD, List.getElem?_drop]

local macro_rules | `(tactic| walk_at "ev") => `(tactic| first
  | with_reducible exact ev_int
  | with_reducible exact ev_str
  | with_reducible exact ev_bl
  | with_reducible exact ev_non
  | ((with_reducible refine' ev_var (by assumption) ?_); rfl)
  | ((with_reducible refine ev_I0 (i := ?i) (j := ?j) ?h1 ?h2); (case h1 => walk_at "ev"); (case h2 => walk_at "ev"))
  | ((with_reducible refine ev_I0b (i := ?i) (j := ?j) ?h1 ?h2); (case h1 => walk_at "ev"); (case h2 => walk_at "ev"))
  | ((with_reducible refine ev_eqI (i := ?i) (j := ?j) ?h1 ?h2); (case h1 => walk_at "ev"); (case h2 => walk_at "ev"))
  | ((with_reducible refine ev_neI (i := ?i) (j := ?j) ?h1 ?h2); (case h1 => walk_at "ev"); (case h2 => walk_at "ev"))
  | ((with_reducible refine ev_neg (i := ?i) ?h1); (case h1 => walk_at "ev"))
  | ((with_reducible refine ev_fst (x := ?x) ?h1); (case h1 => walk_at "ev"))
  | ((with_reducible refine ev_snd (x := ?x) ?h1); (case h1 => walk_at "ev"))
  | ((with_reducible refine ev_fstP (p := ?x) ?h1); (case h1 => walk_at "ev"))
  | ((with_reducible refine ev_sndP (p := ?x) ?h1); (case h1 => walk_at "ev"))
  | ((with_reducible refine ev_ixT (ds := ?ds) (i := ?i) ?h1 ?h2 ?h3); (case h1 => walk_at "ev"); (case h2 => walk_at "ev"); (case h3 => rfl))
  | ((with_reducible refine ev_ixL (ds := ?ds) (i := ?i) ?h1 ?h2 ?h3); (case h1 => walk_at "ev"); (case h2 => walk_at "ev"); (case h3 => rfl))
  | ((with_reducible refine ev_pair1 (a := ?a) (Evn.trk (by assumption)) ?h1); (case h1 => walk_at "ev"))
  | ((with_reducible refine ev_abs (i := ?i) ?h1); (case h1 => walk_at "ev")))

section
variable {P : Program} {w : World} {K : PySem.W.Frag} {mg : Str → Option Value} {base : Heap}
theorem sc__law_words : FnScope ["_law_many", "_law_d", "_law_some", "_law_names", "_law_k", "_law_at", "_law_pair"] ["_law_many", "_law_d"] (defScope s__law_words) := ⟨rfl, rfl, rfl, by decide +kernel, rfl, by decide +kernel, by decide +kernel⟩
theorem ok__law_words (F : Fn K mg "_law_words" s__law_words) (m_range : mg "range" = none) : Cal P w K mg base 1 "_law_words" ["_law_many", "_law_d"] (SpD dWords) := by
  refine cal_D F sc__law_words (fun _ _ _ _ _ _ us hl => match us, hl with | [_, _], _ => rfl) dWords_len (by decide) ⟨_, fun f cdv A outer s H E hr =>
      (pss_cons (ps_set (i := 2) sc__law_words.nd rfl (Or.inl rfl) pe_str)
      (pss_cons (ps_set (i := 3) sc__law_words.nd rfl (Or.inl rfl) (pe_lst pa_nil))
      (pss_cons (ps_for PassesOwn.never rfl (pi_range1 (by rfl) m_range (pa_cons (pv 0) pa_nil)) (pg_name (i := 4) sc__law_words.nd rfl (Or.inl rfl))
        (pss_cons (ps_set (i := 5) sc__law_words.nd rfl (Or.inl rfl) (pe_op op_mod (pe_op op_add (pe_op op_mulW pe_int (pv 4)) (pe_ix (kx_list (K := K) rfl) (pv 1) pe_int (fun _ _ => rfl))) pe_int))
        (pss_cons (ps_set (i := 6) sc__law_words.nd rfl (Or.inl rfl) (pe_op op_add_str (pe_ix ix_str (pv 2) (pe_op op_fdivW (pv 5) pe_int) (fun _ _ => rfl)) (pe_ix ix_str (pv 2) (pe_op op_mod (pv 5) pe_int) (fun _ _ => rfl))))
        (pss_cons (ps_if (pt_cmpR op_gt (pe_op op_mod (pe_op op_add (pv 4) (pe_ix (kx_list (K := K) rfl) (pv 1) pe_int (fun _ _ => rfl))) pe_int) pe_int (nomark _)) (pss_one (ps_set (i := 6) sc__law_words.nd rfl (Or.inl rfl) (pe_op op_add_str (pe_op op_add_str (pe_op op_repS (pe_ix ix_str (pv 2) (pe_op op_mod (pe_ix (kx_list (K := K) rfl) (pv 1) pe_int (fun _ _ => rfl)) pe_int) (fun _ _ => rfl)) (pe_ix (kx_list (K := K) rfl) (pv 1) pe_int (fun _ _ => rfl))) (pv 6)) (pe_op op_repS (pe_ix ix_str (pv 2) (pe_op op_mod (pe_ix (kx_list (K := K) rfl) (pv 1) pe_int (fun _ _ => rfl)) pe_int) (fun _ _ => rfl)) (pe_ix (kx_list (K := K) rfl) (pv 1) pe_int (fun _ _ => rfl)))))) pss_nil)
        (pss_one (ps_expr (kpe_bm (K := K) rfl PySem.F.plainAttrs_list PySem.F.slot_list_append PySem.F.type_list_append mt_append (pv 3) (pa_cons (pv 6) pa_nil))))))))
      (pss_one (ps_ret (pv 3)))))), fun ds r hd B H σ D E0 q => ?_⟩
  obtain ⟨many, d, rfl, hm, hd, rfl⟩ := hd
  have h2 : 0 ≤ d.getD 2 0 ∧ d.getD 2 0 < 4 := hd.b 2 (by decide)
  have h3 : 0 ≤ d.getD 3 0 ∧ d.getD 3 0 < 10 ^ 9 := hd.b 3 (by decide)
  have h6 : 0 ≤ d.getD 6 0 ∧ d.getD 6 0 < 3 := hd.b 6 (by decide)
  have h7 : 0 ≤ d.getD 7 0 ∧ d.getD 7 0 < 10 ^ 9 := hd.b 7 (by decide)
  have h8 : 0 ≤ d.getD 8 0 ∧ d.getD 8 0 < 60 := hd.b 8 (by decide)
  have h9 : 0 ≤ d.getD 9 0 ∧ d.getD 9 0 < 60 := hd.b 9 (by decide)
  refine ss_set E0 (d := .str alpha) (ev_str (s := alpha)) (fun σ1 H1 E1 => ?_)
  refine ss_new E1 (fun l σ2 H2 hl0 _ hlB E2 => ?_) (fun l hl => nomatch hl)
  refine ss_forR (l :: B) (ea_cons (d := .int (many : Int)) (by walk_at "ev") ea_nil) ⟨by omega, by omega⟩ (fun i σ' H' => ∃ s1 s2 s3, Evn [] H (l :: B) σ' H' [.dat (.int (many : Int)), .dat (.list (d.map .int)), .dat (.str alpha), .mu l ((wordsF i d).map .str), s1, s2, s3] ∧ noMu [s1, s2, s3]) (fun H4 e => ⟨.no, .no, .no, E2.same e, ⟨trivial, trivial, trivial, trivial⟩⟩) (fun i σ' H' hi ⟨s1, s2, s3, E3, hs⟩ => ?_) (fun σ' H' ⟨s1, s2, s3, E3, hs⟩ => ?_)
  · have hi' : i < many := by omega
    have E4 : Evn [] H (l :: B) (σ'.set 4 (some (.int (i : Int)))) H' [.dat (.int (many : Int)), .dat (.list (d.map .int)), .dat (.str alpha), .mu l ((wordsF i d).map .str), .dat (.int (i : Int)), s2, s3] := E3.set (i := 4) (v := .int (i : Int)) (.int _)
    have si : Sz 10 (i : Int) := sz_nat (by omega)
    refine ss_set E4 (d := .int ((7 * (i : Int) + d.getD 3 0) % 676)) (ev_I (i := 7 * (i : Int) + d.getD 3 0) (j := 676) (ev_I0 (i := 7 * (i : Int)) (j := d.getD 3 0) (ev_I (i := 7) (j := (i : Int)) (by walk_at "ev") (by walk_at "ev") (cm (sz_lit (n := 20) (by decide)) si (by decide) (by decide))) (ev_d (d := d) 3 (by rw [hd.len]; decide) (by walk_at "ev"))) (by walk_at "ev") (by decide)) (fun σ5 H5 E5 => ?_)
    have a0 := Int.emod_nonneg (7 * (i : Int) + d.getD 3 0) (show (676 : Int) ≠ 0 by decide)
    have a1 := Int.emod_lt_of_pos (7 * (i : Int) + d.getD 3 0) (show (0 : Int) < 676 by decide)
    generalize hat : (7 * (i : Int) + d.getD 3 0) % 676 = at_ at *
    have E5 : Evn [] H (l :: B) σ5 H5 [.dat (.int (many : Int)), .dat (.list (d.map .int)), .dat (.str alpha), .mu l ((wordsF i d).map .str), .dat (.int (i : Int)), .dat (.int at_), s3] := E5
    refine ss_set E5 (d := .str (ch (at_ / 26) ++ ch (at_ % 26))) (ev_addS (s := ch (at_ / 26)) (w := ch (at_ % 26)) (ev_ch (by walk_at "ev") (ev_I (i := at_) (j := 26) (by walk_at "ev") (by walk_at "ev") (cd (by decide) (sz_lit (n := 5) (by decide)) (by decide))) (by omega) (by omega)) (ev_ch (by walk_at "ev") (ev_I (i := at_) (j := 26) (by walk_at "ev") (by walk_at "ev") (by decide)) (by omega) (by omega)) (by rw [ch_len, ch_len]; decide)) (fun σ6 H6 E6 => ?_)
    have E6 : Evn [] H (l :: B) σ6 H6 [.dat (.int (many : Int)), .dat (.list (d.map .int)), .dat (.str alpha), .mu l ((wordsF i d).map .str), .dat (.int (i : Int)), .dat (.int at_), .dat (.str (ch (at_ / 26) ++ ch (at_ % 26)))] := E6
    have sz : sizeLine = 16777216 := by decide
    refine ss_ifSet (d := .str (wordK d i)) E6 (et_test (ev_I0b (i := ((i : Int) + d.getD 7 0) % 3) (j := 0) (ev_I (i := (i : Int) + d.getD 7 0) (j := 3) (ev_I0 (i := (i : Int)) (j := d.getD 7 0) (by walk_at "ev") (ev_d (d := d) 7 (by rw [hd.len]; decide) (by walk_at "ev"))) (by walk_at "ev") (by decide)) (by walk_at "ev"))) (fun hb H7 e7 => ?_) (fun hb => ?_) (fun σ7 H7 E7 => ?_)
    · have E7 := E6.same e7
      have hb := of_decide_eq_true hb
      have l1 := repS_len (z := ch (d.getD 8 0 % 26)) (n := d.getD 2 0) rfl h2.1 (by omega)
      have l2 := repS_len (z := ch (d.getD 9 0 % 26)) (n := d.getD 6 0) rfl h6.1 (by omega)
      refine Ev.is (ev_addS (s := repS (ch (d.getD 8 0 % 26)) (d.getD 2 0) ++ (ch (at_ / 26) ++ ch (at_ % 26))) (w := repS (ch (d.getD 9 0 % 26)) (d.getD 6 0)) (ev_addS (s := repS (ch (d.getD 8 0 % 26)) (d.getD 2 0)) (w := ch (at_ / 26) ++ ch (at_ % 26)) (ev_repS (z := ch (d.getD 8 0 % 26)) (n := d.getD 2 0) (ev_ch (by walk_at "ev") (ev_I (i := d.getD 8 0) (j := 26) (ev_d (d := d) 8 (by rw [hd.len]; decide) (by walk_at "ev")) (by walk_at "ev") (by decide)) (by omega) (by omega)) (ev_d (d := d) 2 (by rw [hd.len]; decide) (by walk_at "ev")) rfl h2.1 (by omega)) (by walk_at "ev") ?_) (ev_repS (z := ch (d.getD 9 0 % 26)) (n := d.getD 6 0) (ev_ch (by walk_at "ev") (ev_I (i := d.getD 9 0) (j := 26) (ev_d (d := d) 9 (by rw [hd.len]; decide) (by walk_at "ev")) (by walk_at "ev") (by decide)) (by omega) (by omega)) (ev_d (d := d) 6 (by rw [hd.len]; decide) (by walk_at "ev")) rfl h6.1 (by omega)) ?_) ?_
      · rw [PySem.Str.length_append, ch_len, ch_len]; omega
      · rw [PySem.Str.length_append, PySem.Str.length_append, ch_len, ch_len]; omega
      · unfold wordK
        rw [if_pos hb, hat]
    · have hb := of_decide_eq_false hb
      unfold wordK
      rw [if_neg hb, hat]
      rfl
    · refine s_app (d := .str (wordK d i)) E7 rfl (.inl hl0) (mu_ok ⟨trivial, trivial, trivial, trivial, trivial, trivial, trivial⟩) (by walk_at "ev") (by unfold wordsF; rw [List.length_map, List.length_map, List.length_range]; omega) (fun H8 E8 => ⟨.dat (.int (i : Int)), .dat (.int at_), .dat (.str (wordK d i)), ?_, ⟨trivial, trivial, trivial, trivial⟩⟩)
      have e : wordsF (i + 1) d = wordsF i d ++ [wordK d i] := by
        unfold wordsF
        rw [List.range_succ, List.map_append]
        rfl
      rw [e, List.map_append]
      exact E8
  · rw [Int.toNat_natCast] at E3
    exact s_retM E3 rfl hlB q
theorem sc__law_broken : FnScope ["_law_d", "_law_pieces", "_law_lo", "_law_at", "_law_k", "_law_e", "_law_hi"] ["_law_d"] (defScope s__law_broken) := ⟨rfl, rfl, rfl, by decide +kernel, rfl, by decide +kernel, by decide +kernel⟩
theorem ok__law_broken (F : Fn K mg "_law_broken" s__law_broken) (c__law_number : Cal P w K mg base 2 "_law_number" ["_law_d"] (SpD dNumber)) (c__law_plus : Cal P w K mg base 3 "_law_plus" ["_law_one", "_law_other"] (SpD dPlus)) (c__law_low : Cal P w K mg base 2 "_law_low" ["_law_top", "_law_bottom"] (SpD dLowest)) (m_range : mg "range" = none) : Cal P w K mg base 4 "_law_broken" ["_law_d"] (SpD dBroken) := by
  refine cal_D F sc__law_broken (fun _ _ _ _ _ _ us hl => match us, hl with | [_], _ => rfl) dBroken_len (by decide) ⟨_, fun f cdv A outer s H E hr =>
      (pss_cons (ps_set (i := 1) sc__law_broken.nd rfl (Or.inl rfl) (pe_lst pa_nil))
      (pss_cons (ps_set (i := 2) sc__law_broken.nd rfl (Or.inl rfl) (pe_cal c__law_number hr (by decide) (by rfl) (pa_cons (pe_slice (ksl_list (K := K) rfl) (pv 0) (po_some pe_int) (po_some pe_int)) pa_nil)))
      (pss_cons (ps_set (i := 3) sc__law_broken.nd rfl (Or.inl rfl) pe_int)
      (pss_cons (ps_for PassesOwn.never rfl (pi_range1 (by rfl) m_range (pa_cons (pe_op op_add pe_int (pe_ix (kx_list (K := K) rfl) (pv 0) pe_int (fun _ _ => rfl))) pa_nil)) (pg_name (i := 4) sc__law_broken.nd rfl (Or.inl rfl))
        (pss_cons (ps_set (i := 5) sc__law_broken.nd rfl (Or.inl rfl) (pe_slice (ksl_list (K := K) rfl) (pv 0) (po_some (pe_op op_add pe_int (pe_op op_mulW pe_int (pv 4)))) (po_some (pe_op op_add pe_int (pe_op op_mulW pe_int (pv 4))))))
        (pss_cons (ps_set (i := 6) sc__law_broken.nd rfl (Or.inl rfl) (pe_cal c__law_plus hr (by decide) (by rfl) (pa_cons (pv 2) (pa_cons (pe_cal c__law_low hr (by decide) (by rfl) (pa_cons (pe_op op_add pe_int (pe_ix (kx_list (K := K) rfl) (pv 5) pe_int (fun _ _ => rfl))) (pa_cons (pe_op op_add pe_int (pe_ix (kx_list (K := K) rfl) (pv 0) pe_int (fun _ _ => rfl))) pa_nil))) pa_nil))))
        (pss_cons (ps_expr (kpe_bm (K := K) rfl PySem.F.plainAttrs_list PySem.F.slot_list_append PySem.F.type_list_append mt_append (pv 1) (pa_cons (pe_tup (pa_cons (pv 2) (pa_cons (pv 6) (pa_cons (pv 3) (pa_cons (pe_op op_add (pe_op op_add (pv 3) pe_int) (pe_ix (kx_list (K := K) rfl) (pv 5) pe_int (fun _ _ => rfl))) pa_nil))))) pa_nil)))
        (pss_cons (ps_set (i := 2) sc__law_broken.nd rfl (Or.inl rfl) (pe_cal c__law_plus hr (by decide) (by rfl) (pa_cons (pv 6) (pa_cons (pe_cal c__law_low hr (by decide) (by rfl) (pa_cons (pe_op op_add pe_int (pe_ix (kx_list (K := K) rfl) (pv 5) pe_int (fun _ _ => rfl))) (pa_cons (pe_op op_add pe_int (pe_ix (kx_list (K := K) rfl) (pv 0) pe_int (fun _ _ => rfl))) pa_nil))) pa_nil))))
        (pss_one (ps_set (i := 3) sc__law_broken.nd rfl (Or.inl rfl) (pe_op op_add (pe_op op_add (pe_op op_add (pv 3) pe_int) (pe_ix (kx_list (K := K) rfl) (pv 5) pe_int (fun _ _ => rfl))) (pe_ix (kx_list (K := K) rfl) (pv 5) pe_int (fun _ _ => rfl))))))))))
      (pss_one (ps_ret (pe_tup (pa_cons pe_str (pa_cons (pv 1) (pa_cons (pe_ix (kx_tup (K := K) rfl) (pe_ix (kx_list (K := K) rfl) (pv 1) (pe_un un_neg pe_int) (fun _ _ => rfl)) pe_int (fun _ _ => rfl)) pa_nil)))))))))), fun ds r hd B H σ D E0 q => ?_⟩
  obtain ⟨d, rfl, hd, rfl⟩ := hd
  have h1 : 0 ≤ d.getD 1 0 ∧ d.getD 1 0 < 2 := hd.b 1 (by decide)
  have h2 : 0 ≤ d.getD 2 0 ∧ d.getD 2 0 < 4 := hd.b 2 (by decide)
  have h3 : 0 ≤ d.getD 3 0 ∧ d.getD 3 0 < 10 ^ 9 := hd.b 3 (by decide)
  have h4 : 0 ≤ d.getD 4 0 ∧ d.getD 4 0 < 10 ^ 9 := hd.b 4 (by decide)
  have h5 : 0 ≤ d.getD 5 0 ∧ d.getD 5 0 < 90 := hd.b 5 (by decide)
  have h6 : 0 ≤ d.getD 6 0 ∧ d.getD 6 0 < 3 := hd.b 6 (by decide)
  have h8 : 0 ≤ d.getD 8 0 ∧ d.getD 8 0 < 60 := hd.b 8 (by decide)
  have h9 : 0 ≤ d.getD 9 0 ∧ d.getD 9 0 < 60 := hd.b 9 (by decide)
  refine ss_new E0 (fun l σ1 H1 hl0 _ hlB E1 => ?_) (fun l hl => nomatch hl)
  refine ss_set E1 (d := encQ (lo0 d)) (ev_number E1.trk (Ev.is (ev_slL (lo := some 1) (hi := some 6) E1.trk (by walk_at "ev") (eo_some (by walk_at "ev")) (eo_some (by walk_at "ev"))) (congrArg PyData.list (cut_list (d := d) (a := 1) (n := 5) (by rw [hd.len]; decide)))) h1 h2 h3 h4 h5) (fun σ2 H2 E2 => ?_)
  refine ss_set E2 (d := .int 0) (by walk_at "ev") (fun σ3 H3 E3 => ?_)
  refine ss_forR (l :: B) (ea_cons (d := .int (2 + d.getD 6 0)) (ev_I0 (i := 2) (j := d.getD 6 0) (by walk_at "ev") (ev_d (d := d) 6 (by rw [hd.len]; decide) (by walk_at "ev"))) ea_nil) ⟨by omega, by omega⟩ (fun i σ' H' => ∃ acc lo at_ s1 s2 s3, Evn [] H (l :: B) σ' H' [.dat (.list (d.map .int)), .mu l (acc.map encPc), .dat (encQ lo), .dat (.int at_), s1, s2, s3] ∧ noMu [s1, s2, s3] ∧ acc.length = i ∧
    acc ++ brkGo d ((2 + d.getD 6 0).toNat - i) i lo at_ = brkPs d ∧ QS (64 + 24 * i) lo ∧ 0 ≤ at_ ∧ at_ ≤ 950 * i) (fun H4 e => ⟨[], lo0 d, 0, .no, .no, .no, E3.same e, ⟨trivial, trivial, trivial, trivial⟩, rfl, rfl, lo0_qs hd, Int.le_refl _, by decide⟩) (fun i σ' H' hi ⟨acc, lo, at_, s1, s2, s3, E4, hs, hacc, hgo, hq, ha0, ha1⟩ => ?_) (fun σ' H' ⟨acc, lo, at_, s1, s2, s3, E4, hs, hacc, hgo, hq, ha0, ha1⟩ => ?_)
  · have hi4 : i < 4 := by omega
    obtain ⟨b0, b1, b2, b3⟩ := brk_bounds hd hi4
    obtain ⟨q1, q2⟩ := brk_step hd hi4 hq
    obtain ⟨n, hn⟩ : ∃ n, (2 + d.getD 6 0).toNat - i = n + 1 := ⟨(2 + d.getD 6 0).toNat - i - 1, by omega⟩
    rw [hn] at hgo
    have E5 : Evn [] H (l :: B) (σ'.set 4 (some (.int (i : Int)))) H' [.dat (.list (d.map .int)), .mu l (acc.map encPc), .dat (encQ lo), .dat (.int at_), .dat (.int (i : Int)), s2, s3] := E4.set (i := 4) (v := .int (i : Int)) (.int _)
    have si : Sz 10 (i : Int) := sz_nat (by omega)
    have e4i : (4 : Int) * (i : Int) = ((4 * i : Nat) : Int) := by omega
    refine ss_set E5 (d := .list ([d.getD (10 + 4 * i) 0, d.getD (10 + 4 * i + 1) 0, d.getD (10 + 4 * i + 2) 0, d.getD (10 + 4 * i + 3) 0].map .int)) (Ev.is (ev_slL (lo := some ((10 + 4 * i : Nat) : Int)) (hi := some ((10 + 4 * i + 4 : Nat) : Int)) E5.trk (by walk_at "ev") (eo_some (Ev.is (ev_I0 (i := 10) (j := 4 * (i : Int)) (by walk_at "ev") (ev_I (i := 4) (j := (i : Int)) (by walk_at "ev") (by walk_at "ev") (cm (sz_lit (n := 4) (by decide)) si (by decide) (by decide)))) (congrArg PyData.int (by omega)))) (eo_some (Ev.is (ev_I0 (i := 14) (j := 4 * (i : Int)) (by walk_at "ev") (ev_I (i := 4) (j := (i : Int)) (by walk_at "ev") (by walk_at "ev") (cm (sz_lit (n := 4) (by decide)) si (by decide) (by decide)))) (congrArg PyData.int (by omega))))) (congrArg PyData.list (cut_list (d := d) (a := 10 + 4 * i) (n := 4) (by rw [hd.len]; omega)))) (fun σ6 H6 E6 => ?_)
    have E6 : Evn [] H (l :: B) σ6 H6 [.dat (.list (d.map .int)), .mu l (acc.map encPc), .dat (encQ lo), .dat (.int at_), .dat (.int (i : Int)), .dat (.list ([d.getD (10 + 4 * i) 0, d.getD (10 + 4 * i + 1) 0, d.getD (10 + 4 * i + 2) 0, d.getD (10 + 4 * i + 3) 0].map .int)), s3] := E6
    refine ss_set E6 (d := encQ (lo + fr (1 + d.getD (10 + 4 * i + 2) 0) (1 + d.getD 8 0))) (ev_plus E6.trk (x := lo) (y := fr (1 + d.getD (10 + 4 * i + 2) 0) (1 + d.getD 8 0)) (by walk_at "ev") (ev_lowest E6.trk (a := 1 + d.getD (10 + 4 * i + 2) 0) (b := 1 + d.getD 8 0) (ev_I0 (i := 1) (j := d.getD (10 + 4 * i + 2) 0) (by walk_at "ev") (by walk_at "ev")) (ev_I0 (i := 1) (j := d.getD 8 0) (by walk_at "ev") (ev_d (d := d) 8 (by rw [hd.len]; decide) (by walk_at "ev"))) (by omega) (by unfold Sz; omega)) (hq.mono (by omega)) (qs_fr (by omega) (by unfold Sz; omega) (by unfold Sz; omega))) (fun σ7 H7 E7 => ?_)
    generalize hhi : lo + fr (1 + d.getD (10 + 4 * i + 2) 0) (1 + d.getD 8 0) = hi_ at *
    have E7 : Evn [] H (l :: B) σ7 H7 [.dat (.list (d.map .int)), .mu l (acc.map encPc), .dat (encQ lo), .dat (.int at_), .dat (.int (i : Int)), .dat (.list ([d.getD (10 + 4 * i) 0, d.getD (10 + 4 * i + 1) 0, d.getD (10 + 4 * i + 2) 0, d.getD (10 + 4 * i + 3) 0].map .int)), .dat (encQ hi_)] := E7
    refine ss_app (d := encPc (lo, hi_, at_, at_ + 1 + d.getD (10 + 4 * i) 0)) E7 rfl (.inl hl0) (mu_ok ⟨trivial, trivial, trivial, trivial, trivial, trivial, trivial⟩) (ev_tup E7.trk (ea_cons (by walk_at "ev") (ea_cons (by walk_at "ev") (ea_cons (by walk_at "ev") (ea_cons (ev_I0 (i := at_ + 1) (j := d.getD (10 + 4 * i) 0) (ev_I0 (i := at_) (j := 1) (by walk_at "ev") (by walk_at "ev")) (by walk_at "ev")) ea_nil)))) (by simp)) (by rw [List.length_map]; omega) (fun H8 E8 => ?_)
    have E8 : Evn [] H (l :: B) σ7 H8 [.dat (.list (d.map .int)), .mu l ((acc ++ [(lo, hi_, at_, at_ + 1 + d.getD (10 + 4 * i) 0)]).map encPc), .dat (encQ lo), .dat (.int at_), .dat (.int (i : Int)), .dat (.list ([d.getD (10 + 4 * i) 0, d.getD (10 + 4 * i + 1) 0, d.getD (10 + 4 * i + 2) 0, d.getD (10 + 4 * i + 3) 0].map .int)), .dat (encQ hi_)] := by
      rw [List.map_append]
      exact E8
    refine ss_set E8 (d := encQ (hi_ + fr (1 + d.getD (10 + 4 * i + 3) 0) (1 + d.getD 9 0))) (ev_plus E8.trk (x := hi_) (y := fr (1 + d.getD (10 + 4 * i + 3) 0) (1 + d.getD 9 0)) (by walk_at "ev") (ev_lowest E8.trk (a := 1 + d.getD (10 + 4 * i + 3) 0) (b := 1 + d.getD 9 0) (ev_I0 (i := 1) (j := d.getD (10 + 4 * i + 3) 0) (by walk_at "ev") (by walk_at "ev")) (ev_I0 (i := 1) (j := d.getD 9 0) (by walk_at "ev") (ev_d (d := d) 9 (by rw [hd.len]; decide) (by walk_at "ev"))) (by omega) (by unfold Sz; omega)) (q1.mono (by omega)) (qs_fr (by omega) (by unfold Sz; omega) (by unfold Sz; omega))) (fun σ9 H9 E9 => ?_)
    refine s_set E9 (d := .int (at_ + 2 + d.getD (10 + 4 * i) 0 + d.getD (10 + 4 * i + 1) 0)) (ev_I0 (i := at_ + 2 + d.getD (10 + 4 * i) 0) (j := d.getD (10 + 4 * i + 1) 0) (ev_I0 (i := at_ + 2) (j := d.getD (10 + 4 * i) 0) (ev_I0 (i := at_) (j := 2) (by walk_at "ev") (by walk_at "ev")) (by walk_at "ev")) (by walk_at "ev")) (fun σ10 H10 E10 => ?_)
    refine ⟨_, _, _, .dat (.int (i : Int)), .dat (.list ([d.getD (10 + 4 * i) 0, d.getD (10 + 4 * i + 1) 0, d.getD (10 + 4 * i + 2) 0, d.getD (10 + 4 * i + 3) 0].map .int)), .dat (encQ hi_), E10, ⟨trivial, trivial, trivial, trivial⟩, by rw [List.length_append, hacc]; rfl, ?_, q2, by omega, by omega⟩
    rw [show (2 + d.getD 6 0).toNat - (i + 1) = n by omega, ← hgo, List.append_assoc]
    conv => rhs; unfold brkGo
    rw [hhi]
    rfl
  · have e : acc = brkPs d := by
      rw [Nat.sub_self] at hgo
      rw [← hgo]
      exact (List.append_nil _).symm
    subst e
    have hl : 0 < (brkPs d).length := by omega
    obtain ⟨p, hp⟩ : ∃ p, (brkPs d)[(brkPs d).length - 1]? = some p := ⟨_, List.getElem?_eq_getElem (by omega)⟩
    have el : brkLast (brkPs d) = p.2.2.2 := by
      unfold brkLast
      rw [hp]
    have E5 : Evn [] H B σ' H' [.dat (.list (d.map .int)), .dat (.list ((brkPs d).map encPc)), .no, .no, .no, .no, .no] := E4.froz (k := 1) rfl hlB _ ⟨.inr ⟨_, rfl, rfl⟩, rfl, .inl rfl, .inl rfl, .inl rfl, .inl rfl, .inl rfl, trivial⟩
    refine s_ret E5 (ev_tup E5.trk (ea_cons (d := .str "broken") (by walk_at "ev") (ea_cons (by walk_at "ev") (ea_cons (d := .int (brkLast (brkPs d))) (ev_ixT (ds := [encQ p.1, encQ p.2.1, .int p.2.2.1, .int p.2.2.2]) (i := 3) (ev_ixL (ds := (brkPs d).map encPc) (i := -1) (d := encPc p) (by walk_at "ev") (by walk_at "ev") (atI_neg1 _ (by rw [List.length_map]; exact hl) (by rw [List.length_map, List.getElem?_map, hp]; rfl))) (by walk_at "ev") (by rw [el]; rfl)) ea_nil))) (by simp)) q
theorem sc__law_scale : FnScope ["_law_kind", "_law_d", "_law_length", "_law_lo", "_law_span", "_law_low_here"] ["_law_kind", "_law_d"] (defScope s__law_scale) := ⟨rfl, rfl, rfl, by decide +kernel, rfl, by decide +kernel, by decide +kernel⟩
theorem ok__law_scaleY (F : Fn K mg "_law_scale" s__law_scale) (c__law_number : Cal P w K mg base 2 "_law_number" ["_law_d"] (SpD dNumber)) (c__law_low : Cal P w K mg base 2 "_law_low" ["_law_top", "_law_bottom"] (SpD dLowest)) (c__law_plus : Cal P w K mg base 3 "_law_plus" ["_law_one", "_law_other"] (SpD dPlus)) (c__law_broken : Cal P w K mg base 4 "_law_broken" ["_law_d"] (SpD dBroken)) (c__law_part : Cal P w K mg base 4 "_law_part" ["_law_lo", "_law_hi", "_law_f", "_law_g"] (SpD dPart)) (c__law_words : Cal P w K mg base 1 "_law_words" ["_law_many", "_law_d"] (SpD dWords)) : Cal P w K mg base 5 "_law_scale" ["_law_kind", "_law_d"] (SpD dScaleY) := by
  refine cal_D F sc__law_scale (fun _ _ _ _ _ _ us hl => match us, hl with | [_, _], _ => rfl) dScaleY_len (by decide) ⟨_, fun f cdv A outer s H E hr =>
      (pss_cons (ps_set (i := 2) sc__law_scale.nd rfl (Or.inl rfl) (pe_op op_add pe_int (pe_ix (kx_list (K := K) rfl) (pv 1) pe_int (fun _ _ => rfl))))
      (pss_cons (ps_set (i := 3) sc__law_scale.nd rfl (Or.inl rfl) (pe_cal c__law_number hr (by decide) (by rfl) (pa_cons (pe_slice (ksl_list (K := K) rfl) (pv 1) (po_some pe_int) (po_some pe_int)) pa_nil)))
      (pss_cons (ps_set (i := 4) sc__law_scale.nd rfl (Or.inl rfl) (pe_cal c__law_low hr (by decide) (by rfl) (pa_cons (pe_op op_add pe_int (pe_op op_mod (pe_ix (kx_list (K := K) rfl) (pv 1) pe_int (fun _ _ => rfl)) (pe_ix (kx_list (K := K) rfl) (pe_lst (pa_cons pe_int (pa_cons pe_int (pa_cons (pe_op op_pow pe_int pe_int) pa_nil)))) (pe_ix (kx_list (K := K) rfl) (pv 1) pe_int (fun _ _ => rfl)) (fun _ _ => rfl)))) (pa_cons (pe_op op_add pe_int (pe_ix (kx_list (K := K) rfl) (pv 1) pe_int (fun _ _ => rfl))) pa_nil))))
      (pss_cons (ps_if (pt_cmpR op_eq (pv 0) pe_int (nomark _)) (pss_one (ps_ret (pe_tup (pa_cons pe_str (pa_cons (pv 3) (pa_cons (pe_cal c__law_plus hr (by decide) (by rfl) (pa_cons (pv 3) (pa_cons (pv 4) pa_nil))) (pa_cons (pv 2) pa_nil))))))) pss_nil)
      (pss_cons (ps_if (pt_cmpR op_eq (pv 0) pe_int (nomark _)) (pss_cons (ps_set (i := 5) sc__law_scale.nd rfl (Or.inl rfl) (pe_op op_sub (pe_op op_mod (pe_ix (kx_list (K := K) rfl) (pv 1) pe_int (fun _ _ => rfl)) pe_int) pe_int))
        (pss_cons (ps_if (pt_cmpR op_eq (pe_ix (kx_list (K := K) rfl) (pv 1) pe_int (fun _ _ => rfl)) pe_int (nomark _)) (pss_one (ps_set (i := 5) sc__law_scale.nd rfl (Or.inl rfl) (pe_op op_sub (pe_op op_mod (pe_ix (kx_list (K := K) rfl) (pv 1) pe_int (fun _ _ => rfl)) pe_int) pe_int))) pss_nil)
        (pss_one (ps_ret (pe_tup (pa_cons pe_str (pa_cons (pe_ix (kx_list (K := K) rfl) (pe_lst (pa_cons pe_int (pa_cons pe_int pa_nil))) (pe_ix (kx_list (K := K) rfl) (pv 1) pe_int (fun _ _ => rfl)) (fun _ _ => rfl)) (pa_cons (pv 5) (pa_cons (pe_op op_add pe_int (pe_op op_mod (pe_ix (kx_list (K := K) rfl) (pv 1) pe_int (fun _ _ => rfl)) (pe_ix (kx_list (K := K) rfl) (pe_lst (pa_cons pe_int (pa_cons pe_int (pa_cons pe_int pa_nil)))) (pe_ix (kx_list (K := K) rfl) (pv 1) pe_int (fun _ _ => rfl)) (fun _ _ => rfl)))) (pa_cons (pv 2) pa_nil)))))))))) pss_nil)
      (pss_cons (ps_if (pt_cmpR op_eq (pv 0) pe_int (nomark _)) (pss_one (ps_ret (pe_cal c__law_broken hr (by decide) (by rfl) (pa_cons (pv 1) pa_nil)))) pss_nil)
      (pss_cons (ps_if (pt_cmpR op_eq (pv 0) pe_int (nomark _)) (pss_one (ps_ret (pe_tup (pa_cons pe_str (pa_cons (pe_cal c__law_part hr (by decide) (by rfl) (pa_cons (pe_tup (pa_cons (pe_un un_neg (pe_ix (kx_tup (K := K) rfl) (pv 4) pe_int (fun _ _ => rfl))) (pa_cons (pe_ix (kx_tup (K := K) rfl) (pv 4) pe_int (fun _ _ => rfl)) pa_nil))) (pa_cons (pe_tup (pa_cons pe_int (pa_cons pe_int pa_nil))) (pa_cons (pe_op op_mod (pe_ix (kx_list (K := K) rfl) (pv 1) pe_int (fun _ _ => rfl)) pe_int) (pa_cons pe_int pa_nil))))) (pa_cons (pv 4) (pa_cons (pv 2) pa_nil))))))) pss_nil)
      (pss_one (ps_ret (pe_tup (pa_cons pe_str (pa_cons (pe_cal c__law_words hr (by decide) (by rfl) (pa_cons (pe_op op_add pe_int (pe_op op_mod (pe_ix (kx_list (K := K) rfl) (pv 1) pe_int (fun _ _ => rfl)) (pe_ix (kx_list (K := K) rfl) (pe_lst (pa_cons pe_int (pa_cons pe_int (pa_cons pe_int pa_nil)))) (pe_ix (kx_list (K := K) rfl) (pv 1) pe_int (fun _ _ => rfl)) (fun _ _ => rfl)))) (pa_cons (pv 1) pa_nil))) (pa_cons (pv 2) pa_nil))))))))))))), fun ds r hd B H σ D E0 q => ?_⟩
  obtain ⟨kind, d, rfl, hk, hd, rfl⟩ := hd

  have h0 : 0 ≤ d.getD 0 0 ∧ d.getD 0 0 < 4000 := hd.b 0 (by decide)
  have h1 : 0 ≤ d.getD 1 0 ∧ d.getD 1 0 < 2 := hd.b 1 (by decide)
  have h2 : 0 ≤ d.getD 2 0 ∧ d.getD 2 0 < 4 := hd.b 2 (by decide)
  have h3 : 0 ≤ d.getD 3 0 ∧ d.getD 3 0 < 10 ^ 9 := hd.b 3 (by decide)
  have h4 : 0 ≤ d.getD 4 0 ∧ d.getD 4 0 < 10 ^ 9 := hd.b 4 (by decide)
  have h5 : 0 ≤ d.getD 5 0 ∧ d.getD 5 0 < 90 := hd.b 5 (by decide)
  have h6 : 0 ≤ d.getD 6 0 ∧ d.getD 6 0 < 3 := hd.b 6 (by decide)
  have h7 : 0 ≤ d.getD 7 0 ∧ d.getD 7 0 < 10 ^ 9 := hd.b 7 (by decide)
  have h8 : 0 ≤ d.getD 8 0 ∧ d.getD 8 0 < 60 := hd.b 8 (by decide)
  have h9 : 0 ≤ d.getD 9 0 ∧ d.getD 9 0 < 60 := hd.b 9 (by decide)
  obtain ⟨f1, f2, f3, f4, f5⟩ := span_facts hd
  refine ss_set E0 (d := .int (1 + d.getD 0 0)) (ev_I0 (i := 1) (j := d.getD 0 0) (by walk_at "ev") (ev_d (d := d) 0 (by rw [hd.len]; decide) (by walk_at "ev"))) (fun σ1 H1 E1 => ?_)
  refine ss_set E1 (d := encQ (lo0 d)) (ev_number E1.trk (Ev.is (ev_slL (lo := some 1) (hi := some 6) E1.trk (by walk_at "ev") (eo_some (by walk_at "ev")) (eo_some (by walk_at "ev"))) (congrArg PyData.list (cut_list (d := d) (a := 1) (n := 5) (by rw [hd.len]; decide)))) h1 h2 h3 h4 h5) (fun σ2 H2 E2 => ?_)
  refine ss_set E2 (d := encQ (spanQ d)) (ev_lowest E2.trk (a := 1 + d.getD 7 0 % [10, 1000, 10 ^ 9].getD (d.getD 6 0).toNat 0) (b := 1 + d.getD 8 0) (ev_I0 (i := 1) (j := d.getD 7 0 % [10, 1000, 10 ^ 9].getD (d.getD 6 0).toNat 0) (by walk_at "ev") (ev_I (i := d.getD 7 0) (j := [10, 1000, 10 ^ 9].getD (d.getD 6 0).toNat 0) (ev_d (d := d) 7 (by rw [hd.len]; decide) (by walk_at "ev")) (ev_pick (xs := [10, 1000, 10 ^ 9]) (i := d.getD 6 0) (ev_lst E2.trk (ea_cons (by walk_at "ev") (ea_cons (by walk_at "ev") (ea_cons (ev_powI (i := 10) (n := 9) (by walk_at "ev") ev_int (by decide) (by decide) rfl) ea_nil))) (by simp)) (ev_d (d := d) 6 (by rw [hd.len]; decide) (by walk_at "ev")) h6.1 h6.2) f5)) (ev_I0 (i := 1) (j := d.getD 8 0) (by walk_at "ev") (ev_d (d := d) 8 (by rw [hd.len]; decide) (by walk_at "ev"))) (by omega) (by unfold Sz; omega)) (fun σ3 H3 E3 => ?_)
  have E3 : Evn [] H B σ3 H3 [.dat (.int kind), .dat (.list (d.map .int)), .dat (.int (1 + d.getD 0 0)), .dat (encQ (lo0 d)), .dat (encQ (spanQ d)), .no] := E3
  clear E0 E1 E2
  have l0 := lo0_qs hd
  generalize hsp : spanQ d = sp at *
  generalize hlo : lo0 d = lo at *
  refine ss_ifR E3 (et_test (ev_eqI (i := kind) (j := 0) (by walk_at "ev") (by walk_at "ev"))) (fun hb H4 E4 => ?_) (fun hb0 H4 E4 => ?_)
  · have hb := of_decide_eq_true hb
    subst hb
    have e : scaleY 0 d = .straight lo (lo + sp) (1 + d.getD 0 0) := by unfold scaleY; rw [if_pos rfl, hsp, hlo]
    rw [e] at q
    exact s_ret E4 (ev_tup E4.trk (ea_cons (d := .str "straight") (by walk_at "ev") (ea_cons (by walk_at "ev") (ea_cons (ev_plus E4.trk (x := lo) (y := sp) (by walk_at "ev") (by walk_at "ev") (l0.mono (by decide)) (f1.mono (by decide))) (ea_cons (by walk_at "ev") ea_nil)))) (by simp)) q
  refine ss_ifR E4 (et_test (ev_eqI (i := kind) (j := 1) (by walk_at "ev") (by walk_at "ev"))) (fun hb H5 E5 => ?_) (fun hb1 H5 E5 => ?_)
  · have hb := of_decide_eq_true hb
    subst hb
    refine ss_set E5 (d := .int (d.getD 3 0 % 81 - 40)) (ev_I0 (i := d.getD 3 0 % 81) (j := 40) (ev_I (i := d.getD 3 0) (j := 81) (ev_d (d := d) 3 (by rw [hd.len]; decide) (by walk_at "ev")) (by walk_at "ev") (by decide)) (by walk_at "ev")) (fun σ6 H6 E6 => ?_)
    refine ss_ifSet (d := .int (if d.getD 2 0 = 3 then d.getD 3 0 % 401 - 200 else d.getD 3 0 % 81 - 40)) E6 (et_test (ev_eqI (i := d.getD 2 0) (j := 3) (ev_d (d := d) 2 (by rw [hd.len]; decide) (by walk_at "ev")) (by walk_at "ev"))) (fun hb H7 e7 => ?_) (fun hb => ?_) (fun σ7 H7 E7 => ?_)
    · have E7 := E6.same e7
      rw [if_pos (of_decide_eq_true hb)]
      exact ev_I0 (i := d.getD 3 0 % 401) (j := 200) (ev_I (i := d.getD 3 0) (j := 401) (ev_d (d := d) 3 (by rw [hd.len]; decide) (by walk_at "ev")) (by walk_at "ev") (by decide)) (by walk_at "ev")
    · rw [if_neg (of_decide_eq_false hb)]
      rfl
    · have e : scaleY 1 d = .turns ([2, 10].getD (d.getD 1 0).toNat 0) (if d.getD 2 0 = 3 then d.getD 3 0 % 401 - 200 else d.getD 3 0 % 81 - 40) (1 + d.getD 7 0 % [6, 40, 400].getD (d.getD 6 0).toNat 0) (1 + d.getD 0 0) := by unfold scaleY; rw [if_neg (by decide), if_pos rfl]
      rw [e] at q
      have hm : (0 : Int) < ([6, 40, 400] : List Int).getD (d.getD 6 0).toNat 0 := pick3 (P := fun z => 0 < z) rfl h6 (by decide) (by decide) (by decide)
      exact s_ret E7 (ev_tup E7.trk (ea_cons (d := .str "turns") (by walk_at "ev") (ea_cons (ev_pick (xs := [2, 10]) (i := d.getD 1 0) (ev_lst E7.trk (ea_cons (by walk_at "ev") (ea_cons (by walk_at "ev") ea_nil)) (by simp)) (ev_d (d := d) 1 (by rw [hd.len]; decide) (by walk_at "ev")) h1.1 h1.2) (ea_cons (by walk_at "ev") (ea_cons (ev_I0 (i := 1) (j := d.getD 7 0 % [6, 40, 400].getD (d.getD 6 0).toNat 0) (by walk_at "ev") (ev_I (i := d.getD 7 0) (j := [6, 40, 400].getD (d.getD 6 0).toNat 0) (ev_d (d := d) 7 (by rw [hd.len]; decide) (by walk_at "ev")) (ev_pick (xs := [6, 40, 400]) (i := d.getD 6 0) (ev_lst E7.trk (ea_cons (by walk_at "ev") (ea_cons (by walk_at "ev") (ea_cons (by walk_at "ev") ea_nil))) (by simp)) (ev_d (d := d) 6 (by rw [hd.len]; decide) (by walk_at "ev")) h6.1 h6.2) hm)) (ea_cons (by walk_at "ev") ea_nil))))) (by simp)) q
  refine ss_ifR E5 (et_test (ev_eqI (i := kind) (j := 2) (by walk_at "ev") (by walk_at "ev"))) (fun hb H6 E6 => ?_) (fun hb2 H6 E6 => ?_)
  · have hb := of_decide_eq_true hb
    subst hb
    have e : scaleY 2 d = .broken (brkPs d) (brkLast (brkPs d)) := by unfold scaleY; rw [if_neg (by decide), if_neg (by decide), if_pos rfl]
    rw [e] at q
    exact s_ret E6 (ev_broken E6.trk (by walk_at "ev") hd) q
  have n0 := of_decide_eq_false hb0
  have n1 := of_decide_eq_false hb1
  have n2 := of_decide_eq_false hb2
  have hk3 : kind = 3 := by omega
  subst hk3
  refine ss_ifT E6 (et_test (ev_eqI (i := 3) (j := 3) (by walk_at "ev") (by walk_at "ev"))) (fun H7 E7 => ?_)
  have e : scaleY 3 d = .straight (-sp + (0 - -sp) * (((d.getD 9 0 % 3 : Int) : Rat) / ((2 : Int) : Rat))) sp (1 + d.getD 0 0) := by unfold scaleY; rw [if_neg (by decide), if_neg (by decide), if_neg (by decide), hsp]
  rw [e] at q
  exact s_ret E7 (ev_tup E7.trk (ea_cons (d := .str "straight") (by walk_at "ev") (ea_cons (ev_part E7.trk (lo := -sp) (hi := 0) (a := d.getD 9 0 % 3) (b := 2) (ev_pairC (a := -sp.num) (b := (sp.den : Int)) E7.trk (ev_neg (by walk_at "ev")) (by walk_at "ev") (encQ_neg sp)) (ev_pairC (a := 0) (b := 1) E7.trk (by walk_at "ev") (by walk_at "ev") enc_zero) (ev_I (i := d.getD 9 0) (j := 3) (ev_d (d := d) 9 (by rw [hd.len]; decide) (by walk_at "ev")) (by walk_at "ev") (by decide)) (by walk_at "ev") ((qs_neg f1).mono (by decide)) qs_zero (by unfold Sz; omega) (sz_lit (by decide)) (by decide)) (ea_cons (by walk_at "ev") (ea_cons (by walk_at "ev") ea_nil)))) (by simp)) q
theorem ok__law_scaleX (F : Fn K mg "_law_scale" s__law_scale) (c__law_number : Cal P w K mg base 2 "_law_number" ["_law_d"] (SpD dNumber)) (c__law_low : Cal P w K mg base 2 "_law_low" ["_law_top", "_law_bottom"] (SpD dLowest)) (c__law_plus : Cal P w K mg base 3 "_law_plus" ["_law_one", "_law_other"] (SpD dPlus)) (c__law_broken : Cal P w K mg base 4 "_law_broken" ["_law_d"] (SpD dBroken)) (c__law_part : Cal P w K mg base 4 "_law_part" ["_law_lo", "_law_hi", "_law_f", "_law_g"] (SpD dPart)) (c__law_words : Cal P w K mg base 1 "_law_words" ["_law_many", "_law_d"] (SpD dWords)) : Cal P w K mg base 5 "_law_scale" ["_law_kind", "_law_d"] (SpD dScaleX) := by
  refine cal_D F sc__law_scale (fun _ _ _ _ _ _ us hl => match us, hl with | [_, _], _ => rfl) dScaleX_len (by decide) ⟨_, fun f cdv A outer s H E hr =>
      (pss_cons (ps_set (i := 2) sc__law_scale.nd rfl (Or.inl rfl) (pe_op op_add pe_int (pe_ix (kx_list (K := K) rfl) (pv 1) pe_int (fun _ _ => rfl))))
      (pss_cons (ps_set (i := 3) sc__law_scale.nd rfl (Or.inl rfl) (pe_cal c__law_number hr (by decide) (by rfl) (pa_cons (pe_slice (ksl_list (K := K) rfl) (pv 1) (po_some pe_int) (po_some pe_int)) pa_nil)))
      (pss_cons (ps_set (i := 4) sc__law_scale.nd rfl (Or.inl rfl) (pe_cal c__law_low hr (by decide) (by rfl) (pa_cons (pe_op op_add pe_int (pe_op op_mod (pe_ix (kx_list (K := K) rfl) (pv 1) pe_int (fun _ _ => rfl)) (pe_ix (kx_list (K := K) rfl) (pe_lst (pa_cons pe_int (pa_cons pe_int (pa_cons (pe_op op_pow pe_int pe_int) pa_nil)))) (pe_ix (kx_list (K := K) rfl) (pv 1) pe_int (fun _ _ => rfl)) (fun _ _ => rfl)))) (pa_cons (pe_op op_add pe_int (pe_ix (kx_list (K := K) rfl) (pv 1) pe_int (fun _ _ => rfl))) pa_nil))))
      (pss_cons (ps_if (pt_cmpR op_eq (pv 0) pe_int (nomark _)) (pss_one (ps_ret (pe_tup (pa_cons pe_str (pa_cons (pv 3) (pa_cons (pe_cal c__law_plus hr (by decide) (by rfl) (pa_cons (pv 3) (pa_cons (pv 4) pa_nil))) (pa_cons (pv 2) pa_nil))))))) pss_nil)
      (pss_cons (ps_if (pt_cmpR op_eq (pv 0) pe_int (nomark _)) (pss_cons (ps_set (i := 5) sc__law_scale.nd rfl (Or.inl rfl) (pe_op op_sub (pe_op op_mod (pe_ix (kx_list (K := K) rfl) (pv 1) pe_int (fun _ _ => rfl)) pe_int) pe_int))
        (pss_cons (ps_if (pt_cmpR op_eq (pe_ix (kx_list (K := K) rfl) (pv 1) pe_int (fun _ _ => rfl)) pe_int (nomark _)) (pss_one (ps_set (i := 5) sc__law_scale.nd rfl (Or.inl rfl) (pe_op op_sub (pe_op op_mod (pe_ix (kx_list (K := K) rfl) (pv 1) pe_int (fun _ _ => rfl)) pe_int) pe_int))) pss_nil)
        (pss_one (ps_ret (pe_tup (pa_cons pe_str (pa_cons (pe_ix (kx_list (K := K) rfl) (pe_lst (pa_cons pe_int (pa_cons pe_int pa_nil))) (pe_ix (kx_list (K := K) rfl) (pv 1) pe_int (fun _ _ => rfl)) (fun _ _ => rfl)) (pa_cons (pv 5) (pa_cons (pe_op op_add pe_int (pe_op op_mod (pe_ix (kx_list (K := K) rfl) (pv 1) pe_int (fun _ _ => rfl)) (pe_ix (kx_list (K := K) rfl) (pe_lst (pa_cons pe_int (pa_cons pe_int (pa_cons pe_int pa_nil)))) (pe_ix (kx_list (K := K) rfl) (pv 1) pe_int (fun _ _ => rfl)) (fun _ _ => rfl)))) (pa_cons (pv 2) pa_nil)))))))))) pss_nil)
      (pss_cons (ps_if (pt_cmpR op_eq (pv 0) pe_int (nomark _)) (pss_one (ps_ret (pe_cal c__law_broken hr (by decide) (by rfl) (pa_cons (pv 1) pa_nil)))) pss_nil)
      (pss_cons (ps_if (pt_cmpR op_eq (pv 0) pe_int (nomark _)) (pss_one (ps_ret (pe_tup (pa_cons pe_str (pa_cons (pe_cal c__law_part hr (by decide) (by rfl) (pa_cons (pe_tup (pa_cons (pe_un un_neg (pe_ix (kx_tup (K := K) rfl) (pv 4) pe_int (fun _ _ => rfl))) (pa_cons (pe_ix (kx_tup (K := K) rfl) (pv 4) pe_int (fun _ _ => rfl)) pa_nil))) (pa_cons (pe_tup (pa_cons pe_int (pa_cons pe_int pa_nil))) (pa_cons (pe_op op_mod (pe_ix (kx_list (K := K) rfl) (pv 1) pe_int (fun _ _ => rfl)) pe_int) (pa_cons pe_int pa_nil))))) (pa_cons (pv 4) (pa_cons (pv 2) pa_nil))))))) pss_nil)
      (pss_one (ps_ret (pe_tup (pa_cons pe_str (pa_cons (pe_cal c__law_words hr (by decide) (by rfl) (pa_cons (pe_op op_add pe_int (pe_op op_mod (pe_ix (kx_list (K := K) rfl) (pv 1) pe_int (fun _ _ => rfl)) (pe_ix (kx_list (K := K) rfl) (pe_lst (pa_cons pe_int (pa_cons pe_int (pa_cons pe_int pa_nil)))) (pe_ix (kx_list (K := K) rfl) (pv 1) pe_int (fun _ _ => rfl)) (fun _ _ => rfl)))) (pa_cons (pv 1) pa_nil))) (pa_cons (pv 2) pa_nil))))))))))))), fun ds r hd B H σ D E0 q => ?_⟩
  obtain ⟨d, rfl, hd, rfl⟩ := hd

  have h0 : 0 ≤ d.getD 0 0 ∧ d.getD 0 0 < 4000 := hd.b 0 (by decide)
  have h1 : 0 ≤ d.getD 1 0 ∧ d.getD 1 0 < 2 := hd.b 1 (by decide)
  have h2 : 0 ≤ d.getD 2 0 ∧ d.getD 2 0 < 4 := hd.b 2 (by decide)
  have h3 : 0 ≤ d.getD 3 0 ∧ d.getD 3 0 < 10 ^ 9 := hd.b 3 (by decide)
  have h4 : 0 ≤ d.getD 4 0 ∧ d.getD 4 0 < 10 ^ 9 := hd.b 4 (by decide)
  have h5 : 0 ≤ d.getD 5 0 ∧ d.getD 5 0 < 90 := hd.b 5 (by decide)
  have h6 : 0 ≤ d.getD 6 0 ∧ d.getD 6 0 < 3 := hd.b 6 (by decide)
  have h7 : 0 ≤ d.getD 7 0 ∧ d.getD 7 0 < 10 ^ 9 := hd.b 7 (by decide)
  have h8 : 0 ≤ d.getD 8 0 ∧ d.getD 8 0 < 60 := hd.b 8 (by decide)
  have h9 : 0 ≤ d.getD 9 0 ∧ d.getD 9 0 < 60 := hd.b 9 (by decide)
  obtain ⟨f1, f2, f3, f4, f5⟩ := span_facts hd
  refine ss_set E0 (d := .int (1 + d.getD 0 0)) (ev_I0 (i := 1) (j := d.getD 0 0) (by walk_at "ev") (ev_d (d := d) 0 (by rw [hd.len]; decide) (by walk_at "ev"))) (fun σ1 H1 E1 => ?_)
  refine ss_set E1 (d := encQ (lo0 d)) (ev_number E1.trk (Ev.is (ev_slL (lo := some 1) (hi := some 6) E1.trk (by walk_at "ev") (eo_some (by walk_at "ev")) (eo_some (by walk_at "ev"))) (congrArg PyData.list (cut_list (d := d) (a := 1) (n := 5) (by rw [hd.len]; decide)))) h1 h2 h3 h4 h5) (fun σ2 H2 E2 => ?_)
  refine ss_set E2 (d := encQ (spanQ d)) (ev_lowest E2.trk (a := 1 + d.getD 7 0 % [10, 1000, 10 ^ 9].getD (d.getD 6 0).toNat 0) (b := 1 + d.getD 8 0) (ev_I0 (i := 1) (j := d.getD 7 0 % [10, 1000, 10 ^ 9].getD (d.getD 6 0).toNat 0) (by walk_at "ev") (ev_I (i := d.getD 7 0) (j := [10, 1000, 10 ^ 9].getD (d.getD 6 0).toNat 0) (ev_d (d := d) 7 (by rw [hd.len]; decide) (by walk_at "ev")) (ev_pick (xs := [10, 1000, 10 ^ 9]) (i := d.getD 6 0) (ev_lst E2.trk (ea_cons (by walk_at "ev") (ea_cons (by walk_at "ev") (ea_cons (ev_powI (i := 10) (n := 9) (by walk_at "ev") ev_int (by decide) (by decide) rfl) ea_nil))) (by simp)) (ev_d (d := d) 6 (by rw [hd.len]; decide) (by walk_at "ev")) h6.1 h6.2) f5)) (ev_I0 (i := 1) (j := d.getD 8 0) (by walk_at "ev") (ev_d (d := d) 8 (by rw [hd.len]; decide) (by walk_at "ev"))) (by omega) (by unfold Sz; omega)) (fun σ3 H3 E3 => ?_)
  refine ss_ifF E3 (et_test (ev_eqI (i := 4) (j := 0) (by walk_at "ev") (by walk_at "ev"))) (fun H4 E4 => ?_)
  refine ss_ifF E4 (et_test (ev_eqI (i := 4) (j := 1) (by walk_at "ev") (by walk_at "ev"))) (fun H5 E5 => ?_)
  refine ss_ifF E5 (et_test (ev_eqI (i := 4) (j := 2) (by walk_at "ev") (by walk_at "ev"))) (fun H6 E6 => ?_)
  refine ss_ifF E6 (et_test (ev_eqI (i := 4) (j := 3) (by walk_at "ev") (by walk_at "ev"))) (fun H7 E7 => ?_)
  have hm : (0 : Int) < ([4, 12, 60] : List Int).getD (d.getD 6 0).toNat 0 ∧ ([4, 12, 60] : List Int).getD (d.getD 6 0).toNat 0 ≤ 60 := pick3 (P := fun z => 0 < z ∧ z ≤ 60) rfl h6 (by decide) (by decide) (by decide)
  have e0 := Int.emod_nonneg (d.getD 7 0) (show ([4, 12, 60] : List Int).getD (d.getD 6 0).toNat 0 ≠ 0 by omega)
  have e1 := Int.emod_lt_of_pos (d.getD 7 0) hm.1
  have em : 1 + d.getD 7 0 % [4, 12, 60].getD (d.getD 6 0).toNat 0 = (manyX d : Int) := by unfold manyX; omega
  exact s_ret E7 (ev_tup E7.trk (ea_cons (d := .str "order") (by walk_at "ev") (ea_cons (ev_words (many := manyX d) E7.trk (Ev.is (ev_I0 (i := 1) (j := d.getD 7 0 % [4, 12, 60].getD (d.getD 6 0).toNat 0) (by walk_at "ev") (ev_I (i := d.getD 7 0) (j := [4, 12, 60].getD (d.getD 6 0).toNat 0) (ev_d (d := d) 7 (by rw [hd.len]; decide) (by walk_at "ev")) (ev_pick (xs := [4, 12, 60]) (i := d.getD 6 0) (ev_lst E7.trk (ea_cons (by walk_at "ev") (ea_cons (by walk_at "ev") (ea_cons (by walk_at "ev") ea_nil))) (by simp)) (ev_d (d := d) 6 (by rw [hd.len]; decide) (by walk_at "ev")) h6.1 h6.2) hm.1)) (congrArg PyData.int em)) (by walk_at "ev") (by omega) hd) (ea_cons (by walk_at "ev") ea_nil))) (by simp)) q
end
end M

end
section
set_option maxHeartbeats 4000000
set_option exponentiation.threshold 10000
namespace M
open PySem PySem.Spec PyProof.Rows L2

/-! ### cells, the field, the items -/
def topsE : List Int := [14, 10 ^ 9, 4, 10 ^ 9, 60]
structure EOk (e : List Int) : Prop where
  len : e.length = 5
  b : ∀ i, i < 5 → 0 ≤ e.getD i 0 ∧ e.getD i 0 < topsE.getD i 0
def capOf (base : Int) : Int := [0, 0, 130, 0, 0, 0, 0, 0, 0, 0, 40].getD base.toNat 0
def minI (i j : Int) : Int := if j < i then j else i
def maxI (i j : Int) : Int := if j > i then j else i
def turnAt (low many : Int) (e : List Int) : Int := if e.getD 0 0 = 2 then low - 1 else if e.getD 0 0 = 1 then low + many else low + e.getD 3 0 % many
def clampT (base low many : Int) (e : List Int) : Int := maxI (minI (turnAt low many e) (capOf base)) (-capOf base)
def turnCell (base low many : Int) (e : List Int) (f g : Int) : Rat :=
  if e.getD 0 0 = 3 then fr (-f) g else fr ((g + (base - 1) * f) * pw base (clampT base low many e)) (g * pw base (-clampT base low many e))
def dTurnCell (ds : List PyData) (r : PyData) : Prop := ∃ (base low many len : Int) (e : List Int) (f g : Int), ds = [encYS (.turns base low many len), .list (e.map .int), .int f, .int g] ∧ (YS.turns base low many len).Ok ∧ EOk e ∧ (0 ≤ f ∧ f ≤ 8000) ∧ (1 ≤ g ∧ g ≤ 8000) ∧ r = encQ (turnCell base low many e f g)
theorem dTurnCell_len : ∀ ds r, dTurnCell ds r → ds.length = 4 := by rintro _ _ ⟨_, _, _, _, _, _, _, rfl, _⟩; rfl
def cellX (ws : List Str) (e : List Int) : Option Str := if e.getD 0 0 = 0 then none else if e.getD 0 0 = 1 then some (ch (e.getD 1 0 % 26)) else ws[(e.getD 1 0 % (ws.length : Int)).toNat]?
def dCellX (ds : List PyData) (r : PyData) : Prop := ∃ (ws : List Str) (len : Int) (e : List Int), ds = [encX ws len, .list (e.map .int)] ∧ XOk ws len ∧ EOk e ∧ r = encC (cellX ws e)
theorem dCellX_len : ∀ ds r, dCellX ds r → ds.length = 2 := by rintro _ _ ⟨_, _, _, rfl, _⟩; rfl
def cellG (s : YS) (e : List Int) : Int := [1 + e.getD 3 0 % 12, 2 * s.len, 1 + e.getD 3 0 % 1000, 2].getD (e.getD 2 0).toNat 0
def cellF0 (s : YS) (e : List Int) : Int := e.getD 1 0 % (cellG s e + 1)
def cellF (s : YS) (e : List Int) : Int := if e.getD 0 0 = 2 then -1 - (if e.getD 0 0 = 1 then cellG s e + 1 + cellF0 s e else cellF0 s e) else if e.getD 0 0 = 1 then cellG s e + 1 + cellF0 s e else cellF0 s e
def partQ (lo hi : Rat) (f g : Int) : Rat := lo + (hi - lo) * ((f : Rat) / (g : Rat))
def pcAt (ps : List Pc) (i : Nat) : Pc := ps.getD i (0, 0, 0, 0)
def cellY (s : YS) (e : List Int) : Option Rat := if e.getD 0 0 = 0 then none else match s with
  | .turns base low many len => some (turnCell base low many e (cellF0 s e) (cellG s e))
  | .straight lo hi len => some (partQ lo hi (cellF s e) (cellG s e))
  | .broken ps len => if e.getD 0 0 = 3 ∧ 0 < e.getD 4 0 % (ps.length : Int) then some (partQ (pcAt ps ((e.getD 4 0 % (ps.length : Int)).toNat - 1)).2.1 (pcAt ps (e.getD 4 0 % (ps.length : Int)).toNat).1 (cellF s e) (cellG s e))
    else some (partQ (pcAt ps (e.getD 4 0 % (ps.length : Int)).toNat).1 (pcAt ps (e.getD 4 0 % (ps.length : Int)).toNat).2.1 (cellF s e) (cellG s e))
def dCellY (ds : List PyData) (r : PyData) : Prop := ∃ (s : YS) (e : List Int), ds = [encYS s, .list (e.map .int)] ∧ s.Ok ∧ EOk e ∧ r = encO (cellY s e)
theorem dCellY_len : ∀ ds r, dCellY ds r → ds.length = 2 := by rintro _ _ ⟨_, _, rfl, _⟩; rfl
theorem nm_bs : decide (("broken" : Str) = "straight") = false := by decide +kernel
theorem ys_len {s : YS} (h : s.Ok) : 1 ≤ s.len ∧ s.len ≤ 4000 := by
  cases s with
  | straight lo hi len => exact ⟨h.2.2.2.1, h.2.2.2.2⟩
  | turns base low many len => exact ⟨h.2.2.2.2.2.1, h.2.2.2.2.2.2⟩
  | broken ps len => exact ⟨h.2.2.2.1, h.2.2.2.2⟩
theorem cell_gf {s : YS} {e : List Int} (hs : s.Ok) (he : EOk e) : (1 ≤ cellG s e ∧ cellG s e ≤ 8000) ∧ (0 ≤ cellF0 s e ∧ cellF0 s e ≤ 8000) ∧ Sz 20 (cellF s e) := by
  obtain ⟨l1, l2⟩ := ys_len hs
  have h1 : 0 ≤ e.getD 1 0 ∧ e.getD 1 0 < 10 ^ 9 := he.b 1 (by decide)
  have h2 : 0 ≤ e.getD 2 0 ∧ e.getD 2 0 < 4 := he.b 2 (by decide)
  have h3 : 0 ≤ e.getD 3 0 ∧ e.getD 3 0 < 10 ^ 9 := he.b 3 (by decide)
  have hg : 1 ≤ cellG s e ∧ cellG s e ≤ 8000 := by
    unfold cellG
    have : e.getD 2 0 = 0 ∨ e.getD 2 0 = 1 ∨ e.getD 2 0 = 2 ∨ e.getD 2 0 = 3 := by omega
    rcases this with z | z | z | z <;> rw [z]
    · show 1 ≤ 1 + e.getD 3 0 % 12 ∧ 1 + e.getD 3 0 % 12 ≤ 8000
      omega
    · show 1 ≤ 2 * s.len ∧ 2 * s.len ≤ 8000
      omega
    · show 1 ≤ 1 + e.getD 3 0 % 1000 ∧ 1 + e.getD 3 0 % 1000 ≤ 8000
      omega
    · show (1 : Int) ≤ 2 ∧ (2 : Int) ≤ 8000
      omega
  have hf : 0 ≤ cellF0 s e ∧ cellF0 s e ≤ 8000 := by
    unfold cellF0
    have a := Int.emod_nonneg (e.getD 1 0) (show cellG s e + 1 ≠ 0 by omega)
    have b := Int.emod_lt_of_pos (e.getD 1 0) (show 0 < cellG s e + 1 by omega)
    omega
  refine ⟨hg, hf, ?_⟩
  unfold cellF Sz
  generalize cellF0 s e = f at *
  generalize cellG s e = g at *
  split <;> split <;> omega
theorem cap_le {base : Int} (h : base = 2 ∨ base = 10) : 0 ≤ capOf base ∧ capOf base ≤ 130 ∧ (base = 2 → capOf base = 130) ∧ (base = 10 → capOf base = 40) := by
  rcases h with z | z <;> subst z
  · exact ⟨by decide, by decide, fun _ => rfl, fun z => by omega⟩
  · exact ⟨by decide, by decide, fun z => by omega, fun _ => rfl⟩
theorem clampT_le {base low many : Int} {e : List Int} (h : base = 2 ∨ base = 10) : -capOf base ≤ clampT base low many e ∧ clampT base low many e ≤ capOf base := by
  obtain ⟨c0, _⟩ := cap_le h
  unfold clampT maxI minI
  generalize turnAt low many e = t at *
  generalize capOf base = c at *
  split <;> split at * <;> omega
section
variable {K : PySem.W.Frag} {C B : List Addr} {σ : L2.St} {H H0 H' : Hp} {G : List Sl} {ta tb tc td te : TE} {E : XK} {i : Int} {e : List Int}
theorem ev_turnCell {base low many len f g : Int} (ht : Trk B H) (h1 : Ev B ta σ H (encYS (.turns base low many len))) (h2 : Ev B tb σ H (.list (e.map .int))) (h3 : Ev B tc σ H (.int f)) (h4 : Ev B td σ H (.int g)) (hs : (YS.turns base low many len).Ok) (he : EOk e) (hf : 0 ≤ f ∧ f ≤ 8000) (hg : 1 ≤ g ∧ g ≤ 8000) : Ev B (tCall (SpD dTurnCell) [] E (tCons ta (tCons tb (tCons tc (tCons td tNil))))) σ H (encQ (turnCell base low many e f g)) := ev_call ht (ea_cons h1 (ea_cons h2 (ea_cons h3 (ea_cons h4 ea_nil)))) ⟨base, low, many, len, e, f, g, rfl, hs, he, hf, hg, rfl⟩
theorem ev_cellX {ws : List Str} {len : Int} (ht : Trk B H) (h1 : Ev B ta σ H (encX ws len)) (h2 : Ev B tb σ H (.list (e.map .int))) (hx : XOk ws len) (he : EOk e) : Ev B (tCall (SpD dCellX) [] E (tCons ta (tCons tb tNil))) σ H (encC (cellX ws e)) := ev_call ht (ea_cons h1 (ea_cons h2 ea_nil)) ⟨ws, len, e, rfl, hx, he, rfl⟩
theorem ev_cellY {s : YS} (ht : Trk B H) (h1 : Ev B ta σ H (encYS s)) (h2 : Ev B tb σ H (.list (e.map .int))) (hs : s.Ok) (he : EOk e) : Ev B (tCall (SpD dCellY) [] E (tCons ta (tCons tb tNil))) σ H (encO (cellY s e)) := ev_call ht (ea_cons h1 (ea_cons h2 ea_nil)) ⟨s, e, rfl, hs, he, rfl⟩
end

local macro_rules | `(tactic| walk_at "ev") => `(tactic| first
  | with_reducible exact ev_int
  | with_reducible exact ev_str
  | with_reducible exact ev_bl
  | with_reducible exact ev_non
  | ((with_reducible refine' ev_var (by assumption) ?_); rfl)
  | ((with_reducible refine ev_I0 (i := ?i) (j := ?j) ?h1 ?h2); (case h1 => walk_at "ev"); (case h2 => walk_at "ev"))
  | ((with_reducible refine ev_I0b (i := ?i) (j := ?j) ?h1 ?h2); (case h1 => walk_at "ev"); (case h2 => walk_at "ev"))
  | ((with_reducible refine ev_eqI (i := ?i) (j := ?j) ?h1 ?h2); (case h1 => walk_at "ev"); (case h2 => walk_at "ev"))
  | ((with_reducible refine ev_neI (i := ?i) (j := ?j) ?h1 ?h2); (case h1 => walk_at "ev"); (case h2 => walk_at "ev"))
  | ((with_reducible refine ev_neg (i := ?i) ?h1); (case h1 => walk_at "ev"))
  | ((with_reducible refine ev_fst (x := ?x) ?h1); (case h1 => walk_at "ev"))
  | ((with_reducible refine ev_snd (x := ?x) ?h1); (case h1 => walk_at "ev"))
  | ((with_reducible refine ev_fstP (p := ?x) ?h1); (case h1 => walk_at "ev"))
  | ((with_reducible refine ev_sndP (p := ?x) ?h1); (case h1 => walk_at "ev"))
  | ((with_reducible refine ev_ixT (ds := ?ds) (i := ?i) ?h1 ?h2 ?h3); (case h1 => walk_at "ev"); (case h2 => walk_at "ev"); (case h3 => rfl))
  | ((with_reducible refine ev_ixL (ds := ?ds) (i := ?i) ?h1 ?h2 ?h3); (case h1 => walk_at "ev"); (case h2 => walk_at "ev"); (case h3 => rfl))
  | ((with_reducible refine ev_pair1 (a := ?a) (Evn.trk (by assumption)) ?h1); (case h1 => walk_at "ev"))
  | ((with_reducible refine ev_abs (i := ?i) ?h1); (case h1 => walk_at "ev")))

section
variable {P : Program} {w : World} {K : PySem.W.Frag} {mg : Str → Option Value} {base : Heap}
theorem sc__law_turn_cell : FnScope ["_law_scale_here", "_law_e", "_law_f", "_law_g", "_law_base", "_law_at", "_law_cap", "_law_top"] ["_law_scale_here", "_law_e", "_law_f", "_law_g"] (defScope s__law_turn_cell) := ⟨rfl, rfl, rfl, by decide +kernel, rfl, by decide +kernel, by decide +kernel⟩
theorem ok__law_turn_cell (F : Fn K mg "_law_turn_cell" s__law_turn_cell) (c__law_low : Cal P w K mg base 2 "_law_low" ["_law_top", "_law_bottom"] (SpD dLowest)) (c__law_power : Cal P w K mg base 1 "_law_power" ["_law_base", "_law_many"] (SpD dPower)) (m_min : mg "min" = none) (m_max : mg "max" = none) : Cal P w K mg base 3 "_law_turn_cell" ["_law_scale_here", "_law_e", "_law_f", "_law_g"] (SpD dTurnCell) := by
  refine cal_D F sc__law_turn_cell (fun _ _ _ _ _ _ us hl => match us, hl with | [_, _, _, _], _ => rfl) dTurnCell_len (by decide) ⟨_, fun f cdv A outer s H E hr =>
      (pss_cons (ps_set (i := 4) sc__law_turn_cell.nd rfl (Or.inl rfl) (pe_ix (kx_tup (K := K) rfl) (pv 0) pe_int (fun _ _ => rfl)))
      (pss_cons (ps_set (i := 5) sc__law_turn_cell.nd rfl (Or.inl rfl) (pe_op op_add (pe_ix (kx_tup (K := K) rfl) (pv 0) pe_int (fun _ _ => rfl)) (pe_op op_mod (pe_ix (kx_list (K := K) rfl) (pv 1) pe_int (fun _ _ => rfl)) (pe_ix (kx_tup (K := K) rfl) (pv 0) pe_int (fun _ _ => rfl)))))
      (pss_cons (ps_if (pt_cmpR op_eq (pe_ix (kx_list (K := K) rfl) (pv 1) pe_int (fun _ _ => rfl)) pe_int (nomark _)) (pss_one (ps_set (i := 5) sc__law_turn_cell.nd rfl (Or.inl rfl) (pe_op op_add (pe_ix (kx_tup (K := K) rfl) (pv 0) pe_int (fun _ _ => rfl)) (pe_ix (kx_tup (K := K) rfl) (pv 0) pe_int (fun _ _ => rfl))))) pss_nil)
      (pss_cons (ps_if (pt_cmpR op_eq (pe_ix (kx_list (K := K) rfl) (pv 1) pe_int (fun _ _ => rfl)) pe_int (nomark _)) (pss_one (ps_set (i := 5) sc__law_turn_cell.nd rfl (Or.inl rfl) (pe_op op_sub (pe_ix (kx_tup (K := K) rfl) (pv 0) pe_int (fun _ _ => rfl)) pe_int))) pss_nil)
      (pss_cons (ps_if (pt_cmpR op_eq (pe_ix (kx_list (K := K) rfl) (pv 1) pe_int (fun _ _ => rfl)) pe_int (nomark _)) (pss_one (ps_ret (pe_cal c__law_low hr (by decide) (by rfl) (pa_cons (pe_un un_neg (pv 2)) (pa_cons (pv 3) pa_nil))))) pss_nil)
      (pss_cons (ps_set (i := 6) sc__law_turn_cell.nd rfl (Or.inl rfl) (pe_ix (kx_list (K := K) rfl) (pe_lst (pa_cons pe_int (pa_cons pe_int (pa_cons pe_int (pa_cons pe_int (pa_cons pe_int (pa_cons pe_int (pa_cons pe_int (pa_cons pe_int (pa_cons pe_int (pa_cons pe_int (pa_cons pe_int pa_nil)))))))))))) (pv 4) (fun _ _ => rfl)))
      (pss_cons (ps_set (i := 5) sc__law_turn_cell.nd rfl (Or.inl rfl) (pe_callB (call_max2 rfl) (by rfl) m_max bt_max (pa_cons (pe_callB (call_min2 rfl) (by rfl) m_min bt_min (pa_cons (pv 5) (pa_cons (pv 6) pa_nil))) (pa_cons (pe_un un_neg (pv 6)) pa_nil))))
      (pss_cons (ps_set (i := 7) sc__law_turn_cell.nd rfl (Or.inl rfl) (pe_op op_mulW (pe_op op_add (pv 3) (pe_op op_mulW (pe_op op_sub (pv 4) pe_int) (pv 2))) (pe_cal c__law_power hr (by decide) (by rfl) (pa_cons (pv 4) (pa_cons (pv 5) pa_nil)))))
      (pss_one (ps_ret (pe_cal c__law_low hr (by decide) (by rfl) (pa_cons (pv 7) (pa_cons (pe_op op_mulW (pv 3) (pe_cal c__law_power hr (by decide) (by rfl) (pa_cons (pv 4) (pa_cons (pe_un un_neg (pv 5)) pa_nil)))) pa_nil))))))))))))), fun ds r hd B H σ D E0 q => ?_⟩
  obtain ⟨b, low, many, len, e, f, g, rfl, hs, he, hf, hg, rfl⟩ := hd
  obtain ⟨hb, hl1, hl2, hm1, hm2, hn1, hn2⟩ := id hs
  have h0 : 0 ≤ e.getD 0 0 ∧ e.getD 0 0 < 14 := he.b 0 (by decide)
  have h3 : 0 ≤ e.getD 3 0 ∧ e.getD 3 0 < 10 ^ 9 := he.b 3 (by decide)
  have E0 : Evn [] H B σ H [.dat (.tuple [.str "turns", .int b, .int low, .int many, .int len]), .dat (.list (e.map .int)), .dat (.int f), .dat (.int g), .no, .no, .no, .no] := E0
  refine ss_set E0 (d := .int b) (by walk_at "ev") (fun σ1 H1 E1 => ?_)
  refine ss_set E1 (d := .int (low + e.getD 3 0 % many)) (ev_I0 (i := low) (j := e.getD 3 0 % many) (by walk_at "ev") (ev_I (i := e.getD 3 0) (j := many) (ev_d (d := e) 3 (by rw [he.len]; decide) (by walk_at "ev")) (by walk_at "ev") (by omega))) (fun σ2 H2 E2 => ?_)
  refine ss_ifSet (d := .int (if e.getD 0 0 = 1 then low + many else low + e.getD 3 0 % many)) E2 (et_test (ev_eqI (i := e.getD 0 0) (j := 1) (ev_d (d := e) 0 (by rw [he.len]; decide) (by walk_at "ev")) (by walk_at "ev"))) (fun hb H7 e7 => ?_) (fun hb => ?_) (fun σ3 H3 E3 => ?_)
  · have E7 := E2.same e7
    rw [if_pos (of_decide_eq_true hb)]
    exact ev_I0 (i := low) (j := many) (by walk_at "ev") (by walk_at "ev")
  · rw [if_neg (of_decide_eq_false hb)]
    rfl
  refine ss_ifSet (d := .int (turnAt low many e)) E3 (et_test (ev_eqI (i := e.getD 0 0) (j := 2) (ev_d (d := e) 0 (by rw [he.len]; decide) (by walk_at "ev")) (by walk_at "ev"))) (fun hb H7 e7 => ?_) (fun hb => ?_) (fun σ4 H4 E4 => ?_)
  · have E7 := E3.same e7
    unfold turnAt
    rw [if_pos (of_decide_eq_true hb)]
    exact ev_I0 (i := low) (j := 1) (by walk_at "ev") (by walk_at "ev")
  · unfold turnAt
    rw [if_neg (of_decide_eq_false hb)]
    rfl
  have E4 : Evn [] H B σ4 H4 [.dat (.tuple [.str "turns", .int b, .int low, .int many, .int len]), .dat (.list (e.map .int)), .dat (.int f), .dat (.int g), .dat (.int b), .dat (.int (turnAt low many e)), .no, .no] := E4
  clear E0 E1 E2 E3
  refine ss_ifR E4 (et_test (ev_eqI (i := e.getD 0 0) (j := 3) (ev_d (d := e) 0 (by rw [he.len]; decide) (by walk_at "ev")) (by walk_at "ev"))) (fun hb3 H5 E5 => ?_) (fun hb3 H5 E5 => ?_)
  · have e3 : turnCell b low many e f g = fr (-f) g := by unfold turnCell; rw [if_pos (of_decide_eq_true hb3)]
    rw [e3] at q
    exact s_ret E5 (ev_lowest E5.trk (a := -f) (b := g) (ev_neg (by walk_at "ev")) (by walk_at "ev") (by omega) (by unfold Sz; omega)) q
  obtain ⟨c0, c1, c2, c3⟩ := cap_le hb
  obtain ⟨k0, k1⟩ := clampT_le (low := low) (many := many) (e := e) hb
  have e3 : turnCell b low many e f g = fr ((g + (b - 1) * f) * pw b (clampT b low many e)) (g * pw b (-clampT b low many e)) := by unfold turnCell; rw [if_neg (of_decide_eq_false hb3)]
  rw [e3] at q
  refine ss_set E5 (d := .int (capOf b)) (ev_pick (xs := [0, 0, 130, 0, 0, 0, 0, 0, 0, 0, 40]) (i := b) (ev_lst E5.trk (ea_cons (by walk_at "ev") (ea_cons (by walk_at "ev") (ea_cons (by walk_at "ev") (ea_cons (by walk_at "ev") (ea_cons (by walk_at "ev") (ea_cons (by walk_at "ev") (ea_cons (by walk_at "ev") (ea_cons (by walk_at "ev") (ea_cons (by walk_at "ev") (ea_cons (by walk_at "ev") (ea_cons (by walk_at "ev") ea_nil))))))))))) (by simp)) (by walk_at "ev") (by omega) (by simp; omega)) (fun σ6 H6 E6 => ?_)
  refine ss_set E6 (d := .int (clampT b low many e)) (ev_max (i := minI (turnAt low many e) (capOf b)) (j := -capOf b) (ev_min (i := turnAt low many e) (j := capOf b) (by walk_at "ev") (by walk_at "ev")) (ev_neg (by walk_at "ev"))) (fun σ7 H7 E7 => ?_)
  generalize hc : clampT b low many e = t at *
  have E7 : Evn [] H B σ7 H7 [.dat (.tuple [.str "turns", .int b, .int low, .int many, .int len]), .dat (.list (e.map .int)), .dat (.int f), .dat (.int g), .dat (.int b), .dat (.int t), .dat (.int (capOf b)), .no] := E7
  have sq := pw_sz (n := -t) hb (by omega)
  have sp := pw_sz (n := t) hb (by omega)
  have pq := pw_pos (show 0 < b by omega) (-t)
  have sb1 : Sz 4 (b - 1) := by unfold Sz; omega
  have sf : Sz 13 f := by unfold Sz; omega
  have sg : Sz 13 g := by unfold Sz; omega
  have m1 := sz_mul sb1 sf
  have m2 := sz_add sg m1
  refine ss_set E7 (d := .int ((g + (b - 1) * f) * pw b t)) (ev_I (i := g + (b - 1) * f) (j := pw b t) (ev_I0 (i := g) (j := (b - 1) * f) (by walk_at "ev") (ev_I (i := b - 1) (j := f) (ev_I0 (i := b) (j := 1) (by walk_at "ev") (by walk_at "ev")) (by walk_at "ev") (cm sb1 sf (by decide) (by decide)))) (ev_power E7.trk (a := b) (b := t) (by walk_at "ev") (by walk_at "ev") hb (by omega) (by omega)) (cm m2 sp (by decide) (by decide))) (fun σ8 H8 E8 => ?_)
  exact s_ret E8 (ev_lowest E8.trk (a := (g + (b - 1) * f) * pw b t) (b := g * pw b (-t)) (by walk_at "ev") (ev_I (i := g) (j := pw b (-t)) (by walk_at "ev") (ev_power E8.trk (a := b) (b := -t) (by walk_at "ev") (ev_neg (by walk_at "ev")) hb (by omega) (by omega)) (cm sg sq (by decide) (by decide))) (Int.mul_pos (by omega) pq) (sz_mono (sz_mul sg sq) (by decide))) q
theorem sc__law_cell : FnScope ["_law_scale_here", "_law_e", "_law_g", "_law_f", "_law_pieces", "_law_at"] ["_law_scale_here", "_law_e"] (defScope s__law_cell) := ⟨rfl, rfl, rfl, by decide +kernel, rfl, by decide +kernel, by decide +kernel⟩
theorem ok__law_cellX (F : Fn K mg "_law_cell" s__law_cell) (c__law_turn_cell : Cal P w K mg base 3 "_law_turn_cell" ["_law_scale_here", "_law_e", "_law_f", "_law_g"] (SpD dTurnCell)) (c__law_part : Cal P w K mg base 4 "_law_part" ["_law_lo", "_law_hi", "_law_f", "_law_g"] (SpD dPart)) (m_len : mg "len" = none) : Cal P w K mg base 5 "_law_cell" ["_law_scale_here", "_law_e"] (SpD dCellX) := by
  refine cal_D F sc__law_cell (fun _ _ _ _ _ _ us hl => match us, hl with | [_, _], _ => rfl) dCellX_len (by decide) ⟨_, fun f cdv A outer s H E hr =>
      (pss_cons (ps_if (pt_cmpR op_eq (pe_ix (kx_list (K := K) rfl) (pv 1) pe_int (fun _ _ => rfl)) pe_int (nomark _)) (pss_one (ps_ret pe_non)) pss_nil)
      (pss_cons (ps_if (pt_cmpR op_eq (pe_ix (kx_tup (K := K) rfl) (pv 0) pe_int (fun _ _ => rfl)) pe_str (nomark _)) (pss_cons (ps_if (pt_cmpR op_eq (pe_ix (kx_list (K := K) rfl) (pv 1) pe_int (fun _ _ => rfl)) pe_int (nomark _)) (pss_one (ps_ret (pe_ix ix_str pe_str (pe_op op_mod (pe_ix (kx_list (K := K) rfl) (pv 1) pe_int (fun _ _ => rfl)) pe_int) (fun _ _ => rfl)))) pss_nil)
        (pss_one (ps_ret (pe_ix (kx_list (K := K) rfl) (pe_ix (kx_tup (K := K) rfl) (pv 0) pe_int (fun _ _ => rfl)) (pe_op op_mod (pe_ix (kx_list (K := K) rfl) (pv 1) pe_int (fun _ _ => rfl)) (pe_callB (kcall_len (K := K) rfl) (by rfl) m_len bt_len (pa_cons (pe_ix (kx_tup (K := K) rfl) (pv 0) pe_int (fun _ _ => rfl)) pa_nil))) (fun _ _ => rfl))))) pss_nil)
      (pss_cons (ps_set (i := 2) sc__law_cell.nd rfl (Or.inl rfl) (pe_ix (kx_list (K := K) rfl) (pe_lst (pa_cons (pe_op op_add pe_int (pe_op op_mod (pe_ix (kx_list (K := K) rfl) (pv 1) pe_int (fun _ _ => rfl)) pe_int)) (pa_cons (pe_op op_mulW pe_int (pe_ix (kx_tup (K := K) rfl) (pv 0) (pe_un un_neg pe_int) (fun _ _ => rfl))) (pa_cons (pe_op op_add pe_int (pe_op op_mod (pe_ix (kx_list (K := K) rfl) (pv 1) pe_int (fun _ _ => rfl)) pe_int)) (pa_cons pe_int pa_nil))))) (pe_ix (kx_list (K := K) rfl) (pv 1) pe_int (fun _ _ => rfl)) (fun _ _ => rfl)))
      (pss_cons (ps_set (i := 3) sc__law_cell.nd rfl (Or.inl rfl) (pe_op op_mod (pe_ix (kx_list (K := K) rfl) (pv 1) pe_int (fun _ _ => rfl)) (pe_op op_add (pv 2) pe_int)))
      (pss_cons (ps_if (pt_cmpR op_eq (pe_ix (kx_tup (K := K) rfl) (pv 0) pe_int (fun _ _ => rfl)) pe_str (nomark _)) (pss_one (ps_ret (pe_cal c__law_turn_cell hr (by decide) (by rfl) (pa_cons (pv 0) (pa_cons (pv 1) (pa_cons (pv 3) (pa_cons (pv 2) pa_nil))))))) pss_nil)
      (pss_cons (ps_if (pt_cmpR op_eq (pe_ix (kx_list (K := K) rfl) (pv 1) pe_int (fun _ _ => rfl)) pe_int (nomark _)) (pss_one (ps_set (i := 3) sc__law_cell.nd rfl (Or.inl rfl) (pe_op op_add (pe_op op_add (pv 2) pe_int) (pv 3)))) pss_nil)
      (pss_cons (ps_if (pt_cmpR op_eq (pe_ix (kx_list (K := K) rfl) (pv 1) pe_int (fun _ _ => rfl)) pe_int (nomark _)) (pss_one (ps_set (i := 3) sc__law_cell.nd rfl (Or.inl rfl) (pe_op op_sub (pe_un un_neg pe_int) (pv 3)))) pss_nil)
      (pss_cons (ps_if (pt_cmpR op_eq (pe_ix (kx_tup (K := K) rfl) (pv 0) pe_int (fun _ _ => rfl)) pe_str (nomark _)) (pss_one (ps_ret (pe_cal c__law_part hr (by decide) (by rfl) (pa_cons (pe_ix (kx_tup (K := K) rfl) (pv 0) pe_int (fun _ _ => rfl)) (pa_cons (pe_ix (kx_tup (K := K) rfl) (pv 0) pe_int (fun _ _ => rfl)) (pa_cons (pv 3) (pa_cons (pv 2) pa_nil))))))) pss_nil)
      (pss_cons (ps_set (i := 4) sc__law_cell.nd rfl (Or.inl rfl) (pe_ix (kx_tup (K := K) rfl) (pv 0) pe_int (fun _ _ => rfl)))
      (pss_cons (ps_set (i := 5) sc__law_cell.nd rfl (Or.inl rfl) (pe_op op_mod (pe_ix (kx_list (K := K) rfl) (pv 1) pe_int (fun _ _ => rfl)) (pe_callB (kcall_len (K := K) rfl) (by rfl) m_len bt_len (pa_cons (pv 4) pa_nil))))
      (pss_cons (ps_if (PW.pt (pw_and (pt_cmpR op_eq (pe_ix (kx_list (K := K) rfl) (pv 1) pe_int (fun _ _ => rfl)) pe_int (nomark _)) (pw_and1 (pt_cmpR op_gt (pv 5) pe_int (nomark _))))) (pss_one (ps_ret (pe_cal c__law_part hr (by decide) (by rfl) (pa_cons (pe_ix (kx_tup (K := K) rfl) (pe_ix (kx_list (K := K) rfl) (pv 4) (pe_op op_sub (pv 5) pe_int) (fun _ _ => rfl)) pe_int (fun _ _ => rfl)) (pa_cons (pe_ix (kx_tup (K := K) rfl) (pe_ix (kx_list (K := K) rfl) (pv 4) (pv 5) (fun _ _ => rfl)) pe_int (fun _ _ => rfl)) (pa_cons (pv 3) (pa_cons (pv 2) pa_nil))))))) pss_nil)
      (pss_one (ps_ret (pe_cal c__law_part hr (by decide) (by rfl) (pa_cons (pe_ix (kx_tup (K := K) rfl) (pe_ix (kx_list (K := K) rfl) (pv 4) (pv 5) (fun _ _ => rfl)) pe_int (fun _ _ => rfl)) (pa_cons (pe_ix (kx_tup (K := K) rfl) (pe_ix (kx_list (K := K) rfl) (pv 4) (pv 5) (fun _ _ => rfl)) pe_int (fun _ _ => rfl)) (pa_cons (pv 3) (pa_cons (pv 2) pa_nil)))))))))))))))))), fun ds r hd B H σ D E0 q => ?_⟩
  obtain ⟨ws, len, e, rfl, hx, he, rfl⟩ := hd
  have h0 : 0 ≤ e.getD 0 0 ∧ e.getD 0 0 < 14 := he.b 0 (by decide)
  have h1 : 0 ≤ e.getD 1 0 ∧ e.getD 1 0 < 10 ^ 9 := he.b 1 (by decide)
  have n1 := hx.n1
  have E0 : Evn [] H B σ H [.dat (.tuple [.str "order", .list (ws.map .str), .int len]), .dat (.list (e.map .int)), .no, .no, .no, .no] := E0
  unfold cellX at q
  refine ss_ifR E0 (et_test (ev_eqI (i := e.getD 0 0) (j := 0) (ev_d (d := e) 0 (by rw [he.len]; decide) (by walk_at "ev")) (by walk_at "ev"))) (fun hb H1 E1 => ?_) (fun hb H1 E1 => ?_)
  · rw [if_pos (of_decide_eq_true hb)] at q
    exact s_ret E1 (d := .none) (by walk_at "ev") q
  rw [if_neg (of_decide_eq_false hb)] at q
  refine ss_ifT E1 (Evt_isNone (et_test (ev_eqS (s := "order") (w := "order") (by walk_at "ev") (by walk_at "ev"))) (decide_eq_true rfl)) (fun H2 E2 => ?_)
  refine ss_ifR E2 (et_test (ev_eqI (i := e.getD 0 0) (j := 1) (ev_d (d := e) 0 (by rw [he.len]; decide) (by walk_at "ev")) (by walk_at "ev"))) (fun hb H3 E3 => ?_) (fun hb H3 E3 => ?_)
  · rw [if_pos (of_decide_eq_true hb)] at q
    exact s_ret E3 (d := .str (ch (e.getD 1 0 % 26))) (ev_ch (ev_str (s := alpha)) (ev_I (i := e.getD 1 0) (j := 26) (ev_d (d := e) 1 (by rw [he.len]; decide) (by walk_at "ev")) (by walk_at "ev") (by decide)) (by omega) (by omega)) q
  · rw [if_neg (of_decide_eq_false hb)] at q
    have a := Int.emod_nonneg (e.getD 1 0) (show (ws.length : Int) ≠ 0 by omega)
    have b := Int.emod_lt_of_pos (e.getD 1 0) (show 0 < (ws.length : Int) by omega)
    have hi : (e.getD 1 0 % (ws.length : Int)).toNat < ws.length := by omega
    obtain ⟨u, hu⟩ : ∃ u, ws[(e.getD 1 0 % (ws.length : Int)).toNat]? = some u := ⟨_, List.getElem?_eq_getElem hi⟩
    rw [hu] at q
    exact s_ret E3 (d := .str u) (ev_ixL (ds := ws.map .str) (i := e.getD 1 0 % (ws.length : Int)) (by walk_at "ev") (ev_I (i := e.getD 1 0) (j := (ws.length : Int)) (ev_d (d := e) 1 (by rw [he.len]; decide) (by walk_at "ev")) (Ev.is (ev_lenL (ds := ws.map .str) (by walk_at "ev")) (by rw [List.length_map])) (by omega)) (atI_pick a (by rw [List.getElem?_map, hu]; rfl))) q
theorem ok__law_cellY (F : Fn K mg "_law_cell" s__law_cell) (c__law_turn_cell : Cal P w K mg base 3 "_law_turn_cell" ["_law_scale_here", "_law_e", "_law_f", "_law_g"] (SpD dTurnCell)) (c__law_part : Cal P w K mg base 4 "_law_part" ["_law_lo", "_law_hi", "_law_f", "_law_g"] (SpD dPart)) (m_len : mg "len" = none) : Cal P w K mg base 5 "_law_cell" ["_law_scale_here", "_law_e"] (SpD dCellY) := by
  refine cal_D F sc__law_cell (fun _ _ _ _ _ _ us hl => match us, hl with | [_, _], _ => rfl) dCellY_len (by decide) ⟨_, fun f cdv A outer s H E hr =>
      (pss_cons (ps_if (pt_cmpR op_eq (pe_ix (kx_list (K := K) rfl) (pv 1) pe_int (fun _ _ => rfl)) pe_int (nomark _)) (pss_one (ps_ret pe_non)) pss_nil)
      (pss_cons (ps_if (pt_cmpR op_eq (pe_ix (kx_tup (K := K) rfl) (pv 0) pe_int (fun _ _ => rfl)) pe_str (nomark _)) (pss_cons (ps_if (pt_cmpR op_eq (pe_ix (kx_list (K := K) rfl) (pv 1) pe_int (fun _ _ => rfl)) pe_int (nomark _)) (pss_one (ps_ret (pe_ix ix_str pe_str (pe_op op_mod (pe_ix (kx_list (K := K) rfl) (pv 1) pe_int (fun _ _ => rfl)) pe_int) (fun _ _ => rfl)))) pss_nil)
        (pss_one (ps_ret (pe_ix (kx_list (K := K) rfl) (pe_ix (kx_tup (K := K) rfl) (pv 0) pe_int (fun _ _ => rfl)) (pe_op op_mod (pe_ix (kx_list (K := K) rfl) (pv 1) pe_int (fun _ _ => rfl)) (pe_callB (kcall_len (K := K) rfl) (by rfl) m_len bt_len (pa_cons (pe_ix (kx_tup (K := K) rfl) (pv 0) pe_int (fun _ _ => rfl)) pa_nil))) (fun _ _ => rfl))))) pss_nil)
      (pss_cons (ps_set (i := 2) sc__law_cell.nd rfl (Or.inl rfl) (pe_ix (kx_list (K := K) rfl) (pe_lst (pa_cons (pe_op op_add pe_int (pe_op op_mod (pe_ix (kx_list (K := K) rfl) (pv 1) pe_int (fun _ _ => rfl)) pe_int)) (pa_cons (pe_op op_mulW pe_int (pe_ix (kx_tup (K := K) rfl) (pv 0) (pe_un un_neg pe_int) (fun _ _ => rfl))) (pa_cons (pe_op op_add pe_int (pe_op op_mod (pe_ix (kx_list (K := K) rfl) (pv 1) pe_int (fun _ _ => rfl)) pe_int)) (pa_cons pe_int pa_nil))))) (pe_ix (kx_list (K := K) rfl) (pv 1) pe_int (fun _ _ => rfl)) (fun _ _ => rfl)))
      (pss_cons (ps_set (i := 3) sc__law_cell.nd rfl (Or.inl rfl) (pe_op op_mod (pe_ix (kx_list (K := K) rfl) (pv 1) pe_int (fun _ _ => rfl)) (pe_op op_add (pv 2) pe_int)))
      (pss_cons (ps_if (pt_cmpR op_eq (pe_ix (kx_tup (K := K) rfl) (pv 0) pe_int (fun _ _ => rfl)) pe_str (nomark _)) (pss_one (ps_ret (pe_cal c__law_turn_cell hr (by decide) (by rfl) (pa_cons (pv 0) (pa_cons (pv 1) (pa_cons (pv 3) (pa_cons (pv 2) pa_nil))))))) pss_nil)
      (pss_cons (ps_if (pt_cmpR op_eq (pe_ix (kx_list (K := K) rfl) (pv 1) pe_int (fun _ _ => rfl)) pe_int (nomark _)) (pss_one (ps_set (i := 3) sc__law_cell.nd rfl (Or.inl rfl) (pe_op op_add (pe_op op_add (pv 2) pe_int) (pv 3)))) pss_nil)
      (pss_cons (ps_if (pt_cmpR op_eq (pe_ix (kx_list (K := K) rfl) (pv 1) pe_int (fun _ _ => rfl)) pe_int (nomark _)) (pss_one (ps_set (i := 3) sc__law_cell.nd rfl (Or.inl rfl) (pe_op op_sub (pe_un un_neg pe_int) (pv 3)))) pss_nil)
      (pss_cons (ps_if (pt_cmpR op_eq (pe_ix (kx_tup (K := K) rfl) (pv 0) pe_int (fun _ _ => rfl)) pe_str (nomark _)) (pss_one (ps_ret (pe_cal c__law_part hr (by decide) (by rfl) (pa_cons (pe_ix (kx_tup (K := K) rfl) (pv 0) pe_int (fun _ _ => rfl)) (pa_cons (pe_ix (kx_tup (K := K) rfl) (pv 0) pe_int (fun _ _ => rfl)) (pa_cons (pv 3) (pa_cons (pv 2) pa_nil))))))) pss_nil)
      (pss_cons (ps_set (i := 4) sc__law_cell.nd rfl (Or.inl rfl) (pe_ix (kx_tup (K := K) rfl) (pv 0) pe_int (fun _ _ => rfl)))
      (pss_cons (ps_set (i := 5) sc__law_cell.nd rfl (Or.inl rfl) (pe_op op_mod (pe_ix (kx_list (K := K) rfl) (pv 1) pe_int (fun _ _ => rfl)) (pe_callB (kcall_len (K := K) rfl) (by rfl) m_len bt_len (pa_cons (pv 4) pa_nil))))
      (pss_cons (ps_if (PW.pt (pw_and (pt_cmpR op_eq (pe_ix (kx_list (K := K) rfl) (pv 1) pe_int (fun _ _ => rfl)) pe_int (nomark _)) (pw_and1 (pt_cmpR op_gt (pv 5) pe_int (nomark _))))) (pss_one (ps_ret (pe_cal c__law_part hr (by decide) (by rfl) (pa_cons (pe_ix (kx_tup (K := K) rfl) (pe_ix (kx_list (K := K) rfl) (pv 4) (pe_op op_sub (pv 5) pe_int) (fun _ _ => rfl)) pe_int (fun _ _ => rfl)) (pa_cons (pe_ix (kx_tup (K := K) rfl) (pe_ix (kx_list (K := K) rfl) (pv 4) (pv 5) (fun _ _ => rfl)) pe_int (fun _ _ => rfl)) (pa_cons (pv 3) (pa_cons (pv 2) pa_nil))))))) pss_nil)
      (pss_one (ps_ret (pe_cal c__law_part hr (by decide) (by rfl) (pa_cons (pe_ix (kx_tup (K := K) rfl) (pe_ix (kx_list (K := K) rfl) (pv 4) (pv 5) (fun _ _ => rfl)) pe_int (fun _ _ => rfl)) (pa_cons (pe_ix (kx_tup (K := K) rfl) (pe_ix (kx_list (K := K) rfl) (pv 4) (pv 5) (fun _ _ => rfl)) pe_int (fun _ _ => rfl)) (pa_cons (pv 3) (pa_cons (pv 2) pa_nil)))))))))))))))))), fun ds r hd B H σ D E0 q => ?_⟩
  obtain ⟨s, e, rfl, hs, he, rfl⟩ := hd
  obtain ⟨l1, l2⟩ := ys_len hs
  have h0 : 0 ≤ e.getD 0 0 ∧ e.getD 0 0 < 14 := he.b 0 (by decide)
  have h1 : 0 ≤ e.getD 1 0 ∧ e.getD 1 0 < 10 ^ 9 := he.b 1 (by decide)
  have h2 : 0 ≤ e.getD 2 0 ∧ e.getD 2 0 < 4 := he.b 2 (by decide)
  have h4 : 0 ≤ e.getD 4 0 ∧ e.getD 4 0 < 60 := he.b 4 (by decide)
  obtain ⟨g1, f1, sf⟩ := cell_gf hs he
  have E0 : Evn [] H B σ H [.dat (encYS s), .dat (.list (e.map .int)), .no, .no, .no, .no] := E0
  unfold cellY at q
  refine ss_ifR E0 (et_test (ev_eqI (i := e.getD 0 0) (j := 0) (ev_d (d := e) 0 (by rw [he.len]; decide) (by walk_at "ev")) (by walk_at "ev"))) (fun hb H1 E1 => ?_) (fun hb H1 E1 => ?_)
  · rw [if_pos (of_decide_eq_true hb)] at q
    exact s_ret E1 (d := .none) (by walk_at "ev") q
  rw [if_neg (of_decide_eq_false hb)] at q
  refine ss_ifF E1 (Evt_isNone (et_test (ev_eqS (s := s.nm) (w := "order") (ev_nm (by walk_at "ev")) (by walk_at "ev"))) (nm_order s)) (fun H2 E2 => ?_)
  refine ss_set E2 (d := .int (cellG s e)) (ev_pick (xs := [1 + e.getD 3 0 % 12, 2 * s.len, 1 + e.getD 3 0 % 1000, 2]) (i := e.getD 2 0) (ev_lst E2.trk (ea_cons (ev_I0 (i := 1) (j := e.getD 3 0 % 12) (by walk_at "ev") (ev_I (i := e.getD 3 0) (j := 12) (ev_d (d := e) 3 (by rw [he.len]; decide) (by walk_at "ev")) (by walk_at "ev") (by decide))) (ea_cons (ev_I (i := 2) (j := s.len) (by walk_at "ev") (ev_len (by walk_at "ev")) (cm (sz_lit (n := 2) (by decide)) (show Sz 12 s.len by unfold Sz; omega) (by decide) (by decide))) (ea_cons (ev_I0 (i := 1) (j := e.getD 3 0 % 1000) (by walk_at "ev") (ev_I (i := e.getD 3 0) (j := 1000) (ev_d (d := e) 3 (by rw [he.len]; decide) (by walk_at "ev")) (by walk_at "ev") (by decide))) (ea_cons (by walk_at "ev") ea_nil)))) (by simp)) (ev_d (d := e) 2 (by rw [he.len]; decide) (by walk_at "ev")) h2.1 (by show e.getD 2 0 < ((4 : Nat) : Int); omega)) (fun σ3 H3 E3 => ?_)
  have E3 : Evn [] H B σ3 H3 [.dat (encYS s), .dat (.list (e.map .int)), .dat (.int (cellG s e)), .no, .no, .no] := E3
  refine ss_set E3 (d := .int (cellF0 s e)) (ev_I (i := e.getD 1 0) (j := cellG s e + 1) (ev_d (d := e) 1 (by rw [he.len]; decide) (by walk_at "ev")) (ev_I0 (i := cellG s e) (j := 1) (by walk_at "ev") (by walk_at "ev")) (by omega)) (fun σ4 H4 E4 => ?_)
  have E4 : Evn [] H B σ4 H4 [.dat (encYS s), .dat (.list (e.map .int)), .dat (.int (cellG s e)), .dat (.int (cellF0 s e)), .no, .no] := E4
  refine ss_ifR E4 (et_test (ev_eqS (s := s.nm) (w := "turns") (ev_nm (by walk_at "ev")) (by walk_at "ev"))) (fun hb H5 E5 => ?_) (fun hbT H5 E5 => ?_)
  · cases s with
    | straight lo hi len => exact absurd hb (by rw [show YS.nm (.straight lo hi len) = "straight" from rfl, nm_st]; decide)
    | broken ps len => exact absurd hb (by rw [show YS.nm (.broken ps len) = "broken" from rfl, nm_bt]; decide)
    | turns b low many len =>
      exact s_ret E5 (ev_turnCell E5.trk (by walk_at "ev") (by walk_at "ev") (by walk_at "ev") (by walk_at "ev") hs he f1 g1) q
  refine ss_ifSet (d := .int (if e.getD 0 0 = 1 then cellG s e + 1 + cellF0 s e else cellF0 s e)) E5 (et_test (ev_eqI (i := e.getD 0 0) (j := 1) (ev_d (d := e) 0 (by rw [he.len]; decide) (by walk_at "ev")) (by walk_at "ev"))) (fun hb H7 e7 => ?_) (fun hb => ?_) (fun σ6 H6 E6 => ?_)
  · have E7 := E5.same e7
    rw [if_pos (of_decide_eq_true hb)]
    exact ev_I0 (i := cellG s e + 1) (j := cellF0 s e) (ev_I0 (i := cellG s e) (j := 1) (by walk_at "ev") (by walk_at "ev")) (by walk_at "ev")
  · rw [if_neg (of_decide_eq_false hb)]
    rfl
  refine ss_ifSet (d := .int (cellF s e)) E6 (et_test (ev_eqI (i := e.getD 0 0) (j := 2) (ev_d (d := e) 0 (by rw [he.len]; decide) (by walk_at "ev")) (by walk_at "ev"))) (fun hb H7 e7 => ?_) (fun hb => ?_) (fun σ7 H7 E7 => ?_)
  · have E7 := E6.same e7
    unfold cellF
    rw [if_pos (of_decide_eq_true hb)]
    exact ev_I0 (i := -1) (j := if e.getD 0 0 = 1 then cellG s e + 1 + cellF0 s e else cellF0 s e) (ev_neg (by walk_at "ev")) (by walk_at "ev")
  · unfold cellF
    rw [if_neg (of_decide_eq_false hb)]
    rfl
  have sg : Sz 20 (cellG s e) := by unfold Sz; omega
  generalize hF : cellF s e = f at *
  generalize hG : cellG s e = g at *
  have E7 : Evn [] H B σ7 H7 [.dat (encYS s), .dat (.list (e.map .int)), .dat (.int g), .dat (.int f), .no, .no] := E7
  cases s with
  | turns b low many len => exact absurd (decide_eq_true rfl) (by rw [show YS.nm (.turns b low many len) = "turns" from rfl] at hbT; rw [hbT]; decide)
  | straight lo hi len =>
    obtain ⟨o1, o2, o3, o4, o5⟩ := hs
    have E7 : Evn [] H B σ7 H7 [.dat (.tuple [.str "straight", encQ lo, encQ hi, .int len]), .dat (.list (e.map .int)), .dat (.int g), .dat (.int f), .no, .no] := E7
    refine ss_ifT E7 (Evt_isNone (et_test (ev_eqS (s := "straight") (w := "straight") (by walk_at "ev") (by walk_at "ev"))) (decide_eq_true rfl)) (fun H8 E8 => ?_)
    dsimp only at q
    exact s_ret E8 (d := encQ (partQ lo hi f g)) (ev_part E8.trk (lo := lo) (hi := hi) (a := f) (b := g) (by walk_at "ev") (by walk_at "ev") (by walk_at "ev") (by walk_at "ev") o2 o3 sf sg (by omega)) q
  | broken ps len =>
    obtain ⟨o1, o2, o3, o4, o5⟩ := id hs
    have all := rising_all _ _ _ o3
    have E7 : Evn [] H B σ7 H7 [.dat (.tuple [.str "broken", .list (ps.map encPc), .int len]), .dat (.list (e.map .int)), .dat (.int g), .dat (.int f), .no, .no] := E7
    refine ss_ifF E7 (Evt_isNone (et_test (ev_eqS (s := "broken") (w := "straight") (by walk_at "ev") (by walk_at "ev"))) nm_bs) (fun H8 E8 => ?_)
    refine ss_set E8 (d := .list (ps.map encPc)) (by walk_at "ev") (fun σ9 H9 E9 => ?_)
    refine ss_set E9 (d := .int (e.getD 4 0 % (ps.length : Int))) (ev_I (i := e.getD 4 0) (j := (ps.length : Int)) (ev_d (d := e) 4 (by rw [he.len]; decide) (by walk_at "ev")) (Ev.is (ev_lenL (ds := ps.map encPc) (by walk_at "ev")) (by rw [List.length_map])) (by omega)) (fun σ10 H10 E10 => ?_)
    have a := Int.emod_nonneg (e.getD 4 0) (show (ps.length : Int) ≠ 0 by omega)
    have b := Int.emod_lt_of_pos (e.getD 4 0) (show 0 < (ps.length : Int) by omega)
    dsimp only at q
    generalize e.getD 4 0 % (ps.length : Int) = t at *
    have E10 : Evn [] H B σ10 H10 [.dat (.tuple [.str "broken", .list (ps.map encPc), .int len]), .dat (.list (e.map .int)), .dat (.int g), .dat (.int f), .dat (.list (ps.map encPc)), .dat (.int t)] := E10
    have gt : ∀ i : Nat, i < ps.length → ps[i]? = some (pcAt ps i) := fun i hi => by
      unfold pcAt
      rw [List.getD_eq_getElem?_getD, List.getElem?_eq_getElem hi]
      rfl
    have qt : ∀ i : Nat, i < ps.length → QS 400 (pcAt ps i).1 ∧ QS 400 (pcAt ps i).2.1 := fun i hi => by
      obtain ⟨z1, z2, _⟩ := all _ (List.mem_of_getElem? (gt i hi))
      exact ⟨z1, z2⟩
    have at_ : ∀ {H'} (_ : Evn [] H B σ10 H' [.dat (.tuple [.str "broken", .list (ps.map encPc), .int len]), .dat (.list (e.map .int)), .dat (.int g), .dat (.int f), .dat (.list (ps.map encPc)), .dat (.int t)]), Ev B (tOp (rIxL K) (tVar 4) (tVar 5)) σ10 H' (.tuple [encQ (pcAt ps t.toNat).1, encQ (pcAt ps t.toNat).2.1, .int (pcAt ps t.toNat).2.2.1, .int (pcAt ps t.toNat).2.2.2]) := fun E => ev_ixL (ds := ps.map encPc) (i := t) (by walk_at "ev") (by walk_at "ev") (atI_pick a (by rw [List.getElem?_map, gt _ (by omega)]; rfl))
    have fin : ∀ (XE : XK) H', Evn [] H B σ10 H' [.dat (.tuple [.str "broken", .list (ps.map encPc), .int len]), .dat (.list (e.map .int)), .dat (.int g), .dat (.int f), .dat (.list (ps.map encPc)), .dat (.int t)] → Ev B (tCall (SpD dPart) [] XE (tCons (tOp (rIxT K) (tOp (rIxL K) (tVar 4) (tVar 5)) (tC (.int 0))) (tCons (tOp (rIxT K) (tOp (rIxL K) (tVar 4) (tVar 5)) (tC (.int 1))) (tCons (tVar 3) (tCons (tVar 2) tNil))))) σ10 H' (encQ (partQ (pcAt ps t.toNat).1 (pcAt ps t.toNat).2.1 f g)) := fun XE H' E => ev_part E.trk (lo := (pcAt ps t.toNat).1) (hi := (pcAt ps t.toNat).2.1) (a := f) (b := g) (ev_ixT (at_ E) (by walk_at "ev") rfl) (ev_ixT (at_ E) (by walk_at "ev") rfl) (by walk_at "ev") (by walk_at "ev") (qt _ (by omega)).1 (qt _ (by omega)).2 sf sg (by omega)
    by_cases h3 : e.getD 0 0 = 3 ∧ 0 < t
    · refine ss_ifT E10 (et_and1 (Evt_isNone (et_test (ev_eqI (i := e.getD 0 0) (j := 3) (ev_d (d := e) 0 (by rw [he.len]; decide) (by walk_at "ev")) (by walk_at "ev"))) (decide_eq_true h3.1)) (Evt_isNone (et_test (ev_I0b (i := t) (j := 0) (by walk_at "ev") (by walk_at "ev"))) (decide_eq_true h3.2))) (fun H11 E11 => ?_)
      rw [if_pos h3] at q
      exact s_ret E11 (d := encQ (partQ (pcAt ps (t.toNat - 1)).2.1 (pcAt ps t.toNat).1 f g)) (ev_part E11.trk (lo := (pcAt ps (t.toNat - 1)).2.1) (hi := (pcAt ps t.toNat).1) (a := f) (b := g) (ev_ixT (ds := [encQ (pcAt ps (t.toNat - 1)).1, encQ (pcAt ps (t.toNat - 1)).2.1, .int (pcAt ps (t.toNat - 1)).2.2.1, .int (pcAt ps (t.toNat - 1)).2.2.2]) (ev_ixL (ds := ps.map encPc) (i := t - 1) (by walk_at "ev") (ev_I0 (i := t) (j := 1) (by walk_at "ev") (by walk_at "ev")) (atI_pick (by omega) (by rw [show (t - 1).toNat = t.toNat - 1 by omega, List.getElem?_map, gt _ (by omega)]; rfl))) (by walk_at "ev") rfl) (ev_ixT (at_ E11) (by walk_at "ev") rfl) (by walk_at "ev") (by walk_at "ev") (qt _ (by omega)).2 (qt _ (by omega)).1 sf sg (by omega)) q
    · rw [if_neg h3] at q
      have hf : ∃ bb, bb = false ∧ EvT B (tAnd (tTest (tOp rEq (tOp (rIxL K) (tVar 1) (tC (.int 0))) (tC (.int 3)))) (tTest (tOp (rI0 fun i j => .bl (decide (i > j))) (tVar 5) (tC (.int 0))))) σ10 H10 bb := by
        refine ⟨_, ?_, et_and (et_test (ev_eqI (i := e.getD 0 0) (j := 3) (ev_d (d := e) 0 (by rw [he.len]; decide) (by walk_at "ev")) (by walk_at "ev"))) (fun _ => et_test (ev_I0b (i := t) (j := 0) (by walk_at "ev") (by walk_at "ev")))⟩
        by_cases z : e.getD 0 0 = 3
        · rw [decide_eq_true z, Bool.true_and]
          exact decide_eq_false (fun z2 => h3 ⟨z, z2⟩)
        · rw [decide_eq_false z, Bool.false_and]
      obtain ⟨bb, hbb, hf⟩ := hf
      subst hbb
      refine ss_ifF E10 hf (fun H11 E11 => ?_)
      exact s_ret E11 (fin _ H11 E11) q
end
end M

end
section
set_option maxHeartbeats 4000000
set_option exponentiation.threshold 10000
namespace M
open PySem PySem.Spec PyProof.Rows L2

/-! ### the field and the items as they are drawn -/
def topsF : List Int := [1, 4, 1999999, 1999999] ++ tops1 ++ tops1
def topsI : List Int := [4, 10 ^ 6, 6, 3, 3, 10 ^ 9, 10 ^ 9] ++ (List.replicate 3 [14, 10 ^ 9, 4, 10 ^ 9, 60]).flatten
def subD (d : List Int) (a n : Nat) : List Int := (List.range n).map fun i => d.getD (a + i) 0
def dF (cell : Int) : List Int := draws cell topsF
def dI (cell : Int) : List Int := draws cell topsI
theorem topsF_ok : topsF.length = 56 ∧ ∀ t ∈ topsF, 1 ≤ t ∧ t ≤ 2 * 10 ^ 9 := by decide
theorem topsI_ok : topsI.length = 22 ∧ ∀ t ∈ topsI, 1 ≤ t ∧ t ≤ 2 * 10 ^ 9 := by decide
theorem dF_ok (cell : Int) : (dF cell).length = 56 ∧ ∀ i, i < 56 → 0 ≤ (dF cell).getD i 0 ∧ (dF cell).getD i 0 < topsF.getD i 0 := by
  obtain ⟨h1, h2⟩ := topsF_ok
  obtain ⟨a, b⟩ := draws_get (cell := cell) (tops := topsF) fun t ht => (h2 t ht).1
  exact ⟨by rw [dF, a, h1], fun i hi => b i (by rw [h1]; exact hi)⟩
theorem dI_ok (cell : Int) : (dI cell).length = 22 ∧ ∀ i, i < 22 → 0 ≤ (dI cell).getD i 0 ∧ (dI cell).getD i 0 < topsI.getD i 0 := by
  obtain ⟨h1, h2⟩ := topsI_ok
  obtain ⟨a, b⟩ := draws_get (cell := cell) (tops := topsI) fun t ht => (h2 t ht).1
  exact ⟨by rw [dI, a, h1], fun i hi => b i (by rw [h1]; exact hi)⟩
theorem subD_get {d : List Int} {a n i : Nat} (hi : i < n) : (subD d a n).getD i 0 = d.getD (a + i) 0 := by
  unfold subD
  rw [List.getD_eq_getElem?_getD, List.getElem?_map, List.getElem?_range hi]
  rfl
theorem dX_ok (cell : Int) : DOk (subD (dF cell) 4 26) := by
  obtain ⟨_, h⟩ := dF_ok cell
  refine ⟨by simp [subD], fun i hi => ?_⟩
  rw [subD_get hi]
  have := h (4 + i) (by omega)
  have e : ∀ j, j < 26 → topsF.getD (4 + j) 0 = tops1.getD j 0 := by decide
  rwa [e i hi] at this
theorem dY_ok (cell : Int) : DOk (subD (dF cell) 30 26) := by
  obtain ⟨_, h⟩ := dF_ok cell
  refine ⟨by simp [subD], fun i hi => ?_⟩
  rw [subD_get hi]
  have := h (30 + i) (by omega)
  have e : ∀ j, j < 26 → topsF.getD (30 + j) 0 = tops1.getD j 0 := by decide
  rwa [e i hi] at this
theorem eX_ok (cell : Int) : EOk (subD (dI cell) 7 5) := by
  obtain ⟨_, h⟩ := dI_ok cell
  refine ⟨by simp [subD], fun i hi => ?_⟩
  rw [subD_get hi]
  have := h (7 + i) (by omega)
  have e : ∀ j, j < 5 → topsI.getD (7 + j) 0 = topsE.getD j 0 := by decide
  rwa [e i hi] at this
theorem eY_ok (cell : Int) : EOk (subD (dI cell) 12 5) := by
  obtain ⟨_, h⟩ := dI_ok cell
  refine ⟨by simp [subD], fun i hi => ?_⟩
  rw [subD_get hi]
  have := h (12 + i) (by omega)
  have e : ∀ j, j < 5 → topsI.getD (12 + j) 0 = topsE.getD j 0 := by decide
  rwa [e i hi] at this
def fieldF (cell : Int) : Fld := ⟨wsX (subD (dF cell) 4 26), scaleY ((dF cell).getD 1 0) (subD (dF cell) 30 26), (dF cell).getD 2 0 - 999999, (dF cell).getD 3 0 - 999999, 1 + (subD (dF cell) 4 26).getD 0 0⟩
def dField (ds : List PyData) (r : PyData) : Prop := ∃ cell : Int, ds = [.int cell] ∧ r = encF (fieldF cell)
theorem dField_len : ∀ ds r, dField ds r → ds.length = 1 := by rintro _ _ ⟨_, rfl, _⟩; rfl
def ownI (own cell : Int) : Int := own + [0, 1, 2 + (dI cell).getD 1 0 % 9, 1 + (dI cell).getD 1 0].getD ((dI cell).getD 0 0).toNat 0
def rankI (cell : Int) : Int := [(dI cell).getD 3 0, (dI cell).getD 3 0, (dI cell).getD 3 0, (dI cell).getD 3 0, (dI cell).getD 5 0 % 60, (dI cell).getD 5 0].getD ((dI cell).getD 2 0).toNat 0
def colI (cell : Int) : Int := [(dI cell).getD 4 0, 0, rankI cell % 12, (dI cell).getD 4 0, (dI cell).getD 6 0, (dI cell).getD 4 0 * 7].getD ((dI cell).getD 2 0).toNat 0
def sizeI (cell : Int) : Int := 1 + (dI cell).getD 6 0 % [20, 10 ^ 9].getD (if decide ((dI cell).getD 2 0 = 4) then (1 : Int) else 0).toNat 0
def itemF (F : Fld) (own cell : Int) : It := ⟨ownI own cell, cellX F.ws (subD (dI cell) 7 5), cellY F.s (subD (dI cell) 12 5), rankI cell, colI cell, sizeI cell⟩
def itemsF (F : Fld) : Int → List Int → List It
  | _, [] => []
  | own, c :: r => itemF F own c :: itemsF F (ownI own c + 1) r
def dItems (ds : List PyData) (r : PyData) : Prop := ∃ (cells : List Int) (F : Fld), ds = [.list (cells.map .int), encF F] ∧ F.Ok ∧ cells.length ≤ 60 ∧ r = .list ((itemsF F 0 cells).map encIt)
theorem dItems_len : ∀ ds r, dItems ds r → ds.length = 2 := by rintro _ _ ⟨_, _, rfl, _⟩; rfl
theorem itemsF_len (F : Fld) : ∀ (cells : List Int) (own : Int), (itemsF F own cells).length = cells.length
  | [], _ => rfl
  | c :: r, own => congrArg (· + 1) (itemsF_len F r _)
theorem cut_sub {d : List Int} {a n : Nat} (h : a + n ≤ d.length) : cutD (d.map .int) (some (a : Int)) (some ((a + n : Nat) : Int)) = (subD d a n).map .int := cut_list h
section
variable {K : PySem.W.Frag} {C B : List Addr} {σ : L2.St} {H H0 H' : Hp} {G : List Sl} {ta tb tc td te : TE} {E : XK} {cell : Int} {cells : List Int} {F : Fld}
theorem ev_field (ht : Trk B H) (h1 : Ev B ta σ H (.int cell)) : Ev B (tCall (SpD dField) [] E (tCons ta tNil)) σ H (encF (fieldF cell)) := ev_call ht (ea_cons h1 ea_nil) ⟨cell, rfl, rfl⟩
theorem ev_items (ht : Trk B H) (h1 : Ev B ta σ H (.list (cells.map .int))) (h2 : Ev B tb σ H (encF F)) (hF : F.Ok) (hl : cells.length ≤ 60) : Ev B (tCall (SpD dItems) [] E (tCons ta (tCons tb tNil))) σ H (.list ((itemsF F 0 cells).map encIt)) := ev_call ht (ea_cons h1 (ea_cons h2 ea_nil)) ⟨cells, F, rfl, hF, hl, rfl⟩
end

local macro_rules | `(tactic| walk_at "ev") => `(tactic| first
  | with_reducible exact ev_int
  | with_reducible exact ev_str
  | with_reducible exact ev_bl
  | with_reducible exact ev_non
  | ((with_reducible refine' ev_var (by assumption) ?_); rfl)
  | ((with_reducible refine ev_I0 (i := ?i) (j := ?j) ?h1 ?h2); (case h1 => walk_at "ev"); (case h2 => walk_at "ev"))
  | ((with_reducible refine ev_I0b (i := ?i) (j := ?j) ?h1 ?h2); (case h1 => walk_at "ev"); (case h2 => walk_at "ev"))
  | ((with_reducible refine ev_eqI (i := ?i) (j := ?j) ?h1 ?h2); (case h1 => walk_at "ev"); (case h2 => walk_at "ev"))
  | ((with_reducible refine ev_neI (i := ?i) (j := ?j) ?h1 ?h2); (case h1 => walk_at "ev"); (case h2 => walk_at "ev"))
  | ((with_reducible refine ev_neg (i := ?i) ?h1); (case h1 => walk_at "ev"))
  | ((with_reducible refine ev_fst (x := ?x) ?h1); (case h1 => walk_at "ev"))
  | ((with_reducible refine ev_snd (x := ?x) ?h1); (case h1 => walk_at "ev"))
  | ((with_reducible refine ev_fstP (p := ?x) ?h1); (case h1 => walk_at "ev"))
  | ((with_reducible refine ev_sndP (p := ?x) ?h1); (case h1 => walk_at "ev"))
  | ((with_reducible refine ev_ixT (ds := ?ds) (i := ?i) ?h1 ?h2 ?h3); (case h1 => walk_at "ev"); (case h2 => walk_at "ev"); (case h3 => rfl))
  | ((with_reducible refine ev_ixL (ds := ?ds) (i := ?i) ?h1 ?h2 ?h3); (case h1 => walk_at "ev"); (case h2 => walk_at "ev"); (case h3 => rfl))
  | ((with_reducible refine ev_pair1 (a := ?a) (Evn.trk (by assumption)) ?h1); (case h1 => walk_at "ev"))
  | ((with_reducible refine ev_abs (i := ?i) ?h1); (case h1 => walk_at "ev")))

section
variable {P : Program} {w : World} {K : PySem.W.Frag} {mg : Str → Option Value} {base : Heap}
theorem sc__law_field : FnScope ["_law_cell_here", "_law_one", "_law_d", "_law_x", "_law_y"] ["_law_cell_here"] (defScope s__law_field) := ⟨rfl, rfl, rfl, by decide +kernel, rfl, by decide +kernel, by decide +kernel⟩
theorem ok__law_field (F : Fn K mg "_law_field" s__law_field) (c__law_draws : Cal P w K mg base 1 "_law_draws" ["_law_cell_here", "_law_tops"] (SpD dDraws)) (c__law_scaleX : Cal P w K mg base 5 "_law_scale" ["_law_kind", "_law_d"] (SpD dScaleX)) (c__law_scaleY : Cal P w K mg base 5 "_law_scale" ["_law_kind", "_law_d"] (SpD dScaleY)) : Cal P w K mg base 6 "_law_field" ["_law_cell_here"] (SpD dField) := by
  refine cal_D F sc__law_field (fun _ _ _ _ _ _ us hl => match us, hl with | [_], _ => rfl) dField_len (by decide) ⟨_, fun f cdv A outer s H E hr =>
      (pss_cons (ps_set (i := 1) sc__law_field.nd rfl (Or.inl rfl) (pe_op op_cat (pe_lst (pa_cons pe_int (pa_cons pe_int (pa_cons pe_int (pa_cons (pe_op op_pow pe_int pe_int) (pa_cons (pe_op op_pow pe_int pe_int) (pa_cons pe_int (pa_cons pe_int (pa_cons (pe_op op_pow pe_int pe_int) (pa_cons pe_int (pa_cons pe_int pa_nil))))))))))) (pe_op op_rep (pe_lst (pa_cons pe_int (pa_cons pe_int (pa_cons pe_int (pa_cons pe_int pa_nil))))) pe_int)))
      (pss_cons (ps_set (i := 2) sc__law_field.nd rfl (Or.inl rfl) (pe_cal c__law_draws hr (by decide) (by rfl) (pa_cons (pv 0) (pa_cons (pe_op op_cat (pe_op op_cat (pe_lst (pa_cons pe_int (pa_cons pe_int (pa_cons pe_int (pa_cons pe_int pa_nil))))) (pv 1)) (pv 1)) pa_nil))))
      (pss_cons (ps_set (i := 3) sc__law_field.nd rfl (Or.inl rfl) (pe_cal c__law_scaleX hr (by decide) (by rfl) (pa_cons pe_int (pa_cons (pe_slice (ksl_list (K := K) rfl) (pv 2) (po_some pe_int) (po_some pe_int)) pa_nil))))
      (pss_cons (ps_set (i := 4) sc__law_field.nd rfl (Or.inl rfl) (pe_cal c__law_scaleY hr (by decide) (by rfl) (pa_cons (pe_ix (kx_list (K := K) rfl) (pv 2) pe_int (fun _ _ => rfl)) (pa_cons (pe_slice (ksl_list (K := K) rfl) (pv 2) (po_some pe_int) (po_some pe_int)) pa_nil))))
      (pss_one (ps_ret (pe_tup (pa_cons (pv 3) (pa_cons (pv 4) (pa_cons (pe_op op_sub (pe_ix (kx_list (K := K) rfl) (pv 2) pe_int (fun _ _ => rfl)) pe_int) (pa_cons (pe_op op_sub (pe_ix (kx_list (K := K) rfl) (pv 2) pe_int (fun _ _ => rfl)) pe_int) (pa_cons (pe_ix (kx_tup (K := K) rfl) (pv 3) (pe_un un_neg pe_int) (fun _ _ => rfl)) (pa_cons (pe_ix (kx_tup (K := K) rfl) (pv 4) (pe_un un_neg pe_int) (fun _ _ => rfl)) pa_nil))))))))))))), fun ds r hd B H σ D E0 q => ?_⟩
  obtain ⟨cell, rfl, rfl⟩ := hd
  obtain ⟨hl, hb⟩ := dF_ok cell
  have hX := dX_ok cell
  have hY := dY_ok cell
  have h1 : 0 ≤ (dF cell).getD 1 0 ∧ (dF cell).getD 1 0 < 4 := hb 1 (by decide)
  refine ss_set E0 (d := .list (tops1.map .int)) (Ev.is (ev_catL E0.trk (ds := [.int 4000, .int 2, .int 4, .int (10 ^ 9), .int (10 ^ 9), .int 90, .int 3, .int (10 ^ 9), .int 60, .int 60]) (es := (List.replicate 4 [.int 900, .int 50, .int 1000, .int 1000]).flatten) (ev_lst E0.trk (ea_cons (by walk_at "ev") (ea_cons (by walk_at "ev") (ea_cons (by walk_at "ev") (ea_cons (ev_powI (i := 10) (n := 9) (by walk_at "ev") ev_int (by decide) (by decide) rfl) (ea_cons (ev_powI (i := 10) (n := 9) (by walk_at "ev") ev_int (by decide) (by decide) rfl) (ea_cons (by walk_at "ev") (ea_cons (by walk_at "ev") (ea_cons (ev_powI (i := 10) (n := 9) (by walk_at "ev") ev_int (by decide) (by decide) rfl) (ea_cons (by walk_at "ev") (ea_cons (by walk_at "ev") ea_nil)))))))))) (by simp)) (ev_repL (n := 4) E0.trk (ds := [.int 900, .int 50, .int 1000, .int 1000]) (ev_lst E0.trk (ea_cons (by walk_at "ev") (ea_cons (by walk_at "ev") (ea_cons (by walk_at "ev") (ea_cons (by walk_at "ev") ea_nil)))) (by simp)) ev_int (by decide) (by decide)) (by decide)) rfl) (fun σ1 H1 E1 => ?_)
  refine ss_set E1 (d := .list ((dF cell).map .int)) (ev_draws (cell := cell) (tops := topsF) E1.trk (by walk_at "ev") (Ev.is (ev_catL E1.trk (ds := [.int 1, .int 4, .int 1999999, .int 1999999] ++ tops1.map .int) (es := tops1.map .int) (ev_catL E1.trk (ds := [.int 1, .int 4, .int 1999999, .int 1999999]) (es := tops1.map .int) (ev_lst E1.trk (ea_cons (by walk_at "ev") (ea_cons (by walk_at "ev") (ea_cons (by walk_at "ev") (ea_cons (by walk_at "ev") ea_nil)))) (by simp)) (by walk_at "ev") (by decide)) (by walk_at "ev") (by decide)) rfl) (by decide) topsF_ok.2) (fun σ2 H2 E2 => ?_)
  have E2 : Evn [] H B σ2 H2 [.dat (.int cell), .dat (.list (tops1.map .int)), .dat (.list ((dF cell).map .int)), .no, .no] := E2
  refine ss_set E2 (d := encX (fieldF cell).ws (fieldF cell).lx) (ev_scaleX (d := subD (dF cell) 4 26) E2.trk (by walk_at "ev") (Ev.is (ev_slL (lo := some 4) (hi := some 30) E2.trk (by walk_at "ev") (eo_some (by walk_at "ev")) (eo_some (by walk_at "ev"))) (congrArg PyData.list (cut_sub (d := dF cell) (a := 4) (n := 26) (by rw [hl]; decide)))) hX) (fun σ3 H3 E3 => ?_)
  have E3 : Evn [] H B σ3 H3 [.dat (.int cell), .dat (.list (tops1.map .int)), .dat (.list ((dF cell).map .int)), .dat (.tuple [.str "order", .list ((fieldF cell).ws.map .str), .int (fieldF cell).lx]), .no] := E3
  refine ss_set E3 (d := encYS (fieldF cell).s) (ev_scaleY (kind := (dF cell).getD 1 0) (d := subD (dF cell) 30 26) E3.trk (ev_d (d := dF cell) 1 (by rw [hl]; decide) (by walk_at "ev")) (Ev.is (ev_slL (lo := some 30) (hi := some 56) E3.trk (by walk_at "ev") (eo_some (by walk_at "ev")) (eo_some (by walk_at "ev"))) (congrArg PyData.list (cut_sub (d := dF cell) (a := 30) (n := 26) (by rw [hl]; decide)))) h1 hY) (fun σ4 H4 E4 => ?_)
  have E4 : Evn [] H B σ4 H4 [.dat (.int cell), .dat (.list (tops1.map .int)), .dat (.list ((dF cell).map .int)), .dat (.tuple [.str "order", .list ((fieldF cell).ws.map .str), .int (fieldF cell).lx]), .dat (encYS (fieldF cell).s)] := E4
  exact s_ret E4 (ev_tup E4.trk (ea_cons (by walk_at "ev") (ea_cons (by walk_at "ev") (ea_cons (ev_I0 (i := (dF cell).getD 2 0) (j := 999999) (ev_d (d := dF cell) 2 (by rw [hl]; decide) (by walk_at "ev")) (by walk_at "ev")) (ea_cons (ev_I0 (i := (dF cell).getD 3 0) (j := 999999) (ev_d (d := dF cell) 3 (by rw [hl]; decide) (by walk_at "ev")) (by walk_at "ev")) (ea_cons (ev_ixT (ds := [.str "order", .list ((fieldF cell).ws.map .str), .int (fieldF cell).lx]) (by walk_at "ev") (ev_neg (i := 1) (by walk_at "ev")) rfl) (ea_cons (ev_len (by walk_at "ev")) ea_nil)))))) (by simp)) q
theorem sc__law_items : FnScope ["_law_cells", "_law_field_here", "_law_items_here", "_law_own", "_law_cell_here", "_law_d", "_law_rank", "_law_colour", "_law_x", "_law_y", "_law_other"] ["_law_cells", "_law_field_here"] (defScope s__law_items) := ⟨rfl, rfl, rfl, by decide +kernel, rfl, by decide +kernel, by decide +kernel⟩
theorem ok__law_items (F : Fn K mg "_law_items" s__law_items) (c__law_draws : Cal P w K mg base 1 "_law_draws" ["_law_cell_here", "_law_tops"] (SpD dDraws)) (c__law_cellX : Cal P w K mg base 5 "_law_cell" ["_law_scale_here", "_law_e"] (SpD dCellX)) (c__law_cellY : Cal P w K mg base 5 "_law_cell" ["_law_scale_here", "_law_e"] (SpD dCellY)) (m_int : mg "int" = none) : Cal P w K mg base 6 "_law_items" ["_law_cells", "_law_field_here"] (SpD dItems) := by
  refine cal_D F sc__law_items (fun _ _ _ _ _ _ us hl => match us, hl with | [_, _], _ => rfl) dItems_len (by decide) ⟨_, fun f cdv A outer s H E hr =>
      (pss_cons (ps_set (i := 2) sc__law_items.nd rfl (Or.inl rfl) (pe_lst pa_nil))
      (pss_cons (ps_set (i := 3) sc__law_items.nd rfl (Or.inl rfl) pe_int)
      (pss_cons (ps_for PassesOwn.never rfl (kpi_list (K := K) rfl (pv 0)) (pg_name (i := 4) sc__law_items.nd rfl (Or.inl rfl))
        (pss_cons (ps_set (i := 5) sc__law_items.nd rfl (Or.inl rfl) (pe_cal c__law_draws hr (by decide) (by rfl) (pa_cons (pv 4) (pa_cons (pe_op op_cat (pe_lst (pa_cons pe_int (pa_cons (pe_op op_pow pe_int pe_int) (pa_cons pe_int (pa_cons pe_int (pa_cons pe_int (pa_cons (pe_op op_pow pe_int pe_int) (pa_cons (pe_op op_pow pe_int pe_int) pa_nil)))))))) (pe_op op_rep (pe_lst (pa_cons pe_int (pa_cons (pe_op op_pow pe_int pe_int) (pa_cons pe_int (pa_cons (pe_op op_pow pe_int pe_int) (pa_cons pe_int pa_nil)))))) pe_int)) pa_nil))))
        (pss_cons (ps_set (i := 3) sc__law_items.nd rfl (Or.inl rfl) (pe_op op_add (pv 3) (pe_ix (kx_list (K := K) rfl) (pe_lst (pa_cons pe_int (pa_cons pe_int (pa_cons (pe_op op_add pe_int (pe_op op_mod (pe_ix (kx_list (K := K) rfl) (pv 5) pe_int (fun _ _ => rfl)) pe_int)) (pa_cons (pe_op op_add pe_int (pe_ix (kx_list (K := K) rfl) (pv 5) pe_int (fun _ _ => rfl))) pa_nil))))) (pe_ix (kx_list (K := K) rfl) (pv 5) pe_int (fun _ _ => rfl)) (fun _ _ => rfl))))
        (pss_cons (ps_set (i := 6) sc__law_items.nd rfl (Or.inl rfl) (pe_ix (kx_list (K := K) rfl) (pe_lst (pa_cons (pe_ix (kx_list (K := K) rfl) (pv 5) pe_int (fun _ _ => rfl)) (pa_cons (pe_ix (kx_list (K := K) rfl) (pv 5) pe_int (fun _ _ => rfl)) (pa_cons (pe_ix (kx_list (K := K) rfl) (pv 5) pe_int (fun _ _ => rfl)) (pa_cons (pe_ix (kx_list (K := K) rfl) (pv 5) pe_int (fun _ _ => rfl)) (pa_cons (pe_op op_mod (pe_ix (kx_list (K := K) rfl) (pv 5) pe_int (fun _ _ => rfl)) pe_int) (pa_cons (pe_ix (kx_list (K := K) rfl) (pv 5) pe_int (fun _ _ => rfl)) pa_nil))))))) (pe_ix (kx_list (K := K) rfl) (pv 5) pe_int (fun _ _ => rfl)) (fun _ _ => rfl)))
        (pss_cons (ps_set (i := 7) sc__law_items.nd rfl (Or.inl rfl) (pe_ix (kx_list (K := K) rfl) (pe_lst (pa_cons (pe_ix (kx_list (K := K) rfl) (pv 5) pe_int (fun _ _ => rfl)) (pa_cons pe_int (pa_cons (pe_op op_mod (pv 6) pe_int) (pa_cons (pe_ix (kx_list (K := K) rfl) (pv 5) pe_int (fun _ _ => rfl)) (pa_cons (pe_ix (kx_list (K := K) rfl) (pv 5) pe_int (fun _ _ => rfl)) (pa_cons (pe_op op_mulW (pe_ix (kx_list (K := K) rfl) (pv 5) pe_int (fun _ _ => rfl)) pe_int) pa_nil))))))) (pe_ix (kx_list (K := K) rfl) (pv 5) pe_int (fun _ _ => rfl)) (fun _ _ => rfl)))
        (pss_cons (ps_set (i := 8) sc__law_items.nd rfl (Or.inl rfl) (pe_cal c__law_cellX hr (by decide) (by rfl) (pa_cons (pe_ix (kx_tup (K := K) rfl) (pv 1) pe_int (fun _ _ => rfl)) (pa_cons (pe_slice (ksl_list (K := K) rfl) (pv 5) (po_some pe_int) (po_some pe_int)) pa_nil))))
        (pss_cons (ps_set (i := 9) sc__law_items.nd rfl (Or.inl rfl) (pe_cal c__law_cellY hr (by decide) (by rfl) (pa_cons (pe_ix (kx_tup (K := K) rfl) (pv 1) pe_int (fun _ _ => rfl)) (pa_cons (pe_slice (ksl_list (K := K) rfl) (pv 5) (po_some pe_int) (po_some pe_int)) pa_nil))))
        (pss_cons (ps_set (i := 10) sc__law_items.nd rfl (Or.inl rfl) pe_non)
        (pss_cons (ps_expr (kpe_bm (K := K) rfl PySem.F.plainAttrs_list PySem.F.slot_list_append PySem.F.type_list_append mt_append (pv 2) (pa_cons (pe_tup (pa_cons (pv 3) (pa_cons (pv 8) (pa_cons (pv 9) (pa_cons (pv 10) (pa_cons (pv 6) (pa_cons (pv 7) (pa_cons (pe_op op_add pe_int (pe_op op_mod (pe_ix (kx_list (K := K) rfl) (pv 5) pe_int (fun _ _ => rfl)) (pe_ix (kx_list (K := K) rfl) (pe_lst (pa_cons pe_int (pa_cons (pe_op op_pow pe_int pe_int) pa_nil))) (pe_callTy call_int1 (by rfl) m_int bt_int (pa_cons (pe_cmpR op_eq (pe_ix (kx_list (K := K) rfl) (pv 5) pe_int (fun _ _ => rfl)) pe_int (nomark _)) pa_nil)) (fun _ _ => rfl)))) pa_nil)))))))) pa_nil)))
        (pss_one (ps_set (i := 3) sc__law_items.nd rfl (Or.inl rfl) (pe_op op_add (pv 3) pe_int))))))))))))
      (pss_one (ps_ret (pv 2)))))), fun ds r hd B H σ D E0 q => ?_⟩
  obtain ⟨cells, F, rfl, hF, hlen, rfl⟩ := hd
  refine ss_new E0 (fun l σ1 H1 hl0 _ hlB E1 => ?_) (fun l hl => nomatch hl)
  refine ss_set E1 (d := .int 0) (by walk_at "ev") (fun σ2 H2 E2 => ?_)
  have E2 : Evn [] H (l :: B) σ2 H2 [.dat (.list (cells.map .int)), .dat (encF F), .mu l [], .dat (.int 0), .no, .no, .no, .no, .no, .no, .no] := E2
  refine ss_forL (ds := cells.map .int) (B := l :: B) (by walk_at "ev") (fun H3 i σ' H' => ∃ acc own, Evn [l] H3 (l :: B) σ' H' [.dat (.list (cells.map .int)), .dat (encF F), .mu l (acc.map encIt), .dat (.int own), .no, .no, .no, .no, .no, .no, .no] ∧ acc.length = i ∧ acc ++ itemsF F own (cells.drop i) = itemsF F 0 cells) (fun H3 e => ⟨[], 0, E2.base e [l], rfl, rfl⟩) (fun H3 i σ' H' e p => by
      obtain ⟨acc, own, E, _⟩ := p
      exact E.ex.mono fun a ha => by rw [List.mem_singleton] at ha; rw [ha]; exact List.mem_cons_self ..) (fun H3 i x d σ' H' e hx rx p => ?_) (fun H3 σ' H' e p => ?_)
  · obtain ⟨acc, own, E3, hacc, hgo⟩ := p
    have hi : i < cells.length := by
      have := (List.getElem?_eq_some_iff.mp hx).1
      rwa [List.length_map] at this
    have hd : d = .int cells[i] := by
      rw [List.getElem?_map, List.getElem?_eq_getElem hi] at hx
      exact (Option.some.inj hx).symm
    subst hd
    have hdrop : cells.drop i = cells[i] :: cells.drop (i + 1) := List.drop_eq_getElem_cons hi
    rw [hdrop] at hgo
    generalize cells[i] = c at *
    obtain ⟨hl, hb⟩ := dI_ok c
    have h0 : 0 ≤ (dI c).getD 0 0 ∧ (dI c).getD 0 0 < 4 := hb 0 (by decide)
    have h2 : 0 ≤ (dI c).getD 2 0 ∧ (dI c).getD 2 0 < 6 := hb 2 (by decide)
    have h4 : 0 ≤ (dI c).getD 4 0 ∧ (dI c).getD 4 0 < 3 := hb 4 (by decide)
    have hX := eX_ok c
    have hY := eY_ok c
    refine g_name (i := 4) E3 rx (fun σ4 E4 => ?_)
    have E4 : Evn [l] H3 (l :: B) σ4 H' [.dat (.list (cells.map .int)), .dat (encF F), .mu l (acc.map encIt), .dat (.int own), .dat (.int c), .no, .no, .no, .no, .no, .no] := E4
    refine ss_set E4 (d := .list ((dI c).map .int)) (ev_draws (cell := c) (tops := topsI) E4.trk (by walk_at "ev") (Ev.is (ev_catL E4.trk (ds := [.int 4, .int (10 ^ 6), .int 6, .int 3, .int 3, .int (10 ^ 9), .int (10 ^ 9)]) (es := (List.replicate 3 [.int 14, .int (10 ^ 9), .int 4, .int (10 ^ 9), .int 60]).flatten) (ev_lst E4.trk (ea_cons (by walk_at "ev") (ea_cons (ev_powI (i := 10) (n := 6) (by walk_at "ev") ev_int (by decide) (by decide) rfl) (ea_cons (by walk_at "ev") (ea_cons (by walk_at "ev") (ea_cons (by walk_at "ev") (ea_cons (ev_powI (i := 10) (n := 9) (by walk_at "ev") ev_int (by decide) (by decide) rfl) (ea_cons (ev_powI (i := 10) (n := 9) (by walk_at "ev") ev_int (by decide) (by decide) rfl) ea_nil))))))) (by simp)) (ev_repL (n := 3) E4.trk (ds := [.int 14, .int (10 ^ 9), .int 4, .int (10 ^ 9), .int 60]) (ev_lst E4.trk (ea_cons (by walk_at "ev") (ea_cons (ev_powI (i := 10) (n := 9) (by walk_at "ev") ev_int (by decide) (by decide) rfl) (ea_cons (by walk_at "ev") (ea_cons (ev_powI (i := 10) (n := 9) (by walk_at "ev") ev_int (by decide) (by decide) rfl) (ea_cons (by walk_at "ev") ea_nil))))) (by simp)) ev_int (by decide) (by decide)) (by decide)) rfl) (by decide) topsI_ok.2) (fun σ5 H5 E5 => ?_)
    have E5 : Evn [l] H3 (l :: B) σ5 H5 [.dat (.list (cells.map .int)), .dat (encF F), .mu l (acc.map encIt), .dat (.int own), .dat (.int c), .dat (.list ((dI c).map .int)), .no, .no, .no, .no, .no] := E5
    refine ss_set E5 (d := .int (ownI own c)) (ev_I0 (i := own) (j := [0, 1, 2 + (dI c).getD 1 0 % 9, 1 + (dI c).getD 1 0].getD ((dI c).getD 0 0).toNat 0) (by walk_at "ev") (ev_pick (xs := [0, 1, 2 + (dI c).getD 1 0 % 9, 1 + (dI c).getD 1 0]) (i := (dI c).getD 0 0) (ev_lst E5.trk (ea_cons (by walk_at "ev") (ea_cons (by walk_at "ev") (ea_cons (ev_I0 (i := 2) (j := (dI c).getD 1 0 % 9) (by walk_at "ev") (ev_I (i := (dI c).getD 1 0) (j := 9) (ev_d (d := dI c) 1 (by rw [hl]; decide) (by walk_at "ev")) (by walk_at "ev") (by decide))) (ea_cons (ev_I0 (i := 1) (j := (dI c).getD 1 0) (by walk_at "ev") (ev_d (d := dI c) 1 (by rw [hl]; decide) (by walk_at "ev"))) ea_nil)))) (by simp)) (ev_d (d := dI c) 0 (by rw [hl]; decide) (by walk_at "ev")) h0.1 (by show (dI c).getD 0 0 < ((4 : Nat) : Int); omega))) (fun σ6 H6 E6 => ?_)
    have E6 : Evn [l] H3 (l :: B) σ6 H6 [.dat (.list (cells.map .int)), .dat (encF F), .mu l (acc.map encIt), .dat (.int (ownI own c)), .dat (.int c), .dat (.list ((dI c).map .int)), .no, .no, .no, .no, .no] := E6
    refine ss_set E6 (d := .int (rankI c)) (ev_pick (xs := [(dI c).getD 3 0, (dI c).getD 3 0, (dI c).getD 3 0, (dI c).getD 3 0, (dI c).getD 5 0 % 60, (dI c).getD 5 0]) (i := (dI c).getD 2 0) (ev_lst E6.trk (ea_cons (ev_d (d := dI c) 3 (by rw [hl]; decide) (by walk_at "ev")) (ea_cons (ev_d (d := dI c) 3 (by rw [hl]; decide) (by walk_at "ev")) (ea_cons (ev_d (d := dI c) 3 (by rw [hl]; decide) (by walk_at "ev")) (ea_cons (ev_d (d := dI c) 3 (by rw [hl]; decide) (by walk_at "ev")) (ea_cons (ev_I (i := (dI c).getD 5 0) (j := 60) (ev_d (d := dI c) 5 (by rw [hl]; decide) (by walk_at "ev")) (by walk_at "ev") (by decide)) (ea_cons (ev_d (d := dI c) 5 (by rw [hl]; decide) (by walk_at "ev")) ea_nil)))))) (by simp)) (ev_d (d := dI c) 2 (by rw [hl]; decide) (by walk_at "ev")) h2.1 (by show (dI c).getD 2 0 < ((6 : Nat) : Int); omega)) (fun σ7 H7 E7 => ?_)
    have E7 : Evn [l] H3 (l :: B) σ7 H7 [.dat (.list (cells.map .int)), .dat (encF F), .mu l (acc.map encIt), .dat (.int (ownI own c)), .dat (.int c), .dat (.list ((dI c).map .int)), .dat (.int (rankI c)), .no, .no, .no, .no] := E7
    refine ss_set E7 (d := .int (colI c)) (ev_pick (xs := [(dI c).getD 4 0, 0, rankI c % 12, (dI c).getD 4 0, (dI c).getD 6 0, (dI c).getD 4 0 * 7]) (i := (dI c).getD 2 0) (ev_lst E7.trk (ea_cons (ev_d (d := dI c) 4 (by rw [hl]; decide) (by walk_at "ev")) (ea_cons (by walk_at "ev") (ea_cons (ev_I (i := rankI c) (j := 12) (by walk_at "ev") (by walk_at "ev") (by decide)) (ea_cons (ev_d (d := dI c) 4 (by rw [hl]; decide) (by walk_at "ev")) (ea_cons (ev_d (d := dI c) 6 (by rw [hl]; decide) (by walk_at "ev")) (ea_cons (ev_I (i := (dI c).getD 4 0) (j := 7) (ev_d (d := dI c) 4 (by rw [hl]; decide) (by walk_at "ev")) (by walk_at "ev") (cm (show Sz 3 ((dI c).getD 4 0) by unfold Sz; omega) (sz_lit (n := 3) (by decide)) (by decide) (by decide))) ea_nil)))))) (by simp)) (ev_d (d := dI c) 2 (by rw [hl]; decide) (by walk_at "ev")) h2.1 (by show (dI c).getD 2 0 < ((6 : Nat) : Int); omega)) (fun σ8 H8 E8 => ?_)
    have E8 : Evn [l] H3 (l :: B) σ8 H8 [.dat (.list (cells.map .int)), .dat (encF F), .mu l (acc.map encIt), .dat (.int (ownI own c)), .dat (.int c), .dat (.list ((dI c).map .int)), .dat (.int (rankI c)), .dat (.int (colI c)), .no, .no, .no] := E8
    refine ss_set E8 (d := encC (cellX F.ws (subD (dI c) 7 5))) (ev_cellX E8.trk (by walk_at "ev") (Ev.is (ev_slL (lo := some 7) (hi := some 12) E8.trk (by walk_at "ev") (eo_some (by walk_at "ev")) (eo_some (by walk_at "ev"))) (congrArg PyData.list (cut_sub (d := dI c) (a := 7) (n := 5) (by rw [hl]; decide)))) hF.x hX) (fun σ9 H9 E9 => ?_)
    have E9 : Evn [l] H3 (l :: B) σ9 H9 [.dat (.list (cells.map .int)), .dat (encF F), .mu l (acc.map encIt), .dat (.int (ownI own c)), .dat (.int c), .dat (.list ((dI c).map .int)), .dat (.int (rankI c)), .dat (.int (colI c)), .dat (encC (cellX F.ws (subD (dI c) 7 5))), .no, .no] := E9
    refine ss_set E9 (d := encO (cellY F.s (subD (dI c) 12 5))) (ev_cellY E9.trk (by walk_at "ev") (Ev.is (ev_slL (lo := some 12) (hi := some 17) E9.trk (by walk_at "ev") (eo_some (by walk_at "ev")) (eo_some (by walk_at "ev"))) (congrArg PyData.list (cut_sub (d := dI c) (a := 12) (n := 5) (by rw [hl]; decide)))) hF.y hY) (fun σ10 H10 E10 => ?_)
    refine ss_set E10 (d := .none) (by walk_at "ev") (fun σ11 H11 E11 => ?_)
    have E11 : Evn [l] H3 (l :: B) σ11 H11 [.dat (.list (cells.map .int)), .dat (encF F), .mu l (acc.map encIt), .dat (.int (ownI own c)), .dat (.int c), .dat (.list ((dI c).map .int)), .dat (.int (rankI c)), .dat (.int (colI c)), .dat (encC (cellX F.ws (subD (dI c) 7 5))), .dat (encO (cellY F.s (subD (dI c) 12 5))), .dat .none] := E11
    have hs : (0 : Int) < [20, 10 ^ 9].getD (if decide ((dI c).getD 2 0 = 4) then (1 : Int) else 0).toNat 0 := by split <;> decide
    refine ss_app (d := encIt (itemF F own c)) E11 rfl (.inr (List.mem_cons_self ..)) (mu_ok ⟨trivial, trivial, trivial, trivial, trivial, trivial, trivial, trivial, trivial, trivial, trivial⟩) (ev_tup E11.trk (ea_cons (by walk_at "ev") (ea_cons (by walk_at "ev") (ea_cons (by walk_at "ev") (ea_cons (by walk_at "ev") (ea_cons (by walk_at "ev") (ea_cons (by walk_at "ev") (ea_cons (ev_I0 (i := 1) (j := (dI c).getD 6 0 % [20, 10 ^ 9].getD (if decide ((dI c).getD 2 0 = 4) then (1 : Int) else 0).toNat 0) (by walk_at "ev") (ev_I (i := (dI c).getD 6 0) (j := [20, 10 ^ 9].getD (if decide ((dI c).getD 2 0 = 4) then (1 : Int) else 0).toNat 0) (ev_d (d := dI c) 6 (by rw [hl]; decide) (by walk_at "ev")) (ev_pick (xs := [20, 10 ^ 9]) (i := if decide ((dI c).getD 2 0 = 4) then (1 : Int) else 0) (ev_lst E11.trk (ea_cons (by walk_at "ev") (ea_cons (ev_powI (i := 10) (n := 9) (by walk_at "ev") ev_int (by decide) (by decide) rfl) ea_nil)) (by simp)) (ev_intB (ev_eqI (i := (dI c).getD 2 0) (j := 4) (ev_d (d := dI c) 2 (by rw [hl]; decide) (by walk_at "ev")) (by walk_at "ev"))) (by split <;> decide) (by split <;> decide)) hs)) ea_nil))))))) (by simp)) (by rw [List.length_map]; omega) (fun H12 E12 => ?_)
    refine s_set E12 (d := .int (ownI own c + 1)) (ev_I0 (i := ownI own c) (j := 1) (by walk_at "ev") (by walk_at "ev")) (fun σ13 H13 E13 => ?_)
    refine ⟨acc ++ [itemF F own c], ownI own c + 1, Evn.few E13 _ ⟨.inr rfl, .inr rfl, .inr ?_, .inr rfl, .inl rfl, .inl rfl, .inl rfl, .inl rfl, .inl rfl, .inl rfl, .inl rfl, trivial⟩, by rw [List.length_append, hacc]; rfl, ?_⟩
    · rw [List.map_append]
      rfl
    · rw [← hgo, List.append_assoc]
      rfl
  · obtain ⟨acc, own, E3, hacc, hgo⟩ := p
    rw [List.length_map, List.drop_length] at hgo
    have ea : acc = itemsF F 0 cells := by
      rw [← hgo]
      exact (List.append_nil _).symm
    subst ea
    have E4 := E2.back e E3 (fun x hx => by
      rw [List.mem_singleton] at hx
      exact .inr (by rw [hx]; exact hl0))
    exact s_retM E4 rfl hlB q
end
end M

end
section
set_option maxHeartbeats 4000000
set_option exponentiation.threshold 10000
namespace M
open PySem PySem.Spec PyProof.Rows L2

section
variable {X : Cx}
theorem kpi_tup {K : PySem.W.Frag} {tg l : Expr} {tl : TE} (h : X.K = K) (hl : PE X l tl) : PI X tg l (iTup K tl) := by
  subst h
  exact pi_tup hl
end
section
variable {K : PySem.W.Frag} {C B : List Addr} {σ : L2.St} {H H0 H' : Hp} {G : List Sl} {ta tb tc td te tl : TE} {t : TT} {E : XK} {i : Int} {d : PyData}
/-- [True for x in a tuple of numbers ..]: the block alone -/
theorem ev_lcT {xs : List Int} {m : Nat} (E : Evn C H0 B σ H G) (hC : ∀ l ∈ C, l ∈ B) (hm : m < G.length) (h : Ev B tl σ H (.tuple (xs.map .int))) (hl : xs.length ≤ 1000)
    (hs : ∀ (l : Addr) (x : Int) σ' H', Evn C H0 (l :: B) σ' H' (G.set m (.dat (.int x))) → Ev (l :: B) te σ' H' (.bool true)) :
    Ev B (tLc (iTup K tl) (gName m) tYes te [m]) σ H (.list ((List.replicate xs.length true).map .bool)) := fun H1 e Q q => by
  have E1 := E.same e
  refine h H1 e _ fun v H2 e2 r => ?_
  have E2 := E1.same e2
  cases r with
  | @tup a ys _ ha na ra =>
    refine ⟨a, rfl, ⟨ys, Or.inl (Or.inl ha)⟩, fun p0 hp => ?_⟩
    have hB := Trk.out E2.trk hp
    have hne : a ≠ p0 := fun z => by rw [z, hp] at ha; cases ha
    have mk : ∀ (H3 : Hp) (vs : List V), (∀ b o, b ≠ p0 → H2 b = some o → H3 b = some o) → H3 p0 = some (.lst vs) → Evn C H0 (p0 :: B) (wipe σ [m]) H3 (G.set m .no) := fun H3 vs k1 k2 => by
      have ex : ExB [p0] H2 H3 := fun b o n ho => k1 b o (fun z => n (z ▸ List.mem_singleton.mpr rfl)) ho
      refine ⟨fun b o n ho => ?_, fun b hb => ?_, by rw [wipe_length, List.length_set, E2.len], fun j s hj => ?_⟩
      · have := E2.ex b o n ho
        exact k1 b o (fun z => by rw [z, hp] at this; cases this) this
      · rcases List.mem_cons.mp hb with rfl | hb
        · rw [k2]
          exact fun z => nomatch z
        · have := E2.trk b hb
          cases hh : H2 b with
          | none => exact absurd hh this
          | some o =>
            rw [k1 b o (fun z => hB (z ▸ hb)) hh]
            exact fun z => nomatch z
      · by_cases hjm : m = j
        · subst hjm
          rw [List.getElem?_set_self hm] at hj
          cases hj
          trivial
        · rw [List.getElem?_set_ne hjm] at hj
          have ew : (wipe σ [m])[j]? = σ[j]? := wipe_out (by rw [List.mem_singleton]; exact fun z => hjm z.symm)
          rw [ew]
          cases s with
          | no => trivial
          | dat d =>
            obtain ⟨u, a1, a2⟩ := E2.at_ j _ hj
            exact ⟨u, a1, (a2.grow hp).exB (fun b o n ho => k1 b o (fun z => n (z ▸ List.mem_cons_self ..)) ho)⟩
          | mu l' es =>
            obtain ⟨a1, a2, us, a3, a4⟩ := E2.at_ j _ hj
            exact ⟨a1, List.mem_cons_of_mem _ a2, us, k1 _ _ (fun z => by rw [z, hp] at a3; cases a3) a3, (a4.grow hp).exB (fun b o n ho => k1 b o (fun z => n (z ▸ List.mem_cons_self ..)) ho)⟩
          | ptr l' => exact E2.at_ j _ hj
    have ral := ra.len
    refine lc_tup (K := K) (a := a) (xs := ys) (fun i H3 => i ≤ ys.length ∧ (∀ b o, b ≠ p0 → H2 b = some o → H3 b = some o) ∧ ∃ acc, H3 p0 = some (.lst acc) ∧ RA (p0 :: B) H3 acc ((List.replicate i true).map .bool)) ⟨Nat.zero_le _, fun b o hb ho => by rw [upd_ne hb]; exact ho, [], upd_same, .nil⟩ (fun i H3 _ p3 => Or.inl (Or.inl (p3.2.1 a _ hne ha))) (fun i x H3 hx p3 => ?_) fun H3 p3 => ?_
    · obtain ⟨hle, k1, acc, k2, k3⟩ := p3
      have M3 := mk H3 acc k1 k2
      obtain ⟨d, h1, h2⟩ := ra.getV hx
      have hi : i < xs.length := by
        have := (List.getElem?_eq_some_iff.mp h1).1
        rwa [List.length_map] at this
      have hd : d = .int xs[i] := by
        rw [List.getElem?_map, List.getElem?_eq_getElem hi] at h1
        exact (Option.some.inj h1).symm
      subst hd
      have r3 : R (p0 :: B) H3 x (.int xs[i]) := (h2.grow hp).exB fun b o n ho => k1 b o (fun z => n (z ▸ List.mem_cons_self ..)) ho
      have M4 : Evn C H0 (p0 :: B) ((wipe σ [m]).set m (some x)) H3 (G.set m (.dat (.int xs[i]))) := by
        have := M3.set (i := m) r3
        rwa [List.set_set] at this
      refine ⟨by
        show ((((σ.set m none)).set m (some x))).set m none = σ.set m none
        rw [List.set_set, List.set_set], ?_⟩
      unfold tYes
      simp only [if_true]
      refine hs p0 xs[i] _ _ M4 H3 (Same.refl H3) _ fun y H5 e5 r5 => ?_
      have al : acc.length ≤ 1000 := by
        rw [k3.len, List.length_map, List.length_replicate]
        omega
      refine ⟨acc, e5 _ _ k2, small1000 al, by rw [ral, List.length_map]; omega, fun b o hb ho => by rw [upd_ne hb]; exact e5 b o (k1 b o hb ho), acc ++ [y], upd_same, ?_⟩
      rw [List.replicate_succ', List.map_append]
      have ex : ExB (p0 :: B) H5 (upd H5 p0 (.lst (acc ++ [y]))) := fun b o n ho => by
        rw [upd_ne (fun z => n (by rw [z]; exact List.mem_cons_self ..))]
        exact ho
      exact (((k3.same e5).app (.one r5)).exB ex)
    · obtain ⟨_, k1, acc, k2, k3⟩ := p3
      rw [ral, List.length_map] at k3
      refine q _ _ (e2.trans fun b o ho => k1 b o (fun z => by rw [z, hp] at ho; cases ho) ho) (.lst k2 hB (k3.sub fun a h => List.mem_cons_of_mem _ h))
/-! the dict of the items -/
def dictOf (its : List It) : PyData := .dict (its.map fun i => (.int i.own, encIt i))
theorem RD.find {B : List Addr} {H : Hp} : ∀ {its : List It} {kvs : List (Key × V)} {i : It}, RD B H kvs (its.map fun i => (.int i.own, encIt i)) → (its.map (·.own)).Nodup → i ∈ its → ∃ v, valV kvs (.inl i.own) = some v ∧ R B H v (encIt i)
  | [], _, _, _, _, hi => nomatch hi
  | j :: r, kvs, i, h, nd, hi => by
    obtain ⟨n1, n2⟩ := List.nodup_cons.mp nd
    generalize hl : (j :: r).map (fun i => (PyData.int i.own, encIt i)) = l at h
    cases h with
    | nil => cases hl
    | @cons k v vs d ds hv ht =>
      rw [List.map_cons] at hl
      have e1 := (List.cons.inj hl).1
      have e2 := (List.cons.inj hl).2
      have ek : kD k = .int j.own := (congrArg Prod.fst e1).symm
      have ed : d = encIt j := (congrArg Prod.snd e1).symm
      subst ed
      rw [← e2] at ht
      have ekk : k = .inl j.own := by
        cases k with
        | inl z => cases ek; rfl
        | inr z => cases ek
      subst ekk
      rcases List.mem_cons.mp hi with rfl | hi
      · exact ⟨v, valV_pos rfl, hv⟩
      · have hne : j.own ≠ i.own := fun z => n1 (by
          show j.own ∈ _
          rw [z]
          exact List.mem_map_of_mem (f := (·.own)) hi)
        rw [valV_neg (fun z => hne (Sum.inl.inj z))]
        exact RD.find ht n2 hi
theorem ev_dget {its : List It} {i : It} (h1 : Ev B td σ H (dictOf its)) (h2 : Ev B te σ H (.int i.own)) (nd : (its.map (·.own)).Nodup) (hi : i ∈ its) : Ev B (tDGet td te) σ H (encIt i) := fun H1 e Q q =>
  h1 H1 e _ fun v H2 e2 r2 => h2 H2 (e.trans e2) _ fun w H3 e3 r3 => by
    cases r3
    have r2 : R B H3 v (.dict (its.map fun i => (.int i.own, encIt i))) := r2.same e3
    cases r2 with
    | dct ha na rd =>
      obtain ⟨u, hu, ru⟩ := RD.find rd nd hi
      have g := DGet.k (k := .inl i.own) ha
      rw [hu] at g
      exact ⟨_, u, rfl, g, q u H3 (e2.trans e3) ru⟩
end
def dTold (ds : List PyData) (r : PyData) : Prop := ∃ (side : Str) (ms : List Mk) (ls : List Ls), ds = [.tuple [.list (ms.map (encM side)), .list (ls.map encL)]] ∧ r = .bool true
theorem dTold_len : ∀ ds r, dTold ds r → ds.length = 1 := by rintro _ _ ⟨_, _, _, rfl, _⟩; rfl
theorem ev_told {C B : List Addr} {σ : L2.St} {H : Hp} {ta : TE} {E : XK} {side : Str} {ms : List Mk} {ls : List Ls} (ht : Trk B H) (h : Ev B ta σ H (.tuple [.list (ms.map (encM side)), .list (ls.map encL)])) : Ev B (tCall (SpD dTold) [] E (tCons ta tNil)) σ H (.bool true) := ev_call ht (ea_cons h ea_nil) ⟨side, ms, ls, rfl, rfl⟩

local macro_rules | `(tactic| walk_at "ev") => `(tactic| first
  | with_reducible exact ev_int
  | with_reducible exact ev_str
  | with_reducible exact ev_bl
  | with_reducible exact ev_non
  | ((with_reducible refine' ev_var (by assumption) ?_); rfl)
  | ((with_reducible refine ev_I0 (i := ?i) (j := ?j) ?h1 ?h2); (case h1 => walk_at "ev"); (case h2 => walk_at "ev"))
  | ((with_reducible refine ev_I0b (i := ?i) (j := ?j) ?h1 ?h2); (case h1 => walk_at "ev"); (case h2 => walk_at "ev"))
  | ((with_reducible refine ev_eqI (i := ?i) (j := ?j) ?h1 ?h2); (case h1 => walk_at "ev"); (case h2 => walk_at "ev"))
  | ((with_reducible refine ev_neI (i := ?i) (j := ?j) ?h1 ?h2); (case h1 => walk_at "ev"); (case h2 => walk_at "ev"))
  | ((with_reducible refine ev_neg (i := ?i) ?h1); (case h1 => walk_at "ev"))
  | ((with_reducible refine ev_fst (x := ?x) ?h1); (case h1 => walk_at "ev"))
  | ((with_reducible refine ev_snd (x := ?x) ?h1); (case h1 => walk_at "ev"))
  | ((with_reducible refine ev_fstP (p := ?x) ?h1); (case h1 => walk_at "ev"))
  | ((with_reducible refine ev_sndP (p := ?x) ?h1); (case h1 => walk_at "ev"))
  | ((with_reducible refine ev_ixT (ds := ?ds) (i := ?i) ?h1 ?h2 ?h3); (case h1 => walk_at "ev"); (case h2 => walk_at "ev"); (case h3 => rfl))
  | ((with_reducible refine ev_ixL (ds := ?ds) (i := ?i) ?h1 ?h2 ?h3); (case h1 => walk_at "ev"); (case h2 => walk_at "ev"); (case h3 => rfl))
  | ((with_reducible refine ev_pair1 (a := ?a) (Evn.trk (by assumption)) ?h1); (case h1 => walk_at "ev"))
  | ((with_reducible refine ev_abs (i := ?i) ?h1); (case h1 => walk_at "ev")))

section
variable {P : Program} {w : World} {K : PySem.W.Frag} {mg : Str → Option Value} {base : Heap}
theorem sc__law_told : FnScope ["_law_found", "_law_mark", "_law_thing", "_law_row"] ["_law_found"] (defScope s__law_told) := ⟨rfl, rfl, rfl, by decide +kernel, rfl, by decide +kernel, by decide +kernel⟩
theorem ok__law_told (F : Fn K mg "_law_told" s__law_told) (c__law_whole : Cal P w K mg base 1 "_law_whole" ["_law_found"] (SpD dWhole)) (m_len : mg "len" = none) (m_tuple : mg "tuple" = none) (m_isinstance : mg "isinstance" = none) (m_list : mg "list" = none) (m_str : mg "str" = none) (m_all : mg "all" = none) : Cal P w K mg base 2 "_law_told" ["_law_found"] (SpD dTold) := by
  refine cal_D F sc__law_told (fun _ _ _ _ _ _ us hl => match us, hl with | [_], _ => rfl) dTold_len (by decide) ⟨_, fun f cdv A outer s H E hr =>
      (pss_cons (ps_if (PW.pt (pw_or (pt_not (pt_val (pe_callB (kcall_isi (K := K) rfl) (by rfl) m_isinstance bt_isinstance (pa_cons (pv 0) (pa_cons (pe_bltn (v := .ty "tuple") (by rfl) m_tuple bt_tuple rfl) pa_nil))))) (pw_or1 (pt_cmpR op_ne (pe_callB (kcall_len (K := K) rfl) (by rfl) m_len bt_len (pa_cons (pv 0) pa_nil)) pe_int (nomark _))))) (pss_one (ps_ret pe_bl)) pss_nil)
      (pss_cons (ps_if (PW.pt (pw_or (pt_not (pt_val (pe_callB (kcall_isi (K := K) rfl) (by rfl) m_isinstance bt_isinstance (pa_cons (pe_ix (kx_tup (K := K) rfl) (pv 0) pe_int (fun _ _ => rfl)) (pa_cons (pe_bltn (v := .ty "list") (by rfl) m_list bt_list rfl) pa_nil))))) (pw_or1 (pt_not (pt_val (pe_callB (kcall_isi (K := K) rfl) (by rfl) m_isinstance bt_isinstance (pa_cons (pe_ix (kx_tup (K := K) rfl) (pv 0) pe_int (fun _ _ => rfl)) (pa_cons (pe_bltn (v := .ty "list") (by rfl) m_list bt_list rfl) pa_nil)))))))) (pss_one (ps_ret pe_bl)) pss_nil)
      (pss_cons (ps_for PassesOwn.never rfl (kpi_list (K := K) rfl (pe_ix (kx_tup (K := K) rfl) (pv 0) pe_int (fun _ _ => rfl))) (pg_name (i := 1) sc__law_told.nd rfl (Or.inl rfl))
        (pss_cons (ps_if (PW.pt (pw_or (pt_not (pt_val (pe_callB (kcall_isi (K := K) rfl) (by rfl) m_isinstance bt_isinstance (pa_cons (pv 1) (pa_cons (pe_bltn (v := .ty "tuple") (by rfl) m_tuple bt_tuple rfl) pa_nil))))) (pw_or (pt_cmpR op_ne (pe_callB (kcall_len (K := K) rfl) (by rfl) m_len bt_len (pa_cons (pv 1) pa_nil)) pe_int (nomark _)) (pw_or (pt_not (pt_val (pe_callB (kcall_isi (K := K) rfl) (by rfl) m_isinstance bt_isinstance (pa_cons (pe_ix (kx_tup (K := K) rfl) (pv 1) pe_int (fun _ _ => rfl)) (pa_cons (pe_bltn (v := .ty "tuple") (by rfl) m_tuple bt_tuple rfl) pa_nil))))) (pw_or1 (pt_cmpR op_ne (pe_callB (kcall_len (K := K) rfl) (by rfl) m_len bt_len (pa_cons (pe_ix (kx_tup (K := K) rfl) (pv 1) pe_int (fun _ _ => rfl)) pa_nil)) pe_int (nomark _))))))) (pss_one (ps_ret pe_bl)) pss_nil)
        (pss_cons (ps_if (PW.pt (pw_or (pt_not (pt_val (pe_callB (kcall_isi (K := K) rfl) (by rfl) m_isinstance bt_isinstance (pa_cons (pe_ix (kx_tup (K := K) rfl) (pv 1) pe_int (fun _ _ => rfl)) (pa_cons (pe_bltn (v := .ty "list") (by rfl) m_list bt_list rfl) pa_nil))))) (pw_or (pt_cmpR op_ne (pe_callB (kcall_len (K := K) rfl) (by rfl) m_len bt_len (pa_cons (pe_ix (kx_tup (K := K) rfl) (pv 1) pe_int (fun _ _ => rfl)) pa_nil)) pe_int (nomark _)) (pw_or1 (pt_not (pt_val (pe_cal c__law_whole hr (by decide) (by rfl) (pa_cons (pe_ix (kx_list (K := K) rfl) (pe_ix (kx_tup (K := K) rfl) (pv 1) pe_int (fun _ _ => rfl)) pe_int (fun _ _ => rfl)) pa_nil)))))))) (pss_one (ps_ret pe_bl)) pss_nil)
        (pss_cons (ps_if (PW.pt (pw_or (pt_not (pt_val (pe_callB (kcall_isi (K := K) rfl) (by rfl) m_isinstance bt_isinstance (pa_cons (pe_ix (kx_tup (K := K) rfl) (pe_ix (kx_tup (K := K) rfl) (pv 1) pe_int (fun _ _ => rfl)) pe_int (fun _ _ => rfl)) (pa_cons (pe_bltn (v := .ty "str") (by rfl) m_str bt_str rfl) pa_nil))))) (pw_or1 (pt_not (pt_val (pe_callB (kcall_isi (K := K) rfl) (by rfl) m_isinstance bt_isinstance (pa_cons (pe_ix (kx_tup (K := K) rfl) (pe_ix (kx_tup (K := K) rfl) (pv 1) pe_int (fun _ _ => rfl)) pe_int (fun _ _ => rfl)) (pa_cons (pe_bltn (v := .ty "str") (by rfl) m_str bt_str rfl) pa_nil)))))))) (pss_one (ps_ret pe_bl)) pss_nil)
        (pss_one (ps_if (pt_not (pt_val (pe_callB (kcr_all (K := K) rfl rfl) (by rfl) m_all bt_all (pa_cons (pe_lc (own := [("_law_thing", 2)]) rfl sc__law_told.nd (kpi_tup (K := K) rfl (pe_slice (ksl_tup (K := K) rfl) (pe_ix (kx_tup (K := K) rfl) (pv 1) pe_int (fun _ _ => rfl)) (po_some pe_int) po_none)) (blkOk_by (own := [("_law_thing", 2)]) (N := ["_law_found", "_law_mark", "_law_thing", "_law_row"]) (sc := defScope s__law_told) (by decide +kernel)) (fun _ _ _ _ _ => pg_name (i := 2) sc__law_told.nd rfl (Or.inl rfl)) (fun _ _ _ _ _ => pts_nil) (fun _ _ _ _ _ => (pe_cal c__law_whole hr (by decide) (by rfl) (pa_cons (pv 2) pa_nil)))) pa_nil)))) (pss_one (ps_ret pe_bl)) pss_nil))))))
      (pss_cons (ps_for PassesOwn.never rfl (kpi_list (K := K) rfl (pe_ix (kx_tup (K := K) rfl) (pv 0) pe_int (fun _ _ => rfl))) (pg_name (i := 3) sc__law_told.nd rfl (Or.inl rfl))
        (pss_cons (ps_if (PW.pt (pw_or (pt_not (pt_val (pe_callB (kcall_isi (K := K) rfl) (by rfl) m_isinstance bt_isinstance (pa_cons (pv 3) (pa_cons (pe_bltn (v := .ty "tuple") (by rfl) m_tuple bt_tuple rfl) pa_nil))))) (pw_or (pt_cmpR op_ne (pe_callB (kcall_len (K := K) rfl) (by rfl) m_len bt_len (pa_cons (pv 3) pa_nil)) pe_int (nomark _)) (pw_or1 (pt_not (pt_val (pe_cal c__law_whole hr (by decide) (by rfl) (pa_cons (pe_ix (kx_tup (K := K) rfl) (pv 3) pe_int (fun _ _ => rfl)) pa_nil)))))))) (pss_one (ps_ret pe_bl)) pss_nil)
        (pss_one (ps_if (PW.pt (pw_or (pt_not (pt_val (pe_callB (kcall_isi (K := K) rfl) (by rfl) m_isinstance bt_isinstance (pa_cons (pe_ix (kx_tup (K := K) rfl) (pv 3) pe_int (fun _ _ => rfl)) (pa_cons (pe_bltn (v := .ty "str") (by rfl) m_str bt_str rfl) pa_nil))))) (pw_or1 (pt_not (pt_val (pe_callB (kcall_isi (K := K) rfl) (by rfl) m_isinstance bt_isinstance (pa_cons (pe_ix (kx_tup (K := K) rfl) (pv 3) pe_int (fun _ _ => rfl)) (pa_cons (pe_bltn (v := .ty "str") (by rfl) m_str bt_str rfl) pa_nil)))))))) (pss_one (ps_ret pe_bl)) pss_nil))))
      (pss_one (ps_ret pe_bl)))))), fun ds r hd B H σ D E0 q => ?_⟩
  obtain ⟨side, ms, ls, rfl, rfl⟩ := hd
  have E0 : Evn [] H B σ H [.dat (.tuple [.list (ms.map (encM side)), .list (ls.map encL)]), .no, .no, .no] := E0
  refine ss_ifF E0 (et_or0 (Evt_isNone (et_not (et_B (ev_isi (d := .tuple [.list (ms.map (encM side)), .list (ls.map encL)]) (by walk_at "ev") kb_tt))) rfl) (Evt_isNone (et_test (ev_neI (i := ((2 : Nat) : Int)) (j := 2) (ev_lenT (ds := [.list (ms.map (encM side)), .list (ls.map encL)]) (by walk_at "ev")) (by walk_at "ev"))) (by simp))) (fun H1 E1 => ?_)
  refine ss_ifF E1 (et_or0 (Evt_isNone (et_not (et_B (ev_isi (d := .list (ms.map (encM side))) (by walk_at "ev") kb_ll))) rfl) (Evt_isNone (et_not (et_B (ev_isi (d := .list (ls.map encL)) (by walk_at "ev") kb_ll))) rfl)) (fun H2 E2 => ?_)
  refine ss_forL (ds := ms.map (encM side)) (B := B) (by walk_at "ev") (fun H3 i σ' H' => Evn [] H3 B σ' H' [.dat (.tuple [.list (ms.map (encM side)), .list (ls.map encL)]), .no, .no, .no]) (fun H3 e => E2.base e []) (fun H3 i σ' H' e E => E.ex.mono fun a z => absurd z (by simp)) (fun H3 i x d σ' H' e hx rx E3 => ?_) (fun H3 σ' H' e E3 => ?_)
  · have hi : i < ms.length := by
      have := (List.getElem?_eq_some_iff.mp hx).1
      rwa [List.length_map] at this
    have hd : d = encM side ms[i] := by
      rw [List.getElem?_map, List.getElem?_eq_getElem hi] at hx
      exact (Option.some.inj hx).symm
    subst hd
    generalize ms[i] = m at *
    refine g_name (i := 1) E3 rx (fun σ4 E4 => ?_)
    have E4 : Evn [] H3 B σ4 H' [.dat (.tuple [.list (ms.map (encM side)), .list (ls.map encL)]), .dat (.tuple [.tuple [.str "part", .str side, .int m.x0, .int m.x1, .int m.lo, .int m.hi, .int m.col], .list [.int m.own]]), .no, .no] := E4
    refine ss_ifF E4 (et_or0 (Evt_isNone (et_not (et_B (ev_isi (d := .tuple [.tuple [.str "part", .str side, .int m.x0, .int m.x1, .int m.lo, .int m.hi, .int m.col], .list [.int m.own]]) (by walk_at "ev") kb_tt))) rfl) (et_or0 (Evt_isNone (et_test (ev_neI (i := ((2 : Nat) : Int)) (j := 2) (ev_lenT (ds := [.tuple [.str "part", .str side, .int m.x0, .int m.x1, .int m.lo, .int m.hi, .int m.col], .list [.int m.own]]) (by walk_at "ev")) (by walk_at "ev"))) (by simp)) (et_or0 (Evt_isNone (et_not (et_B (ev_isi (d := .tuple [.str "part", .str side, .int m.x0, .int m.x1, .int m.lo, .int m.hi, .int m.col]) (by walk_at "ev") kb_tt))) rfl) (Evt_isNone (et_test (ev_neI (i := ((7 : Nat) : Int)) (j := 7) (ev_lenT (ds := [.str "part", .str side, .int m.x0, .int m.x1, .int m.lo, .int m.hi, .int m.col]) (by walk_at "ev")) (by walk_at "ev"))) (by simp))))) (fun H5 E5 => ?_)
    refine ss_ifF E5 (et_or0 (Evt_isNone (et_not (et_B (ev_isi (d := .list [.int m.own]) (by walk_at "ev") kb_ll))) rfl) (et_or0 (Evt_isNone (et_test (ev_neI (i := ((1 : Nat) : Int)) (j := 1) (ev_lenL (ds := [.int m.own]) (by walk_at "ev")) (by walk_at "ev"))) (by simp)) (Evt_isNone (et_not (et_B (ev_whole (i := m.own) E5.trk (by walk_at "ev")))) rfl))) (fun H6 E6 => ?_)
    refine ss_ifF E6 (et_or0 (Evt_isNone (et_not (et_B (ev_isi (d := .str "part") (by walk_at "ev") kb_ss))) rfl) (Evt_isNone (et_not (et_B (ev_isi (d := .str side) (by walk_at "ev") kb_ss))) rfl)) (fun H7 E7 => ?_)
    refine s_ifF E7 (Evt_isNone (et_not (et_B (ev_all (bs := List.replicate 5 true) (ev_lcT (xs := [m.x0, m.x1, m.lo, m.hi, m.col]) E7 (fun l hl => nomatch hl) (by show 2 < 4; decide) (Ev.is (ev_slT (ds := [.str "part", .str side, .int m.x0, .int m.x1, .int m.lo, .int m.hi, .int m.col]) (lo := some 2) (hi := none) E7.trk (by walk_at "ev") (eo_some (by walk_at "ev")) eo_none (by show ¬ (HT.sIx 7 0 (some 2) = 0 ∧ HT.sIx 7 7 none = 7); decide)) rfl) (by show 5 ≤ 1000; decide) (fun l x σ' H' E8 => ev_whole E8.trk (by walk_at "ev")))))) (by decide)) (fun H8 E8 => ?_)
    exact Evn.few E8 _ ⟨.inr rfl, .inl rfl, .inr rfl, .inr rfl, trivial⟩
  · have E4 := E2.back e E3 (fun x hx => nomatch hx)
    refine ss_forL (ds := ls.map encL) (B := B) (by walk_at "ev") (fun H3 i σ' H' => Evn [] H3 B σ' H' [.dat (.tuple [.list (ms.map (encM side)), .list (ls.map encL)]), .no, .no, .no]) (fun H3 e => E4.base e []) (fun H3 i σ' H' e E => E.ex.mono fun a z => absurd z (by simp)) (fun H3 i x d σ' H' e hx rx E3 => ?_) (fun H3 σ' H' e E3 => ?_)
    · have hi : i < ls.length := by
        have := (List.getElem?_eq_some_iff.mp hx).1
        rwa [List.length_map] at this
      have hd : d = encL ls[i] := by
        rw [List.getElem?_map, List.getElem?_eq_getElem hi] at hx
        exact (Option.some.inj hx).symm
      subst hd
      generalize ls[i] = m at *
      refine g_name (i := 3) E3 rx (fun σ4 E4 => ?_)
      have E4 : Evn [] H3 B σ4 H' [.dat (.tuple [.list (ms.map (encM side)), .list (ls.map encL)]), .no, .no, .dat (.tuple [.int m.own, .str m.ch, .str m.why])] := E4
      refine ss_ifF E4 (et_or0 (Evt_isNone (et_not (et_B (ev_isi (d := .tuple [.int m.own, .str m.ch, .str m.why]) (by walk_at "ev") kb_tt))) rfl) (et_or0 (Evt_isNone (et_test (ev_neI (i := ((3 : Nat) : Int)) (j := 3) (ev_lenT (ds := [.int m.own, .str m.ch, .str m.why]) (by walk_at "ev")) (by walk_at "ev"))) (by simp)) (Evt_isNone (et_not (et_B (ev_whole (i := m.own) E4.trk (by walk_at "ev")))) rfl))) (fun H5 E5 => ?_)
      refine s_ifF E5 (et_or0 (Evt_isNone (et_not (et_B (ev_isi (d := .str m.ch) (by walk_at "ev") kb_ss))) rfl) (Evt_isNone (et_not (et_B (ev_isi (d := .str m.why) (by walk_at "ev") kb_ss))) rfl)) (fun H6 E6 => ?_)
      exact Evn.few E6 _ ⟨.inr rfl, .inr rfl, .inr rfl, .inl rfl, trivial⟩
    · have E5 := E4.back e E3 (fun x hx => nomatch hx)
      exact s_ret E5 (d := .bool true) (by walk_at "ev") q
end
end M

end
section
set_option maxHeartbeats 4000000
set_option exponentiation.threshold 10000
namespace M
open PySem PySem.Spec PyProof.Rows L2

/-! ### the marks of one word, a loss -/
def encPrev : Option (Int × Int) → PyData
  | none => .none
  | some p => .tuple [.int p.1, .int p.2]
def lex2 (p q : Int × Int) : Prop := p.1 < q.1 ∨ (p.1 = q.1 ∧ p.2 < q.2)
def ChainOk (F : Fld) (w : Str) (its : List It) (D : Nat) : Rat → Option (Int × Int) → List (It × Rat) → Prop
  | _, _, [] => True
  | t, prev, p :: r => p.1 ∈ its ∧ p.1.x = some w ∧ p.1.y = some p.2 ∧ 0 ≤ p.2 ∧ (∀ q, prev = some q → lex2 q (p.1.rank, p.1.own)) ∧ (∃ v, placeY F.s (t + p.2) = .at_ v) ∧ Bn D 1 p.2 ∧ ChainOk F w its D (t + p.2) (some (p.1.rank, p.1.own)) r
def stand (F : Fld) (w : Str) : Rat → List (It × Rat) → List Mk
  | _, [] => []
  | t, p :: r => mark F w t p.2 p.1 :: stand F w (t + p.2) r
theorem stand_len (F : Fld) (w : Str) : ∀ (l : List (It × Rat)) (t : Rat), (stand F w t l).length = l.length
  | [], _ => rfl
  | _ :: r, _ => congrArg (· + 1) (stand_len F w r _)
def strOkP (s : Str) : Prop := (PyData.str s).canLay0 = true
def dHeapRight (ds : List PyData) (r : PyData) : Prop := ∃ (F : Fld) (side w : Str) (its : List It) (D : Nat) (l : List (It × Rat)), ds = [encF F, .str side, .list ((stand F w 0 l).map (encM side)), dictOf its] ∧ F.Ok ∧ w ∈ F.ws ∧ strOkP side ∧ (its.map (·.own)).Nodup ∧ (0 < D ∧ D < 2 ^ 140) ∧ l.length ≤ 60 ∧ ChainOk F w its D 0 none l ∧ r = .bool true
theorem dHeapRight_len : ∀ ds r, dHeapRight ds r → ds.length = 4 := by rintro _ _ ⟨_, _, _, _, _, _, rfl, _⟩; rfl
def below (it j : It) : Bool := decide (j.x = it.x) && decide (j.rank < it.rank ∨ (j.rank = it.rank ∧ j.own < it.own))
def lossTot (it : It) (y : Rat) (l : List (It × Rat)) : Rat := l.foldl (fun t p => if below it p.1 then t + p.2 else t) y
def LossOk (F : Fld) (it : It) (l : List (It × Rat)) (row : Ls) : Prop := match lPlaceX F.ws F.lx it.x with
  | .no w => row = ⟨it.own, "x", whyS w⟩
  | .at_ _ => match it.y with
    | none => row = ⟨it.own, "y", "nothing"⟩
    | some y => if y < 0 then row = ⟨it.own, "y", "below"⟩ else ∃ w, lPlace F.s (lossTot it y l) = .no w ∧ row = ⟨it.own, "y", whyS w⟩
structure LOk (its : List It) (D : Nat) (p : It × Rat) : Prop where
  m : p.1 ∈ its
  x : ∃ w, p.1.x = some w
  y : p.1.y = some p.2
  b : Bn D 1 p.2
def dLossRight (ds : List PyData) (r : PyData) : Prop := ∃ (F : Fld) (side : Str) (its : List It) (D : Nat) (l : List (It × Rat)) (it : It) (row : Ls) (ms : List Mk), ds = [encF F, encIt it, .list (ms.map (encM side)), dictOf its, encL row] ∧ F.Ok ∧ (its.map (·.own)).Nodup ∧ (0 < D ∧ D < 2 ^ 140) ∧ l.length ≤ 60 ∧
  ms.map (·.own) = l.map (·.1.own) ∧ (∀ p ∈ l, LOk its D p) ∧ (∀ y, it.y = some y → Bn D 1 y) ∧ LossOk F it l row ∧ r = .bool true
theorem dLossRight_len : ∀ ds r, dLossRight ds r → ds.length = 5 := by rintro _ _ ⟨_, _, _, _, _, _, _, _, rfl, _⟩; rfl
theorem bn_up {D : Nat} : Bn D 1 0 := ⟨1, Nat.one_pos, by decide, ⟨0, by rw [Rat.zero_mul]; rfl⟩, by decide +kernel, by decide +kernel⟩
theorem shaped_mark {side : Str} (h : strOkP side) (a b c d e : Int) : SeqAt.shaped (.tuple [.str "part", .str side, .int a, .int b, .int c, .int d, .int e]) = true := by
  have h' : (PyData.str side).canLay0 = true := h
  have hp : (PyData.str "part").canLay0 = true := by decide +kernel
  unfold SeqAt.shaped
  have e1 : (PyData.tuple [.str "part", .str side, .int a, .int b, .int c, .int d, .int e]).canLay0 = true := by
    show ((PyData.str "part").canLay0 && ((PyData.str side).canLay0 && _)) = true
    rw [hp, h']
    rfl
  rw [e1]
  rfl
theorem why_ok (w : Why) : (PyData.str (whyS w)).canLay0 = true := by cases w <;> decide +kernel
theorem shaped_loss {o : Int} {c y : Str} (h1 : (PyData.str c).canLay0 = true) (h2 : (PyData.str y).canLay0 = true) : SeqAt.shaped (encL ⟨o, c, y⟩) = true := by
  unfold SeqAt.shaped
  have e1 : (encL ⟨o, c, y⟩).canLay0 = true := by
    show (true && ((PyData.str c).canLay0 && ((PyData.str y).canLay0 && true))) = true
    rw [h1, h2]
    rfl
  rw [e1]
  rfl
section
variable {K : PySem.W.Frag} {C B : List Addr} {σ : L2.St} {H : Hp} {ta tb tc td te : TE} {E : XK} {F : Fld} {side w : Str} {its : List It} {D : Nat} {l : List (It × Rat)} {it : It} {row : Ls} {ms : List Mk}
theorem ev_heapRight (ht : Trk B H) (h1 : Ev B ta σ H (encF F)) (h2 : Ev B tb σ H (.str side)) (h3 : Ev B tc σ H (.list ((stand F w 0 l).map (encM side)))) (h4 : Ev B td σ H (dictOf its)) (a1 : F.Ok) (a2 : w ∈ F.ws) (a3 : strOkP side) (a4 : (its.map (·.own)).Nodup) (a5 : 0 < D ∧ D < 2 ^ 140) (a6 : l.length ≤ 60) (a7 : ChainOk F w its D 0 none l) :
    Ev B (tCall (SpD dHeapRight) [] E (tCons ta (tCons tb (tCons tc (tCons td tNil))))) σ H (.bool true) := ev_call ht (ea_cons h1 (ea_cons h2 (ea_cons h3 (ea_cons h4 ea_nil)))) ⟨F, side, w, its, D, l, rfl, a1, a2, a3, a4, a5, a6, a7, rfl⟩
theorem ev_lossRight (ht : Trk B H) (h1 : Ev B ta σ H (encF F)) (h2 : Ev B tb σ H (encIt it)) (h3 : Ev B tc σ H (.list (ms.map (encM side)))) (h4 : Ev B td σ H (dictOf its)) (h5 : Ev B te σ H (encL row)) (a1 : F.Ok) (a4 : (its.map (·.own)).Nodup) (a5 : 0 < D ∧ D < 2 ^ 140) (a6 : l.length ≤ 60) (a7 : ms.map (·.own) = l.map (·.1.own)) (a8 : ∀ p ∈ l, LOk its D p) (a9 : ∀ y, it.y = some y → Bn D 1 y) (a10 : LossOk F it l row) :
    Ev B (tCall (SpD dLossRight) [] E (tCons ta (tCons tb (tCons tc (tCons td (tCons te tNil)))))) σ H (.bool true) := ev_call ht (ea_cons h1 (ea_cons h2 (ea_cons h3 (ea_cons h4 (ea_cons h5 ea_nil))))) ⟨F, side, its, D, l, it, row, ms, rfl, a1, a4, a5, a6, a7, a8, a9, a10, rfl⟩
end

local macro_rules | `(tactic| walk_at "ev") => `(tactic| first
  | with_reducible exact ev_int
  | with_reducible exact ev_str
  | with_reducible exact ev_bl
  | with_reducible exact ev_non
  | ((with_reducible refine' ev_var (by assumption) ?_); rfl)
  | ((with_reducible refine ev_I0 (i := ?i) (j := ?j) ?h1 ?h2); (case h1 => walk_at "ev"); (case h2 => walk_at "ev"))
  | ((with_reducible refine ev_I0b (i := ?i) (j := ?j) ?h1 ?h2); (case h1 => walk_at "ev"); (case h2 => walk_at "ev"))
  | ((with_reducible refine ev_eqI (i := ?i) (j := ?j) ?h1 ?h2); (case h1 => walk_at "ev"); (case h2 => walk_at "ev"))
  | ((with_reducible refine ev_neI (i := ?i) (j := ?j) ?h1 ?h2); (case h1 => walk_at "ev"); (case h2 => walk_at "ev"))
  | ((with_reducible refine ev_neg (i := ?i) ?h1); (case h1 => walk_at "ev"))
  | ((with_reducible refine ev_fst (x := ?x) ?h1); (case h1 => walk_at "ev"))
  | ((with_reducible refine ev_snd (x := ?x) ?h1); (case h1 => walk_at "ev"))
  | ((with_reducible refine ev_fstP (p := ?x) ?h1); (case h1 => walk_at "ev"))
  | ((with_reducible refine ev_sndP (p := ?x) ?h1); (case h1 => walk_at "ev"))
  | ((with_reducible refine ev_ixT (ds := ?ds) (i := ?i) ?h1 ?h2 ?h3); (case h1 => walk_at "ev"); (case h2 => walk_at "ev"); (case h3 => rfl))
  | ((with_reducible refine ev_ixL (ds := ?ds) (i := ?i) ?h1 ?h2 ?h3); (case h1 => walk_at "ev"); (case h2 => walk_at "ev"); (case h3 => rfl))
  | ((with_reducible refine ev_pair1 (a := ?a) (Evn.trk (by assumption)) ?h1); (case h1 => walk_at "ev"))
  | ((with_reducible refine ev_abs (i := ?i) ?h1); (case h1 => walk_at "ev")))

section
variable {P : Program} {w : World} {K : PySem.W.Frag} {mg : Str → Option Value} {base : Heap}
theorem sc__law_heap_right : FnScope ["_law_field_here", "_law_side", "_law_marks", "_law_items_here", "_law_total", "_law_edge_here", "_law_ahead", "_law_shape", "_law_numbers", "_law_own", "_law_x", "_law_y", "_law_other", "_law_rank", "_law_colour", "_law_size", "_law_ends_here"] ["_law_field_here", "_law_side", "_law_marks", "_law_items_here"] (defScope s__law_heap_right) := ⟨rfl, rfl, rfl, by decide +kernel, rfl, by decide +kernel, by decide +kernel⟩
theorem ok__law_heap_right (F : Fn K mg "_law_heap_right" s__law_heap_right) (c__law_edge : Cal P w K mg base 4 "_law_edge" ["_law_field_here", "_law_total"] (SpD dLEdge)) (c__law_plus : Cal P w K mg base 3 "_law_plus" ["_law_one", "_law_other"] (SpD dPlus)) (c__law_placeY : Cal P w K mg base 3 "_law_place" ["_law_scale_here", "_law_cell_here"] (SpD dLPlaceY)) (c__law_ends : Cal P w K mg base 2 "_law_ends" ["_law_field_here", "_law_word"] (SpD dLEnds)) (m_str : mg "str" = none) (m_isinstance : mg "isinstance" = none) : Cal P w K mg base 5 "_law_heap_right" ["_law_field_here", "_law_side", "_law_marks", "_law_items_here"] (SpD dHeapRight) := by
  refine cal_D F sc__law_heap_right (fun _ _ _ _ _ _ us hl => match us, hl with | [_, _, _, _], _ => rfl) dHeapRight_len (by decide) ⟨_, fun f cdv A outer s H E hr =>
      (pss_cons (ps_set (i := 4) sc__law_heap_right.nd rfl (Or.inl rfl) (pe_tup (pa_cons pe_int (pa_cons pe_int pa_nil))))
      (pss_cons (ps_set (i := 5) sc__law_heap_right.nd rfl (Or.inl rfl) (pe_cal c__law_edge hr (by decide) (by rfl) (pa_cons (pv 0) (pa_cons (pv 4) pa_nil))))
      (pss_cons (ps_set (i := 6) sc__law_heap_right.nd rfl (Or.inl rfl) pe_non)
      (pss_cons (ps_for PassesOwn.never rfl (kpi_list (K := K) rfl (pv 2)) (kpg_tup (K := K) (n := 2) rfl (by rfl) (pgs_cons (pg_name (i := 7) sc__law_heap_right.nd rfl (Or.inl rfl)) (pgs_cons (pg_name (i := 8) sc__law_heap_right.nd rfl (Or.inl rfl)) pgs_nil)))
        (pss_cons (ps_asg (pe_dget (hu_of hr) (pv 3) (pe_ix (kx_list (K := K) rfl) (pv 8) pe_int (fun _ _ => rfl)) (fun _ _ => rfl)) (kpg_tup (K := K) (n := 7) rfl (by rfl) (pgs_cons (pg_name (i := 9) sc__law_heap_right.nd rfl (Or.inl rfl)) (pgs_cons (pg_name (i := 10) sc__law_heap_right.nd rfl (Or.inl rfl)) (pgs_cons (pg_name (i := 11) sc__law_heap_right.nd rfl (Or.inl rfl)) (pgs_cons (pg_name (i := 12) sc__law_heap_right.nd rfl (Or.inl rfl)) (pgs_cons (pg_name (i := 13) sc__law_heap_right.nd rfl (Or.inl rfl)) (pgs_cons (pg_name (i := 14) sc__law_heap_right.nd rfl (Or.inl rfl)) (pgs_cons (pg_name (i := 15) sc__law_heap_right.nd rfl (Or.inl rfl)) pgs_nil)))))))))
        (pss_cons (ps_if (PW.pt (pw_or (pt_cmpR op_isN (pv 11) pe_non (nomark _)) (pw_or (pt_cmpR op_lt (pe_ix (kx_tup (K := K) rfl) (pv 11) pe_int (fun _ _ => rfl)) pe_int (nomark _)) (pw_or1 (PW.pt (pw_and (pt_cmpR op_notN (pv 6) pe_non (nomark _)) (pw_and1 (pt_cmpR (op_ge2 (Nat.lt_of_succ_lt (hu_of hr))) (pv 6) (pe_tup (pa_cons (pv 13) (pa_cons (pv 9) pa_nil))) (nomark _))))))))) (pss_one (ps_ret pe_bl)) pss_nil)
        (pss_cons (ps_set (i := 6) sc__law_heap_right.nd rfl (Or.inl rfl) (pe_tup (pa_cons (pv 13) (pa_cons (pv 9) pa_nil))))
        (pss_cons (ps_set (i := 4) sc__law_heap_right.nd rfl (Or.inl rfl) (pe_cal c__law_plus hr (by decide) (by rfl) (pa_cons (pv 4) (pa_cons (pv 11) pa_nil))))
        (pss_cons (ps_if (pt_val (pe_callB (kcall_isi (K := K) rfl) (by rfl) m_isinstance bt_isinstance (pa_cons (pe_cal c__law_placeY hr (by decide) (by rfl) (pa_cons (pe_ix (kx_tup (K := K) rfl) (pv 0) pe_int (fun _ _ => rfl)) (pa_cons (pv 4) pa_nil))) (pa_cons (pe_bltn (v := .ty "str") (by rfl) m_str bt_str rfl) pa_nil)))) (pss_one (ps_ret pe_bl)) pss_nil)
        (pss_cons (ps_set (i := 16) sc__law_heap_right.nd rfl (Or.inl rfl) (pe_cal c__law_ends hr (by decide) (by rfl) (pa_cons (pv 0) (pa_cons (pv 10) pa_nil))))
        (pss_cons (ps_if (pt_cmpR (kop_neD (K := K) rfl hr.units) (pv 7) (pe_tup (pa_cons pe_str (pa_cons (pv 1) (pa_cons (pe_ix (kx_tup (K := K) rfl) (pv 16) pe_int (fun _ _ => rfl)) (pa_cons (pe_ix (kx_tup (K := K) rfl) (pv 16) pe_int (fun _ _ => rfl)) (pa_cons (pv 5) (pa_cons (pe_cal c__law_edge hr (by decide) (by rfl) (pa_cons (pv 0) (pa_cons (pv 4) pa_nil))) (pa_cons (pv 14) pa_nil)))))))) (nomark _)) (pss_one (ps_ret pe_bl)) pss_nil)
        (pss_one (ps_set (i := 5) sc__law_heap_right.nd rfl (Or.inl rfl) (pe_ix (kx_tup (K := K) rfl) (pv 7) pe_int (fun _ _ => rfl))))))))))))
      (pss_one (ps_ret pe_bl)))))), fun ds r hd B H σ D E0 q => ?_⟩
  obtain ⟨F, side, w, its, Dn, l, rfl, hF, hw, hside, hnd, hD, hlen, hch, rfl⟩ := hd
  refine ss_set E0 (d := encQ 0) (ev_pairC (a := 0) (b := 1) E0.trk (by walk_at "ev") (by walk_at "ev") enc_zero) (fun σ1 H1 E1 => ?_)
  refine ss_set E1 (d := .int (edge F 0)) (ev_ledge E1.trk (F := F) (t := 0) (by walk_at "ev") (by walk_at "ev") hF qs_zero) (fun σ2 H2 E2 => ?_)
  refine ss_set E2 (d := .none) (by walk_at "ev") (fun σ3 H3 E3 => ?_)
  have E3 : Evn [] H B σ3 H3 [.dat (encF F), .dat (.str side), .dat (.list ((stand F w 0 l).map (encM side))), .dat (dictOf its), .dat (encQ 0), .dat (.int (edge F 0)), .dat .none, .no, .no, .no, .no, .no, .no, .no, .no, .no, .no] := E3
  refine ss_forL (ds := (stand F w 0 l).map (encM side)) (B := B) (by walk_at "ev") (fun H4 i σ' H' => ∃ t prev, Evn [] H4 B σ' H' [.dat (encF F), .dat (.str side), .dat (.list ((stand F w 0 l).map (encM side))), .dat (dictOf its), .dat (encQ t), .dat (.int (edge F t)), .dat (encPrev prev), .no, .no, .no, .no, .no, .no, .no, .no, .no, .no] ∧ ChainOk F w its Dn t prev (l.drop i) ∧ stand F w t (l.drop i) = (stand F w 0 l).drop i ∧ Bn Dn i t) (fun H4 e => ⟨0, none, E3.base e [], hch, rfl, bn_zero⟩) (fun H4 i σ' H' e p => by
      obtain ⟨t, prev, E, _⟩ := p
      exact E.ex.mono fun a z => absurd z (by simp)) (fun H4 i x d σ' H' e hx rx p => ?_) (fun H4 σ' H' e p => ?_)
  · obtain ⟨t, prev, E4, hc4, hst, hbn⟩ := p
    have hi : i < l.length := by
      have := (List.getElem?_eq_some_iff.mp hx).1
      rwa [List.length_map, stand_len] at this
    have hdrop : l.drop i = l[i] :: l.drop (i + 1) := List.drop_eq_getElem_cons hi
    rw [hdrop] at hc4 hst
    have hi' : i < (stand F w 0 l).length := by rw [stand_len]; exact hi
    rw [List.drop_eq_getElem_cons hi'] at hst
    generalize l[i] = p at *
    obtain ⟨it, y⟩ := p
    obtain ⟨c1, c2, c3, c4, c5, ⟨v, c6⟩, c7, c8⟩ := hc4
    simp only at c1 c2 c3 c4 c5 c6 c7 c8
    have hm := (List.cons.inj hst).1
    have hst2 := (List.cons.inj hst).2
    have hd : d = encM side (mark F w t y it) := by
      rw [List.getElem?_map, List.getElem?_eq_getElem hi'] at hx
      rw [← Option.some.inj hx, ← hm]
    subst hd
    have hbn1 : Bn Dn (i + 1) (t + y) := bn_add hbn c7
    have qt : QS 1500 t := bn_qs hD (by omega) hbn
    have qy : QS 1500 y := bn_qs hD (by omega) c7
    have qr : QS 1500 (t + y) := bn_qs hD (by omega) hbn1
    have hnum : ¬ y.num < 0 := by
      have := Rat.num_nonneg.mpr c4
      omega
    have A := place_agree hF.y (t + y)
    rw [c6] at A
    obtain ⟨pp, hpp⟩ : ∃ pp, lPlace F.s (t + y) = .at_ pp := by
      cases e2 : lPlace F.s (t + y) with
      | no w2 => rw [e2] at A; exact A.elim
      | at_ pp => exact ⟨pp, rfl⟩
    refine g_tup (ds := [.tuple [.str "part", .str side, .int (endsOf F w).1, .int (endsOf F w).2, .int (edge F t), .int (edge F (t + y)), .int it.colour], .list [.int it.own]]) rx rfl fun vs a0 => gs_cons E4 a0 fun σ5 vs E5 a0 => gs_cons E5 a0 fun σ6 vs E6 a0 => gs_nil a0 ?_
    have E6 : Evn [] H4 B σ6 H' [.dat (encF F), .dat (.str side), .dat (.list ((stand F w 0 l).map (encM side))), .dat (dictOf its), .dat (encQ t), .dat (.int (edge F t)), .dat (encPrev prev), .dat (.tuple [.str "part", .str side, .int (endsOf F w).1, .int (endsOf F w).2, .int (edge F t), .int (edge F (t + y)), .int it.colour]), .dat (.list [.int it.own]), .no, .no, .no, .no, .no, .no, .no, .no] := E6
    clear E4 E5
    refine ss_unp E6 (d := .tuple [.int it.own, .str w, encQ y, .none, .int it.rank, .int it.colour, .int it.size]) (Ev.is (ev_dget (its := its) (i := it) (by walk_at "ev") (by walk_at "ev") hnd c1) (by unfold encIt; rw [c2, c3]; rfl)) (fun v1 H7 E7 r1 => g_tup r1 rfl fun vs a0 => gs_cons E7 a0 fun σ8 vs E8 a0 => gs_cons E8 a0 fun σ9 vs E9 a0 => gs_cons E9 a0 fun σ10 vs E10 a0 => gs_cons E10 a0 fun σ11 vs E11 a0 => gs_cons E11 a0 fun σ12 vs E12 a0 => gs_cons E12 a0 fun σ13 vs E13 a0 => gs_cons E13 a0 fun σ14 vs E14 a0 => gs_nil a0 ?_)
    have E14 : Evn [] H4 B σ14 H7 [.dat (encF F), .dat (.str side), .dat (.list ((stand F w 0 l).map (encM side))), .dat (dictOf its), .dat (encQ t), .dat (.int (edge F t)), .dat (encPrev prev), .dat (.tuple [.str "part", .str side, .int (endsOf F w).1, .int (endsOf F w).2, .int (edge F t), .int (edge F (t + y)), .int it.colour]), .dat (.list [.int it.own]), .dat (.int it.own), .dat (.str w), .dat (encQ y), .dat .none, .dat (.int it.rank), .dat (.int it.colour), .dat (.int it.size), .no] := E14
    clear E6 E7 E8 E9 E10 E11 E12 E13 r1
    refine ss_ifF E14 (et_or0 (Evt_isNone (et_test (ev_isN (d := encQ y) (by walk_at "ev"))) rfl) (et_or0 (Evt_isNone (et_test (ev_I0b (i := y.num) (j := 0) (by walk_at "ev") (by walk_at "ev"))) (decide_eq_false hnum)) ?_)) (fun H15 E15 => ?_)
    · cases prev with
      | none => exact et_and0 (Evt_isNone (et_test (ev_notN (d := .none) (by walk_at "ev"))) rfl)
      | some pv =>
        have h5 := c5 pv rfl
        refine et_and1 (Evt_isNone (et_test (ev_notN (d := .tuple [.int pv.1, .int pv.2]) (by walk_at "ev"))) rfl) (Evt_isNone (et_test (ev_geT (i := pv.1) (j := pv.2) (k := it.rank) (l := it.own) (by walk_at "ev") (ev_tup E14.trk (ea_cons (by walk_at "ev") (ea_cons (by walk_at "ev") ea_nil)) (by simp)))) (decide_eq_false ?_))
        unfold lex2 at h5
        simp only at h5
        omega
    refine ss_set E15 (d := .tuple [.int it.rank, .int it.own]) (ev_tup E15.trk (ea_cons (by walk_at "ev") (ea_cons (by walk_at "ev") ea_nil)) (by simp)) (fun σ16 H16 E16 => ?_)
    refine ss_set E16 (d := encQ (t + y)) (ev_plus E16.trk (x := t) (y := y) (by walk_at "ev") (by walk_at "ev") (qt.mono (by decide)) (qy.mono (by decide))) (fun σ17 H17 E17 => ?_)
    have E17 : Evn [] H4 B σ17 H17 [.dat (encF F), .dat (.str side), .dat (.list ((stand F w 0 l).map (encM side))), .dat (dictOf its), .dat (encQ (t + y)), .dat (.int (edge F t)), .dat (.tuple [.int it.rank, .int it.own]), .dat (.tuple [.str "part", .str side, .int (endsOf F w).1, .int (endsOf F w).2, .int (edge F t), .int (edge F (t + y)), .int it.colour]), .dat (.list [.int it.own]), .dat (.int it.own), .dat (.str w), .dat (encQ y), .dat .none, .dat (.int it.rank), .dat (.int it.colour), .dat (.int it.size), .no] := E17
    refine ss_ifF E17 (et_B (ev_isi (d := encP pp) (Ev.is (ev_lplaceY E17.trk (s := F.s) (c := t + y) (by walk_at "ev") (by walk_at "ev") hF.y qr) (by rw [hpp]; rfl)) kb_ts)) (fun H18 E18 => ?_)
    refine ss_set E18 (d := encP (endsOf F w)) (ev_lends E18.trk (F := F) (w := w) (by walk_at "ev") (by walk_at "ev") hF hw) (fun σ19 H19 E19 => ?_)
    have E19 : Evn [] H4 B σ19 H19 [.dat (encF F), .dat (.str side), .dat (.list ((stand F w 0 l).map (encM side))), .dat (dictOf its), .dat (encQ (t + y)), .dat (.int (edge F t)), .dat (.tuple [.int it.rank, .int it.own]), .dat (.tuple [.str "part", .str side, .int (endsOf F w).1, .int (endsOf F w).2, .int (edge F t), .int (edge F (t + y)), .int it.colour]), .dat (.list [.int it.own]), .dat (.int it.own), .dat (.str w), .dat (encQ y), .dat .none, .dat (.int it.rank), .dat (.int it.colour), .dat (.int it.size), .dat (encP (endsOf F w))] := E19
    refine ss_ifF E19 (et_test (ev_neD (d := .tuple [.str "part", .str side, .int (endsOf F w).1, .int (endsOf F w).2, .int (edge F t), .int (edge F (t + y)), .int it.colour]) (by walk_at "ev") (ev_tup E19.trk (ea_cons (by walk_at "ev") (ea_cons (by walk_at "ev") (ea_cons (by walk_at "ev") (ea_cons (by walk_at "ev") (ea_cons (by walk_at "ev") (ea_cons (ev_ledge E19.trk (F := F) (t := t + y) (by walk_at "ev") (by walk_at "ev") hF qr) (ea_cons (by walk_at "ev") ea_nil))))))) (by simp)) (shaped_mark hside _ _ _ _ _))) (fun H20 E20 => ?_)
    refine s_set E20 (d := .int (edge F (t + y))) (by walk_at "ev") (fun σ21 H21 E21 => ?_)
    exact ⟨t + y, some (it.rank, it.own), Evn.few E21 _ ⟨.inr rfl, .inr rfl, .inr rfl, .inr rfl, .inr rfl, .inr rfl, .inr rfl, .inl rfl, .inl rfl, .inl rfl, .inl rfl, .inl rfl, .inl rfl, .inl rfl, .inl rfl, .inl rfl, .inl rfl, trivial⟩, c8, hst2, hbn1⟩
  · obtain ⟨t, prev, E4, _⟩ := p
    have E5 := E3.back e E4 (fun x hx => nomatch hx)
    exact s_ret E5 (d := .bool true) (by walk_at "ev") q
theorem sc__law_loss_right : FnScope ["_law_field_here", "_law_item", "_law_marks", "_law_items_here", "_law_row", "_law_own", "_law_x", "_law_y", "_law_other", "_law_rank", "_law_colour", "_law_size", "_law_along", "_law_total", "_law_shape", "_law_numbers", "_law_beneath"] ["_law_field_here", "_law_item", "_law_marks", "_law_items_here", "_law_row"] (defScope s__law_loss_right) := ⟨rfl, rfl, rfl, by decide +kernel, rfl, by decide +kernel, by decide +kernel⟩
theorem ok__law_loss_right (F : Fn K mg "_law_loss_right" s__law_loss_right) (c__law_placeX : Cal P w K mg base 3 "_law_place" ["_law_scale_here", "_law_cell_here"] (SpD dLPlaceX)) (c__law_placeY : Cal P w K mg base 3 "_law_place" ["_law_scale_here", "_law_cell_here"] (SpD dLPlaceY)) (c__law_plus : Cal P w K mg base 3 "_law_plus" ["_law_one", "_law_other"] (SpD dPlus)) (m_str : mg "str" = none) (m_isinstance : mg "isinstance" = none) : Cal P w K mg base 4 "_law_loss_right" ["_law_field_here", "_law_item", "_law_marks", "_law_items_here", "_law_row"] (SpD dLossRight) := by
  refine cal_D F sc__law_loss_right (fun _ _ _ _ _ _ us hl => match us, hl with | [_, _, _, _, _], _ => rfl) dLossRight_len (by decide) ⟨_, fun f cdv A outer s H E hr =>
      (pss_cons (ps_asg (pv 1) (kpg_tup (K := K) (n := 7) rfl (by rfl) (pgs_cons (pg_name (i := 5) sc__law_loss_right.nd rfl (Or.inl rfl)) (pgs_cons (pg_name (i := 6) sc__law_loss_right.nd rfl (Or.inl rfl)) (pgs_cons (pg_name (i := 7) sc__law_loss_right.nd rfl (Or.inl rfl)) (pgs_cons (pg_name (i := 8) sc__law_loss_right.nd rfl (Or.inl rfl)) (pgs_cons (pg_name (i := 9) sc__law_loss_right.nd rfl (Or.inl rfl)) (pgs_cons (pg_name (i := 10) sc__law_loss_right.nd rfl (Or.inl rfl)) (pgs_cons (pg_name (i := 11) sc__law_loss_right.nd rfl (Or.inl rfl)) pgs_nil)))))))))
      (pss_cons (ps_set (i := 12) sc__law_loss_right.nd rfl (Or.inl rfl) (pe_cal c__law_placeX hr (by decide) (by rfl) (pa_cons (pe_ix (kx_tup (K := K) rfl) (pv 0) pe_int (fun _ _ => rfl)) (pa_cons (pv 6) pa_nil))))
      (pss_cons (ps_if (pt_val (pe_callB (kcall_isi (K := K) rfl) (by rfl) m_isinstance bt_isinstance (pa_cons (pv 12) (pa_cons (pe_bltn (v := .ty "str") (by rfl) m_str bt_str rfl) pa_nil)))) (pss_one (ps_ret (pe_cmpR (kop_eqD (K := K) rfl hr.units) (pv 4) (pe_tup (pa_cons (pv 5) (pa_cons pe_str (pa_cons (pv 12) pa_nil)))) (nomark _)))) pss_nil)
      (pss_cons (ps_if (pt_cmpR op_isN (pv 7) pe_non (nomark _)) (pss_one (ps_ret (pe_cmpR (kop_eqD (K := K) rfl hr.units) (pv 4) (pe_tup (pa_cons (pv 5) (pa_cons pe_str (pa_cons pe_str pa_nil)))) (nomark _)))) pss_nil)
      (pss_cons (ps_if (pt_cmpR op_lt (pe_ix (kx_tup (K := K) rfl) (pv 7) pe_int (fun _ _ => rfl)) pe_int (nomark _)) (pss_one (ps_ret (pe_cmpR (kop_eqD (K := K) rfl hr.units) (pv 4) (pe_tup (pa_cons (pv 5) (pa_cons pe_str (pa_cons pe_str pa_nil)))) (nomark _)))) pss_nil)
      (pss_cons (ps_set (i := 13) sc__law_loss_right.nd rfl (Or.inl rfl) (pv 7))
      (pss_cons (ps_for PassesOwn.never rfl (kpi_list (K := K) rfl (pv 2)) (kpg_tup (K := K) (n := 2) rfl (by rfl) (pgs_cons (pg_name (i := 14) sc__law_loss_right.nd rfl (Or.inl rfl)) (pgs_cons (pg_name (i := 15) sc__law_loss_right.nd rfl (Or.inl rfl)) pgs_nil)))
        (pss_cons (ps_set (i := 16) sc__law_loss_right.nd rfl (Or.inl rfl) (pe_dget (hu_of hr) (pv 3) (pe_ix (kx_list (K := K) rfl) (pv 15) pe_int (fun _ _ => rfl)) (fun _ _ => rfl)))
        (pss_one (ps_if (PW.pt (pw_and (pt_cmpR op_eq (pe_ix (kx_tup (K := K) rfl) (pv 16) pe_int (fun _ _ => rfl)) (pv 6) (nomark _)) (pw_and1 (pt_cmpR (kop_ltT (K := K) rfl (Nat.lt_of_succ_lt (hu_of hr))) (pe_tup (pa_cons (pe_ix (kx_tup (K := K) rfl) (pv 16) pe_int (fun _ _ => rfl)) (pa_cons (pe_ix (kx_tup (K := K) rfl) (pv 16) pe_int (fun _ _ => rfl)) pa_nil))) (pe_tup (pa_cons (pv 9) (pa_cons (pv 5) pa_nil))) (nomark _))))) (pss_one (ps_set (i := 13) sc__law_loss_right.nd rfl (Or.inl rfl) (pe_cal c__law_plus hr (by decide) (by rfl) (pa_cons (pv 13) (pa_cons (pe_ix (kx_tup (K := K) rfl) (pv 16) pe_int (fun _ _ => rfl)) pa_nil))))) pss_nil))))
      (pss_one (ps_ret (pe_cmpR (kop_eqD (K := K) rfl hr.units) (pv 4) (pe_tup (pa_cons (pv 5) (pa_cons pe_str (pa_cons (pe_cal c__law_placeY hr (by decide) (by rfl) (pa_cons (pe_ix (kx_tup (K := K) rfl) (pv 0) pe_int (fun _ _ => rfl)) (pa_cons (pv 13) pa_nil))) pa_nil)))) (nomark _))))))))))), fun ds r hd B H σ D E0 q => ?_⟩
  obtain ⟨F, side, its, Dn, l, it, row, ms, rfl, hF, hnd, hD, hlen, hms, hl, hy, hlo, rfl⟩ := hd
  refine ss_unp E0 (d := .tuple [.int it.own, encC it.x, encO it.y, .none, .int it.rank, .int it.colour, .int it.size]) (Ev.is (d := encIt it) (by walk_at "ev") rfl) (fun v1 H7 E7 r1 => g_tup r1 rfl fun vs a0 => gs_cons E7 a0 fun σ8 vs E8 a0 => gs_cons E8 a0 fun σ9 vs E9 a0 => gs_cons E9 a0 fun σ10 vs E10 a0 => gs_cons E10 a0 fun σ11 vs E11 a0 => gs_cons E11 a0 fun σ12 vs E12 a0 => gs_cons E12 a0 fun σ13 vs E13 a0 => gs_cons E13 a0 fun σ14 vs E14 a0 => gs_nil a0 ?_)
  have E14 : Evn [] H B σ14 H7 [.dat (encF F), .dat (encIt it), .dat (.list (ms.map (encM side))), .dat (dictOf its), .dat (.tuple [.int row.own, .str row.ch, .str row.why]), .dat (.int it.own), .dat (encC it.x), .dat (encO it.y), .dat .none, .dat (.int it.rank), .dat (.int it.colour), .dat (.int it.size), .no, .no, .no, .no, .no] := E14
  clear E0 E7 E8 E9 E10 E11 E12 E13 r1
  have cx : ∀ s : Str, s = "x" ∨ s = "y" ∨ s = "nothing" ∨ s = "below" → (PyData.str s).canLay0 = true := fun s h => by
    rcases h with z | z | z | z <;> subst z <;> decide +kernel
  unfold LossOk at hlo
  refine ss_set E14 (d := encLPl (lPlaceX F.ws F.lx it.x)) (ev_lplaceX E14.trk (by walk_at "ev") (by walk_at "ev") hF.x) (fun σ15 H15 E15 => ?_)
  cases ex : lPlaceX F.ws F.lx it.x with
  | no w =>
    rw [ex] at hlo E15
    have E15 : Evn [] H B σ15 H15 [.dat (encF F), .dat (encIt it), .dat (.list (ms.map (encM side))), .dat (dictOf its), .dat (.tuple [.int row.own, .str row.ch, .str row.why]), .dat (.int it.own), .dat (encC it.x), .dat (encO it.y), .dat .none, .dat (.int it.rank), .dat (.int it.colour), .dat (.int it.size), .dat (.str (whyS w)), .no, .no, .no, .no] := E15
    refine ss_ifT E15 (et_B (ev_isi (d := .str (whyS w)) (by walk_at "ev") kb_ss)) (fun H16 E16 => ?_)
    refine s_ret E16 (ev_eqD (d := encL row) (Ev.is (d := .tuple [.int row.own, .str row.ch, .str row.why]) (by walk_at "ev") rfl) (Ev.is (ev_tup E16.trk (ea_cons (d := .int it.own) (by walk_at "ev") (ea_cons (d := .str "x") (by walk_at "ev") (ea_cons (d := .str (whyS w)) (by walk_at "ev") ea_nil))) (by simp)) (by rw [hlo]; rfl)) (by rw [hlo]; exact shaped_loss (cx _ (by simp)) (why_ok w))) q
  | at_ p0 =>
    rw [ex] at hlo E15
    have E15 : Evn [] H B σ15 H15 [.dat (encF F), .dat (encIt it), .dat (.list (ms.map (encM side))), .dat (dictOf its), .dat (.tuple [.int row.own, .str row.ch, .str row.why]), .dat (.int it.own), .dat (encC it.x), .dat (encO it.y), .dat .none, .dat (.int it.rank), .dat (.int it.colour), .dat (.int it.size), .dat (encP p0), .no, .no, .no, .no] := E15
    obtain ⟨xw, hxw⟩ : ∃ xw, it.x = some xw := by
      cases h : it.x with
      | none => rw [h] at ex; cases ex
      | some xw => exact ⟨xw, rfl⟩
    refine ss_ifF E15 (et_B (ev_isi (d := encP p0) (by walk_at "ev") kb_ts)) (fun H16 E16 => ?_)
    cases ey : it.y with
    | none =>
      rw [ey] at hlo
      refine ss_ifT E16 (Evt_isNone (et_test (ev_isN (d := encO it.y) (by walk_at "ev"))) (by rw [ey]; rfl)) (fun H17 E17 => ?_)
      refine s_ret E17 (ev_eqD (d := encL row) (Ev.is (d := .tuple [.int row.own, .str row.ch, .str row.why]) (by walk_at "ev") rfl) (Ev.is (ev_tup E17.trk (ea_cons (d := .int it.own) (by walk_at "ev") (ea_cons (d := .str "y") (by walk_at "ev") (ea_cons (d := .str "nothing") (by walk_at "ev") ea_nil))) (by simp)) (by rw [hlo]; rfl)) (by rw [hlo]; exact shaped_loss (cx _ (by simp)) (cx _ (by simp)))) q
    | some y =>
      rw [ey] at hlo
      dsimp only at hlo
      refine ss_ifF E16 (Evt_isNone (et_test (ev_isN (d := encO it.y) (by walk_at "ev"))) (by rw [ey]; rfl)) (fun H17 E17 => ?_)
      have E17 : Evn [] H B σ15 H17 [.dat (encF F), .dat (encIt it), .dat (.list (ms.map (encM side))), .dat (dictOf its), .dat (.tuple [.int row.own, .str row.ch, .str row.why]), .dat (.int it.own), .dat (.str xw), .dat (encQ y), .dat .none, .dat (.int it.rank), .dat (.int it.colour), .dat (.int it.size), .dat (encP p0), .no, .no, .no, .no] := by
        have E18 := E17
        rw [ey, hxw] at E18
        exact E18
      refine ss_ifR E17 (et_test (ev_I0b (i := y.num) (j := 0) (by walk_at "ev") (by walk_at "ev"))) (fun hb H18 E18 => ?_) (fun hb H18 E18 => ?_)
      · have hneg : y < 0 := by
          have := of_decide_eq_true hb
          exact Rat.not_le.mp fun z => by
            have := Rat.num_nonneg.mpr z
            omega
        rw [if_pos hneg] at hlo
        refine s_ret E18 (ev_eqD (d := encL row) (Ev.is (d := .tuple [.int row.own, .str row.ch, .str row.why]) (by walk_at "ev") rfl) (Ev.is (ev_tup E18.trk (ea_cons (d := .int it.own) (by walk_at "ev") (ea_cons (d := .str "y") (by walk_at "ev") (ea_cons (d := .str "below") (by walk_at "ev") ea_nil))) (by simp)) (by rw [hlo]; rfl)) (by rw [hlo]; exact shaped_loss (cx _ (by simp)) (cx _ (by simp)))) q
      have hneg : ¬ y < 0 := fun z => by
        have h1 := of_decide_eq_false hb
        have := Rat.num_nonneg.mp (show 0 ≤ y.num by omega)
        exact absurd z (Rat.not_lt.mpr this)
      rw [if_neg hneg] at hlo
      obtain ⟨wy, hwy, hrow⟩ := hlo
      have hby := hy y ey
      refine ss_set E18 (d := encQ y) (by walk_at "ev") (fun σ19 H19 E19 => ?_)
      have E19 : Evn [] H B σ19 H19 [.dat (encF F), .dat (encIt it), .dat (.list (ms.map (encM side))), .dat (dictOf its), .dat (.tuple [.int row.own, .str row.ch, .str row.why]), .dat (.int it.own), .dat (.str xw), .dat (encQ y), .dat .none, .dat (.int it.rank), .dat (.int it.colour), .dat (.int it.size), .dat (encP p0), .dat (encQ y), .no, .no, .no] := E19
      clear E14 E15 E16 E17 E18
      have lms : ms.length = l.length := by
        have := congrArg List.length hms
        rwa [List.length_map, List.length_map] at this
      refine ss_forL (ds := ms.map (encM side)) (B := B) (by walk_at "ev") (fun H4 i σ' H' => Evn [] H4 B σ' H' [.dat (encF F), .dat (encIt it), .dat (.list (ms.map (encM side))), .dat (dictOf its), .dat (.tuple [.int row.own, .str row.ch, .str row.why]), .dat (.int it.own), .dat (.str xw), .dat (encQ y), .dat .none, .dat (.int it.rank), .dat (.int it.colour), .dat (.int it.size), .dat (encP p0), .dat (encQ (lossTot it y (l.take i))), .no, .no, .no] ∧ Bn Dn (1 + i) (lossTot it y (l.take i))) (fun H4 e => ⟨E19.base e [], hby⟩) (fun H4 i σ' H' e p => p.1.ex.mono fun a z => absurd z (by simp)) (fun H4 i x d σ' H' e hx rx p => ?_) (fun H4 σ' H' e p => ?_)
      · obtain ⟨E4, hbn⟩ := p
        have hi : i < ms.length := by
          have := (List.getElem?_eq_some_iff.mp hx).1
          rwa [List.length_map] at this
        have hi' : i < l.length := by omega
        have hd : d = encM side ms[i] := by
          rw [List.getElem?_map, List.getElem?_eq_getElem hi] at hx
          exact (Option.some.inj hx).symm
        subst hd
        have hown : ms[i].own = l[i].1.own := by
          have := congrArg (fun z => z[i]?) hms
          simp only [List.getElem?_map, List.getElem?_eq_getElem hi, List.getElem?_eq_getElem hi', Option.map_some] at this
          exact Option.some.inj this
        have htk : l.take (i + 1) = l.take i ++ [l[i]] := by rw [List.take_add_one, List.getElem?_eq_getElem hi']; rfl
        obtain ⟨k1, ⟨jw, k2⟩, k3, k4⟩ := hl _ (List.getElem_mem hi')
        have hst : lossTot it y (l.take i ++ [l[i]]) = if below it l[i].1 then lossTot it y (l.take i) + l[i].2 else lossTot it y (l.take i) := by
          unfold lossTot
          rw [List.foldl_append]
          rfl
        rw [htk, hst]
        generalize ms[i] = m at *
        generalize l[i] = p at *
        obtain ⟨j, yj⟩ := p
        simp only at k1 k2 k3 k4 hown
        generalize lossTot it y (l.take i) = t at *
        have qt : QS 1500 t := bn_qs hD (by omega) hbn
        have qy : QS 1500 yj := bn_qs hD (by omega) k4
        refine g_tup (ds := [.tuple [.str "part", .str side, .int m.x0, .int m.x1, .int m.lo, .int m.hi, .int m.col], .list [.int m.own]]) rx rfl fun vs a0 => gs_cons E4 a0 fun σ5 vs E5 a0 => gs_cons E5 a0 fun σ6 vs E6 a0 => gs_nil a0 ?_
        have E6 : Evn [] H4 B σ6 H' [.dat (encF F), .dat (encIt it), .dat (.list (ms.map (encM side))), .dat (dictOf its), .dat (.tuple [.int row.own, .str row.ch, .str row.why]), .dat (.int it.own), .dat (.str xw), .dat (encQ y), .dat .none, .dat (.int it.rank), .dat (.int it.colour), .dat (.int it.size), .dat (encP p0), .dat (encQ t), .dat (.tuple [.str "part", .str side, .int m.x0, .int m.x1, .int m.lo, .int m.hi, .int m.col]), .dat (.list [.int j.own]), .no] := by
          rw [← hown]
          exact E6
        refine ss_set E6 (d := .tuple [.int j.own, .str jw, encQ yj, .none, .int j.rank, .int j.colour, .int j.size]) (Ev.is (ev_dget (its := its) (i := j) (by walk_at "ev") (by walk_at "ev") hnd k1) (by unfold encIt; rw [k2, k3]; rfl)) (fun σ7 H8 E8 => ?_)
        have E8 : Evn [] H4 B σ7 H8 [.dat (encF F), .dat (encIt it), .dat (.list (ms.map (encM side))), .dat (dictOf its), .dat (.tuple [.int row.own, .str row.ch, .str row.why]), .dat (.int it.own), .dat (.str xw), .dat (encQ y), .dat .none, .dat (.int it.rank), .dat (.int it.colour), .dat (.int it.size), .dat (encP p0), .dat (encQ t), .dat (.tuple [.str "part", .str side, .int m.x0, .int m.x1, .int m.lo, .int m.hi, .int m.col]), .dat (.list [.int j.own]), .dat (.tuple [.int j.own, .str jw, encQ yj, .none, .int j.rank, .int j.colour, .int j.size])] := E8
        have hb : (decide (jw = xw) && decide (j.rank < it.rank ∨ (j.rank = it.rank ∧ j.own < it.own))) = below it j := by
          unfold below
          rw [k2, hxw]
          simp
        refine s_if E8 (Evt_isNone (et_and (et_test (ev_eqS (s := jw) (w := xw) (by walk_at "ev") (by walk_at "ev"))) (fun _ => et_test (ev_ltT (i := j.rank) (j := j.own) (k := it.rank) (l := it.own) (ev_tup E8.trk (ea_cons (by walk_at "ev") (ea_cons (by walk_at "ev") ea_nil)) (by simp)) (ev_tup E8.trk (ea_cons (by walk_at "ev") (ea_cons (by walk_at "ev") ea_nil)) (by simp))))) hb) (fun hbt H9 E9 => ?_) (fun hbt H9 E9 => ?_)
        · refine s_set E9 (d := encQ (t + yj)) (ev_plus E9.trk (x := t) (y := yj) (by walk_at "ev") (by walk_at "ev") (qt.mono (by decide)) (qy.mono (by decide))) (fun σ10 H10 E10 => ?_)
          rw [if_pos hbt]
          exact ⟨Evn.few E10 _ ⟨.inr rfl, .inr rfl, .inr rfl, .inr rfl, .inr rfl, .inr rfl, .inr rfl, .inr rfl, .inr rfl, .inr rfl, .inr rfl, .inr rfl, .inr rfl, .inr rfl, .inl rfl, .inl rfl, .inl rfl, trivial⟩, (show Bn Dn ((1 + i) + 1) _ from bn_add hbn k4)⟩
        · rw [if_neg (by rw [hbt]; decide)]
          refine ⟨Evn.few E9 _ ⟨.inr rfl, .inr rfl, .inr rfl, .inr rfl, .inr rfl, .inr rfl, .inr rfl, .inr rfl, .inr rfl, .inr rfl, .inr rfl, .inr rfl, .inr rfl, .inr rfl, .inl rfl, .inl rfl, .inl rfl, trivial⟩, ?_⟩
          have := bn_add hbn (bn_up (D := Dn))
          rwa [Rat.add_zero] at this
      · obtain ⟨E4, hbn⟩ := p
        rw [List.length_map, lms, List.take_length] at E4 hbn
        have E5 := E19.back e E4 (fun x hx => nomatch hx)
        have qt : QS 1500 (lossTot it y l) := bn_qs hD (by omega) hbn
        refine s_ret E5 (ev_eqD (d := encL row) (Ev.is (d := .tuple [.int row.own, .str row.ch, .str row.why]) (by walk_at "ev") rfl) (Ev.is (ev_tup E5.trk (ea_cons (d := .int it.own) (by walk_at "ev") (ea_cons (d := .str "y") (by walk_at "ev") (ea_cons (d := .str (whyS wy)) (Ev.is (ev_lplaceY E5.trk (s := F.s) (c := lossTot it y l) (by walk_at "ev") (by walk_at "ev") hF.y qt) (by rw [hwy]; rfl)) ea_nil))) (by simp)) (by rw [hrow]; rfl)) (by rw [hrow]; exact shaped_loss (cx _ (by simp)) (why_ok wy))) q
end
end M

end
section
set_option maxHeartbeats 4000000
namespace M
open PySem PySem.Spec PyProof.Rows L2
/-! ### the words -/
theorem foldl_reps (c : Nat) : ∀ (n : Nat) (acc : Array Nat), ((List.replicate n #[c]).foldl (· ++ ·) acc).toList = acc.toList ++ List.replicate n c
  | 0, acc => by simp
  | n + 1, acc => by
    rw [List.replicate_succ, List.foldl_cons, foldl_reps c n, List.replicate_succ]
    simp
theorem repS_list (c : Nat) {n : Int} (h : 0 ≤ n) : (repS ⟨#[c]⟩ n).cps.toList = List.replicate n.toNat c := by
  unfold repS
  split
  · have : n.toNat = 0 := by omega
    rw [this]
    rfl
  · split
    · rename_i h1 h2
      have hn : n = 1 := by
        have h3 : (n == 1 || false) = true := h2
        rw [Bool.or_false, beq_iff_eq] at h3
        exact h3
      subst hn
      rfl
    · show ((List.replicate n.toNat #[c]).foldl (· ++ ·) #[]).toList = _
      rw [foldl_reps]
      rfl
theorem app_list (a b : Str) : (a ++ b).cps.toList = a.cps.toList ++ b.cps.toList := by
  show (a.cps ++ b.cps).toList = _
  simp
def chN (i : Int) : Nat := alphaL.getD i.toNat 0
theorem ch_list (i : Int) : (ch i).cps.toList = [chN i] := rfl
theorem alpha_inj : ∀ i, i < 26 → ∀ j, j < 26 → alphaL.getD i 0 = alphaL.getD j 0 → i = j := by decide +kernel
theorem chN_inj {i j : Int} (hi : 0 ≤ i ∧ i < 26) (hj : 0 ≤ j ∧ j < 26) (h : chN i = chN j) : i = j := by
  have := alpha_inj i.toNat (by omega) j.toNat (by omega) h
  omega
theorem alpha_lt : ∀ i, alphaL.getD i 0 < 0x110000 := fun i => by
  by_cases h : i < 26
  · have : ∀ i, i < 26 → alphaL.getD i 0 < 0x110000 := by decide +kernel
    exact this i h
  · rw [List.getD_eq_getElem?_getD, List.getElem?_eq_none (by rw [alpha_len]; omega)]
    decide
def atK (d : List Int) (k : Nat) : Int := (7 * (k : Int) + d.getD 3 0) % 676
def wordL (d : List Int) (k : Nat) : List Nat :=
  if 0 < ((k : Int) + d.getD 7 0) % 3 then List.replicate (d.getD 2 0).toNat (chN (d.getD 8 0 % 26)) ++ [chN (atK d k / 26), chN (atK d k % 26)] ++ List.replicate (d.getD 6 0).toNat (chN (d.getD 9 0 % 26))
  else [chN (atK d k / 26), chN (atK d k % 26)]
theorem wordK_list {d : List Int} (hd : DOk d) (k : Nat) : (wordK d k).cps.toList = wordL d k := by
  have h2 : 0 ≤ d.getD 2 0 ∧ d.getD 2 0 < 4 := hd.b 2 (by decide)
  have h6 : 0 ≤ d.getD 6 0 ∧ d.getD 6 0 < 3 := hd.b 6 (by decide)
  unfold wordK wordL
  split
  · rw [app_list, app_list, app_list, ch_list, ch_list]
    rw [show ch (d.getD 8 0 % 26) = ⟨#[chN (d.getD 8 0 % 26)]⟩ from rfl, show ch (d.getD 9 0 % 26) = ⟨#[chN (d.getD 9 0 % 26)]⟩ from rfl, repS_list _ h2.1, repS_list _ h6.1]
    rfl
  · rw [app_list, ch_list, ch_list]
    rfl
theorem two_eq {a b c e : Nat} (h : [a, b] = [c, e]) : a = c ∧ b = e := by
  obtain ⟨h1, h2⟩ := List.cons.inj h
  exact ⟨h1, (List.cons.inj h2).1⟩
theorem word_inj {d : List Int} (hd : DOk d) {j k : Nat} (hj : j < 60) (hk : k < 60) (h : wordK d j = wordK d k) : j = k := by
  have h3 : 0 ≤ d.getD 3 0 ∧ d.getD 3 0 < 10 ^ 9 := hd.b 3 (by decide)
  have e : wordL d j = wordL d k := by rw [← wordK_list hd, ← wordK_list hd, h]
  have key : [chN (atK d j / 26), chN (atK d j % 26)] = [chN (atK d k / 26), chN (atK d k % 26)] := by
    unfold wordL at e
    have z0 : ∀ {m : Nat} {u : List Nat} {n : Nat} {c c' : Nat} {x y : Nat}, List.replicate m c ++ [x, y] ++ List.replicate n c' = u → u.length = 2 → [x, y] = u := by
      intro m u n c c' x y h1 h2
      have := congrArg List.length h1
      simp at this
      have hm : m = 0 := by omega
      have hn : n = 0 := by omega
      subst hm hn
      simpa using h1
    split at e
    · split at e
      · have h1 := List.append_inj_left' e (by simp)
        exact List.append_inj_right h1 (by simp)
      · exact z0 e rfl
    · split at e
      · exact (z0 e.symm rfl).symm
      · exact e
  obtain ⟨k1, k2⟩ := two_eq key
  have a0 : 0 ≤ atK d j ∧ atK d j < 676 := ⟨Int.emod_nonneg _ (by decide), Int.emod_lt_of_pos _ (by decide)⟩
  have b0 : 0 ≤ atK d k ∧ atK d k < 676 := ⟨Int.emod_nonneg _ (by decide), Int.emod_lt_of_pos _ (by decide)⟩
  have c1 := chN_inj (by omega) (by omega) k1
  have c2 := chN_inj (by omega) (by omega) k2
  have c3 : atK d j = atK d k := by omega
  unfold atK at c3
  omega
theorem words_nodup {d : List Int} (hd : DOk d) {n : Nat} (hn : n ≤ 60) : (wordsF n d).Nodup := by
  unfold wordsF List.Nodup
  rw [List.pairwise_map]
  refine List.Pairwise.imp_of_mem (R := fun a b => a ≠ b) (fun {a b} ha hb hne e => ?_) List.nodup_range
  rw [List.mem_range] at ha hb
  exact hne (word_inj hd (by omega) (by omega) e)
theorem str_ok {s : Str} (h : ∀ c ∈ s.cps.toList, c < 0x110000) : (PyData.str s).canLay0 = true := by
  show (s.cps.all (· < 0x110000)) = true
  rw [Array.all_eq_true_iff_forall_mem]
  intro x hx
  exact decide_eq_true (h x (by simpa using hx))
theorem ch_ok (i : Int) : (PyData.str (ch i)).canLay0 = true := str_ok fun c hc => by
  rw [ch_list, List.mem_singleton] at hc
  rw [hc]
  exact alpha_lt _
theorem word_ok {d : List Int} (hd : DOk d) (k : Nat) : (PyData.str (wordK d k)).canLay0 = true := str_ok fun c hc => by
  rw [wordK_list hd] at hc
  have hc' : ∃ i, c = alphaL.getD i 0 := by
    unfold wordL at hc
    split at hc
    · simp only [List.mem_append, List.mem_replicate, List.mem_cons, List.not_mem_nil, or_false] at hc
      rcases hc with (⟨_, h⟩ | h | h) | ⟨_, h⟩ <;> exact ⟨_, h⟩
    · simp only [List.mem_cons, List.not_mem_nil, or_false] at hc
      rcases hc with h | h <;> exact ⟨_, h⟩
  obtain ⟨i, rfl⟩ := hc'
  exact alpha_lt i
theorem field_ok (cell : Int) : (fieldF cell).Ok := by
  have hX := dX_ok cell
  have hY := dY_ok cell
  obtain ⟨hl, hb⟩ := dF_ok cell
  have h1 : 0 ≤ (dF cell).getD 1 0 ∧ (dF cell).getD 1 0 < 4 := hb 1 (by decide)
  have h2 : 0 ≤ (dF cell).getD 2 0 ∧ (dF cell).getD 2 0 < 1999999 := hb 2 (by decide)
  have h3 : 0 ≤ (dF cell).getD 3 0 ∧ (dF cell).getD 3 0 < 1999999 := hb 3 (by decide)
  have x0 : 0 ≤ (subD (dF cell) 4 26).getD 0 0 ∧ (subD (dF cell) 4 26).getD 0 0 < 4000 := hX.b 0 (by decide)
  have x6 : 0 ≤ (subD (dF cell) 4 26).getD 6 0 ∧ (subD (dF cell) 4 26).getD 6 0 < 3 := hX.b 6 (by decide)
  have hm : 1 ≤ manyX (subD (dF cell) 4 26) ∧ manyX (subD (dF cell) 4 26) ≤ 60 := by
    unfold manyX
    have hm : (0 : Int) < ([4, 12, 60] : List Int).getD ((subD (dF cell) 4 26).getD 6 0).toNat 0 ∧ ([4, 12, 60] : List Int).getD ((subD (dF cell) 4 26).getD 6 0).toNat 0 ≤ 60 := pick3 (P := fun z => 0 < z ∧ z ≤ 60) rfl x6 (by decide) (by decide) (by decide)
    generalize ([4, 12, 60] : List Int).getD ((subD (dF cell) 4 26).getD 6 0).toNat 0 = m at *
    have e0 := Int.emod_nonneg ((subD (dF cell) 4 26).getD 7 0) (show m ≠ 0 by omega)
    have e1 := Int.emod_lt_of_pos ((subD (dF cell) 4 26).getD 7 0) hm.1
    omega
  have hlen : (fieldF cell).ws.length = manyX (subD (dF cell) 4 26) := by
    show (wordsF _ _).length = _
    unfold wordsF
    rw [List.length_map, List.length_range]
  refine ⟨⟨by omega, by omega, words_nodup hX hm.2, ?_, ?_⟩, scaleY_ok h1 hY, ?_, ?_⟩
  · show 1 ≤ 1 + (subD (dF cell) 4 26).getD 0 0
    omega
  · show 1 + (subD (dF cell) 4 26).getD 0 0 ≤ 4000
    omega
  · show Sz 30 ((dF cell).getD 2 0 - 999999)
    unfold Sz
    omega
  · show Sz 30 ((dF cell).getD 3 0 - 999999)
    unfold Sz
    omega
theorem field_words (cell : Int) : ∀ w ∈ (fieldF cell).ws, (PyData.str w).canLay0 = true := fun w hw => by
  obtain ⟨k, _, rfl⟩ := List.mem_map.mp (show w ∈ (List.range _).map (wordK _) from hw)
  exact word_ok (dX_ok cell) k
end M

end
section
set_option maxHeartbeats 4000000
set_option exponentiation.threshold 10000
namespace M
open PySem PySem.Spec PyProof.Rows L2
/-! ### denominators and sizes of the items' heights -/
def IsD (D : Nat) (q : Rat) : Prop := ∃ z : Int, q * ((D : Nat) : Rat) = (z : Rat)
theorem isD_add {D : Nat} {x y : Rat} (hx : IsD D x) (hy : IsD D y) : IsD D (x + y) := by
  obtain ⟨a, h⟩ := hx
  obtain ⟨b, h'⟩ := hy
  exact ⟨a + b, by rw [Rat.add_mul, h, h', Rat.intCast_add]⟩
theorem isD_neg {D : Nat} {x : Rat} (hx : IsD D x) : IsD D (-x) := by
  obtain ⟨a, h⟩ := hx
  exact ⟨-a, by rw [Rat.neg_mul, h, Rat.intCast_neg]⟩
theorem isD_mul {D : Nat} {x : Rat} (hx : IsD D x) (e : Nat) : IsD (D * e) x := by
  obtain ⟨a, h⟩ := hx
  exact ⟨a * e, by rw [Rat.natCast_mul, ← Rat.mul_assoc, h, Rat.intCast_mul, Rat.intCast_natCast]⟩
theorem isD_mul' {D : Nat} {x : Rat} (hx : IsD D x) (e : Nat) : IsD (e * D) x := by
  rw [Nat.mul_comm]
  exact isD_mul hx e
theorem isD_fr {a b : Int} (hb : 0 < b) : IsD b.toNat (fr a b) := by
  refine ⟨a, ?_⟩
  have h := cast_ne (show b ≠ 0 by omega)
  have e : ((b.toNat : Nat) : Rat) = (b : Rat) := by
    rw [← Rat.intCast_natCast, Int.toNat_of_nonneg (by omega)]
  rw [e]
  unfold fr
  grind
theorem isD_zero {D : Nat} : IsD D 0 := ⟨0, by rw [Rat.zero_mul]; rfl⟩
/-- |q| ≤ m -/
def Lim (m : Int) (q : Rat) : Prop := -(m : Rat) ≤ q ∧ q ≤ (m : Rat)
theorem lim_mono {m n : Int} {q : Rat} (h : Lim m q) (l : m ≤ n) : Lim n q := by
  have := Rat.intCast_le_intCast.mpr l
  exact ⟨by have := h.1; grind, by have := h.2; grind⟩
theorem lim_add {m n : Int} {x y : Rat} (hx : Lim m x) (hy : Lim n y) : Lim (m + n) (x + y) := by
  unfold Lim at *
  rw [Rat.intCast_add]
  grind
theorem lim_neg {m : Int} {x : Rat} (hx : Lim m x) : Lim m (-x) := by
  unfold Lim at *
  grind
theorem lim_sub {m n : Int} {x y : Rat} (hx : Lim m x) (hy : Lim n y) : Lim (m + n) (x - y) := by
  unfold Lim at *
  rw [Rat.intCast_add]
  grind
theorem mul_le' {a b c d : Rat} (h1 : 0 ≤ a) (h2 : a ≤ b) (h3 : 0 ≤ c) (h4 : c ≤ d) : a * c ≤ b * d :=
  Rat.le_trans (Rat.mul_le_mul_of_nonneg_right h2 h3) (Rat.mul_le_mul_of_nonneg_left h4 (Rat.le_trans h1 h2))
theorem lim_mul {m n : Int} {x y : Rat} (hx : Lim m x) (hy : Lim n y) : Lim (m * n) (x * y) := by
  unfold Lim at *
  rw [Rat.intCast_mul]
  obtain ⟨a1, a2⟩ := hx
  obtain ⟨b1, b2⟩ := hy
  generalize (m : Rat) = u at *
  generalize (n : Rat) = v at *
  have hu : 0 ≤ u := by grind
  have hv : 0 ≤ v := by grind
  by_cases hx0 : 0 ≤ x
  · by_cases hy0 : 0 ≤ y
    · have h1 := mul_le' hx0 a2 hy0 b2
      have h2 := Rat.mul_nonneg hx0 hy0
      have h3 := Rat.mul_nonneg hu hv
      exact ⟨by grind, h1⟩
    · have h1 := mul_le' hx0 a2 (show 0 ≤ -y by grind) (show -y ≤ v by grind)
      have h2 := Rat.mul_nonneg hx0 (show 0 ≤ -y by grind)
      have h3 := Rat.mul_nonneg hu hv
      exact ⟨by grind, by grind⟩
  · by_cases hy0 : 0 ≤ y
    · have h1 := mul_le' (show 0 ≤ -x by grind) (show -x ≤ u by grind) hy0 b2
      have h2 := Rat.mul_nonneg (show 0 ≤ -x by grind) hy0
      have h3 := Rat.mul_nonneg hu hv
      exact ⟨by grind, by grind⟩
    · have h1 := mul_le' (show 0 ≤ -x by grind) (show -x ≤ u by grind) (show 0 ≤ -y by grind) (show -y ≤ v by grind)
      have h2 := Rat.mul_nonneg (show 0 ≤ -x by grind) (show 0 ≤ -y by grind)
      have h3 := Rat.mul_nonneg hu hv
      exact ⟨by grind, by grind⟩
theorem fr_mul {a b : Int} (hb : 0 < b) : fr a b * (b : Rat) = (a : Rat) := by
  have h := cast_ne (show b ≠ 0 by omega)
  unfold fr
  grind
theorem lim_fr {a b m : Int} (hb : 0 < b) (h1 : -(m * b) ≤ a) (h2 : a ≤ m * b) : Lim m (fr a b) := by
  have e := fr_mul (a := a) hb
  have c1 := Rat.intCast_le_intCast.mpr h1
  have c2 := Rat.intCast_le_intCast.mpr h2
  have hp := cast_pos hb
  rw [Rat.intCast_neg, Rat.intCast_mul] at c1
  rw [Rat.intCast_mul] at c2
  rw [← e] at c1 c2
  show -(m : Rat) ≤ fr a b ∧ fr a b ≤ (m : Rat)
  generalize fr a b = q at *
  generalize (b : Rat) = u at *
  generalize (m : Rat) = v at *
  constructor
  · refine Classical.byContradiction fun hn => ?_
    have h3 := Rat.mul_lt_mul_of_pos_right (Rat.not_le.mp hn) hp
    grind
  · refine Classical.byContradiction fun hn => ?_
    have h3 := Rat.mul_lt_mul_of_pos_right (Rat.not_le.mp hn) hp
    grind
theorem part_bn {D : Nat} {lo hi : Rat} {f g : Int} (h1 : IsD D lo) (h2 : IsD D hi) (l1 : Lim (2 ^ 80) lo) (l2 : Lim (2 ^ 80) hi) (hg : 1 ≤ g ∧ g ≤ 8000) (hf : -16002 ≤ f ∧ f ≤ 16002) : Bn D 1 (partQ lo hi f g) := by
  have lf : Lim 16002 (fr f g) := lim_fr (by omega) (by omega) (by omega)
  have lp := lim_add l1 (lim_mul (lim_sub l2 l1) lf)
  have lp2 : Lim (2 ^ 140) (lo + (hi - lo) * fr f g) := lim_mono lp (by decide)
  refine ⟨g.toNat, by omega, by omega, ?_, ?_, ?_⟩
  · obtain ⟨a, ha⟩ := h1
    obtain ⟨b, hb⟩ := h2
    have eg : ((g.toNat : Nat) : Rat) = (g : Rat) := by
      rw [← Rat.intCast_natCast, Int.toNat_of_nonneg (by omega)]
    have ef := fr_mul (a := f) (show 0 < g by omega)
    refine ⟨a * g + (b - a) * f, ?_⟩
    show (lo + (hi - lo) * fr f g) * _ = _
    rw [Int.natCast_mul, Rat.intCast_mul, Rat.intCast_natCast, Rat.intCast_natCast, eg]
    simp only [Rat.intCast_add, Rat.intCast_mul, Rat.intCast_sub]
    rw [← ha, ← hb, ← ef]
    generalize ((D : Nat) : Rat) = d at *
    generalize fr f g = q at *
    generalize (g : Rat) = u at *
    grind
  · have := lp2.1
    show -(((1 : Int) * 2 ^ 140 : Int) : Rat) ≤ _
    rw [Int.one_mul]
    exact this
  · have := lp2.2
    show _ ≤ (((1 : Int) * 2 ^ 140 : Int) : Rat)
    rw [Int.one_mul]
    exact this
/-- the scale's own numbers over D -/
def YD (D : Nat) : YS → Prop
  | .straight lo hi _ => IsD D lo ∧ IsD D hi ∧ Lim (2 ^ 80) lo ∧ Lim (2 ^ 80) hi
  | .turns base _ _ _ => (D : Int) = base ^ (capOf base).toNat
  | .broken ps _ => ∀ p ∈ ps, IsD D p.1 ∧ IsD D p.2.1 ∧ Lim (2 ^ 80) p.1 ∧ Lim (2 ^ 80) p.2.1
theorem pw_pos2 {b : Int} (h : b = 2 ∨ b = 10) (n : Int) : 0 < pw b n := pw_pos (by omega) n
theorem turn_bn {D : Nat} {base low many : Int} {e : List Int} {f g : Int} (hb : base = 2 ∨ base = 10) (hD : (D : Int) = base ^ (capOf base).toNat) (hg : 1 ≤ g ∧ g ≤ 8000) (hf : 0 ≤ f ∧ f ≤ g) : Bn D 1 (turnCell base low many e f g) := by
  have hDp : 0 < D := by
    have : 0 < base ^ (capOf base).toNat := pow_pos' (by omega) _
    omega
  have fin : ∀ {q : Rat}, IsD (D * g.toNat) q → Lim (2 ^ 140) q → Bn D 1 q := fun {q} h l => by
    refine ⟨g.toNat, by omega, by omega, ?_, ?_, ?_⟩
    · obtain ⟨z, hz⟩ := h
      exact ⟨z, by rw [Rat.intCast_natCast]; exact hz⟩
    · show -(((1 : Int) * 2 ^ 140 : Int) : Rat) ≤ _
      rw [Int.one_mul]
      exact l.1
    · show _ ≤ (((1 : Int) * 2 ^ 140 : Int) : Rat)
      rw [Int.one_mul]
      exact l.2
  unfold turnCell
  split
  · exact fin (isD_mul' (isD_fr (by omega)) D) (lim_mono (lim_fr (m := 1) (by omega) (by omega) (by omega)) (by decide))
  · obtain ⟨c0, c1, c2, c3⟩ := cap_le hb
    obtain ⟨k0, k1⟩ := clampT_le (low := low) (many := many) (e := e) hb
    generalize clampT base low many e = t at *
    have pq := pw_pos2 hb (-t)
    have pp := pw_pos2 hb t
    have hgp : 0 < g * pw base (-t) := Int.mul_pos (by omega) pq
    have hdv : ∃ m : Nat, 0 < m ∧ (D : Int) = pw base (-t) * (m : Int) := by
      have e : (capOf base).toNat = (-t).toNat + ((capOf base).toNat - (-t).toNat) := by omega
      have hpos : 0 < base ^ ((capOf base).toNat - (-t).toNat) := pow_pos' (by omega) _
      refine ⟨(base ^ ((capOf base).toNat - (-t).toNat)).toNat, by omega, ?_⟩
      rw [Int.toNat_of_nonneg (by omega), hD]
      unfold pw
      rw [← Int.pow_add, ← e]
    have hle : pw base t ≤ 10 ^ 40 ∧ (base = 2 → pw base t ≤ 2 ^ 130) := by
      have mono : ∀ (b : Int) (i j : Nat), 2 ≤ b → i ≤ j → b ^ i ≤ b ^ j := fun b i j h0 h => by
        have := lad_le (b := 1) (base := b) (by decide) h0 h
        rwa [Int.one_mul, Int.one_mul] at this
      unfold pw
      rcases hb with z | z <;> subst z
      · have h1 := mono 2 t.toNat 130 (by decide) (by have := c2 rfl; omega)
        exact ⟨Int.le_trans h1 (by decide +kernel), fun _ => h1⟩
      · have h1 := mono 10 t.toNat 40 (by decide) (by have := c3 rfl; omega)
        exact ⟨h1, fun z => by omega⟩
    refine fin ?_ ?_
    · obtain ⟨m, hm, hm2⟩ := hdv
      have h := isD_mul (isD_fr (a := (g + (base - 1) * f) * pw base t) hgp) m
      have e : (g * pw base (-t)).toNat * m = D * g.toNat := by
        have : (((g * pw base (-t)).toNat * m : Nat) : Int) = ((D * g.toNat : Nat) : Int) := by
          rw [Int.natCast_mul, Int.natCast_mul, Int.toNat_of_nonneg (by omega), Int.toNat_of_nonneg (by omega), hm2]
          grind
        omega
      rwa [e] at h
    · have hfac : 0 ≤ (base - 1) * f ∧ (base - 1) * f ≤ 9 * g := by
        rcases hb with z | z <;> subst z <;> omega
      have hn : 0 ≤ g + (base - 1) * f ∧ g + (base - 1) * f ≤ 10 * g := by omega
      have hq1 : 1 ≤ pw base (-t) := pq
      have up : (g + (base - 1) * f) * pw base t ≤ 2 ^ 137 * (g * pw base (-t)) := by
        have a1 : (g + (base - 1) * f) * pw base t ≤ (10 * g) * 10 ^ 40 := Int.mul_le_mul hn.2 hle.1 (by omega) (by omega)
        have a2 : (10 * g) * 10 ^ 40 ≤ 2 ^ 137 * g := by omega
        have a3 : 2 ^ 137 * g ≤ 2 ^ 137 * (g * pw base (-t)) := Int.mul_le_mul_of_nonneg_left (by
          have := Int.mul_le_mul_of_nonneg_left hq1 (show 0 ≤ g by omega)
          omega) (by decide)
        omega
      have lo : 0 ≤ (g + (base - 1) * f) * pw base t := Int.mul_nonneg hn.1 (by omega)
      have lo2 : 0 ≤ 2 ^ 137 * (g * pw base (-t)) := Int.mul_nonneg (by decide) (by omega)
      exact lim_mono (lim_fr (m := 2 ^ 137) hgp (by omega) up) (by decide)
theorem cellF0_le {s : YS} {e : List Int} (hs : s.Ok) (he : EOk e) : cellF0 s e ≤ cellG s e ∧ -16002 ≤ cellF s e ∧ cellF s e ≤ 16002 := by
  obtain ⟨g1, f1, _⟩ := cell_gf hs he
  have h : cellF0 s e ≤ cellG s e := by
    unfold cellF0
    have := Int.emod_lt_of_pos (e.getD 1 0) (show 0 < cellG s e + 1 by omega)
    omega
  refine ⟨h, ?_⟩
  unfold cellF
  generalize cellF0 s e = f at *
  generalize cellG s e = g at *
  constructor <;> split <;> split <;> omega
theorem cell_bn {D : Nat} {s : YS} {e : List Int} (hs : s.Ok) (he : EOk e) (hY : YD D s) {y : Rat} (h : cellY s e = some y) : Bn D 1 y := by
  obtain ⟨g1, f1, _⟩ := cell_gf hs he
  obtain ⟨k0, k1, k2⟩ := cellF0_le hs he
  unfold cellY at h
  split at h
  · cases h
  · cases s with
    | straight lo hi len =>
      obtain ⟨a1, a2, a3, a4⟩ := hY
      have e := Option.some.inj h
      rw [← e]
      exact part_bn a1 a2 a3 a4 g1 ⟨k1, k2⟩
    | turns base low many len =>
      have e := Option.some.inj h
      rw [← e]
      exact turn_bn hs.1 hY g1 ⟨f1.1, k0⟩
    | broken ps len =>
      obtain ⟨o1, _⟩ := id hs
      have em := Int.emod_lt_of_pos (e.getD 4 0) (show 0 < (ps.length : Int) by omega)
      have e0 := Int.emod_nonneg (e.getD 4 0) (show (ps.length : Int) ≠ 0 by omega)
      have at_ : ∀ i, i < ps.length → pcAt ps i ∈ ps := fun i hi => by
        unfold pcAt
        rw [List.getD_eq_getElem?_getD, List.getElem?_eq_getElem hi]
        exact List.getElem_mem hi
      dsimp only at h
      generalize e.getD 4 0 % (ps.length : Int) = t at *
      split at h
      · have e := Option.some.inj h
        rw [← e]
        obtain ⟨_, a2, _, a4⟩ := hY _ (at_ (t.toNat - 1) (by omega))
        obtain ⟨b1, _, b3, _⟩ := hY _ (at_ t.toNat (by omega))
        exact part_bn a2 b1 a4 b3 g1 ⟨k1, k2⟩
      · have e := Option.some.inj h
        rw [← e]
        obtain ⟨b1, b2, b3, b4⟩ := hY _ (at_ t.toNat (by omega))
        exact part_bn b1 b2 b3 b4 g1 ⟨k1, k2⟩
theorem lo0_d {d : List Int} (hd : DOk d) : IsD (numBot (d.getD 5 0)).toNat (lo0 d) ∧ Lim (2 ^ 70) (lo0 d) ∧ 0 < numBot (d.getD 5 0) ∧ numBot (d.getD 5 0) ≤ 60 := by
  have h1 : 0 ≤ d.getD 1 0 ∧ d.getD 1 0 < 2 := hd.b 1 (by decide)
  have h2 : 0 ≤ d.getD 2 0 ∧ d.getD 2 0 < 4 := hd.b 2 (by decide)
  have h3 : 0 ≤ d.getD 3 0 ∧ d.getD 3 0 < 10 ^ 9 := hd.b 3 (by decide)
  have h4 : 0 ≤ d.getD 4 0 ∧ d.getD 4 0 < 10 ^ 9 := hd.b 4 (by decide)
  have h5 : 0 ≤ d.getD 5 0 ∧ d.getD 5 0 < 90 := hd.b 5 (by decide)
  have hb : 0 < numBot (d.getD 5 0) ∧ numBot (d.getD 5 0) ≤ 60 := by unfold numBot; split <;> omega
  have ht := numTop_sz (d1 := d.getD 1 0) h2 h3 h4
  have hz : Sz 64 ((1 - 2 * d.getD 1 0) * numTop (d.getD 1 0) (d.getD 2 0) (d.getD 3 0) (d.getD 4 0)) := sz_mul (n := 2) (m := 62) (by unfold Sz; omega) ht
  refine ⟨isD_fr hb.1, ?_, hb.1, hb.2⟩
  refine lim_fr (m := 2 ^ 70) hb.1 ?_ ?_
  · unfold Sz at hz; omega
  · unfold Sz at hz; omega
theorem span_d {d : List Int} (hd : DOk d) : IsD (1 + d.getD 8 0).toNat (spanQ d) ∧ Lim (2 ^ 40) (spanQ d) := by
  have h8 : 0 ≤ d.getD 8 0 ∧ d.getD 8 0 < 60 := hd.b 8 (by decide)
  obtain ⟨f1, f2, f3, f4, f5⟩ := span_facts hd
  exact ⟨isD_fr (by omega), lim_fr (by omega) (by omega) (by omega)⟩
theorem brk_d {d : List Int} (hd : DOk d) {D : Nat} (h8 : ∀ a, IsD D (fr a (1 + d.getD 8 0))) (h9 : ∀ a, IsD D (fr a (1 + d.getD 9 0))) : ∀ (n k : Nat) (lo : Rat) (at_ : Int), k + n ≤ 4 → IsD D lo → Lim (2 ^ 70 + 2000 * k) lo → ∀ p ∈ brkGo d n k lo at_, IsD D p.1 ∧ IsD D p.2.1 ∧ Lim (2 ^ 80) p.1 ∧ Lim (2 ^ 80) p.2.1
  | 0, _, _, _, _, _, _, p, hp => nomatch hp
  | n + 1, k, lo, at_, hk, hq, hl, p, hp => by
    obtain ⟨b0, b1, b2, b3⟩ := brk_bounds hd (k := k) (by omega)
    have g8 : 0 ≤ d.getD 8 0 ∧ d.getD 8 0 < 60 := hd.b 8 (by decide)
    have g9 : 0 ≤ d.getD 9 0 ∧ d.getD 9 0 < 60 := hd.b 9 (by decide)
    have q1 := isD_add hq (h8 (1 + d.getD (10 + 4 * k + 2) 0))
    have q2 := isD_add q1 (h9 (1 + d.getD (10 + 4 * k + 3) 0))
    have l1 := lim_add hl (lim_fr (m := 1000) (a := 1 + d.getD (10 + 4 * k + 2) 0) (b := 1 + d.getD 8 0) (by omega) (by omega) (by omega))
    have l2 := lim_add l1 (lim_fr (m := 1000) (a := 1 + d.getD (10 + 4 * k + 3) 0) (b := 1 + d.getD 9 0) (by omega) (by omega) (by omega))
    rcases List.mem_cons.mp hp with rfl | hp
    · exact ⟨hq, q1, lim_mono hl (by omega), lim_mono l1 (by omega)⟩
    · exact brk_d hd h8 h9 n (k + 1) _ _ (by omega) q2 (lim_mono l2 (by omega)) p hp
theorem scale_d {kind : Int} {d : List Int} (hk : 0 ≤ kind ∧ kind < 4) (hd : DOk d) : ∃ D : Nat, (0 < D ∧ D < 2 ^ 140) ∧ YD D (scaleY kind d) := by
  have h1 : 0 ≤ d.getD 1 0 ∧ d.getD 1 0 < 2 := hd.b 1 (by decide)
  have h8 : 0 ≤ d.getD 8 0 ∧ d.getD 8 0 < 60 := hd.b 8 (by decide)
  have h9 : 0 ≤ d.getD 9 0 ∧ d.getD 9 0 < 60 := hd.b 9 (by decide)
  obtain ⟨a1, a2, a3, a4⟩ := lo0_d hd
  obtain ⟨s1, s2⟩ := span_d hd
  unfold scaleY
  split
  · refine ⟨(numBot (d.getD 5 0)).toNat * (1 + d.getD 8 0).toNat, ⟨Nat.mul_pos (by omega) (by omega), ?_⟩, isD_mul a1 _, isD_add (isD_mul a1 _) (isD_mul' s1 _), lim_mono a2 (by decide), lim_mono (lim_add a2 s2) (by decide)⟩
    exact Nat.lt_of_le_of_lt (Nat.mul_le_mul (show _ ≤ 60 by omega) (show _ ≤ 60 by omega)) (by decide)
  · split
    · have hb : ([2, 10] : List Int).getD (d.getD 1 0).toNat 0 = 2 ∨ ([2, 10] : List Int).getD (d.getD 1 0).toNat 0 = 10 := by
        have : d.getD 1 0 = 0 ∨ d.getD 1 0 = 1 := by omega
        rcases this with z | z <;> rw [z]
        · exact .inl rfl
        · exact .inr rfl
      rcases hb with z | z <;> rw [z]
      · exact ⟨2 ^ 130, ⟨by decide +kernel, by decide +kernel⟩, by show ((2 ^ 130 : Nat) : Int) = (2 : Int) ^ (capOf 2).toNat; decide +kernel⟩
      · exact ⟨10 ^ 40, ⟨by decide +kernel, by decide +kernel⟩, by show ((10 ^ 40 : Nat) : Int) = (10 : Int) ^ (capOf 10).toNat; decide +kernel⟩
    · split
      · refine ⟨(numBot (d.getD 5 0)).toNat * ((1 + d.getD 8 0).toNat * (1 + d.getD 9 0).toNat), ⟨Nat.mul_pos (by omega) (Nat.mul_pos (by omega) (by omega)), ?_⟩, ?_⟩
        · exact Nat.lt_of_le_of_lt (Nat.mul_le_mul (show _ ≤ 60 by omega) (Nat.mul_le_mul (show _ ≤ 60 by omega) (show _ ≤ 60 by omega))) (by decide)
        · have h6 : 0 ≤ d.getD 6 0 ∧ d.getD 6 0 < 3 := hd.b 6 (by decide)
          exact brk_d hd (fun a => isD_mul' (isD_mul (isD_fr (by omega)) _) _) (fun a => isD_mul' (isD_mul' (isD_fr (by omega)) _) _) _ 0 _ _ (by omega) (isD_mul a1 _) (lim_mono a2 (by decide))
      · have hlt : d.getD 9 0 % 3 = 0 ∨ d.getD 9 0 % 3 = 1 ∨ d.getD 9 0 % 3 = 2 := by omega
        have e : ∀ {q : Rat}, q = -spanQ d ∨ q = -spanQ d + spanQ d * (1 / 2) ∨ q = 0 → IsD ((1 + d.getD 8 0).toNat * 2) q ∧ Lim (2 ^ 80) q := fun {q} hq => by
          have l1 := s2
          rcases hq with z | z | z
          · rw [z]
            exact ⟨isD_mul (isD_neg s1) 2, lim_mono (lim_neg s2) (by decide)⟩
          · have e2 : q = -(spanQ d * (1 / 2)) := by rw [z]; grind
            rw [e2]
            refine ⟨isD_neg ?_, lim_neg (lim_mono (lim_mul s2 (n := 1) ⟨by decide +kernel, by decide +kernel⟩) (by decide))⟩
            obtain ⟨z0, hz0⟩ := s1
            refine ⟨z0, ?_⟩
            rw [Rat.natCast_mul]
            generalize (((1 + d.getD 8 0).toNat : Nat) : Rat) = u at *
            have e3 : (((2 : Nat)) : Rat) = 2 := rfl
            rw [e3]
            grind
          · rw [z]
            exact ⟨isD_zero, ⟨by decide +kernel, by decide +kernel⟩⟩
        have e2 := e (q := -spanQ d + (0 - -spanQ d) * (((d.getD 9 0 % 3 : Int) : Rat) / ((2 : Int) : Rat))) (by
          rcases hlt with z | z | z <;> rw [z]
          · rw [show (((0 : Int) : Rat) / ((2 : Int) : Rat)) = 0 by decide +kernel]; left; grind
          · rw [show (((1 : Int) : Rat) / ((2 : Int) : Rat)) = 1 / 2 by decide +kernel]; right; left; grind
          · rw [show (((2 : Int) : Rat) / ((2 : Int) : Rat)) = 1 by decide +kernel]; right; right; grind)
        refine ⟨(1 + d.getD 8 0).toNat * 2, ⟨by omega, ?_⟩, e2.1, isD_mul s1 2, e2.2, lim_mono s2 (by decide)⟩
        exact Nat.lt_of_le_of_lt (Nat.mul_le_mul (show _ ≤ 60 by omega) (Nat.le_refl 2)) (by decide)
theorem items_bn {D : Nat} {F : Fld} (hF : F.Ok) (hY : YD D F.s) : ∀ (cells : List Int) (own : Int), IOk D (itemsF F own cells)
  | [], _, i, hi, _, _ => nomatch hi
  | c :: r, own, i, hi, y, hy => by
    rcases List.mem_cons.mp hi with rfl | hi
    · exact cell_bn hF.y (eY_ok c) hY hy
    · exact items_bn hF hY r _ i hi y hy
theorem field_d (cell : Int) : ∃ D : Nat, (0 < D ∧ D < 2 ^ 140) ∧ YD D (fieldF cell).s := by
  obtain ⟨hl, hb⟩ := dF_ok cell
  exact scale_d (hb 1 (by decide)) (dY_ok cell)
end M

end
section
set_option maxHeartbeats 4000000
namespace M
open PySem PySem.Spec PyProof.Rows L2
/-! ### what stands, what is lost -/
def psurv (F : Fld) : Rat → List It → List (It × Rat)
  | _, [] => []
  | t, i :: r => match i.y with
    | none => psurv F t r
    | some y => if y < 0 then psurv F t r else match placeY F.s (t + y) with
      | .no _ => psurv F t r
      | .at_ _ => (i, y) :: psurv F (t + y) r
def plost (F : Fld) : Rat → List It → List Ls
  | _, [] => []
  | t, i :: r => match i.y with
    | none => plost F t r
    | some y => if y < 0 then ⟨i.own, "y", "below"⟩ :: plost F t r else match placeY F.s (t + y) with
      | .no why => ⟨i.own, "y", whyS why⟩ :: plost F t r
      | .at_ _ => plost F (t + y) r
section
variable {F : Fld} {t y : Rat} {i : It} {r : List It} {why : Why} {v : Rat}
theorem psurv_n (h : i.y = none) : psurv F t (i :: r) = psurv F t r := by rw [psurv, h]
theorem psurv_b (h : i.y = some y) (hy : y < 0) : psurv F t (i :: r) = psurv F t r := by rw [psurv, h]; exact if_pos hy
theorem psurv_o (h : i.y = some y) (hy : ¬ y < 0) (hp : placeY F.s (t + y) = .no why) : psurv F t (i :: r) = psurv F t r := by
  rw [psurv, h]
  dsimp only
  rw [if_neg hy, hp]
theorem psurv_a (h : i.y = some y) (hy : ¬ y < 0) (hp : placeY F.s (t + y) = .at_ v) : psurv F t (i :: r) = (i, y) :: psurv F (t + y) r := by
  rw [psurv, h]
  dsimp only
  rw [if_neg hy, hp]
theorem plost_n (h : i.y = none) : plost F t (i :: r) = plost F t r := by rw [plost, h]
theorem plost_b (h : i.y = some y) (hy : y < 0) : plost F t (i :: r) = ⟨i.own, "y", "below"⟩ :: plost F t r := by rw [plost, h]; exact if_pos hy
theorem plost_o (h : i.y = some y) (hy : ¬ y < 0) (hp : placeY F.s (t + y) = .no why) : plost F t (i :: r) = ⟨i.own, "y", whyS why⟩ :: plost F t r := by
  rw [plost, h]
  dsimp only
  rw [if_neg hy, hp]
theorem plost_a (h : i.y = some y) (hy : ¬ y < 0) (hp : placeY F.s (t + y) = .at_ v) : plost F t (i :: r) = plost F (t + y) r := by
  rw [plost, h]
  dsimp only
  rw [if_neg hy, hp]
/-- by the way an item goes -/
theorem way (F : Fld) (t : Rat) (i : It) : i.y = none ∨ (∃ y, i.y = some y ∧ y < 0) ∨ (∃ y why, i.y = some y ∧ ¬ y < 0 ∧ placeY F.s (t + y) = .no why) ∨ ∃ y v, i.y = some y ∧ ¬ y < 0 ∧ placeY F.s (t + y) = .at_ v := by
  cases h : i.y with
  | none => exact .inl rfl
  | some y =>
    by_cases hy : y < 0
    · exact .inr (.inl ⟨y, rfl, hy⟩)
    · cases hp : placeY F.s (t + y) with
      | no why => exact .inr (.inr (.inl ⟨y, why, rfl, hy, hp⟩))
      | at_ v => exact .inr (.inr (.inr ⟨y, v, rfl, hy, hp⟩))
end
def sumS : List (It × Rat) → Rat
  | [] => 0
  | p :: r => p.2 + sumS r
theorem sumS_app : ∀ a b : List (It × Rat), sumS (a ++ b) = sumS a + sumS b
  | [], b => by
    show sumS b = 0 + sumS b
    rw [Rat.zero_add]
  | p :: r, b => by
    show p.2 + sumS (r ++ b) = p.2 + sumS r + sumS b
    rw [sumS_app r b, Rat.add_assoc]
theorem pfold_eq (F : Fld) (w : Str) : ∀ (l : List It) (s : PSt), (l.foldl (pstep F w) s).ms = s.ms ++ stand F w s.tot (psurv F s.tot l) ∧ (l.foldl (pstep F w) s).ls = s.ls ++ plost F s.tot l
  | [], s => ⟨(List.append_nil _).symm, (List.append_nil _).symm⟩
  | i :: r, s => by
    rw [List.foldl_cons]
    obtain ⟨h1, h2⟩ := pfold_eq F w r (pstep F w s i)
    rw [h1, h2]
    rcases way F s.tot i with h | ⟨y, h, hy⟩ | ⟨y, why, h, hy, hp⟩ | ⟨y, v, h, hy, hp⟩
    · rw [psurv_n h, plost_n h]
      have e : pstep F w s i = s := by unfold pstep; rw [h]
      rw [e]
      exact ⟨rfl, rfl⟩
    · rw [psurv_b h hy, plost_b h hy]
      have e : pstep F w s i = ⟨s.ms, s.ls ++ [⟨i.own, "y", "below"⟩], s.tot⟩ := by unfold pstep; rw [h]; exact if_pos hy
      rw [e]
      exact ⟨rfl, by rw [List.append_assoc]; rfl⟩
    · rw [psurv_o h hy hp, plost_o h hy hp]
      have e : pstep F w s i = ⟨s.ms, s.ls ++ [⟨i.own, "y", whyS why⟩], s.tot⟩ := by
        unfold pstep
        rw [h]
        dsimp only
        rw [if_neg hy, hp]
      rw [e]
      exact ⟨rfl, by rw [List.append_assoc]; rfl⟩
    · rw [psurv_a h hy hp, plost_a h hy hp]
      have e : pstep F w s i = ⟨s.ms ++ [mark F w s.tot y i], s.ls, s.tot + y⟩ := by
        unfold pstep
        rw [h]
        dsimp only
        rw [if_neg hy, hp]
      rw [e]
      exact ⟨by rw [List.append_assoc]; rfl, rfl⟩
def sv (F : Fld) (its : List It) (w : Str) : List (It × Rat) := psurv F 0 (hItems F its w)
def ll (F : Fld) (its : List It) (w : Str) : List Ls := plost F 0 (hItems F its w)
theorem hw_eq (F : Fld) (its : List It) (w : Str) : (hw F its w).ms = stand F w 0 (sv F its w) ∧ (hw F its w).ls = ll F its w := pfold_eq F w (hItems F its w) ⟨[], [], 0⟩
theorem hMarks_eq (F : Fld) (its : List It) : hMarks F its = F.ws.flatMap fun w => stand F w 0 (sv F its w) := by
  unfold hMarks
  congr 1
  funext w
  exact (hw_eq F its w).1
theorem hLost_eq (F : Fld) (its : List It) : hLost F its = its.flatMap (loss1 F) ++ F.ws.flatMap fun w => ll F its w := by
  unfold hLost
  congr 2
  funext w
  exact (hw_eq F its w).2
theorem psurv_mem {F : Fld} : ∀ (l : List It) (t : Rat) (p : It × Rat), p ∈ psurv F t l → p.1 ∈ l ∧ p.1.y = some p.2
  | [], _, p, h => nomatch h
  | i :: r, t, p, h => by
    rcases way F t i with e | ⟨y, e, hy⟩ | ⟨y, why, e, hy, hp⟩ | ⟨y, v, e, hy, hp⟩
    · rw [psurv_n e] at h
      obtain ⟨a, b⟩ := psurv_mem r t p h
      exact ⟨List.mem_cons_of_mem _ a, b⟩
    · rw [psurv_b e hy] at h
      obtain ⟨a, b⟩ := psurv_mem r t p h
      exact ⟨List.mem_cons_of_mem _ a, b⟩
    · rw [psurv_o e hy hp] at h
      obtain ⟨a, b⟩ := psurv_mem r t p h
      exact ⟨List.mem_cons_of_mem _ a, b⟩
    · rw [psurv_a e hy hp] at h
      rcases List.mem_cons.mp h with rfl | h
      · exact ⟨List.mem_cons_self .., e⟩
      · obtain ⟨a, b⟩ := psurv_mem r _ p h
        exact ⟨List.mem_cons_of_mem _ a, b⟩
theorem psurv_len {F : Fld} : ∀ (l : List It) (t : Rat), (psurv F t l).length ≤ l.length
  | [], _ => Nat.le_refl _
  | i :: r, t => by
    rcases way F t i with e | ⟨y, e, hy⟩ | ⟨y, why, e, hy, hp⟩ | ⟨y, v, e, hy, hp⟩
    · rw [psurv_n e]
      exact Nat.le_succ_of_le (psurv_len r t)
    · rw [psurv_b e hy]
      exact Nat.le_succ_of_le (psurv_len r t)
    · rw [psurv_o e hy hp]
      exact Nat.le_succ_of_le (psurv_len r t)
    · rw [psurv_a e hy hp]
      exact Nat.succ_le_succ (psurv_len r _)
def lexI (a b : It) : Prop := lex2 (a.rank, a.own) (b.rank, b.own)
theorem chain_ok {F : Fld} {w : Str} {its : List It} {D : Nat} : ∀ (l : List It) (t : Rat) (prev : Option (Int × Int)), l.Pairwise lexI → (∀ q, prev = some q → ∀ i ∈ l, lex2 q (i.rank, i.own)) → (∀ i ∈ l, i ∈ its ∧ GI D w i) → ChainOk F w its D t prev (psurv F t l)
  | [], _, _, _, _, _ => trivial
  | i :: r, t, prev, hp, hq, hi => by
    obtain ⟨p1, p2⟩ := List.pairwise_cons.mp hp
    have skip := chain_ok (F := F) r t prev p2 (fun q e j hj => hq q e j (List.mem_cons_of_mem _ hj)) (fun j hj => hi j (List.mem_cons_of_mem _ hj))
    obtain ⟨i1, i2, y', i3, i4⟩ := hi i (List.mem_cons_self ..)
    rcases way F t i with e | ⟨y, e, hy⟩ | ⟨y, why, e, hy, hp⟩ | ⟨y, v, e, hy, hp2⟩
    · rw [psurv_n e]
      exact skip
    · rw [psurv_b e hy]
      exact skip
    · rw [psurv_o e hy hp]
      exact skip
    · rw [psurv_a e hy hp2]
      rw [e] at i3
      have e3 := Option.some.inj i3
      rw [← e3] at i4
      refine ⟨i1, i2, e, Rat.not_lt.mp hy, fun q e => hq q e i (List.mem_cons_self ..), ⟨v, hp2⟩, i4, ?_⟩
      refine chain_ok r (t + y) _ p2 (fun q e j hj => ?_) (fun j hj => hi j (List.mem_cons_of_mem _ hj))
      cases e
      exact p1 j hj
theorem plost_row {F : Fld} : ∀ (l : List It) (t : Rat) (row : Ls), row ∈ plost F t l → ∃ pre i post y, l = pre ++ i :: post ∧ i.y = some y ∧ psurv F t l = psurv F t pre ++ psurv F (t + sumS (psurv F t pre)) post ∧
    ((y < 0 ∧ row = ⟨i.own, "y", "below"⟩) ∨ (¬ y < 0 ∧ ∃ why, placeY F.s (t + sumS (psurv F t pre) + y) = .no why ∧ row = ⟨i.own, "y", whyS why⟩))
  | [], _, row, h => nomatch h
  | j :: r, t, row, h => by
    have zero : t + sumS (psurv F t []) = t := by
      show t + 0 = t
      rw [Rat.add_zero]
    have skip : psurv F t (j :: r) = psurv F t r → (∀ pre, psurv F t (j :: pre) = psurv F t pre) → row ∈ plost F t r → ∃ pre i post y, j :: r = pre ++ i :: post ∧ i.y = some y ∧ psurv F t (j :: r) = psurv F t pre ++ psurv F (t + sumS (psurv F t pre)) post ∧
        ((y < 0 ∧ row = ⟨i.own, "y", "below"⟩) ∨ (¬ y < 0 ∧ ∃ why, placeY F.s (t + sumS (psurv F t pre) + y) = .no why ∧ row = ⟨i.own, "y", whyS why⟩)) := fun h1 h2 h3 => by
      obtain ⟨pre, i, post, y, a1, a2, a3, a4⟩ := plost_row r t row h3
      refine ⟨j :: pre, i, post, y, by rw [a1]; rfl, a2, ?_, ?_⟩
      · rw [h1, h2, a3]
      · rw [h2]
        exact a4
    rcases way F t j with ey | ⟨y, ey, hy⟩ | ⟨y, why, ey, hy, hp⟩ | ⟨y, v, ey, hy, hp⟩
    · rw [plost_n ey] at h
      exact skip (psurv_n ey) (fun pre => psurv_n ey) h
    · rw [plost_b ey hy] at h
      rcases List.mem_cons.mp h with rfl | h
      · exact ⟨[], j, r, y, rfl, ey, by rw [zero, psurv_b ey hy]; rfl, .inl ⟨hy, rfl⟩⟩
      · exact skip (psurv_b ey hy) (fun pre => psurv_b ey hy) h
    · rw [plost_o ey hy hp] at h
      rcases List.mem_cons.mp h with rfl | h
      · exact ⟨[], j, r, y, rfl, ey, by rw [zero, psurv_o ey hy hp]; rfl, .inr ⟨hy, why, by rw [zero]; exact hp, rfl⟩⟩
      · exact skip (psurv_o ey hy hp) (fun pre => psurv_o ey hy hp) h
    · rw [plost_a ey hy hp] at h
      have e : ∀ pre, psurv F t (j :: pre) = (j, y) :: psurv F (t + y) pre := fun pre => psurv_a ey hy hp
      obtain ⟨pre, i, post, y2, a1, a2, a3, a4⟩ := plost_row r (t + y) row h
      have es : t + sumS (psurv F t (j :: pre)) = t + y + sumS (psurv F (t + y) pre) := by
        rw [e]
        show t + (y + _) = _
        rw [Rat.add_assoc]
      refine ⟨j :: pre, i, post, y2, by rw [a1]; rfl, a2, ?_, ?_⟩
      · rw [es, e, e, a3]
        rfl
      · rw [es]
        exact a4
theorem lossTot_eq (it : It) : ∀ (l : List (It × Rat)) (y : Rat), lossTot it y l = y + sumS (l.filter fun p => below it p.1)
  | [], y => by
    show y = y + 0
    rw [Rat.add_zero]
  | p :: r, y => by
    show lossTot it (if below it p.1 then y + p.2 else y) r = _
    rw [lossTot_eq it r]
    cases h : below it p.1 with
    | true =>
      rw [List.filter_cons_of_pos (by simpa using h), if_pos rfl]
      show y + p.2 + _ = y + (p.2 + _)
      rw [Rat.add_assoc]
    | false =>
      rw [List.filter_cons_of_neg (by simp [h])]
      rfl
theorem flat_only {α β : Type} [DecidableEq α] (g : α → List β) {w : α} : ∀ ws : List α, ws.Nodup → w ∈ ws → (∀ v ∈ ws, v ≠ w → g v = []) → ws.flatMap g = g w
  | [], _, h, _ => nomatch h
  | v :: r, nd, h, hg => by
    obtain ⟨n1, n2⟩ := List.nodup_cons.mp nd
    have none : ∀ ws : List α, (∀ v ∈ ws, g v = []) → ws.flatMap g = [] := fun ws h => by
      induction ws with
      | nil => rfl
      | cons a t ih => rw [List.flatMap_cons, h a (List.mem_cons_self ..), ih fun v hv => h v (List.mem_cons_of_mem _ hv)]; rfl
    rw [List.flatMap_cons]
    by_cases e : v = w
    · subst e
      rw [none r fun u hu => hg u (List.mem_cons_of_mem _ hu) (fun z => n1 (z ▸ hu)), List.append_nil]
    · rw [hg v (List.mem_cons_self ..) e, flat_only g r n2 ((List.mem_cons.mp h).resolve_left fun z => e z.symm) fun u hu => hg u (List.mem_cons_of_mem _ hu)]
      rfl
theorem filter_flat {α β : Type} (f : α → List β) (p : β → Bool) : ∀ ws : List α, (ws.flatMap f).filter p = ws.flatMap fun w => (f w).filter p
  | [] => rfl
  | w :: r => by rw [List.flatMap_cons, List.flatMap_cons, List.filter_append, filter_flat f p r]
theorem flat_perm {α β : Type} {f g : α → List β} : ∀ ws : List α, (∀ w ∈ ws, (f w).Perm (g w)) → (ws.flatMap f).Perm (ws.flatMap g)
  | [], _ => List.Perm.refl _
  | w :: r, h => by
    rw [List.flatMap_cons, List.flatMap_cons]
    exact (h w (List.mem_cons_self ..)).append (flat_perm r fun v hv => h v (List.mem_cons_of_mem _ hv))
theorem flat_app {α β : Type} (f g : α → List β) : ∀ ws : List α, (ws.flatMap f ++ ws.flatMap g).Perm (ws.flatMap fun w => f w ++ g w)
  | [] => List.Perm.refl _
  | w :: r => by
    rw [List.flatMap_cons, List.flatMap_cons, List.flatMap_cons]
    have := flat_app f g r
    have h1 : (f w ++ r.flatMap f ++ (g w ++ r.flatMap g)).Perm (f w ++ g w ++ (r.flatMap f ++ r.flatMap g)) := by
      rw [List.append_assoc, List.append_assoc]
      refine List.Perm.append_left _ ?_
      rw [← List.append_assoc, ← List.append_assoc]
      exact List.perm_append_comm.append_right _
    exact h1.trans (this.append_left _)
theorem own_perm (F : Fld) : ∀ (l : List It) (t : Rat), (∀ i ∈ l, ∃ y, i.y = some y) → ((psurv F t l).map (·.1.own) ++ (plost F t l).map (·.own)).Perm (l.map (·.own))
  | [], _, _ => List.Perm.refl _
  | i :: r, t, h => by
    obtain ⟨y, ey⟩ := h i (List.mem_cons_self ..)
    have hr : ∀ j ∈ r, ∃ y, j.y = some y := fun j hj => h j (List.mem_cons_of_mem _ hj)
    rcases way F t i with e | ⟨y, e, hy⟩ | ⟨y, why, e, hy, hp⟩ | ⟨y, v, e, hy, hp⟩
    · rw [e] at ey
      cases ey
    · rw [psurv_b e hy, plost_b e hy]
      exact List.perm_middle.trans (List.Perm.cons _ (own_perm F r t hr))
    · rw [psurv_o e hy hp, plost_o e hy hp]
      exact List.perm_middle.trans (List.Perm.cons _ (own_perm F r t hr))
    · rw [psurv_a e hy hp, plost_a e hy hp]
      exact List.Perm.cons _ (own_perm F r (t + y) hr)
theorem part_own (F : Fld) : ∀ its : List It, ((its.filter (goodI F)).map (·.own) ++ (its.flatMap (loss1 F)).map (·.own)).Perm (its.map (·.own))
  | [] => List.Perm.refl _
  | i :: r => by
    have ih := part_own F r
    rw [List.flatMap_cons, List.map_append]
    by_cases h : goodI F i = true
    · have hl : loss1 F i = [] := by
        unfold goodI at h
        unfold loss1
        cases e : placeX F.ws F.lx i.x with
        | no w => rw [e] at h; cases h
        | at_ v =>
          rw [e] at h
          cases e2 : i.y with
          | none => rw [e2] at h; cases h
          | some y => rfl
      rw [List.filter_cons_of_pos h, hl]
      exact List.Perm.cons _ ih
    · have hl : (loss1 F i).map (·.own) = [i.own] := by
        unfold goodI at h
        unfold loss1
        cases e : placeX F.ws F.lx i.x with
        | no w => rfl
        | at_ v =>
          rw [e] at h
          cases e2 : i.y with
          | none => rfl
          | some y => rw [e2] at h; exact absurd rfl h
      rw [List.filter_cons_of_neg h, hl]
      exact List.perm_middle.trans (List.Perm.cons _ ih)
theorem stand_own (F : Fld) (w : Str) : ∀ (l : List (It × Rat)) (t : Rat), (stand F w t l).map (·.own) = l.map (·.1.own)
  | [], _ => rfl
  | p :: r, t => congrArg (p.1.own :: ·) (stand_own F w r _)
def allS (F : Fld) (its : List It) : List (It × Rat) := F.ws.flatMap fun w => sv F its w
theorem map_flat {α β γ : Type} (f : α → List β) (g : β → γ) : ∀ ws : List α, (ws.flatMap f).map g = ws.flatMap fun w => (f w).map g
  | [] => rfl
  | w :: r => by rw [List.flatMap_cons, List.flatMap_cons, List.map_append, map_flat f g r]
theorem marks_own (F : Fld) (its : List It) : (hMarks F its).map (·.own) = (allS F its).map (·.1.own) := by
  rw [hMarks_eq, allS, map_flat, map_flat]
  congr 1
  funext w
  exact stand_own F w _ _
theorem hItems_perm (F : Fld) (its : List It) (w : Str) : (hItems F its w).Perm ((its.filter (goodI F)).filter (isW w)) := List.mergeSort_perm _ _
theorem own_part {F : Fld} {its : List It} {D : Nat} (hx : XOk F.ws F.lx) (h : IOk D its) : ((hMarks F its).map (·.own) ++ (hLost F its).map (·.own)).Perm (its.map (·.own)) := by
  rw [marks_own, hLost_eq, List.map_append, allS, map_flat (fun w => sv F its w), map_flat (fun w => ll F its w)]
  have h1 : ((F.ws.flatMap fun w => (sv F its w).map (·.1.own)) ++ (F.ws.flatMap fun w => (ll F its w).map (·.own))).Perm ((its.filter (goodI F)).map (·.own)) := by
    refine (flat_app _ _ F.ws).trans ?_
    refine (flat_perm (g := fun w => ((its.filter (goodI F)).filter (isW w)).map (·.own)) F.ws fun w _ => ?_).trans ?_
    · exact (own_perm F _ 0 fun i hi => by
        obtain ⟨_, y, hy, _⟩ := hItems_gi h w i hi
        exact ⟨y, hy⟩).trans ((hItems_perm F its w).map _)
    · rw [← map_flat]
      exact (part_perm (its.filter (goodI F)) F.ws hx.nd good_word).map _
  have h2 := part_own F its
  refine List.Perm.trans ?_ ((h1.append_right _).trans h2)
  rw [List.append_assoc]
  exact List.Perm.append_left _ List.perm_append_comm
def lostS (F : Fld) (its : List It) : List Ls := (hLost F its).mergeSort (PySem.W.dataLe false encL)
theorem lostS_sorted (F : Fld) (its : List It) : ((lostS F its).map (·.own)).Pairwise (· ≤ ·) := by
  rw [List.pairwise_map]
  have h := PySem.W.sort_pairwise (PySem.W.sortLe_total (PyProof.Rows.listOrd PyProof.Rows.itemOrd) false fun b : Ls => PySem.W.keyToks (encL b)) (hLost F its)
  refine List.Pairwise.imp (fun {a b} hab => ?_) h
  refine Classical.byContradiction fun hn => ?_
  have hlt : b.own < a.own := by omega
  have e : PySem.W.dataLe false encL a b = !PySem.W.dataLt (encL b) (encL a) := rfl
  have e2 : PySem.W.dataLt (encL b) (encL a) = true := by
    show PySem.W.dataLt (.tuple [.int b.own, .str b.ch, .str b.why]) (.tuple [.int a.own, .str a.ch, .str a.why]) = true
    rw [PySem.W.dataLt_tuple, PySem.W.dataLt_cons (by simp [PySem.W.alike]), if_neg (by simp [PyData.eqv]; omega), PySem.W.dataLt_int]
    exact decide_eq_true hlt
  have hab' : PySem.W.dataLe false encL a b = true := hab
  rw [e, e2] at hab'
  cases hab'
theorem hItems_sorted {F : Fld} {its : List It} (hn : (its.map (·.own)).Nodup) (w : Str) : (hItems F its w).Pairwise lexI := by
  have h := PySem.W.sort_pairwise (PySem.W.sortLe_total (PyProof.Rows.listOrd PyProof.Rows.itemOrd) false fun b : It => PySem.W.keyToks (keyD b)) ((its.filter (goodI F)).filter (isW w))
  have h' : (hItems F its w).Pairwise fun a b => PySem.W.dataLe false keyD a b = true := h
  have nd : (hItems F its w).Pairwise fun a b => a.own ≠ b.own := by
    have h1 : (((its.filter (goodI F)).filter (isW w)).map (·.own)).Nodup := List.Sublist.nodup (List.Sublist.map _ ((List.filter_sublist).trans List.filter_sublist)) hn
    have h2 : ((hItems F its w).map (·.own)).Nodup := ((hItems_perm F its w).map _).nodup_iff.mpr h1
    exact List.pairwise_map.mp h2
  refine (h'.and nd).imp fun {a b} hab => ?_
  have e : PySem.W.dataLe false keyD a b = decide (a.rank < b.rank ∨ (a.rank = b.rank ∧ a.own ≤ b.own)) := congrFun (congrFun (PySem.W.dataLe_ii (fun i : It => i.rank) (fun i : It => i.own)) a) b
  have h1 := hab.1
  rw [e] at h1
  have h2 := of_decide_eq_true h1
  have h3 := hab.2
  unfold lexI lex2
  simp only
  omega
theorem hItems_mem {F : Fld} {its : List It} {w : Str} {i : It} (h : i ∈ hItems F its w) : i ∈ its := (List.mem_filter.mp (List.mem_filter.mp (List.mem_mergeSort.mp h)).1).1
theorem sv_chain {F : Fld} {its : List It} {D : Nat} (hn : (its.map (·.own)).Nodup) (h : IOk D its) (w : Str) : ChainOk F w its D 0 none (sv F its w) :=
  chain_ok _ _ _ (hItems_sorted hn w) (fun q e => by cases e) fun i hi => ⟨hItems_mem hi, hItems_gi h w i hi⟩
theorem sv_mem {F : Fld} {its : List It} {D : Nat} (h : IOk D its) {w : Str} {p : It × Rat} (hp : p ∈ sv F its w) : LOk its D p ∧ p.1.x = some w := by
  obtain ⟨a, b⟩ := psurv_mem _ _ _ hp
  obtain ⟨c, y, d, e⟩ := hItems_gi h w _ a
  rw [b] at d
  cases d
  exact ⟨⟨hItems_mem a, ⟨w, c⟩, b, e⟩, c⟩
theorem allS_mem {F : Fld} {its : List It} {D : Nat} (h : IOk D its) : ∀ p ∈ allS F its, LOk its D p := fun p hp => by
  obtain ⟨w, _, hw⟩ := List.mem_flatMap.mp hp
  exact (sv_mem h hw).1
theorem allS_len {F : Fld} {its : List It} (hx : XOk F.ws F.lx) : (allS F its).length ≤ its.length := by
  have hp := (part_perm (its.filter (goodI F)) F.ws hx.nd good_word).length_eq
  have hf : (its.filter (goodI F)).length ≤ its.length := List.length_filter_le ..
  refine Nat.le_trans (flat_len _ (fun w => (its.filter (goodI F)).filter (isW w)) F.ws fun w _ => ?_) (by omega)
  rw [← (hItems_perm F its w).length_eq]
  exact psurv_len _ _
theorem placeX_l (ws : List Str) (len : Int) (x : Option Str) : (∀ w, placeX ws len x = .no w → lPlaceX ws len x = .no w) ∧ (∀ v, placeX ws len x = .at_ v → ∃ p, lPlaceX ws len x = .at_ p) := by
  cases x with
  | none => exact ⟨fun w h => (by cases h; rfl), fun v h => (by cases h)⟩
  | some u =>
    unfold placeX lPlaceX
    dsimp only
    split
    · exact ⟨fun w h => (by cases h), fun v h => ⟨_, rfl⟩⟩
    · exact ⟨fun w h => (by cases h; rfl), fun v h => (by cases h)⟩
theorem loss_ok {F : Fld} {its : List It} {D : Nat} (hF : F.Ok) (hn : (its.map (·.own)).Nodup) (h : IOk D its) : ∀ row ∈ hLost F its, ∃ it ∈ its, it.own = row.own ∧ LossOk F it (allS F its) row := fun row hr => by
  rw [hLost_eq] at hr
  rcases List.mem_append.mp hr with hr | hr
  · obtain ⟨it, hi, hl⟩ := List.mem_flatMap.mp hr
    unfold loss1 at hl
    obtain ⟨k1, k2⟩ := placeX_l F.ws F.lx it.x
    cases e : placeX F.ws F.lx it.x with
    | no w =>
      rw [e] at hl
      rw [List.mem_singleton] at hl
      subst hl
      refine ⟨it, hi, rfl, ?_⟩
      unfold LossOk
      rw [k1 w e]
    | at_ v =>
      rw [e] at hl
      dsimp only at hl
      obtain ⟨p, hp⟩ := k2 v e
      cases ey : it.y with
      | some y => rw [ey] at hl; cases hl
      | none =>
        rw [ey] at hl
        rw [List.mem_singleton] at hl
        subst hl
        refine ⟨it, hi, rfl, ?_⟩
        unfold LossOk
        rw [hp, ey]
  · obtain ⟨w, hw, hl⟩ := List.mem_flatMap.mp hr
    obtain ⟨pre, it, post, y, a1, a2, a3, a4⟩ := plost_row _ _ _ hl
    have him : it ∈ hItems F its w := by rw [a1]; simp
    have hi := hItems_mem him
    obtain ⟨hxw, _⟩ := hItems_gi h w it him
    have hgood : goodI F it = true := (List.mem_filter.mp (List.mem_filter.mp (List.mem_mergeSort.mp him)).1).2
    obtain ⟨v, hv⟩ : ∃ v, placeX F.ws F.lx it.x = .at_ v := by
      unfold goodI at hgood
      cases e : placeX F.ws F.lx it.x with
      | no w2 => rw [e] at hgood; cases hgood
      | at_ v => exact ⟨v, rfl⟩
    obtain ⟨p, hp⟩ := (placeX_l F.ws F.lx it.x).2 v hv
    have hsort := hItems_sorted (F := F) hn w
    rw [a1] at hsort
    obtain ⟨q1, q2, q3⟩ := List.pairwise_append.mp hsort
    obtain ⟨q4, _⟩ := List.pairwise_cons.mp q2
    have hxs : ∀ j ∈ hItems F its w, j.x = some w := fun j hj => (hItems_gi h w j hj).1
    have efil : (allS F its).filter (fun p => below it p.1) = psurv F 0 pre := by
      unfold allS
      rw [filter_flat, flat_only _ F.ws hF.x.nd hw fun u hu hne => ?_]
      · show (psurv F 0 (hItems F its w)).filter _ = _
        rw [a3, List.filter_append]
        have f1 : (psurv F 0 pre).filter (fun p => below it p.1) = psurv F 0 pre := List.filter_eq_self.mpr fun p hp => by
          obtain ⟨m, _⟩ := psurv_mem _ _ _ hp
          have hl := q3 _ m it (List.mem_cons_self ..)
          have hx := hxs p.1 (by rw [a1]; exact List.mem_append_left _ m)
          unfold below
          rw [hx, hxw, decide_eq_true rfl, Bool.true_and]
          unfold lexI lex2 at hl
          exact decide_eq_true hl
        have f2 : (psurv F (0 + sumS (psurv F 0 pre)) post).filter (fun p => below it p.1) = [] := List.filter_eq_nil_iff.mpr fun p hp => by
          obtain ⟨m, _⟩ := psurv_mem _ _ _ hp
          have hl := q4 _ m
          unfold lexI lex2 at hl
          unfold below
          simp only at hl
          simp
          omega
        rw [f1, f2, List.append_nil]
      · refine List.filter_eq_nil_iff.mpr fun p hp => ?_
        have hx := (sv_mem h hp).2
        unfold below
        rw [hx, hxw]
        simp [hne]
    refine ⟨it, hi, ?_, ?_⟩
    · rcases a4 with ⟨_, e⟩ | ⟨_, _, _, e⟩ <;> rw [e]
    · unfold LossOk
      rw [hp, a2]
      dsimp only
      rcases a4 with ⟨e1, e2⟩ | ⟨e1, why, e2, e3⟩
      · rw [if_pos e1]
        exact e2
      · rw [if_neg e1]
        have et : lossTot it y (allS F its) = 0 + sumS (psurv F 0 pre) + y := by
          rw [lossTot_eq, efil, Rat.zero_add, Rat.add_comm]
        refine ⟨why, ?_, e3⟩
        rw [et]
        have A := place_agree hF.y (0 + sumS (psurv F 0 pre) + y)
        rw [e2] at A
        cases e4 : lPlace F.s (0 + sumS (psurv F 0 pre) + y) with
        | no w2 =>
          rw [e4] at A
          have A' : why = w2 := A
          rw [A']
        | at_ p2 => rw [e4] at A; exact A.elim
/-! ### the items' numbers rise -/
theorem ownI_ge (own c : Int) : own ≤ ownI own c := by
  obtain ⟨hl, hb⟩ := dI_ok c
  have h0 : 0 ≤ (dI c).getD 0 0 ∧ (dI c).getD 0 0 < 4 := hb 0 (by decide)
  have h1 : 0 ≤ (dI c).getD 1 0 ∧ (dI c).getD 1 0 < 10 ^ 6 := hb 1 (by decide)
  unfold ownI
  have : (dI c).getD 0 0 = 0 ∨ (dI c).getD 0 0 = 1 ∨ (dI c).getD 0 0 = 2 ∨ (dI c).getD 0 0 = 3 := by omega
  rcases this with z | z | z | z <;> rw [z]
  · show own ≤ own + 0
    omega
  · show own ≤ own + 1
    omega
  · show own ≤ own + (2 + (dI c).getD 1 0 % 9)
    omega
  · show own ≤ own + (1 + (dI c).getD 1 0)
    omega
theorem items_own (F : Fld) : ∀ (cells : List Int) (own : Int), (∀ i ∈ itemsF F own cells, own ≤ i.own) ∧ ((itemsF F own cells).map (·.own)).Pairwise (· < ·)
  | [], _ => ⟨fun i hi => (nomatch hi), .nil⟩
  | c :: r, own => by
    obtain ⟨h1, h2⟩ := items_own F r (ownI own c + 1)
    have hg := ownI_ge own c
    refine ⟨fun i hi => ?_, ?_⟩
    · rcases List.mem_cons.mp hi with rfl | hi
      · exact hg
      · have := h1 i hi
        omega
    · refine List.pairwise_cons.mpr ⟨fun z hz => ?_, h2⟩
      obtain ⟨i, hi, rfl⟩ := List.mem_map.mp hz
      have := h1 i hi
      show ownI own c < i.own
      omega
end M

end
section
set_option maxHeartbeats 4000000
namespace M
open PySem PySem.Spec PyProof.Rows L2
theorem lay_map {α : Type} {f : α → PyData} : ∀ (l : List α), (∀ x ∈ l, (f x).canLay0 = true) → PyData.canLayAll0 (l.map f) = true
  | [], _ => rfl
  | x :: r, h => by
    show ((f x).canLay0 && PyData.canLayAll0 (r.map f)) = true
    rw [h x (List.mem_cons_self ..), lay_map r fun y hy => h y (List.mem_cons_of_mem _ hy)]
    rfl
theorem dep_map {α : Type} {f : α → PyData} {n : Nat} : ∀ (l : List α), (∀ x ∈ l, (f x).depth ≤ n) → PyData.depthAll (l.map f) ≤ n
  | [], _ => by simp [PyData.depthAll]
  | x :: r, h => by
    have h1 := h x (List.mem_cons_self ..)
    have h2 := dep_map r fun y hy => h y (List.mem_cons_of_mem _ hy)
    simp [PyData.depthAll]
    omega
theorem shaped_of {d : PyData} (h : d.canLay0 = true) (h2 : d.depth ≤ 64) : SeqAt.shaped d = true := by
  unfold SeqAt.shaped
  rw [h, decide_eq_true h2]
  rfl
theorem shaped_ints (l : List Int) : SeqAt.shaped (.list (l.map .int)) = true := shaped_of (lay_map l fun _ _ => rfl) (by
  have := dep_map (f := PyData.int) (n := 0) l fun _ _ => by simp [PyData.depth]
  simp only [PyData.depth]
  omega)
theorem encQ_lay (q : Rat) : (encQ q).canLay0 = true ∧ (encQ q).depth ≤ 1 := ⟨rfl, by simp [encQ, PyData.depth, PyData.depthAll]⟩
theorem item_lay {i : It} (h : ∀ w, i.x = some w → (PyData.str w).canLay0 = true) : (encIt i).canLay0 = true ∧ (encIt i).depth ≤ 3 := by
  have hx : (encC i.x).canLay0 = true ∧ (encC i.x).depth ≤ 1 := by
    cases e : i.x with
    | none => exact ⟨rfl, by simp [encC, PyData.depth]⟩
    | some w => exact ⟨h w e, by simp [encC, PyData.depth]⟩
  have hy : (encO i.y).canLay0 = true ∧ (encO i.y).depth ≤ 1 := by
    cases e : i.y with
    | none => exact ⟨rfl, by simp [encO, PyData.depth]⟩
    | some q => exact encQ_lay q
  constructor
  · show (true && ((encC i.x).canLay0 && ((encO i.y).canLay0 && _))) = true
    rw [hx.1, hy.1]
    rfl
  · have a := hx.2
    have b := hy.2
    simp [encIt, PyData.depth, PyData.depthAll]
    omega
theorem cellX_word {cell : Int} {e : List Int} {w : Str} (h : cellX (fieldF cell).ws e = some w) : (PyData.str w).canLay0 = true := by
  unfold cellX at h
  split at h
  · cases h
  · split at h
    · cases h
      exact ch_ok _
    · exact field_words cell w (List.mem_of_getElem? h)
theorem items_word (cell : Int) : ∀ (cells : List Int) (own : Int), ∀ i ∈ itemsF (fieldF cell) own cells, ∀ w, i.x = some w → (PyData.str w).canLay0 = true
  | [], _, i, hi, _, _ => nomatch hi
  | c :: r, own, i, hi, w, hw => by
    rcases List.mem_cons.mp hi with rfl | hi
    · exact cellX_word hw
    · exact items_word cell r _ i hi w hw
theorem shaped_items (cell : Int) (cells : List Int) : SeqAt.shaped (.list ((itemsF (fieldF cell) 0 cells).map encIt)) = true := shaped_of (lay_map _ fun i hi => (item_lay (items_word cell cells 0 i hi)).1) (by
  have := dep_map (f := encIt) (n := 3) (itemsF (fieldF cell) 0 cells) fun i hi => (item_lay (items_word cell cells 0 i hi)).2
  simp only [PyData.depth]
  omega)
theorem ys_lay (s : YS) : (encYS s).canLay0 = true ∧ (encYS s).depth ≤ 5 := by
  have n1 : (PyData.str "straight").canLay0 = true := by decide +kernel
  have n2 : (PyData.str "turns").canLay0 = true := by decide +kernel
  have n3 : (PyData.str "broken").canLay0 = true := by decide +kernel
  cases s with
  | straight lo hi len =>
    refine ⟨?_, ?_⟩
    · show ((PyData.str "straight").canLay0 && ((encQ lo).canLay0 && ((encQ hi).canLay0 && _))) = true
      rw [n1, (encQ_lay lo).1, (encQ_lay hi).1]
      rfl
    · simp [encYS, encQ, PyData.depth, PyData.depthAll]
  | turns b low many len =>
    refine ⟨?_, ?_⟩
    · show ((PyData.str "turns").canLay0 && _) = true
      rw [n2]
      rfl
    · simp [encYS, PyData.depth, PyData.depthAll]
  | broken ps len =>
    have a := lay_map (f := encPc) ps fun p _ => rfl
    have b := dep_map (f := encPc) (n := 2) ps fun p _ => by simp [encPc, encQ, PyData.depth, PyData.depthAll]
    refine ⟨?_, ?_⟩
    · show ((PyData.str "broken").canLay0 && (PyData.canLayAll0 (ps.map encPc) && _)) = true
      rw [n3, a]
      rfl
    · simp [encYS, PyData.depth, PyData.depthAll]
      omega
theorem shaped_field (cell : Int) : SeqAt.shaped (encF (fieldF cell)) = true := by
  have n1 : (PyData.str "order").canLay0 = true := by decide +kernel
  have a := lay_map (f := PyData.str) (fieldF cell).ws fun w hw => field_words cell w hw
  have b := dep_map (f := PyData.str) (n := 0) (fieldF cell).ws fun w _ => by simp [PyData.depth]
  obtain ⟨c, d⟩ := ys_lay (fieldF cell).s
  generalize fieldF cell = F at *
  refine shaped_of ?_ ?_
  · show (((PyData.str "order").canLay0 && (PyData.canLayAll0 (F.ws.map .str) && true)) && ((encYS F.s).canLay0 && _)) = true
    rw [n1, a, c]
    rfl
  · simp [encF, encX, PyData.depth, PyData.depthAll]
    omega
/-! marks with their items -/
def standP (F : Fld) (w : Str) : Rat → List (It × Rat) → List (Mk × It)
  | _, [] => []
  | t, p :: r => (mark F w t p.2 p.1, p.1) :: standP F w (t + p.2) r
theorem standP_fst (F : Fld) (w : Str) : ∀ (l : List (It × Rat)) (t : Rat), (standP F w t l).map (·.1) = stand F w t l
  | [], _ => rfl
  | p :: r, t => congrArg (mark F w t p.2 p.1 :: ·) (standP_fst F w r _)
theorem standP_mem (F : Fld) (w : Str) : ∀ (l : List (It × Rat)) (t : Rat) (q : Mk × It), q ∈ standP F w t l → q.1.own = q.2.own ∧ ∃ p ∈ l, p.1 = q.2
  | [], _, q, h => nomatch h
  | p :: r, t, q, h => by
    rcases List.mem_cons.mp h with rfl | h
    · exact ⟨rfl, p, List.mem_cons_self .., rfl⟩
    · obtain ⟨a, p2, b, c⟩ := standP_mem F w r _ q h
      exact ⟨a, p2, List.mem_cons_of_mem _ b, c⟩
def pairsA (F : Fld) (its : List It) : List (Mk × It) := F.ws.flatMap fun w => standP F w 0 (sv F its w)
theorem pairsA_fst (F : Fld) (its : List It) : (pairsA F its).map (·.1) = hMarks F its := by
  rw [hMarks_eq, pairsA, map_flat]
  congr 1
  funext w
  exact standP_fst F w _ _
theorem pairsA_mem {F : Fld} {its : List It} {D : Nat} (h : IOk D its) {q : Mk × It} (hq : q ∈ pairsA F its) : q.1.own = q.2.own ∧ q.2 ∈ its ∧ ∃ u, q.2.x = some u := by
  obtain ⟨w, _, hw⟩ := List.mem_flatMap.mp hq
  obtain ⟨a, p, b, c⟩ := standP_mem F w _ _ q hw
  obtain ⟨d, e⟩ := sv_mem h b
  exact ⟨a, c ▸ d.m, w, c ▸ e⟩
theorem pairsA_word {F : Fld} {its : List It} {D : Nat} (hx : XOk F.ws F.lx) (h : IOk D its) {w : Str} (hw : w ∈ F.ws) : (pairsA F its).filter (fun q => decide (q.2.x = some w)) = standP F w 0 (sv F its w) := by
  unfold pairsA
  have key : ∀ u, ∀ q ∈ standP F u 0 (sv F its u), q.2.x = some u := fun u q hq => by
    obtain ⟨a, p, b, c⟩ := standP_mem F u _ _ q hq
    exact c ▸ (sv_mem h b).2
  rw [filter_flat, flat_only _ F.ws hx.nd hw fun u hu hne => ?_]
  · exact List.filter_eq_self.mpr fun q hq => decide_eq_true (key w q hq)
  · refine List.filter_eq_nil_iff.mpr fun q hq => ?_
    rw [key u q hq]
    simpa using hne
theorem order_eq (F : Fld) (its : List It) : (F.ws.flatMap fun w => (stand F w 0 (sv F its w)).map (·.own)) = (hMarks F its).map (·.own) := by
  rw [hMarks_eq, map_flat]
/-! the dict as it is filled -/
theorem RD.none {B : List Addr} {H : Hp} : ∀ {its : List It} {kvs : List (Key × V)} {o : Int}, RD B H kvs (its.map fun i => (.int i.own, encIt i)) → o ∉ its.map (·.own) → valV kvs (.inl o) = Option.none
  | [], kvs, o, h, _ => by
    generalize hl : ([] : List It).map (fun i => (PyData.int i.own, encIt i)) = l at h
    cases h with
    | nil => rfl
    | cons _ _ => cases hl
  | j :: r, kvs, o, h, n => by
    generalize hl : (j :: r).map (fun i => (PyData.int i.own, encIt i)) = l at h
    cases h with
    | nil => cases hl
    | @cons k v vs d ds hv ht =>
      rw [List.map_cons] at hl
      have e1 := (List.cons.inj hl).1
      have e2 := (List.cons.inj hl).2
      have ek : kD k = .int j.own := (congrArg Prod.fst e1).symm
      rw [← e2] at ht
      have ekk : k = .inl j.own := by
        cases k with
        | inl z => cases ek; rfl
        | inr z => cases ek
      subst ekk
      have hne : j.own ≠ o := fun z => n (by rw [List.map_cons, z]; exact List.mem_cons_self ..)
      rw [valV_neg (fun z => hne (Sum.inl.inj z))]
      exact RD.none ht fun z => n (by rw [List.map_cons]; exact List.mem_cons_of_mem _ z)
theorem RD.snoc {B : List Addr} {H : Hp} {k : Key} {v : V} {d : PyData} : ∀ {kvs : List (Key × V)} {ds : List (PyData × PyData)}, RD B H kvs ds → R B H v d → RD B H (kvs ++ [(k, v)]) (ds ++ [(kD k, d)])
  | _, _, .nil, r => .cons r .nil
  | _, _, .cons h t, r => .cons h (RD.snoc t r)
theorem RD.len {B : List Addr} {H : Hp} : ∀ {kvs : List (Key × V)} {ds : List (PyData × PyData)}, RD B H kvs ds → kvs.length = ds.length
  | _, _, .nil => rfl
  | _, _, .cons _ t => congrArg (· + 1) (RD.len t)
theorem RD.same {B : List Addr} {H H' : Hp} {kvs : List (Key × V)} {ds : List (PyData × PyData)} (e : Same H H') (r : RD B H kvs ds) : RD B H' kvs ds := RD.ex (ExB.of e) (fun _ _ n _ => n) r
theorem RD.exB {B : List Addr} {H H' : Hp} {kvs : List (Key × V)} {ds : List (PyData × PyData)} (e : ExB B H H') (r : RD B H kvs ds) : RD B H' kvs ds := RD.ex e (fun _ _ n _ => n) r
theorem RD.sub {B B' : List Addr} {H : Hp} {kvs : List (Key × V)} {ds : List (PyData × PyData)} (s : ∀ a ∈ B', a ∈ B) (r : RD B H kvs ds) : RD B' H kvs ds := RD.ex (ExB.refl _ _) (fun _ _ n _ z => n (s _ z)) r
theorem Evn.less {C B : List Addr} {p : Addr} {σ : L2.St} {H H0 : Hp} {G : List Sl} (E : Evn C H0 (p :: B) σ H G) (gm : noMu G) : Evn [] H B σ H G :=
  ⟨ExB.refl _ _, fun a h => E.trk a (List.mem_cons_of_mem _ h), E.len, fun i s h => by
    cases s with
    | no => trivial
    | ptr l => exact E.at_ i _ h
    | mu l ds => exact (noMu_get gm i l ds h).elim
    | dat d =>
      obtain ⟨v, h1, h2⟩ := E.at_ i _ h
      exact ⟨v, h1, h2.sub fun a z => List.mem_cons_of_mem _ z⟩⟩
theorem Evn.retell {C B : List Addr} {σ : L2.St} {H H0 : Hp} {G : List Sl} {k : Nat} {v : V} {d : PyData} (E : Evn C H0 B σ H G) (hk : σ[k]? = some (some v)) (r : R B H v d) : Evn C H0 B σ H (G.set k (.dat d)) := by
  refine ⟨E.ex, E.trk, by rw [List.length_set, E.len], fun j s h => ?_⟩
  by_cases hj : k = j
  · subst hj
    by_cases hi : k < G.length
    · rw [List.getElem?_set_self hi] at h
      cases h
      exact ⟨v, hk, r⟩
    · rw [List.getElem?_eq_none (by rw [List.length_set]; omega)] at h
      cases h
  · rw [List.getElem?_set_ne hj] at h
    exact E.at_ j s h
/-! the script -/
section
variable {K : PySem.W.Frag} {B : List Addr} {σ : L2.St} {H H' : Hp} {a : Addr} {ns : List Int}
theorem sq_same {xs : List V} (h : SqL K H a xs) (e : Same H H') : SqL K H' a xs :=
  h.elim (fun d => .inl (d.elim (fun d => .inl (e _ _ d)) fun ⟨o, d⟩ => .inr ⟨o, e _ _ d⟩)) .inr
def cellsOf (ns : List Int) : List Int := (ns.drop (HT.sIx ns.length 0 (some 1))).take (HT.sIx ns.length ns.length (some 61) - HT.sIx ns.length 0 (some 1))
theorem cells_len (ns : List Int) : (cellsOf ns).length ≤ 60 := by
  unfold cellsOf
  rw [List.length_take]
  unfold HT.sIx
  simp
  omega
theorem ev_scrCat (h0 : σ[0]? = some (some (.ref a))) (hS : SqL K H a (ns.map V.int)) (ht : Trk B H) (hl : ns.length ≤ 63) : Ev B (tOp (rCatS K) (tVar 0) (tLst (tCons (tC (.int 0)) tNil))) σ H (.list ((ns ++ [0]).map .int)) := fun H1 e Q q =>
  ⟨_, h0, ev_lst (ds := [.int 0]) (ht.same e) (ea_cons ev_int ea_nil) (by simp) H1 (Same.refl H1) _ fun v H2 e2 r => by
    cases r with
    | lst hb nb rb =>
      obtain rfl := RA.ints (ns := [0]) rb
      refine ⟨a, _, _, _, rfl, rfl, sq_same hS (e.trans e2), Or.inl (Or.inl hb), by simp; omega, fun p hp => q _ _ (e2.trans (same_new hp)) (.lst upd_same (Trk.out (ht.same (e.trans e2)) hp) ?_)⟩
      have : ns.map V.int ++ [0].map V.int = (ns ++ [0]).map V.int := by rw [List.map_append]
      rw [this]
      exact RA.ofInts _⟩
theorem ev_scrSl (h0 : σ[0]? = some (some (.ref a))) (hS : SqL K H a (ns.map V.int)) (ht : Trk B H) : Ev B (tSl (rSlL K) (tVar 0) (tPart (tC (.int 1))) (tPart (tC (.int 61)))) σ H (.list ((cellsOf ns).map .int)) := fun H1 e Q q =>
  ⟨_, h0, 1, rfl, 61, rfl, a, ns.map V.int, rfl, sq_same hS e, fun p hp => q _ _ (same_new hp) (.lst upd_same (Trk.out (ht.same e) hp) (by
    have : cutV (ns.map V.int) (some 1) (some 61) = (cellsOf ns).map V.int := by
      unfold cutV cellsOf
      rw [List.length_map, List.map_take, List.map_drop]
    rw [this]
    exact RA.ofInts _))⟩
end
end M

end
section
set_option maxHeartbeats 4000000
set_option exponentiation.threshold 10000
namespace M
open PySem PySem.Spec PyProof.Rows L2

def SpLaw (K : PySem.W.Frag) (P0 : Addr) : Sp := fun vs H Q _ => ∃ (a : Addr) (ns : List Int), vs = [.ref a] ∧ ns.length ≤ 63 ∧ H P0 = some (.tbl #[]) ∧ SqL K H a (ns.map V.int) ∧ ∀ H', Q (.bl true) H'
def sideOf (f : Int) : Str := if f % 7 % 2 = 0 then "left" else "right"
theorem side_ok (f : Int) : strOkP (sideOf f) := by
  unfold sideOf strOkP
  split <;> decide +kernel
theorem ss_raw {te : TE} {u : TS} {D : Ends} {σ : L2.St} {H : Hp} {k : Nat} (h : te σ H fun v H1 => u D (σ.set k (some v)) H1) : tSeq (tAsg te (gName k)) u D σ H := h
theorem fnok_of {P : Program} {w : World} {K : PySem.W.Frag} {mg : Str → Option Value} {base : Heap} {x : Str} {st : Stmt} {N ps : List Str} {k : Nat} {sp : Sp} {f : Addr} {fd : FuncData} (F : FunD K x x (defArgs st) (defBody st) (defScope st) [] [] f fd) (S : FnScope N ps (defScope st)) (len : ∀ vs H Q E, sp vs H Q E → vs.length = ps.length)
    (h : ∀ (f : Addr) (cdv : Value) (A : Around) (outer : List PySem.Env) (s : Shared) (H : Hp) (vs : List V) (Q : VK) (E : XK), Room k (A.deeper (envOfC x (defScope st) s.heap.objs.size f cdv)) → sp vs H Q E →
      ∃ t, PSs (cxOf CX0 P w K mg base N x (defScope st) f cdv A outer s H E).nox (defBody st) t ∧ t { nx := fun _ H' => Q .non H', rt := Q } (L2.start N vs) H) : FnOk P w K mg base CX0 (k + 1) f fd ps sp :=
  F.ok S len fun cdv A outer s H vs Q E hr hs => by
    obtain ⟨t, a, b⟩ := h f cdv A outer s H vs Q E hr hs
    exact ⟨t, a.nox, b⟩
theorem flen {α : Type} (l : List α) : l.filter (fun _ => true) = l := List.filter_eq_self.mpr fun _ _ => rfl

local macro_rules | `(tactic| walk_at "ev") => `(tactic| first
  | with_reducible exact ev_int
  | with_reducible exact ev_str
  | with_reducible exact ev_bl
  | with_reducible exact ev_non
  | ((with_reducible refine' ev_var (by assumption) ?_); rfl)
  | ((with_reducible refine ev_I0 (i := ?i) (j := ?j) ?h1 ?h2); (case h1 => walk_at "ev"); (case h2 => walk_at "ev"))
  | ((with_reducible refine ev_I0b (i := ?i) (j := ?j) ?h1 ?h2); (case h1 => walk_at "ev"); (case h2 => walk_at "ev"))
  | ((with_reducible refine ev_eqI (i := ?i) (j := ?j) ?h1 ?h2); (case h1 => walk_at "ev"); (case h2 => walk_at "ev"))
  | ((with_reducible refine ev_neI (i := ?i) (j := ?j) ?h1 ?h2); (case h1 => walk_at "ev"); (case h2 => walk_at "ev"))
  | ((with_reducible refine ev_neg (i := ?i) ?h1); (case h1 => walk_at "ev"))
  | ((with_reducible refine ev_fst (x := ?x) ?h1); (case h1 => walk_at "ev"))
  | ((with_reducible refine ev_snd (x := ?x) ?h1); (case h1 => walk_at "ev"))
  | ((with_reducible refine ev_fstP (p := ?x) ?h1); (case h1 => walk_at "ev"))
  | ((with_reducible refine ev_sndP (p := ?x) ?h1); (case h1 => walk_at "ev"))
  | ((with_reducible refine ev_ixT (ds := ?ds) (i := ?i) ?h1 ?h2 ?h3); (case h1 => walk_at "ev"); (case h2 => walk_at "ev"); (case h3 => rfl))
  | ((with_reducible refine ev_ixL (ds := ?ds) (i := ?i) ?h1 ?h2 ?h3); (case h1 => walk_at "ev"); (case h2 => walk_at "ev"); (case h3 => rfl))
  | ((with_reducible refine ev_pair1 (a := ?a) (Evn.trk (by assumption)) ?h1); (case h1 => walk_at "ev"))
  | ((with_reducible refine ev_abs (i := ?i) ?h1); (case h1 => walk_at "ev")))

section
variable {P : Program} {w : World} {K : PySem.W.Frag} {mg : Str → Option Value} {base : Heap}
theorem sc_law : FnScope ["_law_script", "_law_first", "_law_field_here", "_law_made", "_law_side", "_law_handed", "_law_found", "_law_items_here", "_law_item", "_law_standing", "_law_mark", "_law_gone", "_law_row", "_law_order", "_law_word", "_law_marks"] ["_law_script"] (defScope s_law) := ⟨rfl, rfl, rfl, by decide +kernel, rfl, by decide +kernel, by decide +kernel⟩
theorem ok_law {P0 : Addr} {f0 : Addr} {fd0 : FuncData} (F : FunD K "law" "law" (defArgs s_law) (defBody s_law) (defScope s_law) [] [] f0 fd0) (c__law_field : Cal P w K mg base 6 "_law_field" ["_law_cell_here"] (SpD dField)) (c__law_items : Cal P w K mg base 6 "_law_items" ["_law_cells", "_law_field_here"] (SpD dItems)) (c_heaps : Cal P w K mg base 9 "heaps" ["field", "side", "items"] (SpHeaps P0 qlam)) (c__law_told : Cal P w K mg base 2 "_law_told" ["_law_found"] (SpD dTold)) (c__law_heap_right : Cal P w K mg base 5 "_law_heap_right" ["_law_field_here", "_law_side", "_law_marks", "_law_items_here"] (SpD dHeapRight)) (c__law_loss_right : Cal P w K mg base 4 "_law_loss_right" ["_law_field_here", "_law_item", "_law_marks", "_law_items_here", "_law_row"] (SpD dLossRight)) (m_list : mg "list" = none) (m_sorted : mg "sorted" = none) (m_all : mg "all" = none) : FnOk P w K mg base CX0 10 f0 fd0 ["_law_script"] (SpLaw K P0) := by
  refine fnok_of F sc_law (fun vs H Q E ⟨_, _, h, _⟩ => by rw [h]; rfl) fun f cdv A outer s H vs Q E hr hsp => ⟨_,
      (pss_cons (ps_set (i := 1) sc_law.nd rfl (Or.inl rfl) (pe_ix (kx_list (K := K) rfl) (pe_op (op_catS (K := K) rfl) (pv 0) (pe_lst (pa_cons pe_int pa_nil))) pe_int (fun _ _ => rfl)))
      (pss_cons (ps_set (i := 2) sc_law.nd rfl (Or.inr rfl) (pe_cal c__law_field hr (by decide) (by rfl) (pa_cons (pv 1) pa_nil)))
      (pss_cons (ps_set (i := 3) sc_law.nd rfl (Or.inl rfl) (pe_cal c__law_items hr (by decide) (by rfl) (pa_cons (pe_slice (ksl_list (K := K) rfl) (pv 0) (po_some pe_int) (po_some pe_int)) (pa_cons (pv 2) pa_nil))))
      (pss_cons (ps_set (i := 4) sc_law.nd rfl (Or.inl rfl) (pe_ix (kx_list (K := K) rfl) (pe_lst (pa_cons pe_str (pa_cons pe_str pa_nil))) (pe_op op_mod (pe_op op_mod (pv 1) pe_int) pe_int) (fun _ _ => rfl)))
      (pss_cons (ps_set (i := 5) sc_law.nd rfl (Or.inl rfl) (pe_callTy (kcall_list (K := K) rfl) (by rfl) m_list bt_list (pa_cons (pv 3) pa_nil)))
      (pss_cons (ps_set (i := 6) sc_law.nd rfl (Or.inr rfl) (pe_cal c_heaps hr (by decide) (by rfl) (pa_cons (pv 2) (pa_cons (pv 4) (pa_cons (pv 5) pa_nil)))))
      (pss_cons (ps_if (PW.pt (pw_or (pt_not (pt_val (pe_cal c__law_told hr (by decide) (by rfl) (pa_cons (pv 6) pa_nil)))) (pw_or (pt_cmpR (kop_neD (K := K) rfl hr.units) (pv 5) (pv 3) (nomark _)) (pw_or1 (pt_cmpR (kop_neD (K := K) rfl hr.units) (pv 2) (pe_cal c__law_field hr (by decide) (by rfl) (pa_cons (pv 1) pa_nil)) (nomark _)))))) (pss_one (ps_ret pe_bl)) pss_nil)
      (pss_cons (ps_set (i := 7) sc_law.nd rfl (Or.inr rfl) pe_dnewK)
      (pss_cons (ps_for PassesOwn.never rfl (kpi_list (K := K) rfl (pv 3)) (pg_name (i := 8) sc_law.nd rfl (Or.inl rfl))
        (pss_one (ps_dput (hu_of hr) (pv 7) (pe_ix (kx_tup (K := K) rfl) (pv 8) pe_int (fun _ _ => rfl)) (pv 8) rfl)))
      (pss_cons (ps_setLc (i := 9) (own := [("_law_mark", 10)]) rfl sc_law.nd rfl rfl (sw_true rfl rfl rfl (by decide +kernel)) (kpi_list (K := K) rfl (pe_ix (kx_tup (K := K) rfl) (pv 6) pe_int (fun _ _ => rfl))) (blkOk_by (own := [("_law_mark", 10)]) (N := ["_law_script", "_law_first", "_law_field_here", "_law_made", "_law_side", "_law_handed", "_law_found", "_law_items_here", "_law_item", "_law_standing", "_law_mark", "_law_gone", "_law_row", "_law_order", "_law_word", "_law_marks"]) (sc := defScope s_law) (by decide +kernel)) (fun _ _ _ _ _ => pg_name (i := 10) sc_law.nd rfl (Or.inl rfl)) (fun _ _ _ _ _ => pts_nil) (fun _ _ _ _ _ => (pe_ix (kx_list (K := K) rfl) (pe_ix (kx_tup (K := K) rfl) (pv 10) pe_int (fun _ _ => rfl)) pe_int (fun _ _ => rfl))))
      (pss_cons (ps_setLc (i := 11) (own := [("_law_row", 12)]) rfl sc_law.nd rfl rfl (sw_true rfl rfl rfl (by decide +kernel)) (kpi_list (K := K) rfl (pe_ix (kx_tup (K := K) rfl) (pv 6) pe_int (fun _ _ => rfl))) (blkOk_by (own := [("_law_row", 12)]) (N := ["_law_script", "_law_first", "_law_field_here", "_law_made", "_law_side", "_law_handed", "_law_found", "_law_items_here", "_law_item", "_law_standing", "_law_mark", "_law_gone", "_law_row", "_law_order", "_law_word", "_law_marks"]) (sc := defScope s_law) (by decide +kernel)) (fun _ _ _ _ _ => pg_name (i := 12) sc_law.nd rfl (Or.inl rfl)) (fun _ _ _ _ _ => pts_nil) (fun _ _ _ _ _ => (pe_ix (kx_tup (K := K) rfl) (pv 12) pe_int (fun _ _ => rfl))))
      (pss_cons (ps_if (PW.pt (pw_or (pt_cmpR (kop_neD (K := K) rfl hr.units) (pv 11) (pe_callB (kcr_sortedI (K := K) rfl) (by rfl) m_sorted bt_sorted (pa_cons (pv 11) pa_nil)) (nomark _)) (pw_or1 (pt_cmpR (kop_neD (K := K) rfl hr.units) (pe_callB (kcr_sortedI (K := K) rfl) (by rfl) m_sorted bt_sorted (pa_cons (pe_op op_cat (pv 9) (pv 11)) pa_nil)) (pe_lc (own := [("_law_item", 8)]) rfl sc_law.nd (kpi_list (K := K) rfl (pv 3)) (blkOk_by (own := [("_law_item", 8)]) (N := ["_law_script", "_law_first", "_law_field_here", "_law_made", "_law_side", "_law_handed", "_law_found", "_law_items_here", "_law_item", "_law_standing", "_law_mark", "_law_gone", "_law_row", "_law_order", "_law_word", "_law_marks"]) (sc := defScope s_law) (by decide +kernel)) (fun _ _ _ _ _ => pg_name (i := 8) sc_law.nd rfl (Or.inl rfl)) (fun _ _ _ _ _ => pts_nil) (fun _ _ _ _ _ => (pe_ix (kx_tup (K := K) rfl) (pv 8) pe_int (fun _ _ => rfl)))) (nomark _))))) (pss_one (ps_ret pe_bl)) pss_nil)
      (pss_cons (ps_set (i := 13) sc_law.nd rfl (Or.inl rfl) (pe_lst pa_nil))
      (pss_cons (ps_for PassesOwn.never rfl (kpi_list (K := K) rfl (pe_ix (kx_tup (K := K) rfl) (pe_ix (kx_tup (K := K) rfl) (pv 2) pe_int (fun _ _ => rfl)) pe_int (fun _ _ => rfl))) (pg_name (i := 14) sc_law.nd rfl (Or.inr rfl))
        (pss_cons (ps_setLc (i := 15) (own := [("_law_mark", 10)]) rfl sc_law.nd rfl rfl (sw_true rfl rfl rfl (by decide +kernel)) (kpi_list (K := K) rfl (pe_ix (kx_tup (K := K) rfl) (pv 6) pe_int (fun _ _ => rfl))) (blkOk_by (own := [("_law_mark", 10)]) (N := ["_law_script", "_law_first", "_law_field_here", "_law_made", "_law_side", "_law_handed", "_law_found", "_law_items_here", "_law_item", "_law_standing", "_law_mark", "_law_gone", "_law_row", "_law_order", "_law_word", "_law_marks"]) (sc := defScope s_law) (by decide +kernel)) (fun _ _ _ _ _ => pg_name (i := 10) sc_law.nd rfl (Or.inl rfl)) (fun _ _ _ _ _ => pts_one (pt_cmpR op_eq (pe_ix (kx_tup (K := K) rfl) (pe_dget (hu_of hr) (pv 7) (pe_ix (kx_list (K := K) rfl) (pe_ix (kx_tup (K := K) rfl) (pv 10) pe_int (fun _ _ => rfl)) pe_int (fun _ _ => rfl)) (fun _ _ => rfl)) pe_int (fun _ _ => rfl)) (pv 14) (nomark _))) (fun _ _ _ _ _ => (pv 10)))
        (pss_cons (ps_set (i := 13) sc_law.nd rfl (Or.inl rfl) (pe_op op_cat (pv 13) (pe_lc (own := [("_law_mark", 10)]) rfl sc_law.nd (kpi_list (K := K) rfl (pv 15)) (blkOk_by (own := [("_law_mark", 10)]) (N := ["_law_script", "_law_first", "_law_field_here", "_law_made", "_law_side", "_law_handed", "_law_found", "_law_items_here", "_law_item", "_law_standing", "_law_mark", "_law_gone", "_law_row", "_law_order", "_law_word", "_law_marks"]) (sc := defScope s_law) (by decide +kernel)) (fun _ _ _ _ _ => pg_name (i := 10) sc_law.nd rfl (Or.inl rfl)) (fun _ _ _ _ _ => pts_nil) (fun _ _ _ _ _ => (pe_ix (kx_list (K := K) rfl) (pe_ix (kx_tup (K := K) rfl) (pv 10) pe_int (fun _ _ => rfl)) pe_int (fun _ _ => rfl))))))
        (pss_one (ps_if (pt_not (pt_val (pe_cal c__law_heap_right hr (by decide) (by rfl) (pa_cons (pv 2) (pa_cons (pv 4) (pa_cons (pv 15) (pa_cons (pv 7) pa_nil))))))) (pss_one (ps_ret pe_bl)) pss_nil)))))
      (pss_cons (ps_if (pt_cmpR (kop_neD (K := K) rfl hr.units) (pv 13) (pv 9) (nomark _)) (pss_one (ps_ret pe_bl)) pss_nil)
      (pss_one (ps_ret (pe_callB (kcr_all (K := K) rfl rfl) (by rfl) m_all bt_all (pa_cons (pe_lc (own := [("_law_row", 12)]) rfl sc_law.nd (kpi_list (K := K) rfl (pe_ix (kx_tup (K := K) rfl) (pv 6) pe_int (fun _ _ => rfl))) (blkOk_by (own := [("_law_row", 12)]) (N := ["_law_script", "_law_first", "_law_field_here", "_law_made", "_law_side", "_law_handed", "_law_found", "_law_items_here", "_law_item", "_law_standing", "_law_mark", "_law_gone", "_law_row", "_law_order", "_law_word", "_law_marks"]) (sc := defScope s_law) (by decide +kernel)) (fun _ _ _ _ _ => pg_name (i := 12) sc_law.nd rfl (Or.inl rfl)) (fun _ _ _ _ _ => pts_nil) (fun _ _ _ _ _ => (pe_cal c__law_loss_right hr (by decide) (by rfl) (pa_cons (pv 2) (pa_cons (pe_dget (hu_of hr) (pv 7) (pe_ix (kx_tup (K := K) rfl) (pv 12) pe_int (fun _ _ => rfl)) (fun _ _ => rfl)) (pa_cons (pe_ix (kx_tup (K := K) rfl) (pv 6) pe_int (fun _ _ => rfl)) (pa_cons (pv 7) (pa_cons (pv 12) pa_nil)))))))) pa_nil))))))))))))))))))), ?_⟩
  obtain ⟨a, ns, rfl, hlen, hP, hS, q⟩ := hsp
  have T0 : LamX.Tabs [(P0, qlam)] H := fun p hp => by
    rw [List.mem_singleton] at hp
    subst hp
    exact LamX.TabS.nil hP
  have tn0 : TrkN P0 [P0] H := fun b hb => .inl (List.mem_singleton.mp hb)
  have E0 : Evn [] H [P0] (L2.start ["_law_script", "_law_first", "_law_field_here", "_law_made", "_law_side", "_law_handed", "_law_found", "_law_items_here", "_law_item", "_law_standing", "_law_mark", "_law_gone", "_law_row", "_law_order", "_law_word", "_law_marks"] [.ref a]) H [.ptr a, .no, .no, .no, .no, .no, .no, .no, .no, .no, .no, .no, .no, .no, .no, .no] := by
    have := Evn.startG (C := []) (B := [P0]) (H := H) (N := ["_law_script", "_law_first", "_law_field_here", "_law_made", "_law_side", "_law_handed", "_law_found", "_law_items_here", "_law_item", "_law_standing", "_law_mark", "_law_gone", "_law_row", "_law_order", "_law_word", "_law_marks"]) (vs := [.ref a]) (G := [.ptr a, .no, .no, .no, .no, .no, .no, .no, .no, .no, .no, .no, .no, .no, .no, .no]) (tn0.trk T0) rfl (by show 1 ≤ 16; decide) fun i s h => by
      match i, h with
      | 0, h => cases h; exact .inr ⟨_, rfl, rfl⟩
      | 1, h => cases h; exact .inl rfl
      | 2, h => cases h; exact .inl rfl
      | 3, h => cases h; exact .inl rfl
      | 4, h => cases h; exact .inl rfl
      | 5, h => cases h; exact .inl rfl
      | 6, h => cases h; exact .inl rfl
      | 7, h => cases h; exact .inl rfl
      | 8, h => cases h; exact .inl rfl
      | 9, h => cases h; exact .inl rfl
      | 10, h => cases h; exact .inl rfl
      | 11, h => cases h; exact .inl rfl
      | 12, h => cases h; exact .inl rfl
      | 13, h => cases h; exact .inl rfl
      | 14, h => cases h; exact .inl rfl
      | 15, h => cases h; exact .inl rfl
      | n + 16, h => simp at h
    exact ⟨ExB.refl _ _, this.trk, this.len, this.at_⟩
  obtain ⟨f, hf⟩ : ∃ f : Int, (ns ++ [0])[0]? = some f := by
    cases ns with
    | nil => exact ⟨0, rfl⟩
    | cons z r => exact ⟨z, rfl⟩
  have hs0 : (L2.start ["_law_script", "_law_first", "_law_field_here", "_law_made", "_law_side", "_law_handed", "_law_found", "_law_items_here", "_law_item", "_law_standing", "_law_mark", "_law_gone", "_law_row", "_law_order", "_law_word", "_law_marks"] [V.ref a])[0]? = some (some (.ref a)) := E0.at_ 0 _ rfl
  refine ss_set E0 (d := .int f) (ev_ixL (ds := (ns ++ [0]).map .int) (i := 0) (ev_scrCat hs0 hS E0.trk hlen) ev_int (atI_pick (by decide) (by rw [List.getElem?_map]; exact congrArg (Option.map PyData.int) hf))) (fun σ1 H1 E1 => ?_)
  have hF := field_ok f
  obtain ⟨D, hD, hYD⟩ := field_d f
  refine ss_set E1 (d := encF (fieldF f)) (ev_field E1.trk (cell := f) (by walk_at "ev")) (fun σ2 H2 E2 => ?_)
  have hs2 : σ2[0]? = some (some (.ref a)) := E2.at_ 0 _ rfl
  have sm2 : Same H H2 := fun x o h => E2.ex x o (fun z => nomatch z) h
  refine ss_set E2 (d := .list ((itemsF (fieldF f) 0 (cellsOf ns)).map encIt)) (ev_items E2.trk (ev_scrSl hs2 (sq_same hS sm2) E2.trk) (by walk_at "ev") hF (cells_len ns)) (fun σ3 H3 E3 => ?_)
  have hio := items_bn hF hYD (cellsOf ns) 0
  have hsh := shaped_items f (cellsOf ns)
  have hlt := (items_own (fieldF f) (cellsOf ns) 0).2
  have hll : (itemsF (fieldF f) 0 (cellsOf ns)).length ≤ 60 := by rw [itemsF_len]; exact cells_len ns
  have hfs := shaped_field f
  have hfd : ∀ {C B : List Addr} {σ : L2.St} {H : Hp} {ta : TE} {XE : XK}, Trk B H → Ev B ta σ H (.int f) → Ev B (tCall (SpD dField) [] XE (tCons ta tNil)) σ H (encF (fieldF f)) := fun t h => ev_field t h
  generalize itemsF (fieldF f) 0 (cellsOf ns) = its at *
  generalize fieldF f = F at *
  have hnd : (its.map (·.own)).Nodup := hlt.imp fun h => by omega
  have E3 : Evn [] H [P0] σ3 H3 [.ptr a, .dat (.int f), .dat (encF F), .dat (.list (its.map encIt)), .no, .no, .no, .no, .no, .no, .no, .no, .no, .no, .no, .no] := E3
  refine ss_set E3 (d := .str (sideOf f)) (ev_ixL (ds := [.str "left", .str "right"]) (i := f % 7 % 2) (ev_lst E3.trk (ea_cons (by walk_at "ev") (ea_cons (by walk_at "ev") ea_nil)) (by simp)) (ev_I (i := f % 7) (j := 2) (ev_I (i := f) (j := 7) (by walk_at "ev") (by walk_at "ev") (by decide)) (by walk_at "ev") (by decide)) (by
    have : f % 7 % 2 = 0 ∨ f % 7 % 2 = 1 := by omega
    unfold sideOf
    rcases this with z | z <;> rw [z] <;> rfl)) (fun σ4 H4 E4 => ?_)
  refine ss_set E4 (d := .list (its.map encIt)) (ev_listOf E4.trk (by walk_at "ev")) (fun σ5 H5 E5 => ?_)
  have E5 : Evn [] H [P0] σ5 H5 [.ptr a, .dat (.int f), .dat (encF F), .dat (.list (its.map encIt)), .dat (.str (sideOf f)), .dat (.list (its.map encIt)), .no, .no, .no, .no, .no, .no, .no, .no, .no, .no] := E5
  have sm5 : Same H H5 := fun x o h => E5.ex x o (fun z => nomatch z) h
  clear E0 E1 E2 E3 E4 hs2
  have T5 := tabs_keep T0 (KeepT.same sm5)
  obtain ⟨v2, s2, r2⟩ := E5.at_ 2 _ rfl
  obtain ⟨v4, s4, r4⟩ := E5.at_ 4 _ rfl
  obtain ⟨v5, s5, r5⟩ := E5.at_ 5 _ rfl
  refine ss_raw ⟨v2, s2, v4, s4, v5, s5, D, F, sideOf f, its, hD, hF, hll, hio, T5, .cons r2 (.cons r4 (.cons r5 .nil)), fun v6 H6 eN T6 r6 => ?_⟩
  have tn6 : TrkN P0 [P0] H6 := fun b hb => .inl (List.mem_singleton.mp hb)
  have E6 : Evn [] H6 [P0] (σ5.set 6 (some v6)) H6 [.ptr a, .dat (.int f), .dat (encF F), .dat (.list (its.map encIt)), .dat (.str (sideOf f)), .dat (.list (its.map encIt)), .dat (hRes F (sideOf f) its), .no, .no, .no, .no, .no, .no, .no, .no, .no] := (E5.chg (ExN.ofN eN) (fun _ _ n _ => n) (fun _ h => h) (tn6.trk T6) (fun i l ds h => (noMu_get (G := [.ptr a, .dat (.int f), .dat (encF F), .dat (.list (its.map encIt)), .dat (.str (sideOf f)), .dat (.list (its.map encIt)), .no, .no, .no, .no, .no, .no, .no, .no, .no, .no]) ⟨trivial, trivial, trivial, trivial, trivial, trivial, trivial, trivial, trivial, trivial, trivial, trivial, trivial, trivial, trivial, trivial, trivial⟩ i l ds h).elim) []).set (i := 6) r6
  clear E5 r2 r4 r5 s2 s4 s5
  refine ss_ifF E6 (et_or0 (Evt_isNone (et_not (et_B (ev_told (C := []) (side := sideOf f) (ms := hMarks F its) (ls := lostS F its) E6.trk (by walk_at "ev")))) rfl) (et_or0 (et_test (ev_neD (d := .list (its.map encIt)) (by walk_at "ev") (by walk_at "ev") hsh)) (et_test (ev_neD (d := encF F) (by walk_at "ev") (hfd (C := []) E6.trk (by walk_at "ev")) hfs)))) (fun H7 E7 => ?_)
  refine ss_raw (fun p hp => ?_)
  have sp := same_new (o := .dK []) hp
  have hp1 : upd H7 p (.dK []) p = some (.dK []) := upd_same
  have hpB : p ∉ [P0] := Trk.out E7.trk hp
  generalize upd H7 p (.dK []) = H8 at *
  have tk8 : Trk [p, P0] H8 := fun b hb => by
    rcases List.mem_cons.mp hb with z | z
    · rw [z, hp1]
      exact fun z => nomatch z
    · exact E7.trk.same sp b z
  have E8 : Evn [] H8 [p, P0] ((σ5.set 6 (some v6)).set 7 (some (.ref p))) H8 [.ptr a, .dat (.int f), .dat (encF F), .dat (.list (its.map encIt)), .dat (.str (sideOf f)), .dat (.list (its.map encIt)), .dat (hRes F (sideOf f) its), .ptr p, .no, .no, .no, .no, .no, .no, .no, .no] := (E7.ptr 7 p).chg (.ofS sp) (fun a o n ha => fresh_out hp ha n) (fun _ h => List.mem_cons_of_mem _ h) tk8 (fun i l ds h => (noMu_get (G := [.ptr a, .dat (.int f), .dat (encF F), .dat (.list (its.map encIt)), .dat (.str (sideOf f)), .dat (.list (its.map encIt)), .dat (hRes F (sideOf f) its), .ptr p, .no, .no, .no, .no, .no, .no, .no, .no]) ⟨trivial, trivial, trivial, trivial, trivial, trivial, trivial, trivial, trivial, trivial, trivial, trivial, trivial, trivial, trivial, trivial, trivial⟩ i l ds h).elim) []
  clear E6 E7
  refine ss_forN (ds := its.map encIt) (B := [p, P0]) (by walk_at "ev") (fun H9 i σ' H' => ∃ kvs, Evn [p] H9 [p, P0] σ' H' [.ptr a, .dat (.int f), .dat (encF F), .dat (.list (its.map encIt)), .dat (.str (sideOf f)), .dat (.list (its.map encIt)), .dat (hRes F (sideOf f) its), .ptr p, .no, .no, .no, .no, .no, .no, .no, .no] ∧ H' p = some (.dK kvs) ∧ RD [p, P0] H' kvs ((its.take i).map fun i => (.int i.own, encIt i)))
    (fun H9 e => ⟨[], E8.base e [p], e _ _ hp1, .nil⟩) (fun H9 i σ' H' e pv => by
      obtain ⟨kvs, E, _⟩ := pv
      exact .of (E.ex.mono fun a ha => by rw [List.mem_singleton] at ha; rw [ha]; exact List.mem_cons_self ..)) (fun H9 i x d σ' H' e hx rx pv => ?_) (fun H9 σ' H' e pv => ?_)
  · obtain ⟨kvs, E9, hk, hrd⟩ := pv
    have hi : i < its.length := by
      have := (List.getElem?_eq_some_iff.mp hx).1
      rwa [List.length_map] at this
    have hd : d = encIt its[i] := by
      rw [List.getElem?_map, List.getElem?_eq_getElem hi] at hx
      exact (Option.some.inj hx).symm
    subst hd
    have htk : its.take (i + 1) = its.take i ++ [its[i]] := by rw [List.take_add_one, List.getElem?_eq_getElem hi]; rfl
    have hlt2 : ((its.take i).map (·.own) ++ (its.drop i).map (·.own)).Pairwise (· < ·) := by
      rw [← List.map_append, List.take_append_drop]
      exact hlt
    have hno : its[i].own ∉ (its.take i).map (·.own) := fun hm => by
      have := (List.pairwise_append.mp hlt2).2.2 _ hm its[i].own (by rw [List.drop_eq_getElem_cons hi]; exact List.mem_cons_self ..)
      omega
    rw [htk]
    have eB9 : ExB [p, P0] H9 H' := E9.ex.mono fun a ha => by rw [List.mem_singleton] at ha; rw [ha]; exact List.mem_cons_self ..
    have lk : kvs.length ≤ 60 := by
      rw [hrd.len, List.length_map, List.length_take]
      omega
    generalize its[i] = it at *
    have rx' : R [p, P0] H' x (encIt it) := rx.exB eB9
    refine g_name (i := 8) E9 rx' (fun σ10 E10 => ?_)
    have E10 : Evn [p] H9 [p, P0] σ10 H' [.ptr a, .dat (.int f), .dat (encF F), .dat (.list (its.map encIt)), .dat (.str (sideOf f)), .dat (.list (its.map encIt)), .dat (hRes F (sideOf f) its), .ptr p, .dat (.tuple [.int it.own, encC it.x, encO it.y, .none, .int it.rank, .int it.colour, .int it.size]), .no, .no, .no, .no, .no, .no, .no] := E10
    obtain ⟨v8, s8, r8⟩ := E10.at_ 8 _ rfl
    have s7 : σ10[7]? = some (some (.ref p)) := E10.at_ 7 _ rfl
    have ek : Ev [p, P0] (tOp (rIxT K) (tVar 8) (tC (.int 0))) σ10 H' (.int it.own) := (by walk_at "ev")
    refine ⟨v8, s8, _, s7, ek H' (Same.refl _) _ fun y H11 e11 ry => ?_⟩
    cases ry
    have sz : sizeLine = 16777216 := by decide
    have hv : valV kvs (.inl it.own) = none := RD.none hrd hno
    refine ⟨p, _, rfl, DPut.k (k := .inl it.own) (e11 _ _ hk) (by omega), ?_⟩
    rw [putK_new _ hv]
    have ex : ExB [p, P0] H' (upd H11 p (.dK (kvs ++ [(.inl it.own, v8)]))) := exB_upd (ExB.of e11) (List.mem_cons_self ..)
    have tk12 : Trk [p, P0] (upd H11 p (.dK (kvs ++ [(.inl it.own, v8)]))) := (E10.trk.same e11).upd
    have E12 := E10.chg (.of ex) (fun _ _ n _ => n) (fun _ h => h) tk12 (fun i l ds h => (noMu_get (G := [.ptr a, .dat (.int f), .dat (encF F), .dat (.list (its.map encIt)), .dat (.str (sideOf f)), .dat (.list (its.map encIt)), .dat (hRes F (sideOf f) its), .ptr p, .dat (.tuple [.int it.own, encC it.x, encO it.y, .none, .int it.rank, .int it.colour, .int it.size]), .no, .no, .no, .no, .no, .no, .no]) ⟨trivial, trivial, trivial, trivial, trivial, trivial, trivial, trivial, trivial, trivial, trivial, trivial, trivial, trivial, trivial, trivial, trivial⟩ i l ds h).elim) []
    refine ⟨_, ?_, upd_same, ?_⟩
    · have E13 : Evn [p] H9 [p, P0] σ10 (upd H11 p (.dK (kvs ++ [(.inl it.own, v8)]))) _ := ⟨exB_upd ((E10.ex).trans (ExB.of e11)) (List.mem_singleton.mpr rfl), E12.trk, E12.len, E12.at_⟩
      exact Evn.few E13 _ ⟨.inr rfl, .inr rfl, .inr rfl, .inr rfl, .inr rfl, .inr rfl, .inr rfl, .inr rfl, .inl rfl, .inr rfl, .inr rfl, .inr rfl, .inr rfl, .inr rfl, .inr rfl, .inr rfl, trivial⟩
    · rw [List.map_append]
      exact (hrd.exB ex).snoc (r8.exB ex)
  · obtain ⟨kvs, E9, hk, hrd⟩ := pv
    rw [List.length_map, List.take_length] at hrd
    have E10 : Evn [] H' [P0] σ' H' [.ptr a, .dat (.int f), .dat (encF F), .dat (.list (its.map encIt)), .dat (.str (sideOf f)), .dat (.list (its.map encIt)), .dat (hRes F (sideOf f) its), .dat (dictOf its), .no, .no, .no, .no, .no, .no, .no, .no] := ((Evn.less E9 ⟨trivial, trivial, trivial, trivial, trivial, trivial, trivial, trivial, trivial, trivial, trivial, trivial, trivial, trivial, trivial, trivial, trivial⟩).retell (k := 7) (E9.at_ 7 _ rfl) (.dct hk hpB (hrd.sub fun a h => List.mem_cons_of_mem _ h)))
    clear E8 E9
    have hx := hF.x
    have hop := own_part hx hio
    have hpm : (((hMarks F its).map (·.own)) ++ ((lostS F its).map (·.own))).Perm (its.map (·.own)) := (List.Perm.append_left _ ((List.mergeSort_perm _ _).map _)).trans hop
    have hso := lostS_sorted F its
    have hml : (hMarks F its).length ≤ 60 ∧ (lostS F its).length ≤ 60 := by
      have := hpm.length_eq
      rw [List.length_append, List.length_map, List.length_map, List.length_map] at this
      omega
    have eM : ∀ {σ : L2.St} {H : Hp} {B : List Addr} {te : TE} {z : PyData}, Ev B te σ H (.tuple [.list ((hMarks F its).map (encM (sideOf f))), .list ((lostS F its).map encL)]) → True := fun _ => trivial
    generalize hso1 : (hMarks F its).map (·.own) = so at *
    generalize hgn1 : (lostS F its).map (·.own) = gn at *
    refine ss_set E10 (d := .list (so.map .int)) (Ev.is (ev_lc (xs := hMarks F its) (enc := encM (sideOf f)) (f := fun m => .int m.own) (p := fun _ => true) (m := 10) E10 (fun l hl => nomatch hl) (by show 10 < 16; decide) (Ev.is (d := .list ((hMarks F its).map (encM (sideOf f)))) (by walk_at "ev") rfl) (by omega) (fun l x σ'' H'' hxm Ex => ⟨et_yes, fun _ H3 Ey => ?_⟩)) (by rw [flen, ← hso1, List.map_map]; rfl)) (fun σ11 H11 E11 => ?_)
    · have Ey : Evn [] H' (l :: [P0]) σ'' H3 [.ptr a, .dat (.int f), .dat (encF F), .dat (.list (its.map encIt)), .dat (.str (sideOf f)), .dat (.list (its.map encIt)), .dat (hRes F (sideOf f) its), .dat (dictOf its), .no, .no, .dat (.tuple [.tuple [.str "part", .str (sideOf f), .int x.x0, .int x.x1, .int x.lo, .int x.hi, .int x.col], .list [.int x.own]]), .no, .no, .no, .no, .no] := Ey
      exact (by walk_at "ev")
    refine ss_set E11 (d := .list (gn.map .int)) (Ev.is (ev_lc (xs := lostS F its) (enc := encL) (f := fun m => .int m.own) (p := fun _ => true) (m := 12) E11 (fun l hl => nomatch hl) (by show 12 < 16; decide) (Ev.is (d := .list ((lostS F its).map encL)) (by walk_at "ev") rfl) (by omega) (fun l x σ'' H'' hxm Ex => ⟨et_yes, fun _ H3 Ey => ?_⟩)) (by rw [flen, ← hgn1, List.map_map]; rfl)) (fun σ12 H12 E12 => ?_)
    · have Ey : Evn [] H' (l :: [P0]) σ'' H3 [.ptr a, .dat (.int f), .dat (encF F), .dat (.list (its.map encIt)), .dat (.str (sideOf f)), .dat (.list (its.map encIt)), .dat (hRes F (sideOf f) its), .dat (dictOf its), .no, .dat (.list (so.map .int)), .no, .no, .dat (.tuple [.int x.own, .str x.ch, .str x.why]), .no, .no, .no] := Ey
      exact (by walk_at "ev")
    have E12 : Evn [] H' [P0] σ12 H12 [.ptr a, .dat (.int f), .dat (encF F), .dat (.list (its.map encIt)), .dat (.str (sideOf f)), .dat (.list (its.map encIt)), .dat (hRes F (sideOf f) its), .dat (dictOf its), .no, .dat (.list (so.map .int)), .no, .dat (.list (gn.map .int)), .no, .no, .no, .no] := E12
    clear E10 E11
    have hle : (its.map (·.own)).Pairwise (· ≤ ·) := hlt.imp fun h => Int.le_of_lt h
    refine ss_ifF E12 (et_or0 (et_test (ev_neD (d := .list (gn.map .int)) (by walk_at "ev") (ev_sortI (ns := gn) (ms := gn) E12.trk (by walk_at "ev") (List.Perm.refl _) hso) (shaped_ints gn))) (et_test (ev_neD (d := .list ((its.map (·.own)).map .int)) (ev_sortI (ns := so ++ gn) (ms := its.map (·.own)) E12.trk (Ev.is (ev_catL (ds := so.map .int) (es := gn.map .int) E12.trk (by walk_at "ev") (by walk_at "ev") (by rw [List.length_map, List.length_map, ← hso1, ← hgn1, List.length_map, List.length_map]; omega)) (by rw [List.map_append])) hpm.symm hle) (Ev.is (ev_lc (xs := its) (enc := encIt) (f := fun m => .int m.own) (p := fun _ => true) (m := 8) E12 (fun l hl => nomatch hl) (by show 8 < 16; decide) (by walk_at "ev") (by omega) (fun l x σ'' H'' hxm Ex => ⟨et_yes, fun _ H3 Ey => ?_⟩)) (by rw [flen, List.map_map]; rfl)) (shaped_ints _)))) (fun H13 E13 => ?_)
    · have Ey : Evn [] H' (l :: [P0]) σ'' H3 [.ptr a, .dat (.int f), .dat (encF F), .dat (.list (its.map encIt)), .dat (.str (sideOf f)), .dat (.list (its.map encIt)), .dat (hRes F (sideOf f) its), .dat (dictOf its), .dat (.tuple [.int x.own, encC x.x, encO x.y, .none, .int x.rank, .int x.colour, .int x.size]), .dat (.list (so.map .int)), .no, .dat (.list (gn.map .int)), .no, .no, .no, .no] := Ey
      exact (by walk_at "ev")
    refine ss_set E13 (d := .list []) (ev_lst E13.trk ea_nil (Nat.zero_le _)) (fun σ14 H14 E14 => ?_)
    have E14 : Evn [] H' [P0] σ14 H14 [.ptr a, .dat (.int f), .dat (encF F), .dat (.list (its.map encIt)), .dat (.str (sideOf f)), .dat (.list (its.map encIt)), .dat (hRes F (sideOf f) its), .dat (dictOf its), .no, .dat (.list (so.map .int)), .no, .dat (.list (gn.map .int)), .no, .dat (.list []), .no, .no] := E14
    have hpl : (pairsA F its).length ≤ 60 := by
      have := congrArg List.length (pairsA_fst F its)
      rw [List.length_map] at this
      omega
    have heo := order_eq F its
    rw [hso1] at heo
    refine ss_forL (ds := F.ws.map .str) (B := [P0]) (Ev.is (d := .list (F.ws.map .str)) (by walk_at "ev") rfl) (fun H15 i σ'' H'' => Evn [] H15 [P0] σ'' H'' [.ptr a, .dat (.int f), .dat (encF F), .dat (.list (its.map encIt)), .dat (.str (sideOf f)), .dat (.list (its.map encIt)), .dat (hRes F (sideOf f) its), .dat (dictOf its), .no, .dat (.list (so.map .int)), .no, .dat (.list (gn.map .int)), .no, .dat (.list (((F.ws.take i).flatMap fun w => (stand F w 0 (sv F its w)).map (·.own)).map .int)), .no, .no]) (fun H15 e2 => E14.base e2 []) (fun H15 i σ'' H'' e2 E => E.ex.mono fun a z => absurd z (by simp)) (fun H15 i x d σ'' H'' e2 hx2 rx E15 => ?_) (fun H15 σ'' H'' e2 E15 => ?_)
    · have hi : i < F.ws.length := by
        have := (List.getElem?_eq_some_iff.mp hx2).1
        rwa [List.length_map] at this
      have hd : d = .str F.ws[i] := by
        rw [List.getElem?_map, List.getElem?_eq_getElem hi] at hx2
        exact (Option.some.inj hx2).symm
      subst hd
      have htk : F.ws.take (i + 1) = F.ws.take i ++ [F.ws[i]] := by rw [List.take_add_one, List.getElem?_eq_getElem hi]; rfl
      have hwm : F.ws[i] ∈ F.ws := List.getElem_mem hi
      have hol : ((F.ws.take i).flatMap fun w => (stand F w 0 (sv F its w)).map (·.own)).length ≤ 60 := by
        have h1 := flat_take (fun w => (stand F w 0 (sv F its w)).map (·.own)) F.ws i
        rw [heo, ← hso1, List.length_map] at h1
        omega
      rw [htk, List.flatMap_append]
      generalize F.ws[i] = wd at *
      generalize ((F.ws.take i).flatMap fun w => (stand F w 0 (sv F its w)).map (·.own)) = od at *
      have hpw := pairsA_word hx hio hwm
      have hsl : (sv F its wd).length ≤ 60 := by
        have h1 := congrArg List.length hpw
        have h2 := List.length_filter_le (fun q : Mk × It => decide (q.2.x = some wd)) (pairsA F its)
        have h3 := congrArg List.length (standP_fst F wd (sv F its wd) 0)
        rw [List.length_map, stand_len] at h3
        omega
      refine g_name (i := 14) E15 rx (fun σ16 E16 => ?_)
      have E16 : Evn [] H15 [P0] σ16 H'' [.ptr a, .dat (.int f), .dat (encF F), .dat (.list (its.map encIt)), .dat (.str (sideOf f)), .dat (.list (its.map encIt)), .dat (hRes F (sideOf f) its), .dat (dictOf its), .no, .dat (.list (so.map .int)), .no, .dat (.list (gn.map .int)), .no, .dat (.list (od.map .int)), .dat (.str wd), .no] := E16
      refine ss_set E16 (d := .list ((stand F wd 0 (sv F its wd)).map (encM (sideOf f)))) (Ev.is (ev_lc (xs := pairsA F its) (enc := fun q => encM (sideOf f) q.1) (f := fun q => encM (sideOf f) q.1) (p := fun q => decide (q.2.x = some wd)) (m := 10) E16 (fun l hl => nomatch hl) (by show 10 < 16; decide) (Ev.is (d := .list ((hMarks F its).map (encM (sideOf f)))) (by walk_at "ev") (by rw [← pairsA_fst, List.map_map]; rfl)) (by omega) (fun l x σ' H3 hxm Ex => ?_)) (by rw [hpw, ← standP_fst, List.map_map]; rfl)) (fun σ17 H17 E17 => ?_)
      · obtain ⟨o1, o2, u, o3⟩ := pairsA_mem hio hxm
        refine ⟨?_, fun _ H4 Ey => ?_⟩
        · have Ex : Evn [] H15 (l :: [P0]) σ' H3 [.ptr a, .dat (.int f), .dat (encF F), .dat (.list (its.map encIt)), .dat (.str (sideOf f)), .dat (.list (its.map encIt)), .dat (hRes F (sideOf f) its), .dat (dictOf its), .no, .dat (.list (so.map .int)), .dat (.tuple [.tuple [.str "part", .str (sideOf f), .int x.1.x0, .int x.1.x1, .int x.1.lo, .int x.1.hi, .int x.1.col], .list [.int x.2.own]]), .dat (.list (gn.map .int)), .no, .dat (.list (od.map .int)), .dat (.str wd), .no] := by
            rw [← o1]
            exact Ex
          refine Evt_isNone (et_test (ev_eqS (s := u) (w := wd) (ev_ixT (ds := [.int x.2.own, .str u, encO x.2.y, .none, .int x.2.rank, .int x.2.colour, .int x.2.size]) (i := 1) (Ev.is (ev_dget (its := its) (i := x.2) (by walk_at "ev") (by walk_at "ev") hnd o2) (by unfold encIt; rw [o3]; rfl)) (by walk_at "ev") rfl) (by walk_at "ev"))) ?_
          rw [o3]
          simp
        · have Ey : Evn [] H15 (l :: [P0]) σ' H4 [.ptr a, .dat (.int f), .dat (encF F), .dat (.list (its.map encIt)), .dat (.str (sideOf f)), .dat (.list (its.map encIt)), .dat (hRes F (sideOf f) its), .dat (dictOf its), .no, .dat (.list (so.map .int)), .dat (encM (sideOf f) x.1), .dat (.list (gn.map .int)), .no, .dat (.list (od.map .int)), .dat (.str wd), .no] := Ey
          exact (by walk_at "ev")
      have E17 : Evn [] H15 [P0] σ17 H17 [.ptr a, .dat (.int f), .dat (encF F), .dat (.list (its.map encIt)), .dat (.str (sideOf f)), .dat (.list (its.map encIt)), .dat (hRes F (sideOf f) its), .dat (dictOf its), .no, .dat (.list (so.map .int)), .no, .dat (.list (gn.map .int)), .no, .dat (.list (od.map .int)), .dat (.str wd), .dat (.list ((stand F wd 0 (sv F its wd)).map (encM (sideOf f))))] := E17
      refine ss_set E17 (d := .list ((od ++ (stand F wd 0 (sv F its wd)).map (·.own)).map .int)) (Ev.is (ev_catL (ds := od.map .int) (es := ((stand F wd 0 (sv F its wd)).map (·.own)).map .int) E17.trk (by walk_at "ev") (Ev.is (ev_lc (xs := stand F wd 0 (sv F its wd)) (enc := encM (sideOf f)) (f := fun m => .int m.own) (p := fun _ => true) (m := 10) E17 (fun l hl => nomatch hl) (by show 10 < 16; decide) (by walk_at "ev") (by rw [stand_len]; omega) (fun l x σ' H3 hxm Ex => ⟨et_yes, fun _ H4 Ey => ?_⟩)) (by rw [flen, List.map_map]; rfl)) (by rw [List.length_map, List.length_map, List.length_map, stand_len]; omega)) (by rw [List.map_append])) (fun σ18 H18 E18 => ?_)
      · have Ey : Evn [] H15 (l :: [P0]) σ' H4 [.ptr a, .dat (.int f), .dat (encF F), .dat (.list (its.map encIt)), .dat (.str (sideOf f)), .dat (.list (its.map encIt)), .dat (hRes F (sideOf f) its), .dat (dictOf its), .no, .dat (.list (so.map .int)), .dat (.tuple [.tuple [.str "part", .str (sideOf f), .int x.x0, .int x.x1, .int x.lo, .int x.hi, .int x.col], .list [.int x.own]]), .dat (.list (gn.map .int)), .no, .dat (.list (od.map .int)), .dat (.str wd), .dat (.list ((stand F wd 0 (sv F its wd)).map (encM (sideOf f))))] := Ey
        exact (by walk_at "ev")
      refine s_ifF E18 (Evt_isNone (et_not (et_B (ev_heapRight (F := F) (side := sideOf f) (w := wd) (its := its) (D := D) (l := sv F its wd) E18.trk (by walk_at "ev") (by walk_at "ev") (by walk_at "ev") (by walk_at "ev") hF hwm (side_ok f) hnd hD hsl (sv_chain hnd hio wd)))) rfl) (fun H19 E19 => ?_)
      refine Evn.few E19 _ ⟨.inr rfl, .inr rfl, .inr rfl, .inr rfl, .inr rfl, .inr rfl, .inr rfl, .inr rfl, .inr rfl, .inr rfl, .inr rfl, .inr rfl, .inr rfl, .inr ?_, .inl rfl, .inl rfl, trivial⟩
      rw [List.flatMap_cons, List.flatMap_nil, List.append_nil]
    · rw [List.length_map, List.take_length, heo] at E15
      have E16 := E14.back e2 E15 (fun x hx => nomatch hx)
      refine ss_ifF E16 (et_test (ev_neD (d := .list (so.map .int)) (by walk_at "ev") (by walk_at "ev") (shaped_ints so))) (fun H17 E17 => ?_)
      refine s_ret E17 (d := .bool true) (Ev.is (ev_all (bs := (lostS F its).map fun _ => true) (Ev.is (ev_lc (xs := lostS F its) (enc := encL) (f := fun _ => .bool true) (p := fun _ => true) (m := 12) E17 (fun l hl => nomatch hl) (by show 12 < 16; decide) (Ev.is (d := .list ((lostS F its).map encL)) (by walk_at "ev") rfl) (by omega) (fun l x σ' H3 hxm Ex => ⟨et_yes, fun _ H4 Ey => ?_⟩)) (by rw [flen, List.map_map]; rfl))) (congrArg PyData.bool (by simp))) (fun v H' _ r => by
        cases r
        exact q _)
      have hxl : x ∈ hLost F its := List.mem_mergeSort.mp hxm
      obtain ⟨it, i1, i2, i3⟩ := loss_ok hF hnd hio x hxl
      have Ey : Evn [] H' (l :: [P0]) σ' H4 [.ptr a, .dat (.int f), .dat (encF F), .dat (.list (its.map encIt)), .dat (.str (sideOf f)), .dat (.list (its.map encIt)), .dat (hRes F (sideOf f) its), .dat (dictOf its), .no, .dat (.list (so.map .int)), .no, .dat (.list (gn.map .int)), .dat (.tuple [.int it.own, .str x.ch, .str x.why]), .dat (.list (so.map .int)), .no, .no] := by
        rw [i2]
        exact Ey
      have hal := allS_len (its := its) hx
      exact ev_lossRight (F := F) (side := sideOf f) (its := its) (D := D) (l := allS F its) (it := it) (row := x) (ms := hMarks F its) Ey.trk (by walk_at "ev") (ev_dget (its := its) (i := it) (by walk_at "ev") (by walk_at "ev") hnd i1) (Ev.is (d := .list ((hMarks F its).map (encM (sideOf f)))) (by walk_at "ev") rfl) (by walk_at "ev") (Ev.is (d := .tuple [.int it.own, .str x.ch, .str x.why]) (by walk_at "ev") (by rw [i2]; rfl)) hF hnd hD (by omega) (marks_own F its) (allS_mem hio) (hio it i1) i3
end
end M

end
section
set_option maxHeartbeats 0
namespace M
open PySem PySem.Spec PyProof.Rows L2
def dD (x : Str) (st : Stmt) : He.DefD := ⟨(x, none), x, x, defArgs st, defBody st, defScope st, [], []⟩
def fn0 : List He.DefD := [dD "divisor" s_divisor, dD "lowest" s_lowest, dD "plus" s_plus, dD "minus" s_minus, dD "times" s_times, dD "over" s_over, dD "under" s_under, dD "rounded" s_rounded, dD "along_straight" s_along_straight, dD "power_of" s_power_of, dD "along_turns" s_along_turns, dD "along_pieces" s_along_pieces, dD "stretch_on" s_stretch_on, dD "amid" s_amid, dD "along_order" s_along_order, dD "place_on" s_place_on]
def fa0 : List He.Fa := [.glo "divisor", .glo "lowest", .glo "plus", .glo "minus", .glo "times", .glo "over", .glo "under", .glo "rounded", .glo "along_straight", .glo "power_of", .glo "along_turns", .glo "along_pieces", .glo "stretch_on", .glo "amid", .glo "along_order", .glo "place_on"]
def fn1 : List He.DefD := [dD "put_x" s_put_x, dD "put_y" s_put_y, dD "ends_of" s_ends_of, dD "place_from" s_place_from, dD "parts_of" s_parts_of, dD "heaps" s_heaps, dD "_law_draws" s__law_draws, dD "_law_whole" s__law_whole, dD "_law_divisor" s__law_divisor, dD "_law_number" s__law_number, dD "_law_low" s__law_low, dD "_law_plus" s__law_plus, dD "_law_part" s__law_part, dD "_law_words" s__law_words, dD "_law_broken" s__law_broken, dD "_law_scale" s__law_scale]
def fa1 : List He.Fa := [.glo "put_x", .glo "put_y", .glo "ends_of", .glo "place_from", .glo "parts_of", .glo "heaps", .glo "_law_draws", .glo "_law_whole", .glo "_law_divisor", .glo "_law_number", .glo "_law_low", .glo "_law_plus", .glo "_law_part", .glo "_law_words", .glo "_law_broken", .glo "_law_scale"]
def fn2 : List He.DefD := [dD "_law_power" s__law_power, dD "_law_turn_cell" s__law_turn_cell, dD "_law_cell" s__law_cell, dD "_law_between" s__law_between, dD "_law_within" s__law_within, dD "_law_turn" s__law_turn, dD "_law_place" s__law_place, dD "_law_rounded" s__law_rounded, dD "_law_field" s__law_field, dD "_law_items" s__law_items, dD "_law_ends" s__law_ends, dD "_law_told" s__law_told, dD "_law_edge" s__law_edge, dD "_law_heap_right" s__law_heap_right, dD "_law_loss_right" s__law_loss_right, dD "law" s_law]
def fa2 : List He.Fa := [.glo "_law_power", .glo "_law_turn_cell", .glo "_law_cell", .glo "_law_between", .glo "_law_within", .glo "_law_turn", .glo "_law_place", .glo "_law_rounded", .glo "_law_field", .glo "_law_items", .glo "_law_ends", .glo "_law_told", .glo "_law_edge", .glo "_law_heap_right", .glo "_law_loss_right", .glo "law"]
def faB : List He.Fa := [.free "abs", .free "range", .free "len", .free "int", .free "str", .free "isinstance", .free "bool", .free "min", .free "max", .free "tuple", .free "list", .free "all", .free "sorted"]
def fnAll : List He.DefD := fn0 ++ fn1 ++ fn2
def faAll : List He.Fa := fa0 ++ fa1 ++ fa2 ++ faB
def loose0 : List Str := ["__name__", "MarkError", "NoNumber", "divisor", "lowest", "plus", "minus", "times", "over", "under", "rounded", "along_straight", "power_of", "along_turns", "along_pieces", "stretch_on", "amid", "along_order", "place_on", "put_x"]
def loose1 : List Str := ["put_y", "ends_of", "place_from", "parts_of", "heaps", "_law_draws", "_law_whole", "_law_divisor", "_law_number", "_law_low", "_law_plus", "_law_part", "_law_words", "_law_broken", "_law_scale", "_law_power", "_law_turn_cell", "_law_cell", "_law_between", "_law_within"]
def loose2 : List Str := ["_law_turn", "_law_place", "_law_rounded", "_law_field", "_law_items", "_law_ends", "_law_told", "_law_edge", "_law_heap_right", "_law_loss_right"]
def looseAll : List Str := loose0 ++ loose1 ++ loose2
abbrev RR : PySem.W.OpenRow := PySem.W.OpenLaw.row PySem.Challenge.rw_markscale_k42_whole_heaps_stand
def tfH : List He.Defn := [("heaps", none)]
abbrev hkX : PySem.W.Hook := He.hookX 4 faAll fnAll [] tfH (fun _ => true)
def obH (s : PySem.W.SharedT) : He.AlX := He.obsX 4 faAll fnAll [] tfH (fun _ => true) (HandSHeadRun.getT s)
theorem obH_eq (s : PySem.W.SharedT) : obH s = hkX.obs s.abs := He.obsX_eq (HandSHeadRun.getT_eq s)
theorem runH (w : World) : HandSHeadRun.RunEq RR (PySem.W.view RR.prog [55]) hkX obH 3000 looseAll w := by
  intro os
  kernel_rfl
end M

end
set_option maxHeartbeats 0
namespace M
open PySem PySem.Spec PyProof.Rows L2
theorem law_at {w : World} {K : PySem.W.Frag} {h : Heap} {mg : Str → Option Value} {fa : Addr} (X : K.In h) (G : h.Ns mainGlobals mg) (hfa : mg ("law" : Str) = some (.ref fa)) (c : He.SaysX faAll fnAll [] tfH (fun _ => true) w h K) :
    LamX.LawAtS PySem.Challenge.rw_markscale_k42_whole_heaps_stand w K CX0 10 63 "_law_script" mg fa h := by
  have cd := c.t.d
  have fnx : ∀ (x : Str) (st : Stmt) (i j : Nat), fnAll[i]? = some (dD x st) → faAll[j]? = some (.glo x) → Fn K mg x st := fun x st i j h1 h2 => by
    obtain ⟨fd, F⟩ := cd.def_ i h1
    exact ⟨_, fd, F, He.glo_ok X G (cd.fact j h2)⟩
  have F_divisor : Fn K mg "divisor" s_divisor := fnx _ _ 0 0 rfl rfl
  have F_lowest : Fn K mg "lowest" s_lowest := fnx _ _ 1 1 rfl rfl
  have F_plus : Fn K mg "plus" s_plus := fnx _ _ 2 2 rfl rfl
  have F_minus : Fn K mg "minus" s_minus := fnx _ _ 3 3 rfl rfl
  have F_times : Fn K mg "times" s_times := fnx _ _ 4 4 rfl rfl
  have F_over : Fn K mg "over" s_over := fnx _ _ 5 5 rfl rfl
  have F_under : Fn K mg "under" s_under := fnx _ _ 6 6 rfl rfl
  have F_rounded : Fn K mg "rounded" s_rounded := fnx _ _ 7 7 rfl rfl
  have F_along_straight : Fn K mg "along_straight" s_along_straight := fnx _ _ 8 8 rfl rfl
  have F_power_of : Fn K mg "power_of" s_power_of := fnx _ _ 9 9 rfl rfl
  have F_along_turns : Fn K mg "along_turns" s_along_turns := fnx _ _ 10 10 rfl rfl
  have F_along_pieces : Fn K mg "along_pieces" s_along_pieces := fnx _ _ 11 11 rfl rfl
  have F_stretch_on : Fn K mg "stretch_on" s_stretch_on := fnx _ _ 12 12 rfl rfl
  have F_amid : Fn K mg "amid" s_amid := fnx _ _ 13 13 rfl rfl
  have F_along_order : Fn K mg "along_order" s_along_order := fnx _ _ 14 14 rfl rfl
  have F_place_on : Fn K mg "place_on" s_place_on := fnx _ _ 15 15 rfl rfl
  have F_put_x : Fn K mg "put_x" s_put_x := fnx _ _ 16 16 rfl rfl
  have F_put_y : Fn K mg "put_y" s_put_y := fnx _ _ 17 17 rfl rfl
  have F_ends_of : Fn K mg "ends_of" s_ends_of := fnx _ _ 18 18 rfl rfl
  have F_place_from : Fn K mg "place_from" s_place_from := fnx _ _ 19 19 rfl rfl
  have F_parts_of : Fn K mg "parts_of" s_parts_of := fnx _ _ 20 20 rfl rfl
  have F__law_draws : Fn K mg "_law_draws" s__law_draws := fnx _ _ 22 22 rfl rfl
  have F__law_whole : Fn K mg "_law_whole" s__law_whole := fnx _ _ 23 23 rfl rfl
  have F__law_divisor : Fn K mg "_law_divisor" s__law_divisor := fnx _ _ 24 24 rfl rfl
  have F__law_number : Fn K mg "_law_number" s__law_number := fnx _ _ 25 25 rfl rfl
  have F__law_low : Fn K mg "_law_low" s__law_low := fnx _ _ 26 26 rfl rfl
  have F__law_plus : Fn K mg "_law_plus" s__law_plus := fnx _ _ 27 27 rfl rfl
  have F__law_part : Fn K mg "_law_part" s__law_part := fnx _ _ 28 28 rfl rfl
  have F__law_words : Fn K mg "_law_words" s__law_words := fnx _ _ 29 29 rfl rfl
  have F__law_broken : Fn K mg "_law_broken" s__law_broken := fnx _ _ 30 30 rfl rfl
  have F__law_scale : Fn K mg "_law_scale" s__law_scale := fnx _ _ 31 31 rfl rfl
  have F__law_power : Fn K mg "_law_power" s__law_power := fnx _ _ 32 32 rfl rfl
  have F__law_turn_cell : Fn K mg "_law_turn_cell" s__law_turn_cell := fnx _ _ 33 33 rfl rfl
  have F__law_cell : Fn K mg "_law_cell" s__law_cell := fnx _ _ 34 34 rfl rfl
  have F__law_between : Fn K mg "_law_between" s__law_between := fnx _ _ 35 35 rfl rfl
  have F__law_within : Fn K mg "_law_within" s__law_within := fnx _ _ 36 36 rfl rfl
  have F__law_turn : Fn K mg "_law_turn" s__law_turn := fnx _ _ 37 37 rfl rfl
  have F__law_place : Fn K mg "_law_place" s__law_place := fnx _ _ 38 38 rfl rfl
  have F__law_rounded : Fn K mg "_law_rounded" s__law_rounded := fnx _ _ 39 39 rfl rfl
  have F__law_field : Fn K mg "_law_field" s__law_field := fnx _ _ 40 40 rfl rfl
  have F__law_items : Fn K mg "_law_items" s__law_items := fnx _ _ 41 41 rfl rfl
  have F__law_ends : Fn K mg "_law_ends" s__law_ends := fnx _ _ 42 42 rfl rfl
  have F__law_told : Fn K mg "_law_told" s__law_told := fnx _ _ 43 43 rfl rfl
  have F__law_edge : Fn K mg "_law_edge" s__law_edge := fnx _ _ 44 44 rfl rfl
  have F__law_heap_right : Fn K mg "_law_heap_right" s__law_heap_right := fnx _ _ 45 45 rfl rfl
  have F__law_loss_right : Fn K mg "_law_loss_right" s__law_loss_right := fnx _ _ 46 46 rfl rfl
  have m_abs : mg "abs" = none := He.free_ok X G (cd.fact 48 (f := .free "abs") rfl)
  have m_all : mg "all" = none := He.free_ok X G (cd.fact 59 (f := .free "all") rfl)
  have m_bool : mg "bool" = none := He.free_ok X G (cd.fact 54 (f := .free "bool") rfl)
  have m_int : mg "int" = none := He.free_ok X G (cd.fact 51 (f := .free "int") rfl)
  have m_isinstance : mg "isinstance" = none := He.free_ok X G (cd.fact 53 (f := .free "isinstance") rfl)
  have m_len : mg "len" = none := He.free_ok X G (cd.fact 50 (f := .free "len") rfl)
  have m_list : mg "list" = none := He.free_ok X G (cd.fact 58 (f := .free "list") rfl)
  have m_max : mg "max" = none := He.free_ok X G (cd.fact 56 (f := .free "max") rfl)
  have m_min : mg "min" = none := He.free_ok X G (cd.fact 55 (f := .free "min") rfl)
  have m_range : mg "range" = none := He.free_ok X G (cd.fact 49 (f := .free "range") rfl)
  have m_sorted : mg "sorted" = none := He.free_ok X G (cd.fact 60 (f := .free "sorted") rfl)
  have m_str : mg "str" = none := He.free_ok X G (cd.fact 52 (f := .free "str") rfl)
  have m_tuple : mg "tuple" = none := He.free_ok X G (cd.fact 57 (f := .free "tuple") rfl)
  obtain ⟨fdH, FH⟩ := cd.def_ 21 (d := dD "heaps" s_heaps) rfl
  have FC : FnC K mg "heaps" s_heaps (He.cT K ("heaps", none)).1 := by
    refine ⟨_, fdH, FH, He.glo_ok X G (cd.fact 21 (f := .glo "heaps") rfl), ?_⟩
    obtain ⟨oc, od, dV, kV, doc, pm, an, cdv, ct, osl, e, lk, hcd, _, _⟩ := FH.ex
    obtain ⟨c0, rfl⟩ := He.codeIn_ref hcd
    have e2 : fdH.code = .ref c0 := by rw [e]
    have e3 : He.codeOf K ("heaps", none) = c0 := He.codeOf_eq lk e2
    rw [e2]
    show Value.ref c0 = Value.ref (He.codeOf K ("heaps", none))
    rw [e3]
  obtain ⟨fdL, FL⟩ := cd.def_ 47 (d := dD "law" s_law) rfl
  have eL := hfa.symm.trans (He.glo_ok X G (cd.fact 47 (f := .glo "law") rfl))
  cases eL
  have bL := FunD.bindsA (ps := ["_law_script"]) FL fun _ _ _ _ _ _ us hl => match us, hl with | [_], _ => rfl
  have mem : (("heaps" : Str), (none : Option Str)) ∈ tfH := List.mem_singleton.mpr rfl
  refine ⟨fdL, [He.cT K ("heaps", none)], SpLaw K (He.cT K ("heaps", none)).2, fun p hp => ?_, fun p hp => ?_, fun p hp => ?_, fun s v => bL s [v] rfl, fun H a ns hl _ hP hS => ⟨a, ns, rfl, hl, hP _ (List.mem_singleton.mpr rfl), hS, fun _ => rfl⟩, fun base KB GB TB => ?_⟩
  · rw [List.mem_singleton] at hp
    subst hp
    exact c.empty _ mem
  · rw [List.mem_singleton] at hp
    subst hp
    exact c.out _ mem
  · rw [List.mem_singleton] at hp
    subst hp
    exact PySem.W.codeHd_of_K X (c.hd _ mem)
  have TBH := TB _ (List.mem_singleton.mpr rfl)
  have c_divisor : Cal PySem.Challenge.rw_markscale_k42_whole_heaps_stand.prog w K mg base 1 "divisor" ["one", "other"] (SpD dDivisor) := ok_divisor F_divisor m_abs
  have c_lowest : Cal PySem.Challenge.rw_markscale_k42_whole_heaps_stand.prog w K mg base 2 "lowest" ["top", "bottom"] (SpD dLowest) := ok_lowest F_lowest c_divisor
  have c_plus : Cal PySem.Challenge.rw_markscale_k42_whole_heaps_stand.prog w K mg base 3 "plus" ["one", "other"] (SpD dPlus) := ok_plus F_plus c_lowest
  have c_minus : Cal PySem.Challenge.rw_markscale_k42_whole_heaps_stand.prog w K mg base 3 "minus" ["one", "other"] (SpD dMinus) := ok_minus F_minus c_lowest
  have c_times : Cal PySem.Challenge.rw_markscale_k42_whole_heaps_stand.prog w K mg base 3 "times" ["one", "other"] (SpD dTimes) := ok_times F_times c_lowest
  have c_over : Cal PySem.Challenge.rw_markscale_k42_whole_heaps_stand.prog w K mg base 3 "over" ["one", "other"] (SpD dOver) := ok_over F_over c_lowest
  have c_under : Cal PySem.Challenge.rw_markscale_k42_whole_heaps_stand.prog w K mg base 1 "under" ["one", "other"] (SpD dUnder) := ok_under F_under
  have c_rounded : Cal PySem.Challenge.rw_markscale_k42_whole_heaps_stand.prog w K mg base 1 "rounded" ["one"] (SpD dRounded) := ok_rounded F_rounded
  have c_along_straight : Cal PySem.Challenge.rw_markscale_k42_whole_heaps_stand.prog w K mg base 4 "along_straight" ["lo", "hi", "cell", "long"] (SpD dAlongS) := ok_along_straight F_along_straight c_under c_over c_minus c_times
  have c_power_of : Cal PySem.Challenge.rw_markscale_k42_whole_heaps_stand.prog w K mg base 1 "power_of" ["base", "many"] (SpD dPower) := ok_power_of F_power_of m_range
  have c_along_turns : Cal PySem.Challenge.rw_markscale_k42_whole_heaps_stand.prog w K mg base 4 "along_turns" ["scale", "cell"] (SpD dTurns) := ok_along_turns F_along_turns c_power_of c_lowest c_times c_plus
  have c_along_pieces : Cal PySem.Challenge.rw_markscale_k42_whole_heaps_stand.prog w K mg base 5 "along_pieces" ["pieces", "cell"] (SpD dPieces) := ok_along_pieces F_along_pieces c_under c_along_straight c_plus
  have c_stretch_on : Cal PySem.Challenge.rw_markscale_k42_whole_heaps_stand.prog w K mg base 3 "stretch_on" ["scale", "word"] (SpD dStretch) := ok_stretch_on F_stretch_on c_lowest m_len
  have c_amid : Cal PySem.Challenge.rw_markscale_k42_whole_heaps_stand.prog w K mg base 4 "amid" ["stretch"] (SpD dAmid) := ok_amid F_amid c_times c_plus
  have c_along_order : Cal PySem.Challenge.rw_markscale_k42_whole_heaps_stand.prog w K mg base 5 "along_order" ["scale", "cell"] (SpD dOrder) := ok_along_order F_along_order c_amid c_stretch_on
  have c_place_onY : Cal PySem.Challenge.rw_markscale_k42_whole_heaps_stand.prog w K mg base 6 "place_on" ["scale", "cell"] (SpD dPlaceY) := ok_place_onY F_place_on c_along_turns c_along_pieces c_along_order c_along_straight
  have c_place_onX : Cal PySem.Challenge.rw_markscale_k42_whole_heaps_stand.prog w K mg base 6 "place_on" ["scale", "cell"] (SpD dPlaceX) := ok_place_onX F_place_on c_along_turns c_along_pieces c_along_order c_along_straight
  have c__law_divisor : Cal PySem.Challenge.rw_markscale_k42_whole_heaps_stand.prog w K mg base 1 "_law_divisor" ["_law_one", "_law_other"] (SpD dDivisor) := ok__law_divisor F__law_divisor m_abs
  have c__law_low : Cal PySem.Challenge.rw_markscale_k42_whole_heaps_stand.prog w K mg base 2 "_law_low" ["_law_top", "_law_bottom"] (SpD dLowest) := ok__law_low F__law_low c__law_divisor
  have c__law_plus : Cal PySem.Challenge.rw_markscale_k42_whole_heaps_stand.prog w K mg base 3 "_law_plus" ["_law_one", "_law_other"] (SpD dPlus) := ok__law_plus F__law_plus c__law_low
  have c__law_part : Cal PySem.Challenge.rw_markscale_k42_whole_heaps_stand.prog w K mg base 4 "_law_part" ["_law_lo", "_law_hi", "_law_f", "_law_g"] (SpD dPart) := ok__law_part F__law_part c__law_plus c__law_low
  have c__law_number : Cal PySem.Challenge.rw_markscale_k42_whole_heaps_stand.prog w K mg base 2 "_law_number" ["_law_d"] (SpD dNumber) := ok__law_number F__law_number c__law_divisor m_int
  have c__law_power : Cal PySem.Challenge.rw_markscale_k42_whole_heaps_stand.prog w K mg base 1 "_law_power" ["_law_base", "_law_many"] (SpD dPower) := ok__law_power F__law_power m_range
  have c__law_between : Cal PySem.Challenge.rw_markscale_k42_whole_heaps_stand.prog w K mg base 1 "_law_between" ["_law_lo", "_law_hi", "_law_cell_here", "_law_start", "_law_stop"] (SpD dBetween) := ok__law_between F__law_between
  have c__law_within : Cal PySem.Challenge.rw_markscale_k42_whole_heaps_stand.prog w K mg base 1 "_law_within" ["_law_lo", "_law_hi", "_law_cell_here"] (SpD dWithin) := ok__law_within F__law_within
  have c__law_rounded : Cal PySem.Challenge.rw_markscale_k42_whole_heaps_stand.prog w K mg base 1 "_law_rounded" ["_law_place_here"] (SpD dLRounded) := ok__law_rounded F__law_rounded
  have c__law_turn : Cal PySem.Challenge.rw_markscale_k42_whole_heaps_stand.prog w K mg base 2 "_law_turn" ["_law_scale_here", "_law_cell_here"] (SpD dLTurn) := ok__law_turn F__law_turn c__law_power c__law_within c__law_between
  have c__law_placeX : Cal PySem.Challenge.rw_markscale_k42_whole_heaps_stand.prog w K mg base 3 "_law_place" ["_law_scale_here", "_law_cell_here"] (SpD dLPlaceX) := ok__law_placeX F__law_place c__law_turn c__law_within c__law_between m_len
  have c__law_placeY : Cal PySem.Challenge.rw_markscale_k42_whole_heaps_stand.prog w K mg base 3 "_law_place" ["_law_scale_here", "_law_cell_here"] (SpD dLPlaceY) := ok__law_placeY F__law_place c__law_turn c__law_within c__law_between m_len
  have c__law_edge : Cal PySem.Challenge.rw_markscale_k42_whole_heaps_stand.prog w K mg base 4 "_law_edge" ["_law_field_here", "_law_total"] (SpD dLEdge) := ok__law_edge F__law_edge c__law_placeY c__law_rounded m_str m_isinstance
  have c__law_ends : Cal PySem.Challenge.rw_markscale_k42_whole_heaps_stand.prog w K mg base 2 "_law_ends" ["_law_field_here", "_law_word"] (SpD dLEnds) := ok__law_ends F__law_ends c__law_rounded m_len
  have c_put_x : Cal PySem.Challenge.rw_markscale_k42_whole_heaps_stand.prog w K mg base 2 "put_x" ["field", "place"] (SpD dPutX) := ok_put_x F_put_x c_rounded
  have c_put_y : Cal PySem.Challenge.rw_markscale_k42_whole_heaps_stand.prog w K mg base 2 "put_y" ["field", "place"] (SpD dPutY) := ok_put_y F_put_y c_rounded
  have c_ends_of : Cal PySem.Challenge.rw_markscale_k42_whole_heaps_stand.prog w K mg base 4 "ends_of" ["field", "word"] (SpD dLEnds) := ok_ends_of F_ends_of c_stretch_on c_times c_minus c_put_x c_plus
  have c_place_from : Cal PySem.Challenge.rw_markscale_k42_whole_heaps_stand.prog w K mg base 7 "place_from" ["scale", "one"] (SpD dPlaceFrom) := ok_place_from F_place_from c_place_onY m_str m_isinstance
  have c_parts_of : Cal PySem.Challenge.rw_markscale_k42_whole_heaps_stand.prog w K mg base 8 "parts_of" ["field", "side", "items", "lost"] SpParts := ok_parts_of F_parts_of c_ends_of c_under c_plus c_place_onY c_put_y c_place_from m_str m_isinstance
  have c__law_draws : Cal PySem.Challenge.rw_markscale_k42_whole_heaps_stand.prog w K mg base 1 "_law_draws" ["_law_cell_here", "_law_tops"] (SpD dDraws) := ok__law_draws F__law_draws m_abs m_range m_len
  have c__law_whole : Cal PySem.Challenge.rw_markscale_k42_whole_heaps_stand.prog w K mg base 1 "_law_whole" ["_law_found"] (SpD dWhole) := ok__law_whole F__law_whole m_bool m_isinstance m_int
  have c__law_words : Cal PySem.Challenge.rw_markscale_k42_whole_heaps_stand.prog w K mg base 1 "_law_words" ["_law_many", "_law_d"] (SpD dWords) := ok__law_words F__law_words m_range
  have c__law_broken : Cal PySem.Challenge.rw_markscale_k42_whole_heaps_stand.prog w K mg base 4 "_law_broken" ["_law_d"] (SpD dBroken) := ok__law_broken F__law_broken c__law_number c__law_plus c__law_low m_range
  have c__law_scaleY : Cal PySem.Challenge.rw_markscale_k42_whole_heaps_stand.prog w K mg base 5 "_law_scale" ["_law_kind", "_law_d"] (SpD dScaleY) := ok__law_scaleY F__law_scale c__law_number c__law_low c__law_plus c__law_broken c__law_part c__law_words
  have c__law_scaleX : Cal PySem.Challenge.rw_markscale_k42_whole_heaps_stand.prog w K mg base 5 "_law_scale" ["_law_kind", "_law_d"] (SpD dScaleX) := ok__law_scaleX F__law_scale c__law_number c__law_low c__law_plus c__law_broken c__law_part c__law_words
  have c__law_turn_cell : Cal PySem.Challenge.rw_markscale_k42_whole_heaps_stand.prog w K mg base 3 "_law_turn_cell" ["_law_scale_here", "_law_e", "_law_f", "_law_g"] (SpD dTurnCell) := ok__law_turn_cell F__law_turn_cell c__law_low c__law_power m_min m_max
  have c__law_cellX : Cal PySem.Challenge.rw_markscale_k42_whole_heaps_stand.prog w K mg base 5 "_law_cell" ["_law_scale_here", "_law_e"] (SpD dCellX) := ok__law_cellX F__law_cell c__law_turn_cell c__law_part m_len
  have c__law_cellY : Cal PySem.Challenge.rw_markscale_k42_whole_heaps_stand.prog w K mg base 5 "_law_cell" ["_law_scale_here", "_law_e"] (SpD dCellY) := ok__law_cellY F__law_cell c__law_turn_cell c__law_part m_len
  have c__law_field : Cal PySem.Challenge.rw_markscale_k42_whole_heaps_stand.prog w K mg base 6 "_law_field" ["_law_cell_here"] (SpD dField) := ok__law_field F__law_field c__law_draws c__law_scaleX c__law_scaleY
  have c__law_items : Cal PySem.Challenge.rw_markscale_k42_whole_heaps_stand.prog w K mg base 6 "_law_items" ["_law_cells", "_law_field_here"] (SpD dItems) := ok__law_items F__law_items c__law_draws c__law_cellX c__law_cellY m_int
  have c__law_told : Cal PySem.Challenge.rw_markscale_k42_whole_heaps_stand.prog w K mg base 2 "_law_told" ["_law_found"] (SpD dTold) := ok__law_told F__law_told c__law_whole m_len m_tuple m_isinstance m_list m_str m_all
  have c__law_heap_right : Cal PySem.Challenge.rw_markscale_k42_whole_heaps_stand.prog w K mg base 5 "_law_heap_right" ["_law_field_here", "_law_side", "_law_marks", "_law_items_here"] (SpD dHeapRight) := ok__law_heap_right F__law_heap_right c__law_edge c__law_plus c__law_placeY c__law_ends m_str m_isinstance
  have c__law_loss_right : Cal PySem.Challenge.rw_markscale_k42_whole_heaps_stand.prog w K mg base 4 "_law_loss_right" ["_law_field_here", "_law_item", "_law_marks", "_law_items_here", "_law_row"] (SpD dLossRight) := ok__law_loss_right F__law_loss_right c__law_placeX c__law_placeY c__law_plus m_str m_isinstance
  have c_heaps : Cal PySem.Challenge.rw_markscale_k42_whole_heaps_stand.prog w K mg base 9 "heaps" ["field", "side", "items"] (SpHeaps (He.cT K ("heaps", none)).2 qlam) := ok_heaps FC TBH c_place_onX c_parts_of m_str m_isinstance m_sorted
  exact ok_law FL c__law_field c__law_items c_heaps c__law_told c__law_heap_right c__law_loss_right m_list m_sorted m_all
end M
open PySem PySem.W PySem.Calls PyProof.Rows
theorem PySem.Challenge.cw_markscale_k42_whole_heaps_stand_holds : PySem.Challenge.rw_markscale_k42_whole_heaps_stand.Holds := by
  w_on; o_law
  refine HandSHeadRun.head_any (r := M.RR) (q := view M.RR.prog [55]) (H := M.hkX) (ob := M.obH) (M := 3000) (loose := M.looseAll) (d := HandSHeadRun.topDef M.RR.prog 55) (kwd := []) M.obH_eq
    (by kernel_rfl) (fun s => by kernel_rfl) M.runH (by kernel_rfl) (by kernel_rfl) (by kernel_rfl) (by rfl) (by first | assumption | decide +kernel) (by decide +kernel) ⟨rfl, rfl, rfl, rfl, rfl, by decide +kernel⟩ ?hw ?hc
  case hw => w_witness2
  case hc =>
    refine LamX.walk_ofTsE (l := PySem.Challenge.rw_markscale_k42_whole_heaps_stand) (n := 63) (k := 10) (x := "_law_script") (CX := fun _ => L2.CX0) rfl (by decide) (by kernel_rfl) ⟨rfl, by decide, by decide⟩ ?F (fun _ _ _ _ _ z => z)
    intro w mg fa h Y G hmg0
    obtain ⟨K, KX, c⟩ := Y
    have hmg : mg ("law" : PySem.Str) = some (.ref fa) := by
      have e : (HandSHeadRun.topDef M.RR.prog 55).name = ("law" : PySem.Str) := by kernel_rfl
      rw [← e]
      exact hmg0
    exact ⟨K, KX, M.law_at KX G hmg c⟩

