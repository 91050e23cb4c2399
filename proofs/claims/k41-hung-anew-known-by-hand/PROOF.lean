import PyProof.Rows.All
import Wide.All
import OpenK.AllK
import Wide.FinOn
import HandS.ForMost
import HandS.Exc
import HandS.WordsExc
import HandS.CallSlots
import HandS.Wide
import HandS.TupAny
import HandS.IsInst
import HandS.Style
import HandS.TryOnly
import KE.SortData
import HandS.Zip
import PyProof.StrOps2
import KE.KEqSeq
import PySem.Challenge.RW_ripepicks_k41_hung_anew_known_by_hand
set_option Elab.async false
set_option linter.all false
set_option maxRecDepth 100000
set_option maxHeartbeats 16000000
/-! DL: defs as functions of data. Data are PyData, told of the heap by Dp; a frozen part F of the heap, lists that a slot alone holds. -/
namespace DL
open PySem PySem.Spec PyProof.Rows L2

abbrev D := PyData
/-- what is held by one slot alone -/
inductive Cn where
  | lst (ds : List D)
/-- a slot, or a value on the way: frozen data | held alone | handed in to be changed (the j-th such) | what slot i holds -/
inductive Sl where
  | fr (d : D) | ow (c : Cn) | io (j : Nat) (c : Cn) | br (i : Nat)
abbrev Evn := List (Option Sl)
def Sl.own : Sl → Option Cn
  | .ow c => some c
  | .io _ c => some c
  | _ => none
mutual
/-- v is the data d: its lists stand in F itself -/
inductive Dt (K : PySem.W.Frag) (F : Hp) : V → D → Prop
  | non : Dt K F .non .none
  | bl (b : Bool) : Dt K F (.bl b) (.bool b)
  | int (i : Int) : Dt K F (.int i) (.int i)
  | str (x : Str) : Dt K F (.str x) (.str x)
  | lst {a : Addr} {xs : List V} {ds : List D} : F a = some (.lst xs) → DtAll K F xs ds → Dt K F (.ref a) (.list ds)
  | tup {a : Addr} {xs : List V} {ds : List D} : SqT K F a xs → DtAll K F xs ds → Dt K F (.ref a) (.tuple ds)
inductive DtAll (K : PySem.W.Frag) (F : Hp) : List V → List D → Prop
  | nil : DtAll K F [] []
  | cons {v : V} {vs : List V} {d : D} {ds : List D} : Dt K F v d → DtAll K F vs ds → DtAll K F (v :: vs) (d :: ds)
end
mutual
theorem dt_dp {K : PySem.W.Frag} {F : Hp} : ∀ (d : D) (v : V), Dt K F v d → Dp K F v d
  | .none, _, h => by cases h; exact .non
  | .bool b, _, h => by cases h; exact .bl b
  | .int i, _, h => by cases h; exact .int i
  | .str x, _, h => by cases h; exact .str x
  | .list ds, _, h => by
    cases h with
    | lst hs ha => exact .lst (.of hs) (dtAll_dp ds _ ha)
  | .tuple ds, _, h => by
    cases h with
    | tup hs ha => exact .tup hs (dtAll_dp ds _ ha)
  | .dict _, _, h => by cases h
theorem dtAll_dp {K : PySem.W.Frag} {F : Hp} : ∀ (ds : List D) (vs : List V), DtAll K F vs ds → DpAll K F vs ds
  | [], _, h => by cases h; exact .nil
  | d :: ds, _, h => by
    cases h with
    | cons h1 h2 => exact .cons (dt_dp d _ h1) (dtAll_dp ds _ h2)
end
def CRep (K : PySem.W.Frag) (F H : Hp) (p : Addr) : Cn → Prop
  | .lst ds => ∃ vs, H p = some (.lst vs) ∧ DtAll K F vs ds

section
variable {K : PySem.W.Frag} {F F' H H' : Hp} {p q : Addr} {c : Cn} {v : V} {d : D} {vs : List V} {ds : List D}
theorem same_sqT {xs : List V} (e : Same F F') (h : SqT K F p xs) : SqT K F' p xs := by
  rcases h with (h | ⟨o, h⟩) | h
  · exact .inl (.inl (e _ _ h))
  · exact .inl (.inr ⟨o, e _ _ h⟩)
  · exact .inr h
mutual
theorem dp_mono (e : Same F F') : ∀ (d : D) (v : V), Dt K F v d → Dt K F' v d
  | .none, _, h => by cases h; exact .non
  | .bool b, _, h => by cases h; exact .bl b
  | .int i, _, h => by cases h; exact .int i
  | .str x, _, h => by cases h; exact .str x
  | .list ds, _, h => by
    cases h with
    | lst hs ha => exact .lst (e _ _ hs) (dpAll_mono e ds _ ha)
  | .tuple ds, _, h => by
    cases h with
    | tup hs ha => exact .tup (same_sqT e hs) (dpAll_mono e ds _ ha)
  | .dict _, _, h => by cases h
theorem dpAll_mono (e : Same F F') : ∀ (ds : List D) (vs : List V), DtAll K F vs ds → DtAll K F' vs ds
  | [], _, h => by cases h; exact .nil
  | d :: ds, _, h => by
    cases h with
    | cons h1 h2 => exact .cons (dp_mono e d _ h1) (dpAll_mono e ds _ h2)
end
theorem dpAll_len : ∀ {vs : List V} {ds : List D}, DtAll K F vs ds → vs.length = ds.length
  | _, _, .nil => rfl
  | _, _, .cons _ t => congrArg (· + 1) (dpAll_len t)
theorem dpAll_get : ∀ {vs : List V} {ds : List D} {i : Nat} {d : D}, DtAll K F vs ds → ds[i]? = some d → ∃ v, vs[i]? = some v ∧ Dt K F v d
  | _, _, _, _, .nil, e => by simp at e
  | _, _, 0, _, .cons r _, e => by simp at e; subst e; exact ⟨_, rfl, r⟩
  | _, _, i + 1, d, .cons _ t, e => by
    obtain ⟨v, h1, h2⟩ := dpAll_get (i := i) (d := d) t (by simpa using e)
    exact ⟨v, by simpa using h1, h2⟩
theorem dpAll_get' : ∀ {vs : List V} {ds : List D} {i : Nat} {v : V}, DtAll K F vs ds → vs[i]? = some v → ∃ d, ds[i]? = some d ∧ Dt K F v d
  | _, _, _, _, .nil, e => by simp at e
  | _, _, 0, _, .cons r _, e => by simp at e; subst e; exact ⟨_, rfl, r⟩
  | _, _, i + 1, v, .cons _ t, e => by
    obtain ⟨d, h1, h2⟩ := dpAll_get' (i := i) (v := v) t (by simpa using e)
    exact ⟨d, by simpa using h1, h2⟩
theorem dpAll_app : ∀ {vs us : List V} {ds es : List D}, DtAll K F vs ds → DtAll K F us es → DtAll K F (vs ++ us) (ds ++ es)
  | _, _, _, _, .nil, s => s
  | _, _, _, _, .cons r t, s => .cons r (dpAll_app t s)
theorem dpAll_take : ∀ {vs : List V} {ds : List D} (n : Nat), DtAll K F vs ds → DtAll K F (vs.take n) (ds.take n)
  | _, _, 0, _ => .nil
  | _, _, _ + 1, .nil => .nil
  | _, _, n + 1, .cons r t => .cons r (dpAll_take n t)
theorem dpAll_drop : ∀ {vs : List V} {ds : List D} (n : Nat), DtAll K F vs ds → DtAll K F (vs.drop n) (ds.drop n)
  | _, _, 0, h => h
  | _, _, _ + 1, .nil => .nil
  | _, _, n + 1, .cons _ t => dpAll_drop n t
theorem dpAll_set : ∀ {vs : List V} {ds : List D} (n : Nat) {v : V} {d : D}, DtAll K F vs ds → Dt K F v d → DtAll K F (vs.set n v) (ds.set n d)
  | _, _, _, _, _, .nil, _ => .nil
  | _, _, 0, _, _, .cons _ t, h => .cons h t
  | _, _, n + 1, _, _, .cons r t, h => .cons r (dpAll_set n t h)
theorem dpAll_erase : ∀ {vs : List V} {ds : List D} (n : Nat), DtAll K F vs ds → DtAll K F (vs.eraseIdx n) (ds.eraseIdx n)
  | _, _, _, .nil => .nil
  | _, _, 0, .cons _ t => t
  | _, _, n + 1, .cons r t => .cons r (dpAll_erase n t)
theorem dpAll_rev {vs : List V} {ds : List D} (h : DtAll K F vs ds) : DtAll K F vs.reverse ds.reverse := by
  induction ds generalizing vs with
  | nil => cases h; exact .nil
  | cons d ds ih =>
    cases h with
    | cons r t =>
      rw [List.reverse_cons, List.reverse_cons]
      exact dpAll_app (ih t) (.cons r .nil)
theorem crep_ne (h : CRep K F H p c) : H p ≠ none := by
  cases c with
  | lst ds => obtain ⟨vs, e, _⟩ := h; rw [e]; exact fun z => nomatch z
theorem crep_mono (e : Same F F') (hp : H' p = H p) (h : CRep K F H p c) : CRep K F' H' p c := by
  cases c with
  | lst ds =>
    obtain ⟨vs, h1, h2⟩ := h
    exact ⟨vs, hp.trans h1, dpAll_mono e _ _ h2⟩
end

/-- THE STATE. N: how many slots; io: the addresses of what is handed in to be changed; F0, B: frozen part and heap at the def's entry; F, H: now; σ, ρ: slots, then what is on the way -/
structure SR (K : PySem.W.Frag) (N : Nat) (ios : List Addr) (F0 B F H : Hp) (σ : L2.St) (ρ : Evn) : Prop where
  len : σ.length = ρ.length
  fh : Same F H
  f0 : Same F0 F
  fn : ∀ (a : Addr), F a ≠ none → F0 a ≠ none ∨ B a = none
  bh : ∀ (a : Addr) (o : HO), B a = some o → a ∉ ios → H a = some o
  bs : ∀ (a : Addr), B a ≠ none → H a ≠ none
  fr : ∀ (i : Nat) (d : D), ρ[i]? = some (some (Sl.fr d)) → ∃ v, σ[i]? = some (some v) ∧ Dt K F v d
  ow : ∀ (i : Nat) (c : Cn), ρ[i]? = some (some (Sl.ow c)) → ∃ p, σ[i]? = some (some (V.ref p)) ∧ B p = none ∧ F p = none ∧ CRep K F H p c
  io : ∀ (i j : Nat) (c : Cn), ρ[i]? = some (some (Sl.io j c)) → ∃ p, ios[j]? = some p ∧ σ[i]? = some (some (V.ref p)) ∧ F p = none ∧ CRep K F H p c
  br : ∀ (i j : Nat), ρ[i]? = some (some (Sl.br j)) → N ≤ i ∧ j < N ∧ ∀ (s : Sl), ρ[j]? = some (some s) → s.own ≠ none → σ[i]? = σ[j]?
  sep : ∀ (i j : Nat) (s t : Sl) (p : Addr), ρ[i]? = some (some s) → ρ[j]? = some (some t) → s.own ≠ none → t.own ≠ none → σ[i]? = some (some (V.ref p)) → σ[j]? = some (some (V.ref p)) → i = j

/-- heaps that grow by new objects alone -/
structure Grow (F H F' H' : Hp) : Prop where
  ff : Same F F'
  hh : Same H H'
  fh : Same F' H'
  fn : ∀ a, F' a ≠ none → F a ≠ none ∨ H a = none
theorem Grow.refl {F H : Hp} (h : Same F H) : Grow F H F H := ⟨Same.refl _, Same.refl _, h, fun _ z => .inl z⟩
theorem Same.upd_new {H : Hp} {p : Addr} {o : HO} (h : H p = none) : Same H (upd H p o) := fun b x e => by
  rw [upd_ne (ne_of_none e h)]
  exact e
theorem Same.upd2 {F H : Hp} {p : Addr} {o : HO} (h : Same F H) : Same (upd F p o) (upd H p o) := fun b x e => by
  by_cases hb : b = p
  · subst hb; rw [upd_same] at e ⊢; exact e
  · rw [upd_ne hb] at e ⊢; exact h _ _ e
/-- a new object beside the frozen part -/
theorem Grow.laid {F H : Hp} {p : Addr} {o : HO} (fh : Same F H) (h : H p = none) : Grow F H F (upd H p o) :=
  ⟨Same.refl _, Same.upd_new h, fun b x e => Same.upd_new h b x (fh b x e), fun _ z => .inl z⟩
/-- a new object, frozen at once -/
theorem Grow.froze {F H : Hp} {p : Addr} {o : HO} (fh : Same F H) (h : H p = none) : Grow F H (upd F p o) (upd H p o) := by
  have hF : F p = none := Same.free fh h
  refine ⟨Same.upd_new hF, Same.upd_new h, Same.upd2 fh, fun a z => ?_⟩
  by_cases ha : a = p
  · subst ha; exact .inr h
  · rw [upd_ne ha] at z; exact .inl z
theorem Grow.trans {F H F1 H1 F2 H2 : Hp} (a : Grow F H F1 H1) (b : Grow F1 H1 F2 H2) : Grow F H F2 H2 := by
  refine ⟨a.ff.trans b.ff, a.hh.trans b.hh, b.fh, fun x z => ?_⟩
  rcases b.fn x z with h | h
  · exact a.fn x h
  · exact .inr (Same.free a.hh h)

section
variable {K : PySem.W.Frag} {N : Nat} {ios : List Addr} {F0 B F H F' H' : Hp} {σ tv : L2.St} {ρ ρ' tr : Evn} {v : V} {d : D} {s : Sl} {c : Cn} {p : Addr}
theorem SR.bfree (S : SR K N ios F0 B F H σ ρ) {a : Addr} (h : H a = none) : B a = none := by
  cases e : B a with
  | none => rfl
  | some o => exact absurd h (S.bs a (by rw [e]; exact fun z => nomatch z))
/-- the address of what is held alone -/
theorem SR.own_at (S : SR K N ios F0 B F H σ ρ) {i : Nat} (h : ρ[i]? = some (some s)) (ho : s.own = some c) : ∃ p, σ[i]? = some (some (.ref p)) ∧ F p = none ∧ CRep K F H p c := by
  cases s with
  | fr d => cases ho
  | br j => cases ho
  | ow c' =>
    cases ho
    obtain ⟨p, h1, _, h3, h4⟩ := S.ow i _ h
    exact ⟨p, h1, h3, h4⟩
  | io j c' =>
    cases ho
    obtain ⟨p, _, h1, h3, h4⟩ := S.io i _ _ h
    exact ⟨p, h1, h3, h4⟩
theorem SR.grow (S : SR K N ios F0 B F H σ ρ) (g : Grow F H F' H') : SR K N ios F0 B F' H' σ ρ := by
  have keep : ∀ {p : Addr} {c : Cn}, F p = none → CRep K F H p c → F' p = none ∧ CRep K F' H' p c := fun {p c} h1 h2 => by
    have hne := crep_ne h2
    constructor
    · cases e : F' p with
      | none => rfl
      | some o =>
        rcases g.fn p (by rw [e]; exact fun z => nomatch z) with z | z
        · exact absurd h1 z
        · exact absurd z hne
    · refine crep_mono g.ff ?_ h2
      cases e : H p with
      | none => exact absurd e hne
      | some o => exact g.hh p o e
  refine ⟨S.len, g.fh, S.f0.trans g.ff, fun a z => ?_, fun a o e n => g.hh a o (S.bh a o e n), fun a z => ?_, fun i d e => ?_, fun i c e => ?_, fun i j c e => ?_, S.br, S.sep⟩
  · rcases g.fn a z with h | h
    · exact S.fn a h
    · exact .inr (S.bfree h)
  · have h := S.bs a z
    cases e : H a with
    | none => exact absurd e h
    | some o => rw [g.hh a o e]; exact fun z => nomatch z
  · obtain ⟨v, h1, h2⟩ := S.fr i d e
    exact ⟨v, h1, dp_mono g.ff _ _ h2⟩
  · obtain ⟨p, h1, h2, h3, h4⟩ := S.ow i c e
    obtain ⟨h5, h6⟩ := keep h3 h4
    exact ⟨p, h1, h2, h5, h6⟩
  · obtain ⟨p, h0, h1, h3, h4⟩ := S.io i j c e
    obtain ⟨h5, h6⟩ := keep h3 h4
    exact ⟨p, h0, h1, h5, h6⟩
theorem get_push {α : Type} {l : List α} {x y : α} {i : Nat} (h : (l ++ [x])[i]? = some y) : (l[i]? = some y ∧ i < l.length) ∨ (i = l.length ∧ y = x) := by
  by_cases hi : i < l.length
  · rw [List.getElem?_append_left hi] at h
    exact .inl ⟨h, hi⟩
  · have e : i = l.length := by
      have := (List.getElem?_eq_some_iff.mp h).1
      simp at this
      omega
    subst e
    simp at h
    exact .inr ⟨rfl, h.symm⟩
theorem push_old {α : Type} {l : List α} {x y : α} {i : Nat} (h : l[i]? = some y) : (l ++ [x])[i]? = some y := by
  rw [List.getElem?_append_left (List.getElem?_eq_some_iff.mp h).1]
  exact h
theorem push_new {α : Type} {l : List α} {x : α} {n : Nat} (h : l.length = n) : (l ++ [x])[n]? = some x := by
  subst h; simp
theorem SR.push_fr (S : SR K N ios F0 B F H σ ρ) (h : Dt K F v d) : SR K N ios F0 B F H (σ ++ [some v]) (ρ ++ [some (.fr d)]) := by
  refine ⟨by simp [S.len], S.fh, S.f0, S.fn, S.bh, S.bs, fun i d' e => ?_, fun i c e => ?_, fun i j c e => ?_, fun i j e => ?_, fun i j s t p e1 e2 o1 o2 e3 e4 => ?_⟩
  · rcases get_push e with ⟨e, _⟩ | ⟨rfl, ez⟩
    · obtain ⟨v', h1, h2⟩ := S.fr i d' e
      exact ⟨v', push_old h1, h2⟩
    · cases ez
      exact ⟨v, push_new S.len, h⟩
  · rcases get_push e with ⟨e, _⟩ | ⟨rfl, ez⟩
    · obtain ⟨p, h1, h2⟩ := S.ow i c e
      exact ⟨p, push_old h1, h2⟩
    · cases ez
  · rcases get_push e with ⟨e, _⟩ | ⟨rfl, ez⟩
    · obtain ⟨p, h0, h1, h2⟩ := S.io i j c e
      exact ⟨p, h0, push_old h1, h2⟩
    · cases ez
  · rcases get_push e with ⟨e, hi⟩ | ⟨rfl, ez⟩
    · obtain ⟨h1, h2, h3⟩ := S.br i j e
      refine ⟨h1, h2, fun s es ho => ?_⟩
      have hj : j < ρ.length := Nat.lt_of_lt_of_le h2 (Nat.le_trans h1 (Nat.le_of_lt hi))
      rw [List.getElem?_append_left hj] at es
      rw [List.getElem?_append_left (by rw [S.len]; exact hi), List.getElem?_append_left (by rw [S.len]; exact hj)]
      exact h3 s es ho
    · cases ez
  · rcases get_push e1 with ⟨e1, l1⟩ | ⟨rfl, e1z⟩
    · rcases get_push e2 with ⟨e2, l2⟩ | ⟨rfl, e2z⟩
      · rw [List.getElem?_append_left (by rw [S.len]; exact l1)] at e3
        rw [List.getElem?_append_left (by rw [S.len]; exact l2)] at e4
        exact S.sep i j s t p e1 e2 o1 o2 e3 e4
      · cases e2z; exact absurd rfl o2
    · cases e1z; exact absurd rfl o1
/-- what a slot holds, taken to hand -/
theorem SR.push_br (S : SR K N ios F0 B F H σ ρ) {i : Nat} (hN : N ≤ ρ.length) (hi : i < N) (hv : σ[i]? = some (some v)) : SR K N ios F0 B F H (σ ++ [some v]) (ρ ++ [some (.br i)]) := by
  refine ⟨by simp [S.len], S.fh, S.f0, S.fn, S.bh, S.bs, fun i d' e => ?_, fun i c e => ?_, fun i j c e => ?_, fun k j e => ?_, fun i j s t p e1 e2 o1 o2 e3 e4 => ?_⟩
  · rcases get_push e with ⟨e, _⟩ | ⟨rfl, ez⟩
    · obtain ⟨v', h1, h2⟩ := S.fr i d' e
      exact ⟨v', push_old h1, h2⟩
    · cases ez
  · rcases get_push e with ⟨e, _⟩ | ⟨rfl, ez⟩
    · obtain ⟨p, h1, h2⟩ := S.ow i c e
      exact ⟨p, push_old h1, h2⟩
    · cases ez
  · rcases get_push e with ⟨e, _⟩ | ⟨rfl, ez⟩
    · obtain ⟨p, h0, h1, h2⟩ := S.io i j c e
      exact ⟨p, h0, push_old h1, h2⟩
    · cases ez
  · rcases get_push e with ⟨e, hi⟩ | ⟨rfl, ez⟩
    · obtain ⟨h1, h2, h3⟩ := S.br k j e
      refine ⟨h1, h2, fun s es ho => ?_⟩
      have hj : j < ρ.length := Nat.lt_of_lt_of_le h2 hN
      rw [List.getElem?_append_left hj] at es
      rw [List.getElem?_append_left (by rw [S.len]; exact hi), List.getElem?_append_left (by rw [S.len]; exact hj)]
      exact h3 s es ho
    · cases ez
      refine ⟨hN, hi, fun s es ho => ?_⟩
      rw [push_new S.len, push_old hv]
  · rcases get_push e1 with ⟨e1, l1⟩ | ⟨rfl, e1z⟩
    · rcases get_push e2 with ⟨e2, l2⟩ | ⟨rfl, e2z⟩
      · rw [List.getElem?_append_left (by rw [S.len]; exact l1)] at e3
        rw [List.getElem?_append_left (by rw [S.len]; exact l2)] at e4
        exact S.sep i j s t p e1 e2 o1 o2 e3 e4
      · cases e2z; exact absurd rfl o2
    · cases e1z; exact absurd rfl o1
/-- a new object, held alone -/
theorem SR.push_ow (S : SR K N ios F0 B F H σ ρ) (g : Grow F H F' H') (hp : H p = none) (hf : F' p = none) (hc : CRep K F' H' p c) : SR K N ios F0 B F' H' (σ ++ [some (.ref p)]) (ρ ++ [some (.ow c)]) := by
  have S' := S.grow g
  have nold : ∀ (i : Nat) (s : Sl), ρ[i]? = some (some s) → s.own ≠ none → σ[i]? ≠ some (some (.ref p)) := fun i s e o z => by
    cases ho : s.own with
    | none => exact o ho
    | some c' =>
      obtain ⟨q, h1, _, h3⟩ := S.own_at e ho
      rw [h1] at z
      cases z
      exact crep_ne h3 hp
  refine ⟨by simp [S'.len], S'.fh, S'.f0, S'.fn, S'.bh, S'.bs, fun i d' e => ?_, fun i c' e => ?_, fun i j c' e => ?_, fun k j e => ?_, fun i j s t q e1 e2 o1 o2 e3 e4 => ?_⟩
  · rcases get_push e with ⟨e, _⟩ | ⟨rfl, ez⟩
    · obtain ⟨v', h1, h2⟩ := S'.fr i d' e
      exact ⟨v', push_old h1, h2⟩
    · cases ez
  · rcases get_push e with ⟨e, _⟩ | ⟨rfl, ez⟩
    · obtain ⟨p, h1, h2⟩ := S'.ow i c' e
      exact ⟨p, push_old h1, h2⟩
    · cases ez
      exact ⟨p, push_new S.len, S.bfree hp, hf, hc⟩
  · rcases get_push e with ⟨e, _⟩ | ⟨rfl, ez⟩
    · obtain ⟨p, h0, h1, h2⟩ := S'.io i j c' e
      exact ⟨p, h0, push_old h1, h2⟩
    · cases ez
  · rcases get_push e with ⟨e, hi⟩ | ⟨rfl, ez⟩
    · obtain ⟨h1, h2, h3⟩ := S'.br k j e
      refine ⟨h1, h2, fun s es ho => ?_⟩
      have hj : j < ρ.length := Nat.lt_of_lt_of_le h2 (Nat.le_trans h1 (Nat.le_of_lt hi))
      rw [List.getElem?_append_left hj] at es
      rw [List.getElem?_append_left (by rw [S.len]; exact hi), List.getElem?_append_left (by rw [S.len]; exact hj)]
      exact h3 s es ho
    · cases ez
  · rcases get_push e1 with ⟨e1, l1⟩ | ⟨rfl, e1z⟩
    · rw [List.getElem?_append_left (by rw [S.len]; exact l1)] at e3
      rcases get_push e2 with ⟨e2, l2⟩ | ⟨rfl, e2z⟩
      · rw [List.getElem?_append_left (by rw [S.len]; exact l2)] at e4
        exact S.sep i j s t q e1 e2 o1 o2 e3 e4
      · rw [push_new S.len] at e4
        cases e4
        exact absurd e3 (nold i s e1 o1)
    · rw [push_new S.len] at e3
      cases e3
      rcases get_push e2 with ⟨e2, l2⟩ | ⟨rfl, e2z⟩
      · rw [List.getElem?_append_left (by rw [S.len]; exact l2)] at e4
        exact absurd e4 (nold j t e2 o2)
      · rfl
/-- the last one is let go -/
theorem SR.pop {x : Option V} {y : Option Sl} (S : SR K N ios F0 B F H (σ ++ [x]) (ρ ++ [y])) (hN : N ≤ ρ.length) : SR K N ios F0 B F H σ ρ := by
  have hl : σ.length = ρ.length := by have := S.len; simp at this; exact this
  have up : ∀ {i : Nat} {a : Option Sl}, ρ[i]? = some a → (ρ ++ [y])[i]? = some a ∧ (σ ++ [x])[i]? = σ[i]? := fun {i a} e => by
    have hi := (List.getElem?_eq_some_iff.mp e).1
    exact ⟨push_old e, List.getElem?_append_left (by omega)⟩
  refine ⟨hl, S.fh, S.f0, S.fn, S.bh, S.bs, fun i d' e => ?_, fun i c' e => ?_, fun i j c' e => ?_, fun k j e => ?_, fun i j s t q e1 e2 o1 o2 e3 e4 => ?_⟩
  · have u := up e
    obtain ⟨v, h1, h2⟩ := S.fr i d' u.1
    exact ⟨v, u.2 ▸ h1, h2⟩
  · have u := up e
    obtain ⟨v, h1, h2⟩ := S.ow i c' u.1
    exact ⟨v, u.2 ▸ h1, h2⟩
  · have u := up e
    obtain ⟨v, h0, h1, h2⟩ := S.io i j c' u.1
    exact ⟨v, h0, u.2 ▸ h1, h2⟩
  · have u := up e
    obtain ⟨h1, h2, h3⟩ := S.br k j u.1
    refine ⟨h1, h2, fun s es ho => ?_⟩
    have w := up es
    have q := h3 s w.1 ho
    rw [u.2, w.2] at q
    exact q
  · have u := up e1
    have w := up e2
    exact S.sep i j s t q u.1 w.1 o1 o2 (u.2 ▸ e3) (w.2 ▸ e4)

/-- what is read of a value at hand -/
def Cn.rd : Cn → D
  | .lst ds => .list ds
def rd0 : Sl → Option D
  | .fr d => some d
  | .ow c => some c.rd
  | .io _ c => some c.rd
  | .br _ => none
def rd (ρ : Evn) : Sl → Option D
  | .br i => match ρ[i]? with
    | some (some s) => s.own.map Cn.rd
    | _ => none
  | s => rd0 s
/-- v is d as the heap stands, its items frozen -/
def RepC (K : PySem.W.Frag) (F H : Hp) (v : V) (d : D) : Prop := Dt K F v d ∨ ∃ p vs ds, v = .ref p ∧ d = .list ds ∧ H p = some (.lst vs) ∧ F p = none ∧ DtAll K F vs ds
theorem RepC.lst {ds : List D} (fh : Same F H) (h : RepC K F H v (.list ds)) : ∃ p vs, v = .ref p ∧ H p = some (.lst vs) ∧ DtAll K F vs ds := by
  rcases h with h | ⟨p, vs, ds', e1, e2, e3, _, e4⟩
  · cases h with
    | lst hs ha => exact ⟨_, _, rfl, fh _ _ hs, ha⟩
  · cases e2
    exact ⟨p, vs, e1, e3, e4⟩
theorem RepC.tup {ds : List D} (fh : Same F H) (h : RepC K F H v (.tuple ds)) : ∃ p vs, v = .ref p ∧ SqT K H p vs ∧ DtAll K F vs ds ∧ Dt K F v (.tuple ds) := by
  rcases h with h | ⟨p, vs, ds', e1, e2, e3, _, e4⟩
  · have h0 := h
    cases h with
    | tup hs ha => exact ⟨_, _, rfl, same_sqT fh hs, ha, h0⟩
  · cases e2
theorem RepC.int {i : Int} (h : RepC K F H v (.int i)) : v = .int i := by
  rcases h with h | ⟨p, vs, ds', e1, e2, e3, _, e4⟩
  · cases h; rfl
  · cases e2
theorem RepC.bl {i : Bool} (h : RepC K F H v (.bool i)) : v = .bl i := by
  rcases h with h | ⟨p, vs, ds', e1, e2, e3, _, e4⟩
  · cases h; rfl
  · cases e2
theorem RepC.str {i : Str} (h : RepC K F H v (.str i)) : v = .str i := by
  rcases h with h | ⟨p, vs, ds', e1, e2, e3, _, e4⟩
  · cases h; rfl
  · cases e2
theorem RepC.non (h : RepC K F H v .none) : v = .non := by
  rcases h with h | ⟨p, vs, ds', e1, e2, e3, _, e4⟩
  · cases h; rfl
  · cases e2
/-- as data of the whole heap -/
theorem RepC.dp (fh : Same F H) (h : RepC K F H v d) : Dp K H v d := by
  rcases h with h | ⟨p, vs, ds', e1, e2, e3, _, e4⟩
  · exact dt_dp _ _ (dp_mono fh _ _ h)
  · subst e1 e2
    exact .lst (.of e3) (dtAll_dp _ _ (dpAll_mono fh _ _ e4))
theorem SR.read0 (S : SR K N ios F0 B F H σ ρ) {k : Nat} (h : ρ[k]? = some (some s)) (hd : rd0 s = some d) : ∃ v, σ[k]? = some (some v) ∧ RepC K F H v d := by
  have own : ∀ {c : Cn}, s.own = some c → d = c.rd → ∃ v, σ[k]? = some (some v) ∧ RepC K F H v d := fun {c} ho e => by
    obtain ⟨p, h1, h2, h3⟩ := S.own_at h ho
    cases c with
    | lst ds =>
      obtain ⟨vs, h4, h5⟩ := h3
      exact ⟨_, h1, .inr ⟨p, vs, ds, rfl, e, h4, h2, h5⟩⟩
  cases s with
  | fr d' =>
    cases hd
    obtain ⟨v, h1, h2⟩ := S.fr k _ h
    exact ⟨v, h1, .inl h2⟩
  | ow c => cases hd; exact own rfl rfl
  | io j c => cases hd; exact own rfl rfl
  | br j => cases hd
theorem SR.read (S : SR K N ios F0 B F H σ (ρ ++ tr)) (hN : ρ.length = N) {k : Nat} (h : (ρ ++ tr)[k]? = some (some s)) (hv : σ[k]? = some (some v)) (hd : rd ρ s = some d) : RepC K F H v d := by
  have fin : rd0 s = some d → RepC K F H v d := fun hd => by
    obtain ⟨v', h1, h2⟩ := S.read0 h hd
    rw [hv] at h1; cases h1; exact h2
  cases s with
  | fr d' => exact fin hd
  | ow c => exact fin hd
  | io j c => exact fin hd
  | br j =>
    obtain ⟨_, h2, h3⟩ := S.br k j h
    have hj : (ρ ++ tr)[j]? = ρ[j]? := List.getElem?_append_left (by omega)
    rw [hj] at h3
    have hd : (match ρ[j]? with | some (some s) => s.own.map Cn.rd | _ => none) = some d := hd
    cases e : ρ[j]? with
    | none => rw [e] at hd; cases hd
    | some o =>
      cases o with
      | none => rw [e] at hd; cases hd
      | some s' =>
        rw [e] at hd
        have hd : s'.own.map Cn.rd = some d := hd
        have ho : s'.own ≠ none := fun z => by rw [z] at hd; cases hd
        have q := h3 s' e ho
        obtain ⟨v', h4, h5⟩ := S.read0 (d := d) (hj.trans e) (by
          cases s' with
          | fr d' => exact absurd rfl ho
          | br j' => exact absurd rfl ho
          | ow c => exact hd
          | io j' c => exact hd)
        rw [hv, h4] at q
        cases q
        exact h5
end
end DL

namespace DL
open PySem PySem.Spec PyProof.Rows L2

/-! ### more on the state -/
section
variable {K : PySem.W.Frag} {N : Nat} {ios : List Addr} {F0 B F H F' H' : Hp} {σ tv us : L2.St} {ρ ρ' tr ss : Evn} {v : V} {d : D} {s : Sl} {c c' : Cn} {p : Addr} {i : Nat}
theorem SR.cut (S : SR K N ios F0 B F H (σ ++ us) (ρ ++ ss)) (hl : σ.length = ρ.length) (hN : N ≤ ρ.length) : SR K N ios F0 B F H σ ρ := by
  have up : ∀ {i : Nat} {a : Option Sl}, ρ[i]? = some a → (ρ ++ ss)[i]? = some a ∧ (σ ++ us)[i]? = σ[i]? := fun {i a} e => by
    have hi := (List.getElem?_eq_some_iff.mp e).1
    exact ⟨by rw [List.getElem?_append_left hi]; exact e, List.getElem?_append_left (by omega)⟩
  refine ⟨hl, S.fh, S.f0, S.fn, S.bh, S.bs, fun i d' e => ?_, fun i c' e => ?_, fun i j c' e => ?_, fun k j e => ?_, fun i j s t q e1 e2 o1 o2 e3 e4 => ?_⟩
  · have u := up e
    obtain ⟨v, h1, h2⟩ := S.fr i d' u.1
    exact ⟨v, u.2 ▸ h1, h2⟩
  · have u := up e
    obtain ⟨v, h1, h2⟩ := S.ow i c' u.1
    exact ⟨v, u.2 ▸ h1, h2⟩
  · have u := up e
    obtain ⟨v, h0, h1, h2⟩ := S.io i j c' u.1
    exact ⟨v, h0, u.2 ▸ h1, h2⟩
  · have u := up e
    obtain ⟨h1, h2, h3⟩ := S.br k j u.1
    refine ⟨h1, h2, fun s es ho => ?_⟩
    have w := up es
    have q := h3 s w.1 ho
    rw [u.2, w.2] at q
    exact q
  · have u := up e1
    have w := up e2
    exact S.sep i j s t q u.1 w.1 o1 o2 (u.2 ▸ e3) (w.2 ▸ e4)
/-- the frozen part as it stands now in the entry's place, and back -/
theorem SR.rebase (S : SR K N ios F0 B F H σ ρ) : SR K N ios F B F H σ ρ :=
  ⟨S.len, S.fh, Same.refl _, fun _ z => .inl z, S.bh, S.bs, S.fr, S.ow, S.io, S.br, S.sep⟩
theorem SR.unbase {F1 H1 : Hp} {σ1 : L2.St} {ρ1 : Evn} (S0 : SR K N ios F0 B F1 H1 σ1 ρ1) (S : SR K N ios F1 B F H σ ρ) : SR K N ios F0 B F H σ ρ :=
  ⟨S.len, S.fh, S0.f0.trans S.f0, fun a z => (S.fn a z).elim (fun h => S0.fn a h) .inr, S.bh, S.bs, S.fr, S.ow, S.io, S.br, S.sep⟩

def Sl.put : Sl → Cn → Sl
  | .ow _, c => .ow c
  | .io j _, c => .io j c
  | s, _ => s
theorem set_get {α : Type} {l : List α} {i j : Nat} {x y : α} (h : (l.set i x)[j]? = some y) : (j = i ∧ i < l.length ∧ y = x) ∨ (j ≠ i ∧ l[j]? = some y) := by
  by_cases hj : i = j
  · subst hj
    by_cases hi : i < l.length
    · rw [List.getElem?_set_self hi] at h
      exact .inl ⟨rfl, hi, (Option.some.inj h).symm⟩
    · rw [List.getElem?_eq_none (by simp; omega)] at h
      cases h
  · rw [List.getElem?_set_ne hj] at h
    exact .inr ⟨fun e => hj e.symm, h⟩
/-- what a slot holds alone is frozen -/
theorem SR.freeze {ds : List D} (S : SR K N ios F0 B F H σ ρ) (h : ρ[i]? = some (some (Sl.ow (.lst ds)))) :
    ∃ F', Same F F' ∧ SR K N ios F0 B F' H σ (ρ.set i (some (Sl.fr (.list ds)))) := by
  obtain ⟨p, h1, h2, h3, vs, h4, h5⟩ := S.ow i _ h
  have ff : Same F (upd F p (.lst vs)) := Same.upd_new h3
  have other : ∀ {j : Nat} {s : Sl} {q : Addr}, j ≠ i → ρ[j]? = some (some s) → s.own ≠ none → σ[j]? = some (some (V.ref q)) → F q = none → (upd F p (.lst vs)) q = none := fun {j s q} hj e o hq hf => by
    have hq' : q ≠ p := fun z => by
      subst z
      exact hj (S.sep j i s _ q e h o (fun z => nomatch z) hq h1)
    rw [upd_ne hq']
    exact hf
  refine ⟨upd F p (.lst vs), ff, by rw [List.length_set]; exact S.len, fun b x e => ?_, S.f0.trans ff, fun a z => ?_, S.bh, S.bs, fun j d e => ?_, fun j c e => ?_, fun j k c e => ?_, fun k j e => ?_, fun j k s t q e1 e2 o1 o2 e3 e4 => ?_⟩
  · by_cases hb : b = p
    · subst hb; rw [upd_same] at e; cases e; exact h4
    · rw [upd_ne hb] at e; exact S.fh b x e
  · by_cases ha : a = p
    · subst ha; exact .inr h2
    · rw [upd_ne ha] at z; exact S.fn a z
  · rcases set_get e with ⟨rfl, _, e⟩ | ⟨hj, e⟩
    · cases e
      exact ⟨.ref p, h1, .lst upd_same (dpAll_mono ff _ _ h5)⟩
    · obtain ⟨v, h6, h7⟩ := S.fr j d e
      exact ⟨v, h6, dp_mono ff _ _ h7⟩
  · rcases set_get e with ⟨rfl, _, e⟩ | ⟨hj, e⟩
    · cases e
    · obtain ⟨q, q1, q2, q3, q4⟩ := S.ow j c e
      exact ⟨q, q1, q2, other hj e (fun z => nomatch z) q1 q3, crep_mono ff rfl q4⟩
  · rcases set_get e with ⟨rfl, _, e⟩ | ⟨hj, e⟩
    · cases e
    · obtain ⟨q, q0, q1, q3, q4⟩ := S.io j k c e
      exact ⟨q, q0, q1, other hj e (fun z => nomatch z) q1 q3, crep_mono ff rfl q4⟩
  · rcases set_get e with ⟨rfl, _, e⟩ | ⟨hk, e⟩
    · cases e
    · obtain ⟨q1, q2, q3⟩ := S.br k j e
      refine ⟨q1, q2, fun s es ho => ?_⟩
      rcases set_get es with ⟨rfl, _, es⟩ | ⟨hj, es⟩
      · cases es; exact absurd rfl ho
      · exact q3 s es ho
  · rcases set_get e1 with ⟨rfl, _, e1⟩ | ⟨hj, e1⟩
    · cases e1; exact absurd rfl o1
    · rcases set_get e2 with ⟨rfl, _, e2⟩ | ⟨hk, e2⟩
      · cases e2; exact absurd rfl o2
      · exact S.sep j k s t q e1 e2 o1 o2 e3 e4
/-- what a slot holds alone is changed -/
theorem SR.mut (S : SR K N ios F0 B F H σ ρ) (h : ρ[i]? = some (some s)) (ho : s.own = some c) (hp : σ[i]? = some (some (V.ref p)))
    (hh : ∀ a, a ≠ p → H' a = H a) (hc : CRep K F H' p c') : SR K N ios F0 B F H' σ (ρ.set i (some (s.put c'))) := by
  have own : s.own ≠ none := by rw [ho]; exact fun z => nomatch z
  obtain ⟨p', h1, hF, hcr⟩ := S.own_at h ho
  rw [hp] at h1
  cases h1
  have other : ∀ {j : Nat} {t : Sl} {q : Addr}, j ≠ i → ρ[j]? = some (some t) → t.own ≠ none → σ[j]? = some (some (V.ref q)) → q ≠ p := fun {j t q} hj e o hq z => hj (S.sep j i t s p e h o own (z ▸ hq) hp)
  refine ⟨by rw [List.length_set]; exact S.len, fun b x e => ?_, S.f0, S.fn, fun a o e n => ?_, fun a z => ?_, fun j d e => ?_, fun j c e => ?_, fun j k c e => ?_, fun k j e => ?_, fun j k s1 t q e1 e2 o1 o2 e3 e4 => ?_⟩
  · rw [hh b fun z => by rw [z, hF] at e; cases e]
    exact S.fh b x e
  · rw [hh a fun z => ?_]
    · exact S.bh a o e n
    · subst z
      cases s with
      | fr d => cases ho
      | br j => cases ho
      | ow c0 =>
        obtain ⟨q, q1, q2, _⟩ := S.ow i _ h
        rw [hp] at q1; cases q1
        rw [q2] at e; cases e
      | io j c0 =>
        obtain ⟨q, q0, q1, _⟩ := S.io i j _ h
        rw [hp] at q1; cases q1
        exact n (List.mem_of_getElem? q0)
  · by_cases ha : a = p
    · subst ha; exact crep_ne hc
    · rw [hh a ha]; exact S.bs a z
  · rcases set_get e with ⟨rfl, _, e⟩ | ⟨hj, e⟩
    · cases s <;> cases e <;> cases ho
    · exact S.fr j d e
  · rcases set_get e with ⟨rfl, _, e⟩ | ⟨hj, e⟩
    · cases s with
      | fr d => cases ho
      | br j => cases ho
      | io j c0 => cases e
      | ow c0 =>
        cases e
        obtain ⟨q, q1, q2, _⟩ := S.ow j _ h
        rw [hp] at q1; cases q1
        exact ⟨p, hp, q2, hF, hc⟩
    · obtain ⟨q, q1, q2, q3, q4⟩ := S.ow j c e
      exact ⟨q, q1, q2, q3, crep_mono (Same.refl _) (hh q (other hj e (fun z => nomatch z) q1)) q4⟩
  · rcases set_get e with ⟨rfl, _, e⟩ | ⟨hj, e⟩
    · cases s with
      | fr d => cases ho
      | br j => cases ho
      | ow c0 => cases e
      | io j0 c0 =>
        cases e
        obtain ⟨q, q0, q1, q2⟩ := S.io j _ _ h
        rw [hp] at q1; cases q1
        exact ⟨p, q0, hp, hF, hc⟩
    · obtain ⟨q, q0, q1, q3, q4⟩ := S.io j k c e
      exact ⟨q, q0, q1, q3, crep_mono (Same.refl _) (hh q (other hj e (fun z => nomatch z) q1)) q4⟩
  · have nb : ∀ {x : Sl}, s.put c' = x → x.own ≠ none := fun {x} e => by
      subst e
      cases s with
      | fr d => cases ho
      | br j => cases ho
      | ow c0 => exact fun z => nomatch z
      | io j c0 => exact fun z => nomatch z
    rcases set_get e with ⟨rfl, _, e⟩ | ⟨hk, e⟩
    · exact absurd rfl (nb (Option.some.inj e).symm)
    · obtain ⟨q1, q2, q3⟩ := S.br k j e
      refine ⟨q1, q2, fun t es ot => ?_⟩
      rcases set_get es with ⟨rfl, _, es⟩ | ⟨hj, es⟩
      · exact q3 s h own
      · exact q3 t es ot
  · have back : ∀ {j : Nat} {t : Sl}, (ρ.set i (some (s.put c')))[j]? = some (some t) → t.own ≠ none → ∃ t', ρ[j]? = some (some t') ∧ t'.own ≠ none := fun {j t} e o => by
      rcases set_get e with ⟨rfl, _, e⟩ | ⟨_, e⟩
      · exact ⟨s, h, own⟩
      · exact ⟨t, e, o⟩
    obtain ⟨a, a1, a2⟩ := back e1 o1
    obtain ⟨b, b1, b2⟩ := back e2 o2
    exact S.sep j k a b q a1 b1 a2 b2 e3 e4
/-- a slot is given frozen data -/
theorem SR.set_fr (S : SR K N ios F0 B F H σ ρ) (h : Dt K F v d) (hi : i < N) : SR K N ios F0 B F H (σ.set i (some v)) (ρ.set i (some (Sl.fr d))) := by
  have oldσ : ∀ {j : Nat}, j ≠ i → (σ.set i (some v))[j]? = σ[j]? := fun {j} hj => List.getElem?_set_ne fun z => hj z.symm
  refine ⟨by rw [List.length_set, List.length_set]; exact S.len, S.fh, S.f0, S.fn, S.bh, S.bs, fun j d' e => ?_, fun j c e => ?_, fun j k c e => ?_, fun k j e => ?_, fun j k s t q e1 e2 o1 o2 e3 e4 => ?_⟩
  · rcases set_get e with ⟨rfl, hl, e⟩ | ⟨hj, e⟩
    · cases e
      exact ⟨v, List.getElem?_set_self (by rw [S.len]; exact hl), h⟩
    · rw [oldσ hj]; exact S.fr j d' e
  · rcases set_get e with ⟨rfl, _, e⟩ | ⟨hj, e⟩
    · cases e
    · rw [oldσ hj]; exact S.ow j c e
  · rcases set_get e with ⟨rfl, _, e⟩ | ⟨hj, e⟩
    · cases e
    · rw [oldσ hj]; exact S.io j k c e
  · rcases set_get e with ⟨rfl, _, e⟩ | ⟨hk, e⟩
    · cases e
    · obtain ⟨q1, q2, q3⟩ := S.br k j e
      refine ⟨q1, q2, fun s es ho => ?_⟩
      rcases set_get es with ⟨rfl, _, es⟩ | ⟨hj, es⟩
      · cases es; exact absurd rfl ho
      · rw [oldσ hk, oldσ hj]; exact q3 s es ho
  · rcases set_get e1 with ⟨rfl, _, e1⟩ | ⟨hj, e1⟩
    · cases e1; exact absurd rfl o1
    · rcases set_get e2 with ⟨rfl, _, e2⟩ | ⟨hk, e2⟩
      · cases e2; exact absurd rfl o2
      · rw [oldσ hj] at e3
        rw [oldσ hk] at e4
        exact S.sep j k s t q e1 e2 o1 o2 e3 e4
/-- a slot is given what was made and is held alone (nothing else is on the way) -/
theorem SR.set_ow (S : SR K N ios F0 B F H (σ ++ [some v]) (ρ ++ [some (Sl.ow c)])) (hl : N ≤ ρ.length) (hi : i < N) (nb : ∀ (k j : Nat), ρ[k]? ≠ some (some (Sl.br j))) : SR K N ios F0 B F H (σ.set i (some v)) (ρ.set i (some (Sl.ow c))) := by
  have lσ : σ.length = ρ.length := by have := S.len; simp at this; exact this
  have T : SR K N ios F0 B F H σ ρ := S.cut lσ (by omega)
  obtain ⟨p, h1, h2, h3, h4⟩ := S.ow ρ.length c (push_new rfl)
  rw [push_new lσ] at h1
  cases h1
  have nobr : ∀ {k j : Nat}, ρ[k]? = some (some (Sl.br j)) → False := fun {k j} e => nb k j e
  have apart : ∀ {j : Nat} {t : Sl}, ρ[j]? = some (some t) → t.own ≠ none → σ[j]? ≠ some (some (V.ref p)) := fun {j t} e o z => by
    have hj := (List.getElem?_eq_some_iff.mp e).1
    have := S.sep j ρ.length t _ p (push_old e) (push_new rfl) o (fun z => nomatch z) (push_old z) (push_new lσ)
    omega
  have oldσ : ∀ {j : Nat}, j ≠ i → (σ.set i (some (V.ref p)))[j]? = σ[j]? := fun {j} hj => List.getElem?_set_ne fun z => hj z.symm
  have newσ : i < ρ.length → (σ.set i (some (V.ref p)))[i]? = some (some (V.ref p)) := fun hl => List.getElem?_set_self (by rw [lσ]; exact hl)
  refine ⟨by rw [List.length_set, List.length_set]; exact lσ, S.fh, S.f0, S.fn, S.bh, S.bs, fun j d' e => ?_, fun j c' e => ?_, fun j k c' e => ?_, fun k j e => ?_, fun j k s t q e1 e2 o1 o2 e3 e4 => ?_⟩
  · rcases set_get e with ⟨rfl, hl, e⟩ | ⟨hj, e⟩
    · cases e
    · rw [oldσ hj]; exact T.fr j d' e
  · rcases set_get e with ⟨rfl, hl, e⟩ | ⟨hj, e⟩
    · cases e
      exact ⟨p, newσ hl, h2, h3, h4⟩
    · rw [oldσ hj]; exact T.ow j c' e
  · rcases set_get e with ⟨rfl, _, e⟩ | ⟨hj, e⟩
    · cases e
    · rw [oldσ hj]; exact T.io j k c' e
  · rcases set_get e with ⟨rfl, _, e⟩ | ⟨hk, e⟩
    · cases e
    · exact (nobr e).elim
  · rcases set_get e1 with ⟨rfl, l1, e1⟩ | ⟨hj, e1⟩
    · rcases set_get e2 with ⟨rfl, _, e2⟩ | ⟨hk, e2⟩
      · rfl
      · rw [newσ l1] at e3
        cases e3
        rw [oldσ hk] at e4
        exact absurd e4 (apart e2 o2)
    · rw [oldσ hj] at e3
      have a1 := apart e1 o1
      rcases set_get e2 with ⟨rfl, l2, e2⟩ | ⟨hk, e2⟩
      · rw [newσ l2] at e4
        cases e4
        exact absurd e3 a1
      · rw [oldσ hk] at e4
        exact T.sep j k s t q e1 e2 o1 o2 e3 e4
/-- slots forgotten -/
theorem SR.forget (S : SR K N ios F0 B F H σ ρ) : SR K N ios F0 B F H (σ.set i none) (ρ.set i none) := by
  have oldσ : ∀ {j : Nat}, j ≠ i → (σ.set i none)[j]? = σ[j]? := fun {j} hj => List.getElem?_set_ne fun z => hj z.symm
  have old : ∀ {j : Nat} {t : Sl}, (ρ.set i none)[j]? = some (some t) → j ≠ i ∧ ρ[j]? = some (some t) := fun {j t} e => by
    rcases set_get e with ⟨rfl, _, e⟩ | ⟨hj, e⟩
    · cases e
    · exact ⟨hj, e⟩
  refine ⟨by rw [List.length_set, List.length_set]; exact S.len, S.fh, S.f0, S.fn, S.bh, S.bs, fun j d' e => ?_, fun j c e => ?_, fun j k c e => ?_, fun k j e => ?_, fun j k s t q e1 e2 o1 o2 e3 e4 => ?_⟩
  · obtain ⟨hj, e⟩ := old e
    rw [oldσ hj]; exact S.fr j d' e
  · obtain ⟨hj, e⟩ := old e
    rw [oldσ hj]; exact S.ow j c e
  · obtain ⟨hj, e⟩ := old e
    rw [oldσ hj]; exact S.io j k c e
  · obtain ⟨hk, e⟩ := old e
    obtain ⟨q1, q2, q3⟩ := S.br k j e
    refine ⟨q1, q2, fun s es ho => ?_⟩
    obtain ⟨hj, es⟩ := old es
    rw [oldσ hk, oldσ hj]; exact q3 s es ho
  · obtain ⟨hj, e1⟩ := old e1
    obtain ⟨hk, e2⟩ := old e2
    rw [oldσ hj] at e3
    rw [oldσ hk] at e4
    exact S.sep j k s t q e1 e2 o1 o2 e3 e4
end
end DL

namespace DL
open PySem PySem.Spec PyProof.Rows L2

/-! ### outcomes -/
inductive Res (α : Type) where
  | ok (a : α) (ρ : Evn)
  | exc (c : Str) (d : D) (ρ : Evn)
  | bad
def Res.bind {α β : Type} (r : Res α) (k : α → Evn → Res β) : Res β := match r with
  | .ok a ρ => k a ρ
  | .exc c d ρ => .exc c d ρ
  | .bad => .bad
def ofOpt (ρ : Evn) : Option Sl → Res Sl
  | some s => .ok s ρ
  | none => .bad
abbrev XW := L2.St → XK
structure Wd where
  N : Nat
  ios : List Addr
  F0 : Hp
  B : Hp
abbrev S4 (K : PySem.W.Frag) (W : Wd) (F H : Hp) (σ tv : L2.St) (ρ tr : Evn) : Prop := SR K W.N W.ios W.F0 W.B F H (σ ++ tv) (ρ ++ tr)
structure Ln (W : Wd) (σ tv : L2.St) (ρ tr : Evn) : Prop where
  s : σ.length = W.N
  r : ρ.length = W.N
  t : tv.length = tr.length
/-- what is wanted of an exception -/
def Fly (K : PySem.W.Frag) (mg : Str → Option Value) (E : XW) (W : Wd) (σ tv : L2.St) (tr : Evn) (c : Str) (d : D) (ρ' : Evn) : Prop :=
  ∀ C dx v F' H', mg c = some (Value.ref C) → H' dx = some (.xd [("what", v)]) → Dt K F' v d → S4 K W F' H' σ tv ρ' tr → E σ (.ref C) (some dx) H'
def Wants {α : Type} (Fl : Str → D → Evn → Prop) (P : α → Evn → Prop) : Res α → Prop
  | .ok a ρ => P a ρ
  | .exc c d ρ => Fl c d ρ
  | .bad => False

section
variable {K : PySem.W.Frag} {mg : Str → Option Value} {E : XW} {W : Wd} {F0 B F H F' H' : Hp} {σ tv us vs : L2.St} {ρ ρ' tr ss : Evn} {v : V} {d : D} {s : Sl} {c c' : Cn} {p : Addr} {i : Nat} {α β : Type}
theorem Ln.next (L : Ln W σ tv ρ tr) (S : S4 K W F H σ us ρ' ss) (h : us.length = ss.length) : Ln W σ us ρ' ss := by
  have := S.len
  simp at this
  exact ⟨L.s, by have := L.s; omega, h⟩
theorem Fly.push (L : Ln W σ tv ρ tr) (h : us.length = ss.length) {c : Str} {d : D} {ρ' : Evn} (q : Fly K mg E W σ tv tr c d ρ') : Fly K mg E W σ (tv ++ us) (tr ++ ss) c d ρ' := by
  intro C dx v F' H' h1 h2 h3 S
  refine q C dx v F' H' h1 h2 h3 ?_
  have hl := S.len
  simp at hl
  have l1 := L.s
  have l2 := L.t
  have S' : SR K W.N W.ios W.F0 W.B F' H' (σ ++ tv ++ us) (ρ' ++ tr ++ ss) := by rw [List.append_assoc, List.append_assoc]; exact S
  exact S'.cut (by simp; omega) (by simp; omega)
/-- the last ones are let go -/
theorem S4.cut (L : Ln W σ (tv ++ us) ρ (tr ++ ss)) (S : S4 K W F H σ (tv ++ us) ρ (tr ++ ss)) (h : us.length = ss.length) : S4 K W F H σ tv ρ tr := by
  have S' : SR K W.N W.ios W.F0 W.B F H (σ ++ tv ++ us) (ρ ++ tr ++ ss) := by rw [List.append_assoc, List.append_assoc]; exact S
  have l1 := L.s
  have l2 := L.t
  have l3 := L.r
  simp at l2
  exact S'.cut (by simp; omega) (by simp; omega)
theorem Ln.cut (L : Ln W σ (tv ++ us) ρ (tr ++ ss)) (h : us.length = ss.length) : Ln W σ tv ρ tr := by
  have l2 := L.t
  simp at l2
  exact ⟨L.s, L.r, by omega⟩
theorem Wants.imp {Fl Fl' : Str → D → Evn → Prop} {P P' : α → Evn → Prop} {r : Res α} (h : Wants Fl P r) (h1 : ∀ c d ρ, Fl c d ρ → Fl' c d ρ) (h2 : ∀ a ρ, P a ρ → P' a ρ) : Wants Fl' P' r := by
  cases r with
  | ok a ρ => exact h2 a ρ h
  | exc c d ρ => exact h1 c d ρ h
  | bad => exact h

/-- an expression's reading is f -/
def TJ (K : PySem.W.Frag) (mg : Str → Option Value) (E : XW) (t : TE) (f : Evn → Res Sl) : Prop :=
  ∀ (W : Wd) (F H : Hp) (σ tv : L2.St) (ρ tr : Evn) (Q : VK), Ln W σ tv ρ tr → S4 K W F H σ tv ρ tr →
    Wants (Fly K mg E W σ tv tr) (fun s ρ' => ∀ v F' H', S4 K W F' H' σ (tv ++ [some v]) ρ' (tr ++ [some s]) → Q v H') (f ρ) → t σ H Q
def TTJ (K : PySem.W.Frag) (mg : Str → Option Value) (E : XW) (t : TT) (f : Evn → Res Bool) : Prop :=
  ∀ (W : Wd) (F H : Hp) (σ tv : L2.St) (ρ tr : Evn) (Q : Bool → Hp → Prop), Ln W σ tv ρ tr → S4 K W F H σ tv ρ tr →
    Wants (Fly K mg E W σ tv tr) (fun b ρ' => ∀ F' H', S4 K W F' H' σ tv ρ' tr → Q b H') (f ρ) → t σ H Q
def TAJ (K : PySem.W.Frag) (mg : Str → Option Value) (E : XW) (t : TA) (f : Evn → Res (List Sl)) : Prop :=
  ∀ (W : Wd) (F H : Hp) (σ tv : L2.St) (ρ tr : Evn) (Q : List V → Hp → Prop), Ln W σ tv ρ tr → S4 K W F H σ tv ρ tr →
    Wants (Fly K mg E W σ tv tr) (fun ss ρ' => ∀ vs F' H', vs.length = ss.length → S4 K W F' H' σ (tv ++ vs.map some) ρ' (tr ++ ss.map some) → Q vs H') (f ρ) → t σ H Q

theorem TJ.run {ta : TE} {f : Evn → Res Sl} (ha : TJ K mg E ta f) (L : Ln W σ tv ρ tr) (S : S4 K W F H σ tv ρ tr) {Fl : Str → D → Evn → Prop} {P : β → Evn → Prop} {k : Sl → Evn → Res β}
    (hF : ∀ c d ρ', Fl c d ρ' → Fly K mg E W σ tv tr c d ρ') (hW : Wants Fl P ((f ρ).bind k)) {Q : VK}
    (h : ∀ s ρ1 v F1 H1, Ln W σ (tv ++ [some v]) ρ1 (tr ++ [some s]) → S4 K W F1 H1 σ (tv ++ [some v]) ρ1 (tr ++ [some s]) → Wants Fl P (k s ρ1) → Q v H1) : ta σ H Q := by
  refine ha W F H σ tv ρ tr Q L S ?_
  cases e : f ρ with
  | bad => rw [e] at hW; exact hW
  | exc c d ρ' => rw [e] at hW; exact hF _ _ _ hW
  | ok s ρ1 =>
    rw [e] at hW
    intro v F1 H1 S1
    exact h s ρ1 v F1 H1 (L.next S1 (by simp [L.t])) S1 hW
theorem TTJ.run {ta : TT} {f : Evn → Res Bool} (ha : TTJ K mg E ta f) (L : Ln W σ tv ρ tr) (S : S4 K W F H σ tv ρ tr) {Fl : Str → D → Evn → Prop} {P : β → Evn → Prop} {k : Bool → Evn → Res β}
    (hF : ∀ c d ρ', Fl c d ρ' → Fly K mg E W σ tv tr c d ρ') (hW : Wants Fl P ((f ρ).bind k)) {Q : Bool → Hp → Prop}
    (h : ∀ b ρ1 F1 H1, Ln W σ tv ρ1 tr → S4 K W F1 H1 σ tv ρ1 tr → Wants Fl P (k b ρ1) → Q b H1) : ta σ H Q := by
  refine ha W F H σ tv ρ tr Q L S ?_
  cases e : f ρ with
  | bad => rw [e] at hW; exact hW
  | exc c d ρ' => rw [e] at hW; exact hF _ _ _ hW
  | ok s ρ1 =>
    rw [e] at hW
    intro F1 H1 S1
    exact h s ρ1 F1 H1 (L.next S1 L.t) S1 hW
theorem TAJ.run {ta : TA} {f : Evn → Res (List Sl)} (ha : TAJ K mg E ta f) (L : Ln W σ tv ρ tr) (S : S4 K W F H σ tv ρ tr) {Fl : Str → D → Evn → Prop} {P : β → Evn → Prop} {k : List Sl → Evn → Res β}
    (hF : ∀ c d ρ', Fl c d ρ' → Fly K mg E W σ tv tr c d ρ') (hW : Wants Fl P ((f ρ).bind k)) {Q : List V → Hp → Prop}
    (h : ∀ ss ρ1 vs F1 H1, vs.length = ss.length → Ln W σ (tv ++ vs.map some) ρ1 (tr ++ ss.map some) → S4 K W F1 H1 σ (tv ++ vs.map some) ρ1 (tr ++ ss.map some) → Wants Fl P (k ss ρ1) → Q vs H1) : ta σ H Q := by
  refine ha W F H σ tv ρ tr Q L S ?_
  cases e : f ρ with
  | bad => rw [e] at hW; exact hW
  | exc c d ρ' => rw [e] at hW; exact hF _ _ _ hW
  | ok ss ρ1 =>
    rw [e] at hW
    intro vs F1 H1 hl S1
    exact h ss ρ1 vs F1 H1 hl (L.next S1 (by simp [L.t, hl])) S1 hW

/-! ### values by values -/
def ROk (K : PySem.W.Frag) (F' H H' : Hp) (v : V) : Sl → Prop
  | .fr d => Dt K F' v d
  | .ow c => ∃ p, v = .ref p ∧ H p = none ∧ F' p = none ∧ CRep K F' H' p c
  | _ => False
def VR2 (K : PySem.W.Frag) (r : R2) (g : D → D → Option Sl) : Prop :=
  ∀ (F H : Hp) (x y : V) (dx dy : D) (s : Sl) (Q : VK), Same F H → RepC K F H x dx → RepC K F H y dy → g dx dy = some s → (∀ v F' H', Grow F H F' H' → ROk K F' H H' v s → Q v H') → r x y H Q
def VR1 (K : PySem.W.Frag) (r : V → Hp → VK → Prop) (g : D → Option Sl) : Prop :=
  ∀ (F H : Hp) (x : V) (dx : D) (s : Sl) (Q : VK), Same F H → RepC K F H x dx → g dx = some s → (∀ v F' H', Grow F H F' H' → ROk K F' H H' v s → Q v H') → r x H Q
abbrev RepCs (K : PySem.W.Frag) (F H : Hp) : List V → List D → Prop := Paired (RepC K F H)
def VRn (K : PySem.W.Frag) (r : List V → Hp → VK → Prop) (g : List D → Option Sl) : Prop :=
  ∀ (F H : Hp) (xs : List V) (ds : List D) (s : Sl) (Q : VK), Same F H → RepCs K F H xs ds → g ds = some s → (∀ v F' H', Grow F H F' H' → ROk K F' H H' v s → Q v H') → r xs H Q
theorem S4.result (S : S4 K W F H σ tv ρ tr) (g : Grow F H F' H') (h : ROk K F' H H' v s) : S4 K W F' H' σ (tv ++ [some v]) ρ (tr ++ [some s]) := by
  show SR _ _ _ _ _ _ _ (σ ++ (tv ++ [some v])) (ρ ++ (tr ++ [some s]))
  rw [← List.append_assoc, ← List.append_assoc]
  cases s with
  | fr d => exact (SR.grow S g).push_fr h
  | ow c =>
    obtain ⟨p, rfl, h1, h2, h3⟩ := h
    exact SR.push_ow S g h1 h2 h3
  | io j c => exact h.elim
  | br j => exact h.elim
/-- the top of what is on the way, read -/
theorem S4.read (L : Ln W σ tv ρ tr) {x : V} (S : S4 K W F H σ (tv ++ [some x] ++ us) ρ (tr ++ [some s] ++ ss)) (hd : rd ρ s = some d) : RepC K F H x d := by
  have l1 := L.s
  have l2 := L.r
  have l3 := L.t
  refine SR.read (tr := tr ++ [some s] ++ ss) S L.r (k := ρ.length + tr.length) ?_ ?_ hd
  · rw [List.getElem?_append_right (by omega), List.append_assoc, List.getElem?_append_right (by omega)]
    simp
  · have e : ρ.length + tr.length = σ.length + tv.length := by omega
    rw [e, List.getElem?_append_right (by omega), List.append_assoc, List.getElem?_append_right (by omega)]
    simp
def rds (ρ : Evn) : List Sl → Option (List D)
  | [] => some []
  | s :: ss => match rd ρ s, rds ρ ss with
    | some d, some ds => some (d :: ds)
    | _, _ => none
theorem S4.reads : ∀ {ss : List Sl} {vs : List V} {ds : List D} {tv : L2.St} {tr : Evn}, Ln W σ tv ρ tr → S4 K W F H σ (tv ++ vs.map some) ρ (tr ++ ss.map some) → vs.length = ss.length → rds ρ ss = some ds → RepCs K F H vs ds
  | [], vs, ds, tv, tr, L, S, hl, hd => by
    cases hd
    cases vs with
    | nil => exact .nil
    | cons => simp at hl
  | s :: ss, vs, ds, tv, tr, L, S, hl, hd => by
    cases vs with
    | nil => simp at hl
    | cons v vs =>
      unfold rds at hd
      cases e1 : rd ρ s with
      | none => rw [e1] at hd; cases hd
      | some d =>
        cases e2 : rds ρ ss with
        | none => rw [e1, e2] at hd; cases hd
        | some ds' =>
          rw [e1, e2] at hd
          cases hd
          have S' : S4 K W F H σ (tv ++ [some v] ++ vs.map some) ρ (tr ++ [some s] ++ ss.map some) := by
            rw [List.append_assoc, List.append_assoc]; exact S
          exact .cons (S4.read L S' e1) (S4.reads (tv := tv ++ [some v]) (tr := tr ++ [some s]) ⟨L.s, L.r, by simp [L.t]⟩ S' (by simpa using hl) e2)

/-! ### names, constants -/
def fVar (i : Nat) (ρ : Evn) : Res Sl := match ρ[i]? with
  | some (some (.fr d)) => .ok (.fr d) ρ
  | some (some (.ow _)) => .ok (.br i) ρ
  | some (some (.io _ _)) => .ok (.br i) ρ
  | _ => .bad
theorem tj_var (i : Nat) : TJ K mg E (tVar i) (fVar i) := by
  intro W F H σ tv ρ tr Q L S hW
  have hσ : ∀ {v : V}, (σ ++ tv)[i]? = some (some v) → i < ρ.length → σ[i]? = some (some v) := fun {v} e hi => by
    rw [List.getElem?_append_left (by rw [L.s, ← L.r]; exact hi)] at e
    exact e
  unfold fVar at hW
  cases e : ρ[i]? with
  | none => rw [e] at hW; exact hW.elim
  | some o =>
    cases o with
    | none => rw [e] at hW; exact hW.elim
    | some s =>
      rw [e] at hW
      have hi := (List.getElem?_eq_some_iff.mp e).1
      have e' : (ρ ++ tr)[i]? = some (some s) := by rw [List.getElem?_append_left hi]; exact e
      have own : ∀ {c : Cn}, s.own = some c → Wants (Fly K mg E W σ tv tr) (fun s ρ' => ∀ v F' H', S4 K W F' H' σ (tv ++ [some v]) ρ' (tr ++ [some s]) → Q v H') (.ok (.br i) ρ) → tVar i σ H Q := fun {c} ho hW => by
        obtain ⟨p, h1, _⟩ := SR.own_at S e' ho
        refine ⟨.ref p, hσ h1 hi, hW _ F H ?_⟩
        show SR _ _ _ _ _ _ _ (σ ++ (tv ++ _)) (ρ ++ (tr ++ _))
        rw [← List.append_assoc, ← List.append_assoc]
        exact SR.push_br S (by simp; have := L.r; omega) (by rw [← L.r]; exact hi) h1
      cases s with
      | fr d =>
        obtain ⟨v, h1, h2⟩ := S.fr i d e'
        refine ⟨v, hσ h1 hi, hW v F H (S4.result S (.refl S.fh) ?_)⟩
        exact h2
      | ow c => exact own rfl hW
      | io j c => exact own rfl hW
      | br j => exact hW.elim
def fC (d : D) (ρ : Evn) : Res Sl := .ok (.fr d) ρ
theorem tj_c {v : V} {d : D} (h : ∀ F, Dt K F v d) : TJ K mg E (tC v) (fC d) := by
  intro W F H σ tv ρ tr Q L S hW
  exact hW v F H (S4.result (s := .fr d) S (.refl S.fh) (h F))
theorem tj_int {i : Int} : TJ K mg E (tC (.int i)) (fC (.int i)) := tj_c fun _ => .int i
theorem tj_bl {i : Bool} : TJ K mg E (tC (.bl i)) (fC (.bool i)) := tj_c fun _ => .bl i
theorem tj_str {i : Str} : TJ K mg E (tC (.str i)) (fC (.str i)) := tj_c fun _ => .str i
theorem tj_non : TJ K mg E (tC .non) (fC .none) := tj_c fun _ => .non

/-! ### operators -/
def fOp (op : D → D → Option Sl) (f g : Evn → Res Sl) (ρ : Evn) : Res Sl :=
  (f ρ).bind fun s1 ρ1 => (g ρ1).bind fun s2 ρ2 => ofOpt ρ2 (match rd ρ2 s1, rd ρ2 s2 with
    | some d1, some d2 => op d1 d2
    | _, _ => none)
theorem tj_op {ta tb : TE} {f g : Evn → Res Sl} {r : R2} {op : D → D → Option Sl} (hr : VR2 K r op) (ha : TJ K mg E ta f) (hb : TJ K mg E tb g) : TJ K mg E (tOp r ta tb) (fOp op f g) := by
  intro W F H σ tv ρ tr Q L S hW
  refine ha.run L S (fun _ _ _ h => h) hW fun s1 ρ1 x F1 H1 L1 S1 hW1 => ?_
  refine hb.run L1 S1 (fun _ _ _ h => h.push L (by simp)) hW1 fun s2 ρ2 y F2 H2 L2 S2 hW2 => ?_
  have La : Ln W σ tv ρ2 tr := (L2.cut (by simp)).cut (by simp)
  have Sa : S4 K W F2 H2 σ tv ρ2 tr := S4.cut (L2.cut (by simp)) (S4.cut L2 S2 (by simp)) (by simp)
  cases e1 : rd ρ2 s1 with
  | none => rw [e1] at hW2; exact hW2.elim
  | some d1 =>
    cases e2 : rd ρ2 s2 with
    | none => rw [e1, e2] at hW2; exact hW2.elim
    | some d2 =>
      rw [e1, e2] at hW2
      have r1 : RepC K F2 H2 x d1 := S4.read La (us := [some y]) (ss := [some s2]) (by simpa using S2) e1
      have r2 : RepC K F2 H2 y d2 := S4.read (L2.cut (by simp)) (us := []) (ss := []) (by simpa using S2) e2
      show r x y H2 Q
      cases eo : op d1 d2 with
      | none => rw [show (match some d1, some d2 with | some d1, some d2 => op d1 d2 | _, _ => none) = op d1 d2 from rfl, eo] at hW2; exact hW2.elim
      | some s =>
        rw [show (match some d1, some d2 with | some d1, some d2 => op d1 d2 | _, _ => none) = op d1 d2 from rfl, eo] at hW2
        exact hr F2 H2 x y d1 d2 s Q Sa.fh r1 r2 eo fun v F' H' g ok => hW2 v F' H' (S4.result Sa g ok)
def fUn (op : D → Option Sl) (f : Evn → Res Sl) (ρ : Evn) : Res Sl :=
  (f ρ).bind fun s1 ρ1 => ofOpt ρ1 (match rd ρ1 s1 with
    | some d1 => op d1
    | _ => none)
theorem tj_un {ta : TE} {f : Evn → Res Sl} {r : V → Hp → VK → Prop} {op : D → Option Sl} (hr : VR1 K r op) (ha : TJ K mg E ta f) : TJ K mg E (tUn r ta) (fUn op f) := by
  intro W F H σ tv ρ tr Q L S hW
  refine ha.run L S (fun _ _ _ h => h) hW fun s1 ρ1 x F1 H1 L1 S1 hW1 => ?_
  have La : Ln W σ tv ρ1 tr := L1.cut (by simp)
  have Sa : S4 K W F1 H1 σ tv ρ1 tr := S4.cut L1 S1 (by simp)
  cases e1 : rd ρ1 s1 with
  | none => rw [e1] at hW1; exact hW1.elim
  | some d1 =>
    rw [e1] at hW1
    have r1 : RepC K F1 H1 x d1 := S4.read La (us := []) (ss := []) (by simpa using S1) e1
    show r x H1 Q
    cases eo : op d1 with
    | none => rw [show (match some d1 with | some d1 => op d1 | _ => none) = op d1 from rfl, eo] at hW1; exact hW1.elim
    | some s =>
      rw [show (match some d1 with | some d1 => op d1 | _ => none) = op d1 from rfl, eo] at hW1
      exact hr F1 H1 x d1 s Q Sa.fh r1 eo fun v F' H' g ok => hW1 v F' H' (S4.result Sa g ok)

/-! ### argument lists, displays -/
def fNil (ρ : Evn) : Res (List Sl) := .ok [] ρ
theorem taj_nil : TAJ K mg E tNil fNil := by
  intro W F H σ tv ρ tr Q L S hW
  exact hW [] F H rfl (by simpa using S)
def fCons (f : Evn → Res Sl) (g : Evn → Res (List Sl)) (ρ : Evn) : Res (List Sl) := (f ρ).bind fun s ρ1 => (g ρ1).bind fun ss ρ2 => .ok (s :: ss) ρ2
theorem taj_cons {ta : TE} {tb : TA} {f : Evn → Res Sl} {g : Evn → Res (List Sl)} (ha : TJ K mg E ta f) (hb : TAJ K mg E tb g) : TAJ K mg E (tCons ta tb) (fCons f g) := by
  intro W F H σ tv ρ tr Q L S hW
  refine ha.run L S (fun _ _ _ h => h) hW fun s1 ρ1 x F1 H1 L1 S1 hW1 => ?_
  refine hb.run L1 S1 (fun _ _ _ h => h.push L (by simp)) hW1 fun ss ρ2 vs F2 H2 hl L2 S2 hW2 => ?_
  exact hW2 (x :: vs) F2 H2 (by simp [hl]) (by simpa using S2)
/-- frozen as it is made -/
def frz (ρ : Evn) : Sl → Option (D × Evn)
  | .fr d => some (d, ρ)
  | .ow c => some (c.rd, ρ)
  | .br i => match ρ[i]? with
    | some (some (.ow c)) => some (c.rd, ρ.set i (some (.fr c.rd)))
    | _ => none
  | .io _ _ => none
def fFz (f : Evn → Res Sl) (ρ : Evn) : Res Sl := (f ρ).bind fun s ρ1 => match frz ρ1 s with
  | some (d, ρ2) => .ok (.fr d) ρ2
  | none => .bad
theorem S4.frz (L : Ln W σ tv ρ tr) (S : S4 K W F H σ (tv ++ [some v]) ρ (tr ++ [some s])) (h : frz ρ s = some (d, ρ')) : ∃ F', Same F F' ∧ S4 K W F' H σ (tv ++ [some v]) ρ' (tr ++ [some (.fr d)]) := by
  have l1 := L.s
  have l2 := L.r
  have l3 := L.t
  have top : (ρ ++ (tr ++ [some s]))[ρ.length + tr.length]? = some (some s) := by
    rw [List.getElem?_append_right (by omega), List.getElem?_append_right (by omega)]
    simp
  have setTop : ∀ x : Option Sl, (ρ ++ (tr ++ [some s])).set (ρ.length + tr.length) x = ρ ++ (tr ++ [x]) := fun x => by
    rw [List.set_append_right _ _ (by omega), List.set_append_right _ _ (by omega)]
    simp
  cases s with
  | fr d' => cases h; exact ⟨F, Same.refl _, S⟩
  | io j c => cases h
  | ow c =>
    cases h
    cases c with
    | lst ds =>
      obtain ⟨F', ff, S'⟩ := SR.freeze S top
      rw [setTop] at S'
      exact ⟨F', ff, S'⟩
  | br i =>
    have h : (match ρ[i]? with | some (some (.ow c)) => some (c.rd, ρ.set i (some (.fr c.rd))) | _ => none) = some (d, ρ') := h
    cases e : ρ[i]? with
    | none => rw [e] at h; cases h
    | some o =>
      rw [e] at h
      cases o with
      | none => cases h
      | some t =>
        cases t with
        | fr _ => cases h
        | io _ _ => cases h
        | br _ => cases h
        | ow c =>
          cases h
          cases c with
          | lst ds =>
            have hi := (List.getElem?_eq_some_iff.mp e).1
            have e' : (ρ ++ (tr ++ [some (Sl.br i)]))[i]? = some (some (.ow (.lst ds))) := by rw [List.getElem?_append_left hi]; exact e
            obtain ⟨_, _, hb⟩ := S.br _ _ top
            have hv := hb _ e' (fun z => nomatch z)
            obtain ⟨F', ff, S'⟩ := SR.freeze S e'
            rw [List.set_append_left _ _ hi] at S'
            refine ⟨F', ff, ?_⟩
            have hlen : (ρ.set i (some (Sl.fr (.list ds)))).length = ρ.length := by simp
            have La : Ln W σ (tv ++ [some v]) (ρ.set i (some (Sl.fr (.list ds)))) (tr ++ [some (Sl.br i)]) := ⟨l1, by rw [hlen]; exact l2, by simp [l3]⟩
            have Sa : S4 K W F' H σ tv (ρ.set i (some (Sl.fr (.list ds)))) tr := S4.cut La S' (by simp)
            have ei : (ρ.set i (some (Sl.fr (.list ds))) ++ tr)[i]? = some (some (.fr (.list ds))) := by
              rw [List.getElem?_append_left (by rw [hlen]; exact hi), List.getElem?_set_self hi]
            obtain ⟨w, w1, w2⟩ := Sa.fr i _ ei
            have hσi : (σ ++ (tv ++ [some v]))[i]? = some (some w) := by
              rw [← List.append_assoc]; exact push_old w1
            rw [hσi] at hv
            have tk : (σ ++ (tv ++ [some v]))[ρ.length + tr.length]? = some (some v) := by
              have e : ρ.length + tr.length = σ.length + tv.length := by omega
              rw [e, List.getElem?_append_right (by omega), List.getElem?_append_right (by omega)]
              simp
            rw [tk] at hv
            cases hv
            exact S4.result (s := .fr (.list ds)) Sa (.refl Sa.fh) w2
theorem tj_fz {ta : TE} {f : Evn → Res Sl} (ha : TJ K mg E ta f) : TJ K mg E ta (fFz f) := by
  intro W F H σ tv ρ tr Q L S hW
  refine ha.run L S (fun _ _ _ h => h) hW fun s1 ρ1 x F1 H1 L1 S1 hW1 => ?_
  cases e : frz ρ1 s1 with
  | none => rw [e] at hW1; exact hW1.elim
  | some q =>
    obtain ⟨d, ρ2⟩ := q
    rw [e] at hW1
    obtain ⟨F', _, S'⟩ := S4.frz (L1.cut (by simp)) S1 e
    exact hW1 x F' H1 S'
def frs : List Sl → Option (List D)
  | [] => some []
  | .fr d :: ss => match frs ss with
    | some ds => some (d :: ds)
    | none => none
  | _ :: _ => none
theorem S4.frs : ∀ {ss : List Sl} {vs : List V} {ds : List D} {tv : L2.St} {tr : Evn}, Ln W σ tv ρ tr → S4 K W F H σ (tv ++ vs.map some) ρ (tr ++ ss.map some) → vs.length = ss.length → frs ss = some ds → DtAll K F vs ds
  | [], vs, ds, tv, tr, L, S, hl, hd => by
    cases hd
    cases vs with
    | nil => exact .nil
    | cons => simp at hl
  | s :: ss, vs, ds, tv, tr, L, S, hl, hd => by
    cases vs with
    | nil => simp at hl
    | cons v vs =>
      cases s with
      | ow _ => cases hd
      | io _ _ => cases hd
      | br _ => cases hd
      | fr d =>
        unfold DL.frs at hd
        cases e2 : DL.frs ss with
        | none => rw [e2] at hd; cases hd
        | some ds' =>
          rw [e2] at hd
          cases hd
          have S' : S4 K W F H σ (tv ++ [some v] ++ vs.map some) ρ (tr ++ [some (Sl.fr d)] ++ ss.map some) := by
            rw [List.append_assoc, List.append_assoc]; exact S
          refine .cons ?_ (S4.frs (tv := tv ++ [some v]) (tr := tr ++ [some (Sl.fr d)]) ⟨L.s, L.r, by simp [L.t]⟩ S' (by simpa using hl) e2)
          have l1 := L.s
          have l2 := L.r
          have l3 := L.t
          obtain ⟨w, w1, w2⟩ := S'.fr (ρ.length + tr.length) d (by
            rw [List.getElem?_append_right (by omega), List.append_assoc, List.getElem?_append_right (by omega)]
            simp)
          have e : ρ.length + tr.length = σ.length + tv.length := by omega
          rw [e, List.getElem?_append_right (by omega), List.append_assoc, List.getElem?_append_right (by omega)] at w1
          simp at w1
          rw [w1]
          exact w2
theorem line5 {n : Nat} (h : n ≤ 100000) : n ≤ sizeLine := Nat.le_trans h (by decide)
def fTup (f : Evn → Res (List Sl)) (ρ : Evn) : Res Sl := (f ρ).bind fun ss ρ1 => match frs ss with
  | some ds => if ds.length ≤ 100000 then .ok (.fr (.tuple ds)) ρ1 else .bad
  | none => .bad
def fLst (f : Evn → Res (List Sl)) (ρ : Evn) : Res Sl := (f ρ).bind fun ss ρ1 => match frs ss with
  | some ds => if ds.length ≤ 100000 then .ok (.ow (.lst ds)) ρ1 else .bad
  | none => .bad
theorem tj_tup {ta : TA} {f : Evn → Res (List Sl)} (ha : TAJ K mg E ta f) : TJ K mg E (tTup ta) (fTup f) := by
  intro W F H σ tv ρ tr Q L S hW
  refine ha.run L S (fun _ _ _ h => h) hW fun ss ρ1 vs F1 H1 hl L1 S1 hW1 => ?_
  cases e : frs ss with
  | none => rw [e] at hW1; exact hW1.elim
  | some ds =>
    rw [e] at hW1
    have La := L1.cut (by simp [hl])
    have hd := S4.frs La S1 hl e
    have Sa := S4.cut L1 S1 (by simp [hl])
    by_cases hz : ds.length ≤ 100000
    · have hW1 : Wants _ _ (if ds.length ≤ 100000 then Res.ok (Sl.fr (.tuple ds)) ρ1 else .bad) := hW1
      rw [if_pos hz] at hW1
      refine ⟨by rw [dpAll_len hd]; exact line5 hz, fun p hp => hW1 _ _ _ (S4.result Sa (.froze Sa.fh hp) ?_)⟩
      exact .tup (.of upd_same) (dpAll_mono (Same.upd_new (Same.free Sa.fh hp)) _ _ hd)
    · have hW1 : Wants _ _ (if ds.length ≤ 100000 then Res.ok (Sl.fr (.tuple ds)) ρ1 else .bad) := hW1
      rw [if_neg hz] at hW1
      exact hW1.elim
theorem tj_lst {ta : TA} {f : Evn → Res (List Sl)} (ha : TAJ K mg E ta f) : TJ K mg E (tLst ta) (fLst f) := by
  intro W F H σ tv ρ tr Q L S hW
  refine ha.run L S (fun _ _ _ h => h) hW fun ss ρ1 vs F1 H1 hl L1 S1 hW1 => ?_
  cases e : frs ss with
  | none => rw [e] at hW1; exact hW1.elim
  | some ds =>
    rw [e] at hW1
    have La := L1.cut (by simp [hl])
    have hd := S4.frs La S1 hl e
    have Sa := S4.cut L1 S1 (by simp [hl])
    by_cases hz : ds.length ≤ 100000
    · have hW1 : Wants _ _ (if ds.length ≤ 100000 then Res.ok (Sl.ow (.lst ds)) ρ1 else .bad) := hW1
      rw [if_pos hz] at hW1
      refine ⟨by rw [dpAll_len hd]; exact line5 hz, fun p hp => hW1 _ _ _ (S4.result Sa (.laid Sa.fh hp) ?_)⟩
      exact ⟨p, rfl, hp, Same.free Sa.fh hp, vs, upd_same, hd⟩
    · have hW1 : Wants _ _ (if ds.length ≤ 100000 then Res.ok (Sl.ow (.lst ds)) ρ1 else .bad) := hW1
      rw [if_neg hz] at hW1
      exact hW1.elim
/-! ### a builtin's call by values -/
def fCB (op : List D → Option Sl) (f : Evn → Res (List Sl)) (ρ : Evn) : Res Sl := (f ρ).bind fun ss ρ1 => ofOpt ρ1 (match rds ρ1 ss with
  | some ds => op ds
  | none => none)
theorem tj_cb {ta : TA} {f : Evn → Res (List Sl)} {r : List V → Hp → VK → Prop} {op : List D → Option Sl} (hr : VRn K r op) (ha : TAJ K mg E ta f) : TJ K mg E (tCB r ta) (fCB op f) := by
  intro W F H σ tv ρ tr Q L S hW
  refine ha.run L S (fun _ _ _ h => h) hW fun ss ρ1 vs F1 H1 hl L1 S1 hW1 => ?_
  have La := L1.cut (by simp [hl])
  have Sa := S4.cut L1 S1 (by simp [hl])
  cases e : rds ρ1 ss with
  | none => rw [e] at hW1; exact hW1.elim
  | some ds =>
    rw [e] at hW1
    have hd := S4.reads La S1 hl e
    have hW1 : Wants _ _ (ofOpt ρ1 (op ds)) := hW1
    cases eo : op ds with
    | none => rw [eo] at hW1; exact hW1.elim
    | some s =>
      rw [eo] at hW1
      exact hr F1 H1 vs ds s Q Sa.fh hd eo fun v F' H' g ok => hW1 v F' H' (S4.result Sa g ok)
end
end DL

namespace DL
open PySem PySem.Spec PyProof.Rows L2

section
variable {K : PySem.W.Frag} {mg : Str → Option Value} {E : XW} {W : Wd} {F0 B F H F' H' : Hp} {σ tv us vs : L2.St} {ρ ρ' tr ss : Evn} {v : V} {d : D} {s : Sl} {c c' : Cn} {p : Addr} {i : Nat} {α β : Type}

/-! ### tests -/
def asB (ρ : Evn) : Sl → Res Bool
  | .fr (.bool b) => .ok b ρ
  | _ => .bad
def fTest (f : Evn → Res Sl) (ρ : Evn) : Res Bool := (f ρ).bind fun s ρ1 => asB ρ1 s
theorem asB_ok {Fl : Str → D → Evn → Prop} {P : Bool → Evn → Prop} (h : Wants Fl P (asB ρ s)) : ∃ b, s = .fr (.bool b) ∧ P b ρ := by
  cases s with
  | fr d => cases d with
    | bool b => exact ⟨b, rfl, h⟩
    | none => exact h.elim
    | int _ => exact h.elim
    | str _ => exact h.elim
    | list _ => exact h.elim
    | tuple _ => exact h.elim
    | dict _ => exact h.elim
  | ow _ => exact h.elim
  | io _ _ => exact h.elim
  | br _ => exact h.elim
/-- the last one on the way, a truth -/
theorem S4.top_bl {b : Bool} (L : Ln W σ (tv ++ [some v]) ρ (tr ++ [some (.fr (.bool b))])) (S : S4 K W F H σ (tv ++ [some v]) ρ (tr ++ [some (.fr (.bool b))])) : v = .bl b :=
  RepC.bl (S4.read (L.cut (by simp)) (us := []) (ss := []) (by simpa using S) (show rd ρ (.fr (.bool b)) = some (.bool b) from rfl))
theorem ttj_val {ta : TE} {f : Evn → Res Sl} (ha : TJ K mg E ta f) : TTJ K mg E (tTest ta) (fTest f) := by
  intro W F H σ tv ρ tr Q L S hW
  refine ha.run L S (fun _ _ _ h => h) hW fun s1 ρ1 x F1 H1 L1 S1 hW1 => ?_
  obtain ⟨b, rfl, hW1⟩ := asB_ok hW1
  exact ⟨b, S4.top_bl L1 S1, hW1 F1 H1 (S4.cut L1 S1 (by simp))⟩
theorem ttj_B {ta : TE} {f : Evn → Res Sl} (ha : TJ K mg E ta f) : TTJ K mg E (tB ta) (fTest f) := ttj_val ha
def fAnd (f g : Evn → Res Bool) (ρ : Evn) : Res Bool := (f ρ).bind fun b ρ1 => if b then g ρ1 else .ok false ρ1
def fOr (f g : Evn → Res Bool) (ρ : Evn) : Res Bool := (f ρ).bind fun b ρ1 => if b then .ok true ρ1 else g ρ1
def fNot (f : Evn → Res Bool) (ρ : Evn) : Res Bool := (f ρ).bind fun b ρ1 => .ok (!b) ρ1
theorem ttj_and {ta tb : TT} {f g : Evn → Res Bool} (ha : TTJ K mg E ta f) (hb : TTJ K mg E tb g) : TTJ K mg E (tAnd ta tb) (fAnd f g) := by
  intro W F H σ tv ρ tr Q L S hW
  refine ha.run L S (fun _ _ _ h => h) hW fun b ρ1 F1 H1 L1 S1 hW1 => ?_
  cases b with
  | true => exact hb W F1 H1 σ tv ρ1 tr Q L1 S1 hW1
  | false => exact hW1 F1 H1 S1
theorem ttj_or {ta tb : TT} {f g : Evn → Res Bool} (ha : TTJ K mg E ta f) (hb : TTJ K mg E tb g) : TTJ K mg E (tOr ta tb) (fOr f g) := by
  intro W F H σ tv ρ tr Q L S hW
  refine ha.run L S (fun _ _ _ h => h) hW fun b ρ1 F1 H1 L1 S1 hW1 => ?_
  cases b with
  | true => exact hW1 F1 H1 S1
  | false => exact hb W F1 H1 σ tv ρ1 tr Q L1 S1 hW1
theorem ttj_not {ta : TT} {f : Evn → Res Bool} (ha : TTJ K mg E ta f) : TTJ K mg E (tNot ta) (fNot f) := by
  intro W F H σ tv ρ tr Q L S hW
  exact ha.run L S (fun _ _ _ h => h) hW fun b ρ1 F1 H1 L1 S1 hW1 => hW1 F1 H1 S1
def fAndV (f g : Evn → Res Sl) (ρ : Evn) : Res Sl := (f ρ).bind fun s ρ1 => (asB ρ1 s).bind fun b ρ1 => if b then g ρ1 else .ok (.fr (.bool false)) ρ1
def fOrV (f g : Evn → Res Sl) (ρ : Evn) : Res Sl := (f ρ).bind fun s ρ1 => (asB ρ1 s).bind fun b ρ1 => if b then .ok (.fr (.bool true)) ρ1 else g ρ1
def fNotV (f : Evn → Res Sl) (ρ : Evn) : Res Sl := (f ρ).bind fun s ρ1 => (asB ρ1 s).bind fun b ρ1 => .ok (.fr (.bool !b)) ρ1
theorem asB_bind {Fl : Str → D → Evn → Prop} {P : β → Evn → Prop} {k : Bool → Evn → Res β} (h : Wants Fl P ((asB ρ s).bind k)) : ∃ b, s = .fr (.bool b) ∧ Wants Fl P (k b ρ) := by
  cases s with
  | fr d => cases d with
    | bool b => exact ⟨b, rfl, h⟩
    | none => exact h.elim
    | int _ => exact h.elim
    | str _ => exact h.elim
    | list _ => exact h.elim
    | tuple _ => exact h.elim
    | dict _ => exact h.elim
  | ow _ => exact h.elim
  | io _ _ => exact h.elim
  | br _ => exact h.elim
theorem tj_andV {ta tb : TE} {f g : Evn → Res Sl} (ha : TJ K mg E ta f) (hb : TJ K mg E tb g) : TJ K mg E (tAndV ta tb) (fAndV f g) := by
  intro W F H σ tv ρ tr Q L S hW
  refine ha.run L S (fun _ _ _ h => h) hW fun s ρ1 x F1 H1 L1 S1 hW1 => ?_
  obtain ⟨b, rfl, hW1⟩ := asB_bind hW1
  refine ⟨b, S4.top_bl L1 S1, ?_⟩
  have La := L1.cut (us := [some x]) (ss := [some (Sl.fr (.bool b))]) (by simp)
  have Sa := S4.cut L1 S1 (by simp)
  cases b with
  | true => exact hb W F1 H1 σ tv ρ1 tr Q La Sa hW1
  | false => exact hW1 _ F1 H1 (S4.result (s := .fr (.bool false)) Sa (.refl Sa.fh) (.bl false))
theorem tj_orV {ta tb : TE} {f g : Evn → Res Sl} (ha : TJ K mg E ta f) (hb : TJ K mg E tb g) : TJ K mg E (tOrV ta tb) (fOrV f g) := by
  intro W F H σ tv ρ tr Q L S hW
  refine ha.run L S (fun _ _ _ h => h) hW fun s ρ1 x F1 H1 L1 S1 hW1 => ?_
  obtain ⟨b, rfl, hW1⟩ := asB_bind hW1
  refine ⟨b, S4.top_bl L1 S1, ?_⟩
  have La := L1.cut (us := [some x]) (ss := [some (Sl.fr (.bool b))]) (by simp)
  have Sa := S4.cut L1 S1 (by simp)
  cases b with
  | true => exact hW1 _ F1 H1 (S4.result (s := .fr (.bool true)) Sa (.refl Sa.fh) (.bl true))
  | false => exact hb W F1 H1 σ tv ρ1 tr Q La Sa hW1
theorem tj_notV {ta : TE} {f : Evn → Res Sl} (ha : TJ K mg E ta f) : TJ K mg E (tNotV ta) (fNotV f) := by
  intro W F H σ tv ρ tr Q L S hW
  refine ha.run L S (fun _ _ _ h => h) hW fun s ρ1 x F1 H1 L1 S1 hW1 => ?_
  obtain ⟨b, rfl, hW1⟩ := asB_bind hW1
  refine ⟨b, S4.top_bl L1 S1, ?_⟩
  have Sa := S4.cut L1 S1 (by simp)
  exact hW1 _ F1 H1 (S4.result (s := .fr (.bool !b)) Sa (.refl Sa.fh) (.bl _))
def fIf (c : Evn → Res Bool) (f g : Evn → Res Sl) (ρ : Evn) : Res Sl := (c ρ).bind fun b ρ1 => if b then f ρ1 else g ρ1
theorem tj_if {tc : TT} {ta tb : TE} {c : Evn → Res Bool} {f g : Evn → Res Sl} (hc : TTJ K mg E tc c) (ha : TJ K mg E ta f) (hb : TJ K mg E tb g) : TJ K mg E (tIf tc ta tb) (fIf c f g) := by
  intro W F H σ tv ρ tr Q L S hW
  refine hc.run L S (fun _ _ _ h => h) hW fun b ρ1 F1 H1 L1 S1 hW1 => ?_
  cases b with
  | true => exact ha W F1 H1 σ tv ρ1 tr Q L1 S1 hW1
  | false => exact hb W F1 H1 σ tv ρ1 tr Q L1 S1 hW1

/-! ### a builtin's method by values -/
def VRm (K : PySem.W.Frag) (T : String) (r : V → List V → Hp → VK → Prop) (g : D → List D → Option Sl) : Prop :=
  (∀ F H x dx ds s, Same F H → RepC K F H x dx → g dx ds = some s → tyV K T x H) ∧
  ∀ (F H : Hp) (x : V) (dx : D) (xs : List V) (ds : List D) (s : Sl) (Q : VK), Same F H → RepC K F H x dx → RepCs K F H xs ds → g dx ds = some s → (∀ v F' H', Grow F H F' H' → ROk K F' H H' v s → Q v H') → r x xs H Q
/-- the receiver is read ahead of the arguments, too (for its kind) -/
def fBM (op : D → List D → Option Sl) (f : Evn → Res Sl) (g : Evn → Res (List Sl)) (ρ : Evn) : Res Sl :=
  (f ρ).bind fun s ρ1 => (g ρ1).bind fun ss ρ2 => ofOpt ρ2 (match rd ρ1 s, rd ρ2 s, rds ρ2 ss with
    | some d1, some d2, some ds => match op d1 ds with
      | some _ => op d2 ds
      | none => none
    | _, _, _ => none)
theorem Res.of_bind {r : Res α} {k : α → Evn → Res β} {Fl : Str → D → Evn → Prop} {P : β → Evn → Prop} (h : Wants Fl P (r.bind k)) : (∃ a ρ, r = .ok a ρ ∧ Wants Fl P (k a ρ)) ∨ ∃ c d ρ, r = .exc c d ρ ∧ Fl c d ρ := by
  cases r with
  | ok a ρ => exact .inl ⟨a, ρ, rfl, h⟩
  | exc c d ρ => exact .inr ⟨c, d, ρ, rfl, h⟩
  | bad => exact h.elim

/-! ### a list that a slot holds alone, changed -/
/-- xs.append(e) -/
def fAppend (i : Nat) (f : Evn → Res Sl) (ρ : Evn) : Res Sl := match ρ[i]? with
  | some (some t) => match t.own with
    | some _ => (fFz f ρ).bind fun s ρ1 => match s, ρ1[i]? with
      | .fr d, some (some t1) => match t1.own with
        | some (.lst ds) => if ds.length < 100000 then .ok (.fr .none) (ρ1.set i (some (t1.put (.lst (ds ++ [d]))))) else .bad
        | _ => .bad
      | _, _ => .bad
    | none => .bad
  | _ => .bad
theorem line5' {n : Nat} (h : n < 100000) : n < sizeLine := Nat.lt_of_lt_of_le h (by decide)
/-- what stands at a slot that holds alone -/
theorem S4.own_at (L : Ln W σ tv ρ tr) (S : S4 K W F H σ tv ρ tr) (h : ρ[i]? = some (some s)) (ho : s.own = some c) : ∃ p, σ[i]? = some (some (.ref p)) ∧ F p = none ∧ CRep K F H p c := by
  have hi := (List.getElem?_eq_some_iff.mp h).1
  obtain ⟨p, h1, h2⟩ := SR.own_at S (i := i) (by rw [List.getElem?_append_left hi]; exact h) ho
  rw [List.getElem?_append_left (by rw [L.s, ← L.r]; exact hi)] at h1
  exact ⟨p, h1, h2⟩
theorem S4.mut (L : Ln W σ tv ρ tr) (S : S4 K W F H σ tv ρ tr) (h : ρ[i]? = some (some s)) (ho : s.own = some c) (hp : σ[i]? = some (some (V.ref p)))
    (hh : ∀ a, a ≠ p → H' a = H a) (hc : CRep K F H' p c') : S4 K W F H' σ tv (ρ.set i (some (s.put c'))) tr := by
  have hi := (List.getElem?_eq_some_iff.mp h).1
  have := SR.mut S (i := i) (by rw [List.getElem?_append_left hi]; exact h) ho (by rw [List.getElem?_append_left (by rw [L.s, ← L.r]; exact hi)]; exact hp) hh hc
  rw [List.set_append_left _ _ hi] at this
  exact this
theorem S4.push_non (S : S4 K W F H σ tv ρ tr) : S4 K W F H σ (tv ++ [some .non]) ρ (tr ++ [some (.fr .none)]) := S4.result S (.refl S.fh) .non
theorem S4.top_fr (L : Ln W σ (tv ++ [some v]) ρ (tr ++ [some (.fr d)])) (S : S4 K W F H σ (tv ++ [some v]) ρ (tr ++ [some (.fr d)])) : Dt K F v d := by
  have l1 := L.s
  have l2 := L.r
  have l3 := L.t
  simp at l3
  obtain ⟨w, w1, w2⟩ := S.fr (ρ.length + tr.length) d (by
    rw [List.getElem?_append_right (by omega), List.getElem?_append_right (by omega)]
    simp)
  have e : ρ.length + tr.length = σ.length + tv.length := by omega
  rw [e, List.getElem?_append_right (by omega), List.getElem?_append_right (by omega)] at w1
  simp at w1
  rw [w1]; exact w2
theorem tj_append {i : Nat} {te : TE} {f : Evn → Res Sl} (hf : TJ K mg E te f) : TJ K mg E (tBM K "list" rAppend (tVar i) (tCons te tNil)) (fAppend i f) := by
  intro W F H σ tv ρ tr Q L S hW
  unfold fAppend at hW
  split at hW
  · rename_i t e
    split at hW
    · rename_i c ho
      cases c with
      | lst ds =>
        obtain ⟨p, h1, h2, ws, h3, h4⟩ := S4.own_at L S e ho
        refine ⟨.ref p, h1, .inl ⟨rfl, ws, .of h3⟩, ?_⟩
        refine (tj_fz hf).run L S (fun _ _ _ h => h) hW fun s1 ρ1 x F1 H1 L1 S1 hW1 => ?_
        split at hW1
        · rename_i d t1 e1
          split at hW1
          · rename_i ds1 ho1
            split at hW1
            · rename_i hz
              obtain ⟨p1, g1, g2, ws1, g3, g4⟩ := S4.own_at L1 S1 e1 ho1
              rw [h1] at g1
              cases g1
              have La := L1.cut (us := [some x]) (ss := [some (Sl.fr d)]) (by simp)
              have Sa := S4.cut L1 S1 (by simp)
              refine ⟨p, ws1, x, rfl, rfl, g3, by rw [dpAll_len g4]; exact line5' hz, hW1 .non F1 _ ?_⟩
              exact S4.push_non (S4.mut La Sa e1 ho1 h1 (fun a ha => upd_ne ha) ⟨_, upd_same, dpAll_app g4 (.cons (S4.top_fr L1 S1) .nil)⟩)
            · exact hW1.elim
          · exact hW1.elim
        · exact hW1.elim
    · exact hW.elim
  · exact hW.elim
/-- xs.pop(e) -/
def fPopAt (i : Nat) (f : Evn → Res Sl) (ρ : Evn) : Res Sl := match ρ[i]? with
  | some (some t) => match t.own with
    | some _ => (f ρ).bind fun s ρ1 => match s, ρ1[i]? with
      | .fr (.int k), some (some t1) => match t1.own with
        | some (.lst ds) => if 0 ≤ k ∧ k < (ds.length : Int) ∧ ds.length ≤ 100000 then match ds[k.toNat]? with
            | some d => .ok (.fr d) (ρ1.set i (some (t1.put (.lst (ds.eraseIdx k.toNat)))))
            | none => .bad
          else .bad
        | _ => .bad
      | _, _ => .bad
    | none => .bad
  | _ => .bad
theorem tj_popAt {i : Nat} {te : TE} {f : Evn → Res Sl} (hf : TJ K mg E te f) : TJ K mg E (tBM K "list" rPopAt (tVar i) (tCons te tNil)) (fPopAt i f) := by
  intro W F H σ tv ρ tr Q L S hW
  unfold fPopAt at hW
  cases e : ρ[i]? with
  | none => rw [e] at hW; exact hW.elim
  | some o =>
    cases o with
    | none => rw [e] at hW; exact hW.elim
    | some t =>
      simp only [e] at hW
      cases ho : t.own with
      | none => simp only [ho] at hW; exact hW.elim
      | some c =>
        simp only [ho] at hW
        cases c with
        | lst ds =>
          obtain ⟨p, h1, h2, ws, h3, h4⟩ := S4.own_at L S e ho
          refine ⟨.ref p, h1, .inl ⟨rfl, ws, .of h3⟩, ?_⟩
          refine hf.run L S (fun _ _ _ h => h) hW fun s1 ρ1 x F1 H1 L1 S1 hW1 => ?_
          split at hW1
          · rename_i k t1 e1
            split at hW1
            · rename_i ds1 ho1
              split at hW1
              · rename_i hk
                split at hW1
                · rename_i dd ed
                  obtain ⟨p1, g1, g2, ws1, g3, g4⟩ := S4.own_at L1 S1 e1 ho1
                  rw [h1] at g1
                  cases g1
                  have La := L1.cut (us := [some x]) (ss := [some (Sl.fr (.int k))]) (by simp)
                  have Sa := S4.cut L1 S1 (by simp)
                  have hx : x = .int k := RepC.int (S4.read La (us := []) (ss := []) (by simpa using S1) (show rd ρ1 (.fr (.int k)) = some (.int k) from rfl))
                  obtain ⟨w, w1, w2⟩ := dpAll_get g4 ed
                  have hl := dpAll_len g4
                  have hn := line63
                  refine ⟨p, ws1, k, k.toNat, w, rfl, by rw [hx], g3, by omega, ?_, ?_, w1, hW1 w F1 _ ?_⟩
                  · have : ds1.length ≤ sizeLine := line5 hk.2.2
                    omega
                  · rw [hl]
                    exact seqIndex_of hk.1 hk.2.1
                  · have Sm := S4.mut La Sa e1 ho1 h1 (H' := upd H1 p (.lst (ws1.eraseIdx k.toNat))) (c' := .lst (ds1.eraseIdx k.toNat)) (fun a ha => upd_ne ha) ⟨_, upd_same, dpAll_erase _ g4⟩
                    exact S4.result (s := .fr dd) Sm (.refl Sm.fh) w2
                · exact hW1.elim
              · exact hW1.elim
            · exact hW1.elim
          · exact hW1.elim
end
end DL

namespace DL
open PySem PySem.Spec PyProof.Rows L2

section
variable {K : PySem.W.Frag} {mg : Str → Option Value} {E : XW} {W : Wd} {F0 B F H F' H' : Hp} {σ tv us vs : L2.St} {ρ ρ' tr ss : Evn} {v : V} {d : D} {s : Sl} {c c' : Cn} {p : Addr} {i : Nat} {α β : Type}

/-! ### what is walked -/
def Walks (K : PySem.W.Frag) (F : Hp) (J : It) (ds : List D) : Prop :=
  ∀ (i : Nat) (F1 H1 : Hp), Same F F1 → Same F1 H1 → (∀ d, ds[i]? = some d → J.go i H1 ∧ ∀ x H', J.yld i H1 x H' → ∃ F2, Grow F1 H1 F2 H' ∧ Dt K F2 x d) ∧ (ds.length ≤ i → J.stop i H1)
theorem Walks.mono {J : It} {ds : List D} (e : Same F F') (h : Walks K F J ds) : Walks K F' J ds := fun i F1 H1 a b => h i F1 H1 (e.trans a) b
def TIJ (K : PySem.W.Frag) (mg : Str → Option Value) (E : XW) (wi : TI) (f : Evn → Res (List D)) : Prop :=
  ∀ (W : Wd) (F H : Hp) (σ tv : L2.St) (ρ tr : Evn) (R : It → Hp → Prop), Ln W σ tv ρ tr → S4 K W F H σ tv ρ tr →
    Wants (Fly K mg E W σ tv tr) (fun ds ρ' => ∀ J F' H', S4 K W F' H' σ tv ρ' tr → Walks K F' J ds → R J H') (f ρ) → wi σ H R
def asL (ρ : Evn) : Sl → Res (List D)
  | .fr (.list ds) => .ok ds ρ
  | _ => .bad
def asT (ρ : Evn) : Sl → Res (List D)
  | .fr (.tuple ds) => .ok ds ρ
  | _ => .bad
theorem asL_ok {Fl : Str → D → Evn → Prop} {P : List D → Evn → Prop} (h : Wants Fl P (asL ρ s)) : ∃ ds, s = .fr (.list ds) ∧ P ds ρ := by
  cases s with
  | fr d => cases d <;> first | exact ⟨_, rfl, h⟩ | exact h.elim
  | ow _ => exact h.elim
  | io _ _ => exact h.elim
  | br _ => exact h.elim
theorem asT_ok {Fl : Str → D → Evn → Prop} {P : List D → Evn → Prop} (h : Wants Fl P (asT ρ s)) : ∃ ds, s = .fr (.tuple ds) ∧ P ds ρ := by
  cases s with
  | fr d => cases d <;> first | exact ⟨_, rfl, h⟩ | exact h.elim
  | ow _ => exact h.elim
  | io _ _ => exact h.elim
  | br _ => exact h.elim
def fIterL (f : Evn → Res Sl) (ρ : Evn) : Res (List D) := (fFz f ρ).bind fun s ρ1 => asL ρ1 s
def fIterT (f : Evn → Res Sl) (ρ : Evn) : Res (List D) := (fFz f ρ).bind fun s ρ1 => asT ρ1 s
theorem walks_list {ds : List D} {a : Addr} {vs : List V} (hs : SqL K F a vs) (ha : DtAll K F vs ds) : Walks K F (Itl K a) ds := by
  intro i F1 H1 e1 e2
  have h1 : SqL K H1 a vs := (e1.trans e2).seq hs
  have uniq : ∀ {ys : List V}, True := trivial
  refine ⟨fun d hd => ?_, fun hi => ⟨vs, h1, by rw [dpAll_len ha]; exact hi⟩⟩
  obtain ⟨x, hx, hdx⟩ := dpAll_get ha hd
  refine ⟨⟨vs, x, h1, hx⟩, fun y H' hy => ?_⟩
  obtain ⟨rfl, hy⟩ := hy
  have := hy vs h1
  rw [hx] at this
  cases this
  exact ⟨F1, .refl e2, dp_mono e1 _ _ hdx⟩
theorem walks_tup {ds : List D} {a : Addr} {vs : List V} (hs : SqT K F a vs) (ha : DtAll K F vs ds) : Walks K F (Itt K a) ds := by
  intro i F1 H1 e1 e2
  have h1 : SqT K H1 a vs := same_sqT (e1.trans e2) hs
  refine ⟨fun d hd => ?_, fun hi => ⟨vs, h1, by rw [dpAll_len ha]; exact hi⟩⟩
  obtain ⟨x, hx, hdx⟩ := dpAll_get ha hd
  refine ⟨⟨vs, x, h1, hx⟩, fun y H' hy => ?_⟩
  obtain ⟨rfl, hy⟩ := hy
  have := hy vs h1
  rw [hx] at this
  cases this
  exact ⟨F1, .refl e2, dp_mono e1 _ _ hdx⟩
theorem tij_list {te : TE} {f : Evn → Res Sl} (h : TJ K mg E te f) : TIJ K mg E (iList K te) (fIterL f) := by
  intro W F H σ tv ρ tr R L S hW
  refine (tj_fz h).run L S (fun _ _ _ h => h) hW fun s ρ1 x F1 H1 L1 S1 hW1 => ?_
  obtain ⟨ds, rfl, hW1⟩ := asL_ok hW1
  have hd := S4.top_fr L1 S1
  have Sa := S4.cut L1 S1 (by simp)
  cases hd with
  | lst hs ha => exact ⟨_, rfl, ⟨_, .of (Sa.fh _ _ hs)⟩, hW1 _ F1 H1 Sa (walks_list (.of hs) ha)⟩
theorem tij_tup {te : TE} {f : Evn → Res Sl} (h : TJ K mg E te f) : TIJ K mg E (iTup K te) (fIterT f) := by
  intro W F H σ tv ρ tr R L S hW
  refine (tj_fz h).run L S (fun _ _ _ h => h) hW fun s ρ1 x F1 H1 L1 S1 hW1 => ?_
  obtain ⟨ds, rfl, hW1⟩ := asT_ok hW1
  have hd := S4.top_fr L1 S1
  have Sa := S4.cut L1 S1 (by simp)
  cases hd with
  | tup hs ha => exact ⟨_, rfl, ⟨_, same_sqT Sa.fh hs⟩, hW1 _ F1 H1 Sa (walks_tup hs ha)⟩
def rng (lo : Int) (n : Nat) : List D := (List.range n).map fun (k : Nat) => PyData.int (lo + k)
theorem walks_range {lo : Int} {n : Nat} : Walks K F (Itr lo n) (rng lo n) := by
  intro i F1 H1 e1 e2
  refine ⟨fun d hd => ?_, fun hi => ?_⟩
  · unfold rng at hd
    rw [List.getElem?_map] at hd
    cases e : (List.range n)[i]? with
    | none => rw [e] at hd; cases hd
    | some k =>
      rw [e] at hd
      have hi : i < n := by
        have := (List.getElem?_eq_some_iff.mp e).1
        simpa using this
      rw [List.getElem?_range hi] at e
      cases e
      cases hd
      refine ⟨hi, fun y H' hy => ?_⟩
      obtain ⟨rfl, rfl⟩ := hy
      exact ⟨F1, .refl e2, .int _⟩
  · unfold rng at hi
    have hi : n ≤ i := by simpa using hi
    exact hi
def fRange1 (f : Evn → Res (List Sl)) (ρ : Evn) : Res (List D) := (f ρ).bind fun ss ρ1 => match rds ρ1 ss with
  | some [.int n] => if n ≤ 1000000 ∧ -1000000 ≤ n then .ok (rng 0 n.toNat) ρ1 else .bad
  | _ => .bad
theorem tij_range1 {ta : TA} {f : Evn → Res (List Sl)} (h : TAJ K mg E ta f) : TIJ K mg E (iRng1 ta) (fRange1 f) := by
  intro W F H σ tv ρ tr R L S hW
  refine h.run L S (fun _ _ _ h => h) hW fun ss ρ1 vs F1 H1 hl L1 S1 hW1 => ?_
  have La := L1.cut (by simp [hl])
  have Sa := S4.cut L1 S1 (by simp [hl])
  split at hW1
  · rename_i n e
    split at hW1
    · rename_i hn
      have hd := S4.reads La S1 hl e
      cases hd with
      | cons r t =>
        cases t
        rw [RepC.int r]
        refine ⟨n, rfl, by omega, by omega, hW1 _ F1 H1 Sa ?_⟩
        exact walks_range
    · exact hW1.elim
  · exact hW1.elim
def fRange2 (f : Evn → Res (List Sl)) (ρ : Evn) : Res (List D) := (f ρ).bind fun ss ρ1 => match rds ρ1 ss with
  | some [.int m, .int n] => if n ≤ 1000000 ∧ -1000000 ≤ n ∧ m ≤ 1000000 ∧ -1000000 ≤ m then .ok (rng m (n - m).toNat) ρ1 else .bad
  | _ => .bad
theorem tij_range2 {ta : TA} {f : Evn → Res (List Sl)} (h : TAJ K mg E ta f) : TIJ K mg E (iRng2 ta) (fRange2 f) := by
  intro W F H σ tv ρ tr R L S hW
  refine h.run L S (fun _ _ _ h => h) hW fun ss ρ1 vs F1 H1 hl L1 S1 hW1 => ?_
  have La := L1.cut (by simp [hl])
  have Sa := S4.cut L1 S1 (by simp [hl])
  split at hW1
  · rename_i m n e
    split at hW1
    · rename_i hn
      have hd := S4.reads La S1 hl e
      cases hd with
      | cons r t =>
        cases t with
        | cons r2 t =>
          cases t
          rw [RepC.int r, RepC.int r2]
          refine ⟨m, n, rfl, ⟨by omega, by omega, by omega, by omega⟩, hW1 _ F1 H1 Sa ?_⟩
          exact walks_range
    · exact hW1.elim
  · exact hW1.elim

/-! ### targets -/
theorem S4.set_fr (L : Ln W σ tv ρ tr) (S : S4 K W F H σ tv ρ tr) (h : Dt K F v d) (hi : i < ρ.length) : S4 K W F H (σ.set i (some v)) tv (ρ.set i (some (.fr d))) tr := by
  have := SR.set_fr S h (i := i) (by rw [← L.r]; exact hi)
  rw [List.set_append_left _ _ hi, List.set_append_left _ _ (by rw [L.s, ← L.r]; exact hi)] at this
  exact this
def TGJ (K : PySem.W.Frag) (g : TG) (is : List Nat) (f : D → Evn → Option Evn) : Prop :=
  ∀ (W : Wd) (F H : Hp) (σ tv : L2.St) (ρ tr : Evn) (x : V) (d : D) (ρ' : Evn) (Q : L2.St → Hp → Prop), Ln W σ tv ρ tr → S4 K W F H σ tv ρ tr → Dt K F x d → f d ρ = some ρ' →
    (∀ σ', (∀ k, k ∉ is → σ'[k]? = σ[k]?) → Ln W σ' tv ρ' tr → S4 K W F H σ' tv ρ' tr → Q σ' H) → g x σ H Q
def TGsJ (K : PySem.W.Frag) (g : TGs) (is : List Nat) (f : List D → Evn → Option Evn) : Prop :=
  ∀ (W : Wd) (F H : Hp) (σ tv : L2.St) (ρ tr : Evn) (xs : List V) (ds : List D) (ρ' : Evn) (Q : L2.St → Hp → Prop), Ln W σ tv ρ tr → S4 K W F H σ tv ρ tr → DtAll K F xs ds → f ds ρ = some ρ' →
    (∀ σ', (∀ k, k ∉ is → σ'[k]? = σ[k]?) → Ln W σ' tv ρ' tr → S4 K W F H σ' tv ρ' tr → Q σ' H) → g xs σ H Q
def gNm (i : Nat) (d : D) (ρ : Evn) : Option Evn := if i < ρ.length then some (ρ.set i (some (.fr d))) else none
theorem tgj_name (i : Nat) : TGJ K (gName i) [i] (gNm i) := by
  intro W F H σ tv ρ tr x d ρ' Q L S hx hf q
  unfold gNm at hf
  split at hf
  · rename_i hi
    cases hf
    refine q _ (fun k hk => List.getElem?_set_ne fun z => hk (by simp [z])) ⟨by simp [L.s], by simp [L.r], L.t⟩ (S4.set_fr L S hx hi)
  · cases hf
def gNilF (ds : List D) (ρ : Evn) : Option Evn := match ds with
  | [] => some ρ
  | _ => none
theorem tgsj_nil : TGsJ K gNil [] gNilF := by
  intro W F H σ tv ρ tr xs ds ρ' Q L S hx hf q
  unfold gNilF at hf
  cases hx with
  | nil => cases hf; exact ⟨rfl, q σ (fun _ _ => rfl) L S⟩
  | cons _ _ => cases hf
def gConsF (f : D → Evn → Option Evn) (g : List D → Evn → Option Evn) (ds : List D) (ρ : Evn) : Option Evn := match ds with
  | d :: r => match f d ρ with
    | some ρ1 => g r ρ1
    | none => none
  | [] => none
theorem tgsj_cons {g : TG} {gs : TGs} {is js : List Nat} {f : D → Evn → Option Evn} {fs : List D → Evn → Option Evn} (h1 : TGJ K g is f) (h2 : TGsJ K gs js fs) : TGsJ K (gCons g gs) (is ++ js) (gConsF f fs) := by
  intro W F H σ tv ρ tr xs ds ρ' Q L S hx hf q
  unfold gConsF at hf
  cases hx with
  | nil => cases hf
  | cons hx ht =>
    rename_i v vs d ds
    simp only at hf
    split at hf
    · rename_i ρ1 e
      refine ⟨v, vs, rfl, h1 W F H σ tv ρ tr v d ρ1 _ L S hx e fun σ1 k1 L1 S1 => ?_⟩
      exact h2 W F H σ1 tv ρ1 tr vs ds ρ' _ L1 S1 ht hf fun σ2 k2 L2 S2 => q σ2 (fun k hk => by
        simp only [List.mem_append, not_or] at hk
        rw [k2 k hk.2, k1 k hk.1]) L2 S2
    · cases hf
def gTupF (n : Nat) (g : List D → Evn → Option Evn) (d : D) (ρ : Evn) : Option Evn := match d with
  | .tuple ds => if ds.length = n then g ds ρ else none
  | _ => none
theorem tgj_tup {gs : TGs} {is : List Nat} {n : Nat} {fs : List D → Evn → Option Evn} (h : TGsJ K gs is fs) : TGJ K (gTup K n gs) is (gTupF n fs) := by
  intro W F H σ tv ρ tr x d ρ' Q L S hx hf q
  unfold gTupF at hf
  split at hf
  · rename_i ds
    split at hf
    · rename_i hn
      cases hx with
      | tup hs ha => exact ⟨_, _, rfl, same_sqT S.fh hs, by rw [dpAll_len ha]; exact hn, h W F H σ tv ρ tr _ ds ρ' Q L S ha hf q⟩
    · cases hf
  · cases hf

/-! ### statements -/
inductive Fl where
  | nx | bk | ct | rt (s : Sl)
def FlyS (K : PySem.W.Frag) (mg : Str → Option Value) (E : XW) (W : Wd) (c : Str) (d : D) (ρ' : Evn) : Prop :=
  ∀ C dx v F' H' σ', σ'.length = W.N → mg c = some (Value.ref C) → H' dx = some (.xd [("what", v)]) → Dt K F' v d → S4 K W F' H' σ' [] ρ' [] → E σ' (.ref C) (some dx) H'
theorem FlyS.fly (L : Ln W σ [] ρ []) {c : Str} (h : FlyS K mg E W c d ρ') : Fly K mg E W σ [] [] c d ρ' := fun C dx v F' H' h1 h2 h3 h4 => h C dx v F' H' σ L.s h1 h2 h3 h4
def EndsOk (K : PySem.W.Frag) (W : Wd) (D : Ends) : Fl → Evn → Prop
  | .nx, ρ' => ∀ σ' F' H', Ln W σ' [] ρ' [] → S4 K W F' H' σ' [] ρ' [] → D.nx σ' H'
  | .bk, ρ' => ∀ σ' F' H', Ln W σ' [] ρ' [] → S4 K W F' H' σ' [] ρ' [] → D.bk σ' H'
  | .ct, ρ' => ∀ σ' F' H', Ln W σ' [] ρ' [] → S4 K W F' H' σ' [] ρ' [] → D.ct σ' H'
  | .rt s, ρ' => ∀ v σ' F' H', Ln W σ' [some v] ρ' [some s] → S4 K W F' H' σ' [some v] ρ' [some s] → D.rt v H'
def TSJ (K : PySem.W.Frag) (mg : Str → Option Value) (E : XW) (t : TS) (f : Evn → Res Fl) : Prop :=
  ∀ (W : Wd) (F H : Hp) (σ : L2.St) (ρ : Evn) (D : Ends), Ln W σ [] ρ [] → S4 K W F H σ [] ρ [] → Wants (FlyS K mg E W) (EndsOk K W D) (f ρ) → t D σ H
def fNext (ρ : Evn) : Res Fl := .ok .nx ρ
theorem tsj_next : TSJ K mg E tNext fNext := fun W F H σ ρ D L S hW => hW σ F H L S
def fSeq (f g : Evn → Res Fl) (ρ : Evn) : Res Fl := (f ρ).bind fun fl ρ1 => match fl with
  | .nx => g ρ1
  | .bk => .ok .bk ρ1
  | .ct => .ok .ct ρ1
  | .rt s => .ok (.rt s) ρ1
theorem tsj_seq {t u : TS} {f g : Evn → Res Fl} (h1 : TSJ K mg E t f) (h2 : TSJ K mg E u g) : TSJ K mg E (tSeq t u) (fSeq f g) := by
  intro W F H σ ρ D L S hW
  refine h1 W F H σ ρ _ L S ?_
  unfold fSeq at hW
  cases e : f ρ with
  | bad => rw [e] at hW; exact hW
  | exc c d ρ' => rw [e] at hW; exact hW
  | ok fl ρ1 =>
    rw [e] at hW
    cases fl with
    | nx => exact fun σ' F' H' L' S' => h2 W F' H' σ' ρ1 D L' S' hW
    | bk => exact hW
    | ct => exact hW
    | rt s => exact hW
def fDrop (f : Evn → Res Sl) (ρ : Evn) : Res Fl := (f ρ).bind fun _ ρ1 => .ok .nx ρ1
theorem tsj_drop {te : TE} {f : Evn → Res Sl} (h : TJ K mg E te f) : TSJ K mg E (tDrop te) (fDrop f) := by
  intro W F H σ ρ D L S hW
  refine h.run L S (fun _ _ _ h => h.fly L) hW fun s ρ1 x F1 H1 L1 S1 hW1 => ?_
  exact hW1 σ F1 H1 (L1.cut (tv := []) (tr := []) (us := [some x]) (ss := [some s]) (by simp)) (S4.cut (tv := []) (tr := []) L1 S1 (by simp))
def fRet (f : Evn → Res Sl) (ρ : Evn) : Res Fl := (f ρ).bind fun s ρ1 => .ok (.rt s) ρ1
theorem tsj_ret {te : TE} {f : Evn → Res Sl} (h : TJ K mg E te f) : TSJ K mg E (tRet te) (fRet f) := by
  intro W F H σ ρ D L S hW
  exact h.run L S (fun _ _ _ h => h.fly L) hW fun s ρ1 x F1 H1 L1 S1 hW1 => hW1 x σ F1 H1 L1 S1
def fRetN (ρ : Evn) : Res Fl := .ok (.rt (.fr .none)) ρ
theorem tsj_retN : TSJ K mg E tRetN fRetN := fun W F H σ ρ D L S hW => hW .non σ F H ⟨L.s, L.r, rfl⟩ (S4.push_non S)
def fIfS (c : Evn → Res Bool) (f g : Evn → Res Fl) (ρ : Evn) : Res Fl := (c ρ).bind fun b ρ1 => if b then f ρ1 else g ρ1
theorem tsj_if {tc : TT} {t u : TS} {c : Evn → Res Bool} {f g : Evn → Res Fl} (hc : TTJ K mg E tc c) (h1 : TSJ K mg E t f) (h2 : TSJ K mg E u g) : TSJ K mg E (tIfS tc t u) (fIfS c f g) := by
  intro W F H σ ρ D L S hW
  refine hc.run L S (fun _ _ _ h => h.fly L) hW fun b ρ1 F1 H1 L1 S1 hW1 => ?_
  cases b with
  | true => exact h1 W F1 H1 σ ρ1 D L1 S1 hW1
  | false => exact h2 W F1 H1 σ ρ1 D L1 S1 hW1
def fBrk (ρ : Evn) : Res Fl := .ok .bk ρ
def fCt (ρ : Evn) : Res Fl := .ok .ct ρ
theorem tsj_break : TSJ K mg E tBreak fBrk := fun W F H σ ρ D L S hW => hW σ F H L S
theorem tsj_cont : TSJ K mg E tCont fCt := fun W F H σ ρ D L S hW => hW σ F H L S
theorem Ln.set (L : Ln W σ tv ρ tr) {x : Option V} {y : Option Sl} : Ln W (σ.set i x) tv (ρ.set i y) tr := ⟨by simp [L.s], by simp [L.r], L.t⟩
/-- a slot is given what is made: frozen, or held alone -/
def put1 (i : Nat) (ρ : Evn) : Sl → Res Fl
  | .fr d => if i < ρ.length then .ok .nx (ρ.set i (some (.fr d))) else .bad
  | .ow c => if i < ρ.length then .ok .nx (ρ.set i (some (.ow c))) else .bad
  | .br j => match frz ρ (.br j) with
    | some (d, ρ1) => if i < ρ1.length then .ok .nx (ρ1.set i (some (.fr d))) else .bad
    | none => .bad
  | .io _ _ => .bad
def fAsg (i : Nat) (f : Evn → Res Sl) (ρ : Evn) : Res Fl := (f ρ).bind fun s ρ1 => put1 i ρ1 s
theorem S4.nobr (L : Ln W σ [] ρ []) (S : S4 K W F H σ [] ρ []) : ∀ (k j : Nat), ρ[k]? ≠ some (some (Sl.br j)) := fun k j e => by
  have hk := (List.getElem?_eq_some_iff.mp e).1
  have h := (S.br k j (by rw [List.append_nil]; exact e)).1
  have := L.r
  omega
theorem put1_ok {D : Ends} {Fl : Str → PyData → Evn → Prop} (L : Ln W σ [some v] ρ [some s]) (S : S4 K W F H σ [some v] ρ [some s]) (h : Wants Fl (EndsOk K W D) (put1 i ρ s)) : D.nx (σ.set i (some v)) H := by
  have La : Ln W σ [] ρ [] := L.cut (tv := []) (tr := []) (us := [some v]) (ss := [some s]) (by simp)
  have Sa : S4 K W F H σ [] ρ [] := S4.cut (tv := []) (tr := []) L S (by simp)
  unfold put1 at h
  split at h
  · rename_i d
    split at h
    · rename_i hi
      exact h _ F H La.set (S4.set_fr La Sa (S4.top_fr (tv := []) (tr := []) L S) hi)
    · exact h.elim
  · rename_i c
    split at h
    · rename_i hi
      refine h _ F H La.set ?_
      have := SR.set_ow S (i := i) (by have := L.r; omega) (by rw [← L.r]; exact hi) (S4.nobr La Sa)
      show SR _ _ _ _ _ _ _ (_ ++ []) (_ ++ [])
      rw [List.append_nil, List.append_nil]
      exact this
    · exact h.elim
  · rename_i j
    split at h
    · rename_i d ρ1 e
      split at h
      · rename_i hi
        obtain ⟨F', _, S'⟩ := S4.frz (tv := []) (tr := []) La S e
        have L' : Ln W σ [some v] ρ1 [some (.fr d)] := L.next S' (by simp)
        have Lb : Ln W σ [] ρ1 [] := L'.cut (tv := []) (tr := []) (us := [some v]) (ss := [some (.fr d)]) (by simp)
        exact h _ F' H Lb.set (S4.set_fr Lb (S4.cut (tv := []) (tr := []) L' S' (by simp)) (S4.top_fr (tv := []) (tr := []) L' S') hi)
      · exact h.elim
    · exact h.elim
  · exact h.elim
theorem tsj_asg {te : TE} {f : Evn → Res Sl} (h : TJ K mg E te f) : TSJ K mg E (tAsg te (gName i)) (fAsg i f) := by
  intro W F H σ ρ D L S hW
  refine h.run L S (fun _ _ _ h => h.fly L) hW fun s ρ1 x F1 H1 L1 S1 hW1 => ?_
  exact put1_ok L1 S1 hW1
/-- (a, b, ..) = e, e a tuple of frozen data -/
def fUnp (g : D → Evn → Option Evn) (f : Evn → Res Sl) (ρ : Evn) : Res Fl := (fFz f ρ).bind fun s ρ1 => match s with
  | .fr d => match g d ρ1 with
    | some ρ2 => .ok .nx ρ2
    | none => .bad
  | _ => .bad
theorem tsj_unp {te : TE} {g : TG} {is : List Nat} {gf : D → Evn → Option Evn} {f : Evn → Res Sl} (h : TJ K mg E te f) (hg : TGJ K g is gf) : TSJ K mg E (tAsg te g) (fUnp gf f) := by
  intro W F H σ ρ D L S hW
  refine (tj_fz h).run L S (fun _ _ _ h => h.fly L) hW fun s ρ1 x F1 H1 L1 S1 hW1 => ?_
  split at hW1
  · rename_i d
    split at hW1
    · rename_i ρ2 e
      have La : Ln W σ [] ρ1 [] := L1.cut (tv := []) (tr := []) (us := [some x]) (ss := [some (.fr d)]) (by simp)
      exact hg W F1 H1 σ [] ρ1 [] x d ρ2 _ La (S4.cut (tv := []) (tr := []) L1 S1 (by simp)) (S4.top_fr (tv := []) (tr := []) L1 S1) e fun σ' _ L' S' => hW1 σ' F1 H1 L' S'
    · exact hW1.elim
  · exact hW1.elim
/-- x op= e, x frozen -/
def fAug (i : Nat) (op : D → D → Option Sl) (f : Evn → Res Sl) (ρ : Evn) : Res Fl := match ρ[i]? with
  | some (some (.fr d0)) => (f ρ).bind fun s ρ1 => match rd ρ1 s with
    | some d1 => match op d0 d1 with
      | some (.fr d2) => if i < ρ1.length then .ok .nx (ρ1.set i (some (.fr d2))) else .bad
      | _ => .bad
    | none => .bad
  | _ => .bad
theorem tsj_aug {te : TE} {ti : TIp} {f : Evn → Res Sl} {op : D → D → Option Sl} (hr : VR2 K ti op) (h : TJ K mg E te f) : TSJ K mg E (tAug i te ti) (fAug i op f) := by
  intro W F H σ ρ D L S hW
  unfold fAug at hW
  split at hW
  · rename_i d0 e0
    have hi := (List.getElem?_eq_some_iff.mp e0).1
    obtain ⟨x, h1, h2⟩ := S.fr i d0 (by rw [List.append_nil]; exact e0)
    rw [List.append_nil] at h1
    refine ⟨x, h1, ?_⟩
    have Sx : S4 K W F H σ [some x] ρ [some (.fr d0)] := S4.result (tv := []) (tr := []) (s := .fr d0) S (.refl S.fh) h2
    have Lx : Ln W σ [some x] ρ [some (.fr d0)] := ⟨L.s, L.r, rfl⟩
    refine h.run Lx Sx (fun _ _ _ h => (h.fly L).push L (us := [some x]) (ss := [some (Sl.fr d0)]) (by simp)) hW fun s ρ1 y F1 H1 L1 S1 hW1 => ?_
    split at hW1
    · rename_i d1 e1
      split at hW1
      · rename_i d2 e2
        split at hW1
        · rename_i hi1
          have Lb : Ln W σ [some x] ρ1 [some (Sl.fr d0)] := L1.cut (tv := [some x]) (tr := [some (Sl.fr d0)]) (by simp)
          have Sb : S4 K W F1 H1 σ [some x] ρ1 [some (Sl.fr d0)] := S4.cut L1 S1 (by simp)
          have La : Ln W σ [] ρ1 [] := Lb.cut (tv := []) (tr := []) (us := [some x]) (ss := [some (Sl.fr d0)]) (by simp)
          have Sa : S4 K W F1 H1 σ [] ρ1 [] := S4.cut (tv := []) (tr := []) Lb Sb (by simp)
          have r1 : RepC K F1 H1 y d1 := S4.read Lb (us := []) (ss := []) (by simpa using S1) e1
          refine hr F1 H1 x y d0 d1 _ _ Sa.fh (.inl (S4.top_fr (tv := []) (tr := []) Lb Sb)) r1 e2 fun z F2 H2 g ok => ?_
          exact hW1 _ F2 H2 La.set (S4.set_fr La (SR.grow Sa g) ok hi1)
        · exact hW1.elim
      · exact hW1.elim
    · exact hW1.elim
  · exact hW.elim
/-- xs[e] = x, xs held alone -/
def fSetAt (i : Nat) (f g : Evn → Res Sl) (ρ : Evn) : Res Fl := (fFz f ρ).bind fun s ρ1 => match ρ1[i]? with
  | some (some t) => match t.own with
    | some _ => (g ρ1).bind fun s2 ρ2 => match s, s2, ρ2[i]? with
      | .fr d, .fr (.int k), some (some t2) => match t2.own with
        | some (.lst ds) => if 0 ≤ k ∧ k < (ds.length : Int) then .ok .nx (ρ2.set i (some (t2.put (.lst (ds.set k.toNat d))))) else .bad
        | _ => .bad
      | _, _, _ => .bad
    | none => .bad
  | _ => .bad
theorem tsj_setAt {te tx : TE} {f g : Evn → Res Sl} (hf : TJ K mg E te f) (hg : TJ K mg E tx g) : TSJ K mg E (tAsg te (gSub (tVar i) tx rSetL)) (fSetAt i f g) := by
  intro W F H σ ρ D L S hW
  refine (tj_fz hf).run L S (fun _ _ _ h => h.fly L) hW fun s ρ1 x F1 H1 L1 S1 hW1 => ?_
  split at hW1
  · rename_i t e
    split at hW1
    · rename_i c ho
      obtain ⟨p, h1, _⟩ := S4.own_at L1 S1 e ho
      refine ⟨.ref p, h1, ?_⟩
      refine hg.run L1 S1 (fun _ _ _ h => (h.fly L).push L (us := [some x]) (ss := [some s]) (by simp)) hW1 fun s2 ρ2 y F2 H2 L2 S2 hW2 => ?_
      split at hW2
      · rename_i d k t2 e2
        split at hW2
        · rename_i ds ho2
          split at hW2
          · rename_i hk
            have Lb := L2.cut (tv := [some x]) (tr := [some (Sl.fr d)]) (us := [some y]) (ss := [some (Sl.fr (.int k))]) (by simp)
            have Sb : S4 K W F2 H2 σ [some x] ρ2 [some (Sl.fr d)] := S4.cut L2 S2 (by simp)
            have La : Ln W σ [] ρ2 [] := Lb.cut (tv := []) (tr := []) (us := [some x]) (ss := [some (Sl.fr d)]) (by simp)
            have Sa : S4 K W F2 H2 σ [] ρ2 [] := S4.cut (tv := []) (tr := []) Lb Sb (by simp)
            have hy : y = .int k := by
              cases S4.top_fr (tv := [some x]) (tr := [some (Sl.fr d)]) L2 S2
              rfl
            have hx := S4.top_fr (tv := []) (tr := []) Lb Sb
            obtain ⟨p2, g1, g2, ws, g3, g4⟩ := S4.own_at La Sa e2 ho2
            rw [h1] at g1
            cases g1
            have hl := dpAll_len g4
            refine ⟨p, ws, k, k.toNat, rfl, hy, g3, ?_, hW2 σ F2 _ ⟨La.s, by rw [List.length_set]; exact La.r, rfl⟩ ?_⟩
            · unfold ixN
              rw [if_pos hk.1, if_pos (by omega)]
            · exact S4.mut La Sa e2 ho2 h1 (fun a ha => upd_ne ha) ⟨_, upd_same, dpAll_set _ g4 hx⟩
          · exact hW2.elim
        · exact hW2.elim
      · exact hW2.elim
    · exact hW1.elim
  · exact hW1.elim
end
end DL

namespace DL
open PySem PySem.Spec PyProof.Rows L2

section
variable {K : PySem.W.Frag} {mg : Str → Option Value} {E : XW} {W : Wd} {F0 B F H F' H' : Hp} {σ tv us vs : L2.St} {ρ ρ' tr ss : Evn} {v : V} {d : D} {s : Sl} {c c' : Cn} {p : Addr} {i : Nat} {α β : Type}

/-! ### for -/
def fLoop (g : D → Evn → Option Evn) (f : Evn → Res Fl) : List D → Evn → Res Fl
  | [], ρ => .ok .nx ρ
  | d :: r, ρ => match g d ρ with
    | none => .bad
    | some ρ1 => (f ρ1).bind fun fl ρ2 => match fl with
      | .nx => fLoop g f r ρ2
      | .ct => fLoop g f r ρ2
      | .bk => .ok .nx ρ2
      | .rt s => .ok (.rt s) ρ2
def fFor (it : Evn → Res (List D)) (g : D → Evn → Option Evn) (f : Evn → Res Fl) (ρ : Evn) : Res Fl := (it ρ).bind fun ds ρ1 => fLoop g f ds ρ1
def Wd.rebase (W : Wd) (F : Hp) : Wd := { W with F0 := F }
theorem S4.rebase (S : S4 K W F H σ tv ρ tr) : S4 K (W.rebase F) F H σ tv ρ tr := SR.rebase S
theorem S4.unbase {F1 H1 : Hp} {σ1 tv1 : L2.St} {ρ1 tr1 : Evn} (S0 : S4 K W F1 H1 σ1 tv1 ρ1 tr1) (S : S4 K (W.rebase F1) F H σ tv ρ tr) : S4 K W F H σ tv ρ tr := SR.unbase S0 S
theorem tsj_for {wi : TI} {g : TG} {tb : TS} {it : Evn → Res (List D)} {is : List Nat} {gf : D → Evn → Option Evn} {f : Evn → Res Fl} (hi : TIJ K mg E wi it) (hg : TGJ K g is gf) (hb : TSJ K mg E tb f) : TSJ K mg E (tFor wi g tb) (fFor it gf f) := by
  intro W F H σ ρ D L S hW
  refine hi W F H σ [] ρ [] _ L S ?_
  unfold fFor at hW
  cases e : it ρ with
  | bad => rw [e] at hW; exact hW
  | exc c d ρ' => rw [e] at hW; exact hW.fly L
  | ok ds ρ1 =>
    rw [e] at hW
    have hW : Wants (FlyS K mg E W) (EndsOk K W D) (fLoop gf f ds ρ1) := hW
    intro J F1 H1 S1 walk
    refine ⟨fun i m σ' H' => m = ds.length - i ∧ i ≤ ds.length ∧ ∃ F2 ρ2, Ln W σ' [] ρ2 [] ∧ S4 K (W.rebase F1) F2 H' σ' [] ρ2 [] ∧ Wants (FlyS K mg E W) (EndsOk K W D) (fLoop gf f (ds.drop i) ρ2),
      ⟨ds.length, by omega, by omega, F1, ρ1, L.next S1 rfl, S1.rebase, by simpa using hW⟩, ?_⟩
    rintro i m σ2 H2 ⟨rfl, hle, F2, ρ2, L2, S2, hW2⟩
    have hw := walk i F2 H2 S2.f0 S2.fh
    by_cases hlt : i < ds.length
    · have ed : ds.drop i = ds[i] :: ds.drop (i + 1) := List.drop_eq_getElem_cons hlt
      rw [ed] at hW2
      obtain ⟨go, yld⟩ := hw.1 ds[i] (List.getElem?_eq_getElem hlt)
      refine .inr ⟨go, fun σ' H' => ∃ F3 ρ3, Ln W σ' [] ρ3 [] ∧ S4 K (W.rebase F1) F3 H' σ' [] ρ3 [] ∧ Wants (FlyS K mg E W) (EndsOk K W D) (fLoop gf f (ds.drop (i + 1)) ρ3),
        fun σ' H' ⟨F3, ρ3, h1, h2, h3⟩ => ⟨ds.length - (i + 1), by omega, rfl, hlt, F3, ρ3, h1, h2, h3⟩, fun x H' hy => ?_⟩
      obtain ⟨F3, gr, hx⟩ := yld x H' hy
      have S3 : S4 K (W.rebase F1) F3 H' σ2 [] ρ2 [] := SR.grow S2 gr
      unfold fLoop at hW2
      cases eg : gf ds[i] ρ2 with
      | none => rw [eg] at hW2; exact hW2.elim
      | some ρ3 =>
        rw [eg] at hW2
        refine hg (W.rebase F1) F3 H' σ2 [] ρ2 [] x ds[i] ρ3 _ ⟨L2.s, L2.r, L2.t⟩ S3 hx eg fun σ3 _ L3 S3' => ?_
        refine hb (W.rebase F1) F3 H' σ3 ρ3 _ L3 S3' ?_
        have hW2 : Wants (FlyS K mg E W) (EndsOk K W D) ((f ρ3).bind fun fl ρ2 => match fl with
          | .nx => fLoop gf f (ds.drop (i + 1)) ρ2
          | .ct => fLoop gf f (ds.drop (i + 1)) ρ2
          | .bk => .ok .nx ρ2
          | .rt s => .ok (.rt s) ρ2) := hW2
        have flyR : ∀ {c : Str} {d : PyData} {ρ' : Evn}, FlyS K mg E W c d ρ' → FlyS K mg E (W.rebase F1) c d ρ' := fun h C dx v F' H' σ' h1 h2 h3 h4 h5 => h C dx v F' H' σ' h1 h2 h3 h4 (S1.unbase h5)
        cases ef : f ρ3 with
        | bad => rw [ef] at hW2; exact hW2
        | exc c d ρ' => rw [ef] at hW2; exact flyR hW2
        | ok fl ρ4 =>
          rw [ef] at hW2
          cases fl with
          | nx => exact fun σ' F' H' L' S' => ⟨F', ρ4, ⟨L'.s, L'.r, L'.t⟩, S', hW2⟩
          | ct => exact fun σ' F' H' L' S' => ⟨F', ρ4, ⟨L'.s, L'.r, L'.t⟩, S', hW2⟩
          | bk => exact fun σ' F' H' L' S' => hW2 σ' F' H' ⟨L'.s, L'.r, L'.t⟩ (S1.unbase S')
          | rt s => exact fun v σ' F' H' L' S' => hW2 v σ' F' H' ⟨L'.s, L'.r, L'.t⟩ (S1.unbase S')
    · have ei : i = ds.length := by omega
      refine .inl ⟨hw.2 (by omega), ?_⟩
      rw [List.drop_eq_nil_of_le (by omega)] at hW2
      exact hW2 σ2 F2 H2 L2 (S1.unbase S2)

/-! ### while -/
def fWhile : Nat → (Evn → Res Bool) → (Evn → Res Fl) → Evn → Res Fl
  | 0, _, _, _ => .bad
  | n + 1, c, f, ρ => (c ρ).bind fun b ρ1 => if b then (f ρ1).bind fun fl ρ2 => match fl with
      | .nx => fWhile n c f ρ2
      | .ct => fWhile n c f ρ2
      | .bk => .ok .nx ρ2
      | .rt s => .ok (.rt s) ρ2
    else .ok .nx ρ1
theorem tsj_while {tc : TT} {tb : TS} {c : Evn → Res Bool} {f : Evn → Res Fl} (n : Nat) (hc : TTJ K mg E tc c) (hb : TSJ K mg E tb f) : TSJ K mg E (tWhile tc tb) (fWhile n c f) := by
  intro W F H σ ρ D L S hW
  refine ⟨fun m σ' H' => ∃ F2 ρ2, Ln W σ' [] ρ2 [] ∧ S4 K W F2 H' σ' [] ρ2 [] ∧ Wants (FlyS K mg E W) (EndsOk K W D) (fWhile m c f ρ2), ⟨n, F, ρ, L, S, hW⟩, ?_⟩
  rintro m σ2 H2 ⟨F2, ρ2, L2, S2, hW2⟩
  cases m with
  | zero => exact hW2.elim
  | succ m =>
    refine hc.run L2 S2 (fun _ _ _ h => h.fly L2) (show Wants (FlyS K mg E W) (EndsOk K W D) _ from hW2) fun b ρ3 F3 H3 L3 S3 hW3 => ?_
    cases b with
    | false => exact hW3 σ2 F3 H3 L3 S3
    | true =>
      refine ⟨fun σ' H' => ∃ F4 ρ4, Ln W σ' [] ρ4 [] ∧ S4 K W F4 H' σ' [] ρ4 [] ∧ Wants (FlyS K mg E W) (EndsOk K W D) (fWhile m c f ρ4), fun σ' H' h => ⟨m, by omega, h⟩, ?_⟩
      refine hb W F3 H3 σ2 ρ3 _ L3 S3 ?_
      have hW3 : Wants (FlyS K mg E W) (EndsOk K W D) ((f ρ3).bind fun fl ρ2 => match fl with
          | .nx => fWhile m c f ρ2
          | .ct => fWhile m c f ρ2
          | .bk => .ok .nx ρ2
          | .rt s => .ok (.rt s) ρ2) := hW3
      cases ef : f ρ3 with
      | bad => rw [ef] at hW3; exact hW3
      | exc c d ρ' => rw [ef] at hW3; exact hW3
      | ok fl ρ4 =>
        rw [ef] at hW3
        cases fl with
        | nx => exact fun σ' F' H' L' S' => ⟨F', ρ4, L', S', hW3⟩
        | ct => exact fun σ' F' H' L' S' => ⟨F', ρ4, L', S', hW3⟩
        | bk => exact hW3
        | rt s => exact hW3

/-! ### a list comprehension -/
def wipeE (ρ : Evn) : List Nat → Evn
  | [] => ρ
  | k :: ks => (wipeE ρ ks).set k none
theorem wipeE_len : ∀ (ks : List Nat), (wipeE ρ ks).length = ρ.length
  | [] => rfl
  | k :: ks => by unfold wipeE; rw [List.length_set, wipeE_len ks]
theorem S4.wipe (L : Ln W σ tv ρ tr) (S : S4 K W F H σ tv ρ tr) : ∀ (ks : List Nat), (∀ k ∈ ks, k < W.N) → S4 K W F H (wipe σ ks) tv (wipeE ρ ks) tr
  | [], _ => S
  | k :: ks, h => by
    have S' := S4.wipe L S ks fun j hj => h j (List.mem_cons_of_mem _ hj)
    have hk := h k List.mem_cons_self
    have := SR.forget S' (i := k)
    rw [List.set_append_left _ _ (by rw [wipe_length, L.s]; exact hk), List.set_append_left _ _ (by rw [wipeE_len, L.r]; exact hk)] at this
    exact this
theorem Ln.wipe (L : Ln W σ tv ρ tr) (ks : List Nat) : Ln W (wipe σ ks) tv (wipeE ρ ks) tr := ⟨by rw [wipe_length]; exact L.s, by rw [wipeE_len]; exact L.r, L.t⟩
/-- the block's own slots as they stood ahead of it -/
def backE (ρ ρw : Evn) : List Nat → Evn
  | [] => ρw
  | k :: ks => (backE ρ ρw ks).set k (match ρ[k]? with
    | some (some (.fr d)) => some (.fr d)
    | _ => none)
theorem backE_len {ρw : Evn} : ∀ (ks : List Nat), (backE ρ ρw ks).length = ρw.length
  | [] => rfl
  | k :: ks => by unfold backE; rw [List.length_set, backE_len ks]
def backS (σ σw : L2.St) : List Nat → L2.St
  | [] => σw
  | k :: ks => (backS σ σw ks).set k (σ[k]?.getD none)
theorem backS_len {σw : L2.St} : ∀ (ks : List Nat), (backS σ σw ks).length = σw.length
  | [] => rfl
  | k :: ks => by unfold backS; rw [List.length_set, backS_len ks]
theorem wipe_get {σ : L2.St} {j : Nat} : ∀ {ks : List Nat}, j ∉ ks → (wipe σ ks)[j]? = σ[j]?
  | [], _ => rfl
  | k :: ks, h => by
    simp only [List.mem_cons, not_or] at h
    unfold wipe
    rw [List.getElem?_set_ne fun z => h.1 z.symm]
    exact wipe_get h.2
theorem backS_eq {σ : L2.St} (ks : List Nat) (h : ∀ k ∈ ks, k < σ.length) : ∀ {js : List Nat}, (∀ k, k ∈ ks → k ∈ js ∨ False) → backS σ (wipe σ ks) js = σ := fun {js} hj => by
  have key : ∀ (js : List Nat) (j : Nat), (backS σ (wipe σ ks) js)[j]? = if j ∈ js then σ[j]? else (wipe σ ks)[j]? := by
    intro js
    induction js with
    | nil => intro j; simp [backS]
    | cons k js ih =>
      intro j
      unfold backS
      by_cases e : j = k
      · subst e
        by_cases hl : j < σ.length
        · rw [List.getElem?_set_self (by rw [backS_len, wipe_length]; exact hl)]
          simp [List.getElem?_eq_getElem hl]
        · rw [List.getElem?_eq_none (by rw [List.length_set, backS_len, wipe_length]; omega)]
          simp [List.getElem?_eq_none (Nat.le_of_not_lt hl)]
      · rw [List.getElem?_set_ne fun z => e z.symm, ih j]
        simp [e]
  apply List.ext_getElem?
  intro j
  rw [key js j]
  by_cases hm : j ∈ js
  · rw [if_pos hm]
  · rw [if_neg hm]
    exact wipe_get fun z => (hj j z).elim hm id
theorem S4.back {F1 H1 : Hp} {ρ1 tr1 : Evn} {tv1 σw : L2.St} {ρw : Evn} (L1 : Ln W σ tv1 ρ1 tr1) (S1 : S4 K W F1 H1 σ tv1 ρ1 tr1) (Lw : Ln W σw tv ρw tr) (S : S4 K (W.rebase F1) F H σw tv ρw tr) :
    ∀ (ks : List Nat), (∀ k ∈ ks, k < W.N) → S4 K (W.rebase F1) F H (backS σ σw ks) tv (backE ρ1 ρw ks) tr
  | [], _ => S
  | k :: ks, h => by
    have hk := h k List.mem_cons_self
    have S' := S4.back L1 S1 Lw S ks fun j hj => h j (List.mem_cons_of_mem _ hj)
    have L' : Ln (W.rebase F1) (backS σ σw ks) tv (backE ρ1 ρw ks) tr := ⟨by rw [backS_len]; exact Lw.s, by rw [backE_len]; exact Lw.r, Lw.t⟩
    unfold backS backE
    have lose : ∀ {x : Option V}, S4 K (W.rebase F1) F H ((backS σ σw ks).set k x) tv ((backE ρ1 ρw ks).set k none) tr := fun {x} => by
      have S0 := SR.forget S' (i := k)
      rw [List.set_append_left _ _ (by rw [backS_len, Lw.s]; exact hk), List.set_append_left _ _ (by rw [backE_len, Lw.r]; exact hk)] at S0
      have lt : k < (backS σ σw ks).length := by rw [backS_len, Lw.s]; exact hk
      have hole : ∀ (t : Option Sl), (((backE ρ1 ρw ks).set k none) ++ tr)[k]? = some t → t = none := fun t e => by
        rw [List.getElem?_append_left (by rw [List.length_set, backE_len, Lw.r]; exact hk), List.getElem?_set_self (by rw [backE_len, Lw.r]; exact hk)] at e
        exact (Option.some.inj e).symm
      have eqσ : ∀ {j : Nat}, j ≠ k → (((backS σ σw ks).set k x) ++ tv)[j]? = (((backS σ σw ks).set k none) ++ tv)[j]? := fun {j} hj => by
        by_cases hl : j < (backS σ σw ks).length
        · rw [List.getElem?_append_left (by simpa using hl), List.getElem?_append_left (by simpa using hl), List.getElem?_set_ne (Ne.symm hj), List.getElem?_set_ne (Ne.symm hj)]
        · rw [List.getElem?_append_right (by simpa using hl), List.getElem?_append_right (by simpa using hl)]
          simp
      have ne : ∀ {j : Nat} {t : Sl}, (((backE ρ1 ρw ks).set k none) ++ tr)[j]? = some (some t) → j ≠ k := fun {j t} e z => by
        subst z
        exact nomatch hole _ e
      refine ⟨by simp [backS_len, backE_len, Lw.s, Lw.r, Lw.t], S0.fh, S0.f0, S0.fn, S0.bh, S0.bs, fun j d e => ?_, fun j c e => ?_, fun j q c e => ?_, fun j q e => ?_, fun j q a b pp e1 e2 o1 o2 e3 e4 => ?_⟩
      · rw [eqσ (ne e)]; exact S0.fr j d e
      · rw [eqσ (ne e)]; exact S0.ow j c e
      · rw [eqσ (ne e)]; exact S0.io j q c e
      · obtain ⟨q1, q2, q3⟩ := S0.br j q e
        refine ⟨q1, q2, fun t et ot => ?_⟩
        rw [eqσ (ne e), eqσ (ne et)]; exact q3 t et ot
      · rw [eqσ (ne e1)] at e3
        rw [eqσ (ne e2)] at e4
        exact S0.sep j q a b pp e1 e2 o1 o2 e3 e4
    cases e : ρ1[k]? with
    | none => exact lose
    | some o =>
      cases o with
      | none => exact lose
      | some t =>
        cases t with
        | ow c => exact lose
        | io j c => exact lose
        | br j => exact lose
        | fr d =>
          obtain ⟨v, h1, h2⟩ := S1.fr k d (by rw [List.getElem?_append_left (List.getElem?_eq_some_iff.mp e).1]; exact e)
          rw [List.getElem?_append_left (by rw [L1.s]; exact hk)] at h1
          rw [h1]
          exact S4.set_fr L' S' (dp_mono S.f0 _ _ h2) (by rw [backE_len, Lw.r]; exact hk)

/-- the turns: the target, the test, the element (frozen) -/
def fTurns (ks : List Nat) (g : D → Evn → Option Evn) (c : Evn → Res Bool) (f : Evn → Res Sl) : List D → List D → Evn → Res (List D)
  | [], acc, ρ => .ok acc ρ
  | d :: r, acc, ρ => match g d ρ with
    | none => .bad
    | some ρ1 => (c ρ1).bind fun b ρ2 => if b then (fFz f ρ2).bind fun s ρ3 => match s with
        | .fr x => fTurns ks g c f r (acc ++ [x]) (wipeE ρ3 ks)
        | _ => .bad
      else fTurns ks g c f r acc (wipeE ρ2 ks)
def noExc (r : Res α) : Res α := match r with
  | .ok a ρ => .ok a ρ
  | _ => .bad
theorem Res.bind_assoc {γ : Type} (r : Res α) (k : α → Evn → Res β) (l : β → Evn → Res γ) : (r.bind k).bind l = r.bind fun a ρ => (k a ρ).bind l := by cases r <;> rfl
theorem wants_noExc {Fl Fl' : Str → D → Evn → Prop} {P : β → Evn → Prop} {r : Res α} {k : α → Evn → β} {e : α → Evn → Evn} (h : Wants Fl P ((noExc r).bind fun a ρ => .ok (k a ρ) (e a ρ))) : Wants Fl' P (r.bind fun a ρ => .ok (k a ρ) (e a ρ)) := by
  cases r with
  | ok a ρ => exact h
  | exc c d ρ => exact h.elim
  | bad => exact h.elim
def fLc (ks : List Nat) (it : Evn → Res (List D)) (g : D → Evn → Option Evn) (c : Evn → Res Bool) (f : Evn → Res Sl) (ρ : Evn) : Res Sl :=
  (it ρ).bind fun ds ρ1 => if ds.length ≤ 100000 ∧ ∀ k ∈ ks, k < ρ1.length then (noExc (fTurns ks g c f ds [] (wipeE ρ1 ks))).bind fun xs ρ2 => Res.ok (Sl.ow (.lst xs)) (backE ρ1 ρ2 ks) else .bad
theorem SR.mutTop {ds es : List D} {ws : List V} (L : Ln W σ (tv ++ [some (.ref p)]) ρ (tr ++ [some (.ow (.lst ds))])) (S : S4 K W F H σ (tv ++ [some (.ref p)]) ρ (tr ++ [some (.ow (.lst ds))])) (hw : DtAll K F ws es) :
    S4 K W F (upd H p (.lst ws)) σ (tv ++ [some (.ref p)]) ρ (tr ++ [some (.ow (.lst es))]) := by
  have l1 := L.s
  have l2 := L.r
  have l3 := L.t
  simp at l3
  have top : (ρ ++ (tr ++ [some (Sl.ow (.lst ds))]))[ρ.length + tr.length]? = some (some (Sl.ow (.lst ds))) := by
    rw [List.getElem?_append_right (by omega), List.getElem?_append_right (by omega)]
    simp
  have topσ : (σ ++ (tv ++ [some (V.ref p)]))[ρ.length + tr.length]? = some (some (V.ref p)) := by
    have e : ρ.length + tr.length = σ.length + tv.length := by omega
    rw [e, List.getElem?_append_right (by omega), List.getElem?_append_right (by omega)]
    simp
  have := SR.mut S top (c := .lst ds) rfl topσ (H' := upd H p (.lst ws)) (c' := .lst es) (fun a ha => upd_ne ha) ⟨ws, upd_same, hw⟩
  rw [List.set_append_right _ _ (by omega), List.set_append_right _ _ (by omega), show ρ.length + tr.length - ρ.length - tr.length = 0 by omega] at this
  exact this
theorem S4.top_ow {ds : List D} (L : Ln W σ (tv ++ [some v]) ρ (tr ++ [some (.ow (.lst ds))])) (S : S4 K W F H σ (tv ++ [some v]) ρ (tr ++ [some (.ow (.lst ds))])) : ∃ p vs, v = .ref p ∧ H p = some (.lst vs) ∧ DtAll K F vs ds ∧ F p = none := by
  have l1 := L.s
  have l2 := L.r
  have l3 := L.t
  simp at l3
  obtain ⟨p, h1, _, h3, vs, h4, h5⟩ := S.ow (ρ.length + tr.length) (.lst ds) (by
    rw [List.getElem?_append_right (by omega), List.getElem?_append_right (by omega)]
    simp)
  have e : ρ.length + tr.length = σ.length + tv.length := by omega
  rw [e, List.getElem?_append_right (by omega), List.getElem?_append_right (by omega)] at h1
  simp at h1
  exact ⟨p, vs, h1, h4, h5, h3⟩
theorem wipe_same {σ σ' : L2.St} {is ks : List Nat} (h : ∀ k, k ∉ is → σ'[k]? = σ[k]?) (hs : ∀ k ∈ is, k ∈ ks) (hl : σ'.length = σ.length) : wipe σ' ks = wipe σ ks := by
  have key : ∀ (τ : L2.St) (ks : List Nat) (j : Nat), (∀ k ∈ ks, k < τ.length ∨ True) → (wipe τ ks)[j]? = if j ∈ ks ∧ j < τ.length then some none else τ[j]? := by
    intro τ ks
    induction ks with
    | nil => intro j _; simp [wipe]
    | cons k ks ih =>
      intro j _
      unfold wipe
      by_cases e : j = k
      · subst e
        by_cases hl : j < τ.length
        · rw [List.getElem?_set_self (by rw [wipe_length]; exact hl)]
          simp [hl]
        · rw [List.getElem?_eq_none (by rw [List.length_set, wipe_length]; omega)]
          simp [hl, List.getElem?_eq_none (Nat.le_of_not_lt hl)]
      · rw [List.getElem?_set_ne fun z => e z.symm, ih j (fun _ _ => .inr trivial)]
        simp [e]
  apply List.ext_getElem?
  intro j
  rw [key σ' ks j (fun _ _ => .inr trivial), key σ ks j (fun _ _ => .inr trivial), hl]
  by_cases hj : j ∈ ks ∧ j < σ.length
  · rw [if_pos hj, if_pos hj]
  · rw [if_neg hj, if_neg hj]
    by_cases hi : j ∈ is
    · have : ¬ j < σ.length := fun z => hj ⟨hs j hi, z⟩
      rw [List.getElem?_eq_none (by omega), List.getElem?_eq_none (by omega)]
    · exact h j hi
theorem wipe_wipe {σ : L2.St} (ks : List Nat) : wipe (wipe σ ks) ks = wipe σ ks :=
  wipe_same (is := ks) (fun k hk => wipe_get hk) (fun _ h => h) (wipe_length _ _)
theorem tj_lc {wi : TI} {g : TG} {tt : TT} {te : TE} {ks is : List Nat} {it : Evn → Res (List D)} {gf : D → Evn → Option Evn} {c : Evn → Res Bool} {f : Evn → Res Sl} (hi : TIJ K mg E wi it) (hg : TGJ K g is gf) (hc : TTJ K mg (fun _ _ _ _ => False) tt c) (hf : TJ K mg (fun _ _ _ _ => False) te f) (hs : ∀ k ∈ is, k ∈ ks) : TJ K mg E (tLc wi g tt te ks) (fLc ks it gf c f) := by
  intro W F H σ tv ρ tr Q L S hW
  refine hi W F H σ tv ρ tr _ L S ?_
  unfold fLc at hW
  cases e : it ρ with
  | bad => rw [e] at hW; exact hW
  | exc c d ρ' => rw [e] at hW; exact hW
  | ok ds ρ1 =>
    rw [e] at hW
    have hW : Wants (Fly K mg E W σ tv tr) _ (if ds.length ≤ 100000 ∧ ∀ k ∈ ks, k < ρ1.length then (noExc (fTurns ks gf c f ds [] (wipeE ρ1 ks))).bind fun xs ρ2 => Res.ok (Sl.ow (.lst xs)) (backE ρ1 ρ2 ks) else .bad) := hW
    split at hW
    · rename_i hz
      obtain ⟨hz, hks⟩ := hz
      have hW := wants_noExc (Fl' := fun _ _ _ => False) hW
      intro J F1 H1 S1 walk Dn hDn
      have L1 : Ln W σ tv ρ1 tr := L.next S1 L.t
      have hks : ∀ k ∈ ks, k < W.N := fun k hk => by rw [← L1.r]; exact hks k hk
      refine ⟨fun i m H' => m = ds.length - i ∧ i ≤ ds.length ∧ ∃ F2 ρ2 acc, Ln W (wipe σ ks) (tv ++ [some (.ref Dn)]) ρ2 (tr ++ [some (.ow (.lst acc))]) ∧ S4 K (W.rebase F1) F2 H' (wipe σ ks) (tv ++ [some (.ref Dn)]) ρ2 (tr ++ [some (.ow (.lst acc))]) ∧ acc.length ≤ i ∧
          Wants (fun _ _ _ => False) (fun s ρ' => ∀ v F' H', S4 K W F' H' σ (tv ++ [some v]) ρ' (tr ++ [some s]) → Q v H') ((fTurns ks gf c f (ds.drop i) acc ρ2).bind fun xs ρ2 => Res.ok (Sl.ow (.lst xs)) (backE ρ1 ρ2 ks)),
        ⟨ds.length, by omega, by omega, F1, wipeE ρ1 ks, [], ?_, ?_, Nat.zero_le _, by simpa using hW⟩, ?_⟩
      · exact (Ln.wipe (tv := tv ++ [some (.ref Dn)]) (tr := tr ++ [some (.ow (.lst []))]) ⟨L1.s, L1.r, by simp [L1.t]⟩ ks)
      · have S2 : S4 K (W.rebase F1) F1 (upd H1 Dn (.lst [])) σ (tv ++ [some (.ref Dn)]) ρ1 (tr ++ [some (.ow (.lst []))]) :=
          S4.result S1.rebase (.laid S1.fh hDn) ⟨Dn, rfl, hDn, Same.free S1.fh hDn, [], upd_same, .nil⟩
        exact S4.wipe (W := W.rebase F1) ⟨L1.s, L1.r, by simp [L1.t]⟩ S2 ks hks
      · rintro i m H2 ⟨rfl, hle, F2, ρ2, acc, L2, S2, hacc, hW2⟩
        have hw := walk i F2 H2 S2.f0 S2.fh
        by_cases hlt : i < ds.length
        · have ed : ds.drop i = ds[i] :: ds.drop (i + 1) := List.drop_eq_getElem_cons hlt
          rw [ed] at hW2
          obtain ⟨go, yld⟩ := hw.1 ds[i] (List.getElem?_eq_getElem hlt)
          refine .inr ⟨go, fun H' => ∃ F2 ρ2 acc, Ln W (wipe σ ks) (tv ++ [some (.ref Dn)]) ρ2 (tr ++ [some (.ow (.lst acc))]) ∧ S4 K (W.rebase F1) F2 H' (wipe σ ks) (tv ++ [some (.ref Dn)]) ρ2 (tr ++ [some (.ow (.lst acc))]) ∧ acc.length ≤ i + 1 ∧
              Wants (fun _ _ _ => False) (fun s ρ' => ∀ v F' H', S4 K W F' H' σ (tv ++ [some v]) ρ' (tr ++ [some s]) → Q v H') ((fTurns ks gf c f (ds.drop (i + 1)) acc ρ2).bind fun xs ρ2 => Res.ok (Sl.ow (.lst xs)) (backE ρ1 ρ2 ks)),
            fun H' h => ⟨ds.length - (i + 1), by omega, rfl, hlt, h⟩, fun x H' hy => ?_⟩
          obtain ⟨F3, gr, hx⟩ := yld x H' hy
          have S3 : S4 K (W.rebase F1) F3 H' (wipe σ ks) (tv ++ [some (.ref Dn)]) ρ2 (tr ++ [some (.ow (.lst acc))]) := SR.grow S2 gr
          unfold fTurns at hW2
          cases eg : gf ds[i] ρ2 with
          | none => rw [eg] at hW2; exact hW2.elim
          | some ρ3 =>
            rw [eg] at hW2
            refine hg (W.rebase F1) F3 H' (wipe σ ks) _ ρ2 _ x ds[i] ρ3 _ ⟨L2.s, L2.r, L2.t⟩ S3 hx eg fun σ3 k3 L3 S3' => ?_
            have ew : wipe σ3 ks = wipe σ ks := by
              rw [wipe_same k3 hs (by rw [L3.s]; exact L2.s.symm), wipe_wipe]
            refine ⟨ew, ?_⟩
            have hW3 : Wants (fun _ _ _ => False) (fun s ρ' => ∀ v F' H', S4 K W F' H' σ (tv ++ [some v]) ρ' (tr ++ [some s]) → Q v H') (((c ρ3).bind fun b ρ2 => if b then (fFz f ρ2).bind fun s ρ3 => match s with
                | .fr x => fTurns ks gf c f (ds.drop (i + 1)) (acc ++ [x]) (wipeE ρ3 ks)
                | _ => .bad
              else fTurns ks gf c f (ds.drop (i + 1)) acc (wipeE ρ2 ks)).bind fun xs ρ2 => Res.ok (Sl.ow (.lst xs)) (backE ρ1 ρ2 ks)) := hW2
            rw [Res.bind_assoc] at hW3
            refine hc.run L3 S3' (fun _ _ _ h => h.elim) hW3 fun b ρ4 F4 H4 L4 S4' hW4 => ?_
            have fin : ∀ {F5 H5 : Hp} {ρ5 : Evn} {acc' : List D}, Ln (W.rebase F1) σ3 (tv ++ [some (.ref Dn)]) ρ5 (tr ++ [some (.ow (.lst acc'))]) → S4 K (W.rebase F1) F5 H5 σ3 (tv ++ [some (.ref Dn)]) ρ5 (tr ++ [some (.ow (.lst acc'))]) → acc'.length ≤ i + 1 →
                Wants (fun _ _ _ => False) (fun s ρ' => ∀ v F' H', S4 K W F' H' σ (tv ++ [some v]) ρ' (tr ++ [some s]) → Q v H') ((fTurns ks gf c f (ds.drop (i + 1)) acc' (wipeE ρ5 ks)).bind fun xs ρ2 => Res.ok (Sl.ow (.lst xs)) (backE ρ1 ρ2 ks)) →
                ∃ F2 ρ2 acc, Ln W (wipe σ ks) (tv ++ [some (.ref Dn)]) ρ2 (tr ++ [some (.ow (.lst acc))]) ∧ S4 K (W.rebase F1) F2 H5 (wipe σ ks) (tv ++ [some (.ref Dn)]) ρ2 (tr ++ [some (.ow (.lst acc))]) ∧ acc.length ≤ i + 1 ∧
                  Wants (fun _ _ _ => False) (fun s ρ' => ∀ v F' H', S4 K W F' H' σ (tv ++ [some v]) ρ' (tr ++ [some s]) → Q v H') ((fTurns ks gf c f (ds.drop (i + 1)) acc ρ2).bind fun xs ρ2 => Res.ok (Sl.ow (.lst xs)) (backE ρ1 ρ2 ks)) := by
              intro F5 H5 ρ5 acc' L5 S5 ha hW5
              refine ⟨F5, wipeE ρ5 ks, acc', ?_, ?_, ha, hW5⟩
              · have := L5.wipe ks
                rw [ew] at this
                exact ⟨this.s, this.r, this.t⟩
              · have := S4.wipe L5 S5 ks hks
                rw [ew] at this
                exact this
            cases b with
            | false => exact fin L4 S4' (by omega) hW4
            | true =>
              have hW4 : Wants (fun _ _ _ => False) (fun s ρ' => ∀ v F' H', S4 K W F' H' σ (tv ++ [some v]) ρ' (tr ++ [some s]) → Q v H') (((fFz f ρ4).bind fun s ρ3 => match s with
                | .fr x => fTurns ks gf c f (ds.drop (i + 1)) (acc ++ [x]) (wipeE ρ3 ks)
                | _ => .bad).bind fun xs ρ2 => Res.ok (Sl.ow (.lst xs)) (backE ρ1 ρ2 ks)) := hW4
              rw [Res.bind_assoc] at hW4
              refine (tj_fz hf).run L4 S4' (fun _ _ _ h => h.elim) hW4 fun s ρ5 y F5 H5 L5 S5 hW5 => ?_
              split at hW5
              · rename_i z
                have La := L5.cut (us := [some y]) (ss := [some (.fr z)]) (by simp)
                have Sa := S4.cut L5 S5 (by simp)
                obtain ⟨p, ws, e1, e2, e3, e4⟩ := S4.top_ow La Sa
                cases e1
                have hy := S4.top_fr L5 S5
                refine ⟨ws, e2, ?_, fin ⟨La.s, La.r, by simpa using La.t⟩ (SR.mutTop La Sa (dpAll_app e3 (.cons hy .nil))) (by simp; omega) hW5⟩
                rw [dpAll_len e3]
                exact line5' (by omega)
              · exact hW5.elim
        · have ei : i = ds.length := by omega
          refine .inl ⟨hw.2 (by omega), ?_⟩
          rw [List.drop_eq_nil_of_le (by omega)] at hW2
          have S3 := S4.back L1 S1 L2 S2 ks hks
          rw [backS_eq ks (fun k hk => by rw [L1.s]; exact hks k hk) (fun k hk => .inl hk)] at S3
          exact hW2 (.ref Dn) F2 H2 (S1.unbase S3)
    · exact hW.elim
end
end DL

namespace DL
open PySem PySem.Spec PyProof.Rows L2

/-! ### what a def is worth -/
mutual
def noLst : PyData → Bool
  | .list _ => false
  | .tuple ds => noLsts ds
  | _ => true
def noLsts : List PyData → Bool
  | [] => true
  | d :: ds => noLst d && noLsts ds
end
def noLstS : Sl → Bool
  | .fr d => noLst d
  | .ow (.lst ds) => noLsts ds
  | _ => false
inductive Ret where
  | ok (s : Sl) (co : Option Cn)
  | exc (c : Str) (d : D) (co : Option Cn)
  | bad
def CoRep (K : PySem.W.Frag) (F H : Hp) : List Addr → Option Cn → Prop
  | [], none => True
  | [p], some c => F p = none ∧ CRep K F H p c
  | _, _ => False
structure FEvo (ps : List Addr) (F H F' H' : Hp) : Prop where
  ff : Same F F'
  fn : ∀ (a : Addr), F' a ≠ none → F a ≠ none ∨ H a = none
  hh : ∀ (a : Addr) (o : HO), H a = some o → a ∉ ps → H' a = some o
  hs : ∀ (a : Addr), H a ≠ none → H' a ≠ none
  fh : Same F' H'
theorem FEvo.grow {F H F' H' : Hp} (e : FEvo [] F H F' H') : Grow F H F' H' := ⟨e.ff, fun a o h => e.hh a o h (by simp), e.fh, e.fn⟩
def RW (K : PySem.W.Frag) (mg : Str → Option Value) (F H : Hp) (ps : List Addr) (Q : VK) (E : XK) : Ret → Prop
  | .ok s co => ∀ v F' H', FEvo ps F H F' H' → ROk K F' H H' v s → CoRep K F' H' ps co → Q v H'
  | .exc c d co => ∀ C dx v F' H', mg c = some (Value.ref C) → H' dx = some (.xd [("what", v)]) → Dt K F' v d → FEvo ps F H F' H' → CoRep K F' H' ps co → E (.ref C) (some dx) H'
  | .bad => False
def spD (K : PySem.W.Frag) (mg : Str → Option Value) (n : Nat) (den : Option Cn → List D → Ret) : Sp := fun vs H Q E =>
  vs.length = n ∧ ∃ F ps co us ds, Same F H ∧ DtAll K F us ds ∧ vs = ps.map V.ref ++ us ∧ CoRep K F H ps co ∧ RW K mg F H ps Q E (den co ds)

section
variable {K : PySem.W.Frag} {mg : Str → Option Value} {E : XW} {W : Wd} {F0 B F H F' H' : Hp} {σ tv us vs : L2.St} {ρ ρ' tr ss : Evn} {v : V} {d : D} {s : Sl} {c c' : Cn} {p : Addr} {i : Nat} {α β : Type}

/-! ### a def by its body -/
def ini (co : Option Cn) (ds : List D) (n : Nat) : Evn :=
  (match co with | some c => [some (.io 0 c)] | none => []) ++ ds.map (fun d => some (.fr d)) ++ List.replicate n none
def finC (co : Option Cn) (ρ : Evn) : Option (Option Cn) := match co with
  | none => some none
  | some _ => match (ρ[0]? : Option (Option Sl)) with
    | some (some (Sl.io 0 c)) => some (some c)
    | _ => none
def retS (ρ : Evn) (co' : Option Cn) : Sl → Ret
  | .fr d => .ok (.fr d) co'
  | .ow c => .ok (.ow c) co'
  | .br i => match ρ[i]? with
    | some (some (.ow c)) => .ok (.ow c) co'
    | _ => .bad
  | .io _ _ => .bad
def finR (co : Option Cn) (r : Res Fl) : Ret := match r with
  | .ok .nx ρ => match finC co ρ with
    | some co' => .ok (.fr .none) co'
    | none => .bad
  | .ok (.rt s) ρ => match finC co ρ with
    | some co' => retS ρ co' s
    | none => .bad
  | .exc c d ρ => match finC co ρ with
    | some co' => .exc c d co'
    | none => .bad
  | _ => .bad
def coN : Option Cn → Nat
  | some _ => 1
  | none => 0
/-- N: how many slots in all -/
def denB (N : Nat) (g : Evn → Res Fl) (co : Option Cn) (ds : List D) : Ret := finR co (g (ini co ds (N - (ds.length + coN co))))
theorem finC_rep {co co' : Option Cn} {ps : List Addr} (hp : CoRep K F0 B ps co) (hl : W.ios = ps) (L : Ln W σ tv ρ tr) (S : S4 K W F H σ tv ρ tr) (h : finC co ρ = some co') : CoRep K F H ps co' := by
  unfold finC at h
  cases co with
  | none =>
    cases h
    cases ps with
    | nil => trivial
    | cons p r => cases r <;> exact False.elim hp
  | some c =>
    cases ps with
    | nil => exact False.elim hp
    | cons p r =>
      cases r with
      | cons => exact False.elim hp
      | nil =>
        simp only at h
        split at h
        · rename_i c1 e
          cases h
          have h0 := (List.getElem?_eq_some_iff.mp e).1
          obtain ⟨q, q1, q2, q3, q4⟩ := S.io 0 0 c1 (by rw [List.getElem?_append_left h0]; exact e)
          rw [hl] at q1
          cases q1
          exact ⟨q3, q4⟩
        · cases h
theorem den_ok {g : Evn → Res Fl} {t : TS} {Ex : XK} {Q : VK} {n N : Nat} (ht : TSJ K mg (fun _ => Ex) t g) {vs : List V} (hN : vs.length ≤ N) (h : spD K mg n (denB N g) vs H Q Ex) {Nn : List Str} (hn : Nn.length = N) : t { nx := fun _ H' => Q .non H', rt := Q } (L2.start Nn vs) H := by
  obtain ⟨hlen, F, ps, co, us, ds, fh, hd, rfl, hco, hw⟩ := h
  have hul := dpAll_len hd
  have hk : coN co = ps.length := by
    cases co with
    | none => cases ps with
      | nil => rfl
      | cons p r => cases r <;> exact False.elim hco
    | some c => cases ps with
      | nil => exact False.elim hco
      | cons p r => cases r with
        | nil => rfl
        | cons => exact False.elim hco
  have hpl : ps.length + ds.length ≤ N := by simpa [hul] using hN
  have eini : ∀ (j : Nat) (s : Sl), (ini co ds (N - (ds.length + coN co)))[j]? = some (some s) → (∃ p c, ps = [p] ∧ co = some c ∧ j = 0 ∧ s = .io 0 c) ∨ (ps.length ≤ j ∧ ∃ d, ds[j - ps.length]? = some d ∧ s = .fr d) := by
    intro j s e
    unfold ini at e
    rw [List.append_assoc] at e
    have tail : ∀ (k : Nat), (ds.map (fun d => some (Sl.fr d)) ++ List.replicate (N - (ds.length + ps.length)) none)[k]? = some (some s) → ∃ d, ds[k]? = some d ∧ s = .fr d := by
      intro k e
      by_cases hk : k < ds.length
      · rw [List.getElem?_append_left (by simpa using hk), List.getElem?_map] at e
        cases e2 : ds[k]? with
        | none => rw [e2] at e; cases e
        | some d => rw [e2] at e; cases e; exact ⟨d, rfl, rfl⟩
      · rw [List.getElem?_append_right (by simpa using hk), List.getElem?_replicate] at e
        split at e <;> cases e
    rw [hk] at e
    cases co with
    | none =>
      cases ps with
      | cons p r => cases r <;> exact False.elim hco
      | nil => exact .inr ⟨Nat.zero_le _, by simpa using tail j (by simpa using e)⟩
    | some c =>
      cases ps with
      | nil => exact False.elim hco
      | cons p r =>
        cases r with
        | cons => exact False.elim hco
        | nil =>
          cases j with
          | zero => simp at e; exact .inl ⟨p, c, rfl, rfl, rfl, e.symm⟩
          | succ j => exact .inr ⟨by simp, by simpa using tail j (by simpa using e)⟩
  have est : ∀ (j : Nat) (v : V), (ps.map V.ref ++ us)[j]? = some v → (L2.start Nn (ps.map V.ref ++ us))[j]? = some (some v) := by
    intro j v e
    unfold L2.start
    have hj := (List.getElem?_eq_some_iff.mp e).1
    rw [List.getElem?_append_left (by simpa using hj), List.getElem?_map, e]
    rfl
  have lini : (ini co ds (N - (ds.length + coN co))).length = N := by
    rw [hk]
    unfold ini
    have : (match co with | some c => [some (Sl.io 0 c)] | none => ([] : Evn)).length = ps.length := by
      rw [← hk]
      cases co <;> rfl
    rw [List.length_append, List.length_append, this, List.length_map, List.length_replicate]
    omega
  have lst : (L2.start Nn (ps.map V.ref ++ us)).length = N := by
    unfold L2.start
    rw [List.length_append, List.length_map, List.length_replicate, hn]
    have : (ps.map V.ref ++ us).length ≤ N := hN
    omega
  let W : Wd := ⟨N, ps, F, H⟩
  have L0 : Ln W (L2.start Nn (ps.map V.ref ++ us)) [] (ini co ds (N - (ds.length + coN co))) [] := ⟨lst, lini, rfl⟩
  have S0 : S4 K W F H (L2.start Nn (ps.map V.ref ++ us)) [] (ini co ds (N - (ds.length + coN co))) [] := by
    show SR _ _ _ _ _ _ _ (_ ++ []) (_ ++ [])
    rw [List.append_nil, List.append_nil]
    have arg : ∀ {j : Nat} {d : PyData}, ps.length ≤ j → ds[j - ps.length]? = some d → ∃ v, (L2.start Nn (ps.map V.ref ++ us))[j]? = some (some v) ∧ Dt K F v d := fun {j d} hj e => by
      obtain ⟨v, h1, h2⟩ := dpAll_get hd e
      exact ⟨v, est j v (by rw [List.getElem?_append_right (by simpa using hj)]; simpa using h1), h2⟩
    refine ⟨lst.trans lini.symm, fh, Same.refl _, fun a z => .inl z, fun a o e _ => e, fun a z => z, fun j d e => ?_, fun j c e => ?_, fun j k c e => ?_, fun j k e => ?_, fun j k a b q e1 e2 o1 o2 e3 e4 => ?_⟩
    · rcases eini j _ e with ⟨_, _, _, _, _, z⟩ | ⟨hj, d', e', z⟩
      · cases z
      · cases z; exact arg hj e'
    · rcases eini j _ e with ⟨_, _, _, _, _, z⟩ | ⟨hj, d', e', z⟩ <;> cases z
    · rcases eini j _ e with ⟨p, c', rfl, rfl, rfl, z⟩ | ⟨hj, d', e', z⟩
      · cases z
        exact ⟨p, rfl, est 0 _ rfl, hco.1, hco.2⟩
      · cases z
    · rcases eini j _ e with ⟨_, _, _, _, _, z⟩ | ⟨hj, d', e', z⟩ <;> cases z
    · rcases eini j _ e1 with ⟨p, c', rfl, rfl, rfl, z⟩ | ⟨hj, d', e', z⟩
      · rcases eini k _ e2 with ⟨p2, c2, _, _, rfl, z2⟩ | ⟨hk, d2, e2', z2⟩
        · rfl
        · subst z2; exact absurd rfl o2
      · subst z; exact absurd rfl o1
  refine ht W F H _ _ _ L0 S0 ?_
  unfold denB at hw
  have evo : ∀ {σ' tv' : L2.St} {ρ' tr' : Evn} {F' H' : Hp}, S4 K W F' H' σ' tv' ρ' tr' → FEvo ps F H F' H' := fun S => ⟨S.f0, S.fn, S.bh, S.bs, S.fh⟩
  cases eg : g (ini co ds (N - (ds.length + coN co))) with
  | bad => rw [eg] at hw; exact hw
  | exc c d ρ1 =>
    rw [eg] at hw
    intro C dx v F' H' σ' hσ h1 h2 h3 S'
    have hw : RW K mg F H ps Q Ex (match finC co ρ1 with | some co' => .exc c d co' | none => .bad) := hw
    cases ef : finC co ρ1 with
    | none => rw [ef] at hw; exact hw.elim
    | some co' =>
      rw [ef] at hw
      have L' : Ln W σ' [] ρ1 [] := ⟨hσ, by have := S'.len; simp at this; omega, rfl⟩
      exact hw C dx v F' H' h1 h2 h3 (evo S') (finC_rep hco rfl L' S' ef)
  | ok fl ρ1 =>
    rw [eg] at hw
    cases fl with
    | bk => exact hw.elim
    | ct => exact hw.elim
    | nx =>
      intro σ' F' H' L' S'
      have hw : RW K mg F H ps Q Ex (match finC co ρ1 with | some co' => .ok (.fr .none) co' | none => .bad) := hw
      cases ef : finC co ρ1 with
      | none => rw [ef] at hw; exact hw.elim
      | some co' =>
        rw [ef] at hw
        exact hw .non F' H' (evo S') .non (finC_rep hco rfl L' S' ef)
    | rt s =>
      intro v σ' F' H' L' S'
      have hw : RW K mg F H ps Q Ex (match finC co ρ1 with | some co' => retS ρ1 co' s | none => .bad) := hw
      have La : Ln W σ' [] ρ1 [] := L'.cut (tv := []) (tr := []) (us := [some v]) (ss := [some s]) (by simp)
      have Sa : S4 K W F' H' σ' [] ρ1 [] := S4.cut (tv := []) (tr := []) L' S' (by simp)
      cases ef : finC co ρ1 with
      | none => rw [ef] at hw; exact hw.elim
      | some co' =>
        rw [ef] at hw
        have hc := finC_rep hco rfl La Sa ef
        cases s with
        | fr d => exact hw v F' H' (evo S') (S4.top_fr (tv := []) (tr := []) L' S') hc
        | io j c => exact hw.elim
        | ow c =>
          refine hw v F' H' (evo S') ?_ hc
          have top : (ρ1 ++ [some (Sl.ow c)])[ρ1.length]? = some (some (Sl.ow c)) := push_new rfl
          obtain ⟨p, h1, h2, h3, h4⟩ := S'.ow ρ1.length c top
          rw [show σ' ++ [some v] = σ' ++ [some v] from rfl, push_new (by rw [La.s, ← La.r])] at h1
          cases h1
          exact ⟨p, rfl, h2, h3, h4⟩
        | br i =>
          have hw : RW K mg F H ps Q Ex (match ρ1[i]? with
            | some (some (.ow c)) => .ok (.ow c) co'
            | _ => .bad) := hw
          split at hw
          · rename_i c e
            refine hw v F' H' (evo S') ?_ hc
            have hi := (List.getElem?_eq_some_iff.mp e).1
            have e' : (ρ1 ++ [some (Sl.br i)])[i]? = some (some (.ow c)) := push_old e
            have hb := (S'.br ρ1.length i (push_new rfl)).2.2 _ e' (fun z => nomatch z)
            obtain ⟨p, h1, h2, h3, h4⟩ := S'.ow i c e'
            rw [push_new (by rw [La.s, ← La.r]), h1] at hb
            cases hb
            exact ⟨p, rfl, h2, h3, h4⟩
          · exact hw.elim
/-- THE RULE for a def: its body's reading told as f -/
theorem fn_den {P : Program} {w : World} {base : Heap} {x qual : Str} {st : Stmt} {f : Addr} {fd : FuncData} {N ps : List Str} {k : Nat} (F : Fun K x qual st f fd) (S : FnScope N ps (defScope st)) {g : Evn → Res Fl}
    (hbody : ∀ (cdv : Value) (A : Around) (outer : List PySem.Env) (s : Shared) (H : Hp) (E : XK), Room k (A.deeper (envOfC qual (defScope st) s.heap.objs.size f cdv)) →
      ∃ t, PSs (cxOf (L2.CX P w) P w K mg base N qual (defScope st) f cdv A outer s H E) (defBody st) t ∧ TSJ K mg (fun _ => E) t g) : FnOk P w K mg base (L2.CX P w) (k + 1) f fd ps (spD K mg ps.length (denB N.length g)) := by
  refine F.okX S (fun vs H Q E h => h.1) fun cdv A outer s H vs Q E hr h => ?_
  obtain ⟨t, h1, h2⟩ := hbody cdv A outer s H E hr
  have hpl : ps.length ≤ N.length := by have := congrArg List.length S.pre; rw [List.length_take] at this; omega
  exact ⟨t, h1, den_ok h2 (by rw [h.1]; exact hpl) h rfl⟩

/-! ### a call by what the def is worth -/
theorem sqT_cut {P : Addr → Prop} [DecidablePred P] {F2 : Hp} {a : Addr} {xs : List V} (hP : ∀ a, P a → ∃ l, F2 a = some (.lst l)) (h : SqT K F2 a xs) : SqT K (fun a => if P a then none else F2 a) a xs := by
  rcases h with (h | ⟨o, h⟩) | h
  · refine .inl (.inl ?_)
    show (if P a then none else F2 a) = _
    rw [if_neg fun z => ?_]
    · exact h
    · obtain ⟨l, e⟩ := hP a z
      rw [e] at h; cases h
  · refine .inl (.inr ⟨o, ?_⟩)
    show (if P a then none else F2 a) = _
    rw [if_neg fun z => ?_]
    · exact h
    · obtain ⟨l, e⟩ := hP a z
      rw [e] at h; cases h
  · exact .inr h
mutual
theorem dp_cut {P : Addr → Prop} [DecidablePred P] {F2 : Hp} (hP : ∀ a, P a → ∃ l, F2 a = some (.lst l)) : ∀ (d : D) (v : V), noLst d = true → Dt K F2 v d → Dt K (fun a => if P a then none else F2 a) v d
  | .none, _, _, h => by cases h; exact .non
  | .bool b, _, _, h => by cases h; exact .bl b
  | .int i, _, _, h => by cases h; exact .int i
  | .str x, _, _, h => by cases h; exact .str x
  | .list ds, _, n, h => by cases n
  | .tuple ds, _, n, h => by
    cases h with
    | tup hs ha => exact .tup (sqT_cut hP hs) (dpAll_cut hP ds _ n ha)
  | .dict _, _, _, h => by cases h
theorem dpAll_cut {P : Addr → Prop} [DecidablePred P] {F2 : Hp} (hP : ∀ a, P a → ∃ l, F2 a = some (.lst l)) : ∀ (ds : List D) (vs : List V), noLsts ds = true → DtAll K F2 vs ds → DtAll K (fun a => if P a then none else F2 a) vs ds
  | [], _, _, h => by cases h; exact .nil
  | d :: ds, _, n, h => by
    cases h with
    | cons h1 h2 =>
      unfold noLsts at n
      rw [Bool.and_eq_true] at n
      exact .cons (dp_cut hP d _ n.1 h1) (dpAll_cut hP ds _ n.2 h2)
end
def isFr : Sl → Bool
  | .fr _ => true
  | _ => false
def allFr (ss : List Sl) : Bool := ss.all isFr
/-- what the callee may read: the frozen part and what is lent -/
structure Lent (K : PySem.W.Frag) (F H Fp : Hp) (P : Addr → Prop) (us : List V) (ds : List D) : Prop where
  f1 : Same F Fp
  f2 : Same Fp H
  dp : DtAll K Fp us ds
  out : ∀ a, P a → F a = none ∧ ∃ l, Fp a = some (.lst l)
  inn : ∀ a, Fp a ≠ none → F a ≠ none ∨ P a
  who : ∀ a, P a → ∃ (k : Nat) (d : D), us[k]? = some (.ref a) ∧ ds[k]? = some d ∧ ¬ Dt K F (.ref a) d
theorem lend {us : List V} {ds : List D} (fh : Same F H) (h : RepCs K F H us ds) : ∃ Fp P, Lent K F H Fp P us ds := by
  classical
  let P : Addr → Prop := fun a => ∃ (k : Nat) (d : D), us[k]? = some (.ref a) ∧ ds[k]? = some d ∧ ¬ Dt K F (.ref a) d ∧ F a = none ∧ ∃ l, H a = some (.lst l)
  let Fp : Hp := fun a => if P a then H a else F a
  have hT : ∀ {a}, P a → Fp a = H a := fun {a} z => if_pos z
  have hF : ∀ {a}, ¬ P a → Fp a = F a := fun {a} z => if_neg z
  have s1 : Same F Fp := fun a o e => by
    rw [hF fun ⟨k, d, _, _, _, z, _⟩ => by rw [z] at e; cases e]
    exact e
  have build : ∀ {vs : List V} {es : List D}, RepCs K F H vs es → (∀ (k : Nat) (a : Addr) (d : D), vs[k]? = some (.ref a) → es[k]? = some d → ¬ Dt K F (.ref a) d → F a = none → (∃ l, H a = some (.lst l)) → P a) → DtAll K Fp vs es := by
    intro vs es h
    induction h with
    | nil => intro _; exact .nil
    | cons r t ih =>
      intro hP
      refine .cons ?_ (ih fun k a d h1 h2 => hP (k + 1) a d (by simpa using h1) (by simpa using h2))
      rename_i x d _ _
      by_cases hd : Dt K F x d
      · exact dp_mono s1 _ _ hd
      · rcases r with r | ⟨p, vs, ds', rfl, rfl, e3, e4, e5⟩
        · exact absurd r hd
        · have hp : P p := hP 0 p _ rfl rfl hd e4 ⟨_, e3⟩
          exact .lst ((hT hp).trans e3) (dpAll_mono s1 _ _ e5)
  refine ⟨Fp, P, s1, fun a o e => ?_, build h fun k a d h1 h2 h3 h4 h5 => ⟨k, d, h1, h2, h3, h4, h5⟩, fun a z => ?_, fun a z => ?_, fun a ⟨k, d, h1, h2, h3, _⟩ => ⟨k, d, h1, h2, h3⟩⟩
  · by_cases z : P a
    · rw [hT z] at e; exact e
    · rw [hF z] at e; exact fh a o e
  · obtain ⟨k, d, h1, h2, h3, h4, l, h5⟩ := id z
    exact ⟨h4, l, (hT z).trans h5⟩
  · by_cases q : P a
    · exact .inr q
    · rw [hF q] at z; exact .inl z
/-- and back -/
theorem Lent.back {Fp : Hp} {P : Addr → Prop} {us : List V} {ds : List D} {ps : List Addr} {F2 H2 : Hp} (l : Lent K F H Fp P us ds) (e : FEvo ps Fp H F2 H2) :
    ∃ F3, FEvo ps F H F3 H2 ∧ (∀ a, F2 a = none → F3 a = none) ∧ (∀ v d, ((∀ a, ¬ P a) ∨ noLst d = true) → Dt K F2 v d → Dt K F3 v d) ∧ (∀ vs es, ((∀ a, ¬ P a) ∨ noLsts es = true) → DtAll K F2 vs es → DtAll K F3 vs es) := by
  classical
  have hP : ∀ a, P a → ∃ l, F2 a = some (.lst l) := fun a z => by
    obtain ⟨_, l, h⟩ := l.out a z
    exact ⟨l, e.ff a _ h⟩
  refine ⟨fun a => if P a then none else F2 a, ⟨fun a o h => ?_, fun a z => ?_, e.hh, e.hs, fun a o h => ?_⟩, fun a h => ?_, fun v d h => ?_, fun vs es h => ?_⟩
  · show (if P a then none else F2 a) = _
    rw [if_neg fun z => by rw [(l.out a z).1] at h; cases h]
    exact e.ff a o (l.f1 a o h)
  · have z : (if P a then none else F2 a) ≠ none := z
    by_cases q : P a
    · rw [if_pos q] at z; exact absurd rfl z
    · rw [if_neg q] at z
      rcases e.fn a z with r | r
      · exact .inl ((l.inn a r).resolve_right q)
      · exact .inr r
  · have h : (if P a then none else F2 a) = some o := h
    by_cases q : P a
    · rw [if_pos q] at h; cases h
    · rw [if_neg q] at h; exact e.fh a o h
  · show (if P a then none else F2 a) = none
    by_cases q : P a
    · rw [if_pos q]
    · rw [if_neg q]; exact h
  · rcases h with h | h
    · have : (fun a => if P a then none else F2 a) = F2 := funext fun a => if_neg (h a)
      rw [this]; exact id
    · exact dp_cut hP d v h
  · rcases h with h | h
    · have : (fun a => if P a then none else F2 a) = F2 := funext fun a => if_neg (h a)
      rw [this]; exact id
    · exact dpAll_cut hP es vs h
theorem ROk.back {F2 F3 H2 : Hp} {P : Addr → Prop} (h : ROk K F2 H H2 v s) (h0 : (∀ a, ¬ P a) ∨ noLstS s = true) (hn : ∀ a, F2 a = none → F3 a = none) (h1 : ∀ v d, ((∀ a, ¬ P a) ∨ noLst d = true) → Dt K F2 v d → Dt K F3 v d) (h2 : ∀ vs es, ((∀ a, ¬ P a) ∨ noLsts es = true) → DtAll K F2 vs es → DtAll K F3 vs es) : ROk K F3 H H2 v s := by
  cases s with
  | fr d => exact h1 v d h0 h
  | io _ _ => exact h.elim
  | br _ => exact h.elim
  | ow c =>
    obtain ⟨p, e1, e2, e3, e4⟩ := h
    cases c with
    | lst es =>
      obtain ⟨vs, e5, e6⟩ := e4
      exact ⟨p, e1, e2, hn p e3, vs, e5, h2 vs es h0 e6⟩
/-- frozen arguments are not lent -/
theorem S4.frAt : ∀ {ss : List Sl} {vs : List V} {tv : L2.St} {tr : Evn} {k : Nat} {v : V} {d : D}, Ln W σ tv ρ tr → S4 K W F H σ (tv ++ vs.map some) ρ (tr ++ ss.map some) → ss[k]? = some (.fr d) → vs[k]? = some v → Dt K F v d := by
  intro ss vs tv tr k v d L S h1 h2
  have l1 := L.s
  have l2 := L.r
  have l3 := L.t
  obtain ⟨w, w1, w2⟩ := S.fr (ρ.length + tr.length + k) d (by
    rw [List.getElem?_append_right (by omega), List.getElem?_append_right (by omega)]
    rw [show ρ.length + tr.length + k - ρ.length - tr.length = k by omega, List.getElem?_map, h1]
    rfl)
  rw [List.getElem?_append_right (by omega), List.getElem?_append_right (by omega), show ρ.length + tr.length + k - σ.length - tv.length = k by omega, List.getElem?_map, h2] at w1
  cases w1
  exact w2
theorem rds_get : ∀ {ss : List Sl} {ds : List D} {k : Nat} {d : D}, rds ρ ss = some ds → ds[k]? = some d → ∃ s, ss[k]? = some s ∧ rd ρ s = some d
  | [], ds, k, d, h, e => by cases h; simp at e
  | s :: ss, ds, k, d, h, e => by
    unfold rds at h
    split at h
    · rename_i d0 ds0 e1 e2
      cases h
      cases k with
      | zero => simp at e; subst e; exact ⟨s, rfl, e1⟩
      | succ k => exact rds_get (k := k) e2 (by simpa using e)
    · cases h
theorem lent_none {ss : List Sl} {vs : List V} {ds : List D} {Fp : Hp} {P : Addr → Prop} (L : Ln W σ tv ρ tr) (S : S4 K W F H σ (tv ++ vs.map some) ρ (tr ++ ss.map some)) (hr : rds ρ ss = some ds) (l : Lent K F H Fp P vs ds) (h : allFr ss = true) : ∀ a, ¬ P a := fun a z => by
  obtain ⟨k, d, h1, h2, h3⟩ := l.who a z
  obtain ⟨s, h4, h5⟩ := rds_get hr h2
  have hs : isFr s = true := List.all_eq_true.mp h s (List.mem_of_getElem? h4)
  cases s with
  | fr d' =>
    cases h5
    exact h3 (S4.frAt L S h4 h1)
  | ow _ => cases hs
  | io _ _ => cases hs
  | br _ => cases hs
def callV (den : Option Cn → List D → Ret) (ss : List Sl) (ρ : Evn) : Res Sl := match rds ρ ss with
  | some ds => (match den none ds with
    | .ok s none => if allFr ss || noLstS s then .ok s ρ else .bad
    | .exc c d none => if allFr ss || noLst d then .exc c d ρ else .bad
    | _ => .bad)
  | none => .bad
def fCallV (den : Option Cn → List D → Ret) (f : Evn → Res (List Sl)) (ρ : Evn) : Res Sl := (f ρ).bind fun ss ρ1 => callV den ss ρ1
theorem rds_len : ∀ {ss : List Sl} {ds : List D}, rds ρ ss = some ds → ds.length = ss.length
  | [], ds, h => by cases h; rfl
  | s :: ss, ds, h => by
    unfold rds at h
    split at h
    · rename_i d0 ds0 e1 e2
      cases h
      exact congrArg (· + 1) (rds_len e2)
    · cases h
theorem tj_callV {ta : TA} {f : Evn → Res (List Sl)} {den : Option Cn → List D → Ret} {n : Nat} (ha : TAJ K mg E ta f) (hn : ∀ ρ ss ρ', f ρ = .ok ss ρ' → ss.length = n) : TJ K mg E (tCallSD (spD K mg n den) [] E ta) (fCallV den f) := by
  intro W F H σ tv ρ tr Q L S hW
  have hfl : ∀ ss ρ', f ρ = .ok ss ρ' → ss.length = n := hn ρ
  refine ha W F H σ tv ρ tr _ L S ?_
  unfold fCallV at hW
  cases e0 : f ρ with
  | bad => rw [e0] at hW; exact hW
  | exc c d ρ' => rw [e0] at hW; exact hW
  | ok ss ρ1 =>
  rw [e0] at hW
  have hlen := hfl ss ρ1 e0
  intro vs F1 H1 hl S1
  have hW1 : Wants (Fly K mg E W σ tv tr) _ (callV den ss ρ1) := hW
  have L1 : Ln W σ (tv ++ vs.map some) ρ1 (tr ++ ss.map some) := L.next S1 (by simp [L.t, hl])
  have La := L1.cut (by simp [hl])
  have Sa := S4.cut L1 S1 (by simp [hl])
  unfold callV at hW1
  cases e : rds ρ1 ss with
  | none => rw [e] at hW1; exact hW1.elim
  | some ds =>
    rw [e] at hW1
    have hd := S4.reads La S1 hl e
    obtain ⟨Fp, P, l⟩ := lend Sa.fh hd
    have nolend := lent_none La S1 e l
    refine ⟨by rw [List.append_nil]; exact hl.trans hlen, Fp, [], none, vs, ds, l.f2, l.dp, by simp, trivial, ?_⟩
    simp only at hW1
    cases ed : den none ds with
    | bad => rw [ed] at hW1; exact hW1.elim
    | ok s co =>
      rw [ed] at hW1
      cases co with
      | some _ => exact hW1.elim
      | none =>
        simp only at hW1
        split at hW1
        · rename_i hc
          have hc' : (∀ a, ¬ P a) ∨ noLstS s = true := by
            rw [Bool.or_eq_true] at hc
            exact hc.imp nolend id
          intro v F2 H2 ev ok _
          obtain ⟨F3, ev3, k1, k2, k3⟩ := l.back ev
          exact hW1 v F3 H2 (S4.result Sa ev3.grow (ROk.back ok hc' k1 k2 k3))
        · exact hW1.elim
    | exc c d co =>
      rw [ed] at hW1
      cases co with
      | some _ => exact hW1.elim
      | none =>
        simp only at hW1
        split at hW1
        · rename_i hc
          have hc' : (∀ a, ¬ P a) ∨ noLst d = true := by
            rw [Bool.or_eq_true] at hc
            exact hc.imp nolend id
          intro C dx v F2 H2 h1 h2 h3 ev _
          obtain ⟨F3, ev3, k1, k2, k3⟩ := l.back ev
          exact hW1 C dx v F3 H2 h1 h2 (k2 v d hc' h3) (SR.grow Sa ev3.grow)
        · exact hW1.elim
/-- the first argument is a list that the callee changes -/
def noBr (i : Nat) (ss : List Sl) : Bool := ss.all fun s => match s with
  | .br j => j != i
  | _ => true
def noLstC : Cn → Bool
  | .lst ds => noLsts ds
def callT (den : Option Cn → List D → Ret) (ss : List Sl) (ρ : Evn) : Res Sl := match ss with
  | .br i :: rest => (match ρ[i]? with
    | some (some t) => (match t.own, rds ρ rest with
      | some c, some ds => if noBr i rest then (match den (some c) ds with
        | .ok s (some c') => if allFr rest || (noLstS s && noLstC c') then .ok s (ρ.set i (some (t.put c'))) else .bad
        | .exc x d (some c') => if allFr rest || (noLst d && noLstC c') then .exc x d (ρ.set i (some (t.put c'))) else .bad
        | _ => .bad) else .bad
      | _, _ => .bad)
    | _ => .bad)
  | _ => .bad
def fCallT (den : Option Cn → List D → Ret) (f : Evn → Res (List Sl)) (ρ : Evn) : Res Sl := (f ρ).bind fun ss ρ1 => callT den ss ρ1
theorem S4.evo (L : Ln W σ tv ρ tr) (S : S4 K W F H σ tv ρ tr) {t : Sl} (hi : ρ[i]? = some (some t)) (ho : t.own = some c) (hp : σ[i]? = some (some (V.ref p))) (e : FEvo [p] F H F' H') (hF : F' p = none) (hc : CRep K F' H' p c') (h : ROk K F' H H' v s) :
    S4 K W F' H' σ (tv ++ [some v]) (ρ.set i (some (t.put c'))) (tr ++ [some s]) := by
  obtain ⟨p', h1, h2, h3⟩ := S4.own_at L S hi ho
  rw [hp] at h1
  cases h1
  have hHp := crep_ne h3
  let Hm : Hp := fun a => if a = p then H p else H' a
  have hm1 : Hm p = H p := if_pos rfl
  have hm2 : ∀ a, a ≠ p → Hm a = H' a := fun a z => if_neg z
  have g : Grow F H F' Hm := by
    refine ⟨e.ff, fun a o h => ?_, fun a o h => ?_, e.fn⟩
    · by_cases z : a = p
      · subst z; rw [hm1]; exact h
      · rw [hm2 a z]; exact e.hh a o h (by simpa using z)
    · by_cases z : a = p
      · subst z; rw [hF] at h; cases h
      · rw [hm2 a z]; exact e.fh a o h
  have ok : ROk K F' H Hm v s := by
    cases s with
    | fr d => exact h
    | io _ _ => exact h.elim
    | br _ => exact h.elim
    | ow c0 =>
      obtain ⟨q, q1, q2, q3, q4⟩ := h
      have : q ≠ p := fun z => by subst z; exact hHp q2
      exact ⟨q, q1, q2, q3, crep_mono (Same.refl _) (hm2 q this) q4⟩
  have S1 : S4 K W F' Hm σ (tv ++ [some v]) ρ (tr ++ [some s]) := S4.result S g ok
  exact S4.mut ⟨L.s, L.r, by simp [L.t]⟩ S1 hi ho hp (fun a z => (hm2 a z).symm) hc
theorem tj_callT {ta : TA} {f : Evn → Res (List Sl)} {den : Option Cn → List D → Ret} {n : Nat} (ha : TAJ K mg E ta f) (hn : ∀ ρ ss ρ', f ρ = .ok ss ρ' → ss.length = n) : TJ K mg E (tCallSD (spD K mg n den) [] E ta) (fCallT den f) := by
  intro W F H σ tv ρ tr Q L S hW
  have hfl : ∀ ss ρ', f ρ = .ok ss ρ' → ss.length = n := hn ρ
  refine ha W F H σ tv ρ tr _ L S ?_
  unfold fCallT at hW
  cases e0 : f ρ with
  | bad => rw [e0] at hW; exact hW
  | exc c d ρ' => rw [e0] at hW; exact hW
  | ok ss ρ1 =>
  rw [e0] at hW
  have hlen := hfl ss ρ1 e0
  intro vs F1 H1 hl S1
  have hW1 : Wants (Fly K mg E W σ tv tr) _ (callT den ss ρ1) := hW
  unfold callT at hW1
  split at hW1
  · rename_i i rest
    cases vs with
    | nil => simp at hl
    | cons v0 us =>
    split at hW1
    · rename_i t et
      split at hW1
      · rename_i c ds ho er
        split at hW1
        · rename_i hnb
          have L1 : Ln W σ (tv ++ (v0 :: us).map some) ρ1 (tr ++ (Sl.br i :: rest).map some) := L.next S1 (by simp [L.t]; simpa using hl)
          have La : Ln W σ tv ρ1 tr := L1.cut (us := (v0 :: us).map some) (ss := (Sl.br i :: rest).map some) (by simp; simpa using hl)
          have Sa : S4 K W F1 H1 σ tv ρ1 tr := S4.cut L1 S1 (by simp; simpa using hl)
          have S1' : S4 K W F1 H1 σ (tv ++ [some v0] ++ us.map some) ρ1 (tr ++ [some (Sl.br i)] ++ rest.map some) := by rw [List.append_assoc, List.append_assoc]; exact S1
          have Lb : Ln W σ (tv ++ [some v0]) ρ1 (tr ++ [some (Sl.br i)]) := ⟨La.s, La.r, by simp [La.t]⟩
          have hul : us.length = rest.length := by simpa using hl
          have hd := S4.reads Lb S1' hul er
          obtain ⟨Fp, P, l⟩ := lend Sa.fh hd
          have nolend := lent_none Lb S1' er l
          obtain ⟨p, h1, h2, h3⟩ := S4.own_at La Sa et ho
          have own : t.own ≠ none := by rw [ho]; exact fun z => nomatch z
          have hi := (List.getElem?_eq_some_iff.mp et).1
          have lσ := La.s
          have lρ := La.r
          have lt := La.t
          have full : (ρ1 ++ (tr ++ (Sl.br i :: rest).map some))[i]? = some (some t) := by rw [List.getElem?_append_left hi]; exact et
          have fullσ : (σ ++ (tv ++ (v0 :: us).map some))[i]? = some (some (V.ref p)) := by rw [List.getElem?_append_left (by omega)]; exact h1
          have ev0 : v0 = .ref p := by
            have hb := (S1.br (ρ1.length + tr.length) i (by
              rw [List.getElem?_append_right (by omega), List.getElem?_append_right (by omega)]
              simp)).2.2 t full own
            rw [fullσ, List.getElem?_append_right (by omega), List.getElem?_append_right (by omega), show ρ1.length + tr.length - σ.length - tv.length = 0 by omega] at hb
            simpa using hb
          have pP : ¬ P p := fun z => by
            obtain ⟨k, d, k1, k2, k3⟩ := l.who p z
            obtain ⟨s, k4, k5⟩ := rds_get er k2
            have at1 : (ρ1 ++ (tr ++ (Sl.br i :: rest).map some))[ρ1.length + tr.length + 1 + k]? = some (some s) := by
              rw [List.getElem?_append_right (by omega), List.getElem?_append_right (by omega), show ρ1.length + tr.length + 1 + k - ρ1.length - tr.length = k + 1 by omega]
              simp [k4]
            have at2 : (σ ++ (tv ++ (v0 :: us).map some))[ρ1.length + tr.length + 1 + k]? = some (some (V.ref p)) := by
              rw [List.getElem?_append_right (by omega), List.getElem?_append_right (by omega), show ρ1.length + tr.length + 1 + k - σ.length - tv.length = k + 1 by omega]
              simp [k1]
            cases s with
            | fr d' => cases k5; exact k3 (S4.frAt Lb S1' k4 k1)
            | ow c0 =>
              have := S1.sep _ _ _ _ p at1 full (fun z => nomatch z) own at2 fullσ
              omega
            | io j c0 =>
              have := S1.sep _ _ _ _ p at1 full (fun z => nomatch z) own at2 fullσ
              omega
            | br j =>
              have hj : j ≠ i := by
                have := List.all_eq_true.mp hnb _ (List.mem_of_getElem? k4)
                simpa using this
              unfold rd at k5
              simp only at k5
              split at k5
              · rename_i s' es
                have os : s'.own ≠ none := fun z => by rw [z] at k5; cases k5
                have hj' := (List.getElem?_eq_some_iff.mp es).1
                have fj : (ρ1 ++ (tr ++ (Sl.br i :: rest).map some))[j]? = some (some s') := by rw [List.getElem?_append_left hj']; exact es
                have hb := (S1.br _ _ at1).2.2 s' fj os
                rw [at2] at hb
                exact hj (S1.sep j i s' t p fj full os own hb.symm fullσ)
              · cases k5
          have hFp : Fp p = none := by
            cases e : Fp p with
            | none => rfl
            | some o =>
              rcases l.inn p (by rw [e]; exact fun z => nomatch z) with z | z
              · exact absurd h2 z
              · exact absurd z pP
          refine ⟨by rw [List.append_nil]; exact hl.trans hlen, Fp, [p], some c, us, ds, l.f2, l.dp, by simp [ev0], ⟨hFp, crep_mono l.f1 rfl h3⟩, ?_⟩
          have cback : ∀ {c' : Cn} {F2 F3 H2 : Hp}, (∀ vs es, ((∀ a, ¬ P a) ∨ noLsts es = true) → DtAll K F2 vs es → DtAll K F3 vs es) → ((∀ a, ¬ P a) ∨ noLstC c' = true) → CRep K F2 H2 p c' → CRep K F3 H2 p c' := fun {c' F2 F3 H2} k hc h => by
            cases c' with
            | lst es =>
              obtain ⟨vs, e1, e2⟩ := h
              exact ⟨vs, e1, k vs es hc e2⟩
          cases ed : den (some c) ds with
          | bad => rw [ed] at hW1; exact hW1.elim
          | ok s co =>
            rw [ed] at hW1
            cases co with
            | none => exact hW1.elim
            | some c' =>
              simp only at hW1
              split at hW1
              · rename_i hc
                rw [Bool.or_eq_true, Bool.and_eq_true] at hc
                have hc1 : (∀ a, ¬ P a) ∨ noLstS s = true := hc.imp nolend And.left
                have hc2 : (∀ a, ¬ P a) ∨ noLstC c' = true := hc.imp nolend And.right
                intro v F2 H2 ev ok hco
                obtain ⟨F3, ev3, k1, k2, k3⟩ := l.back ev
                exact hW1 v F3 H2 (S4.evo La Sa et ho h1 ev3 (k1 p hco.1) (cback k3 hc2 hco.2) (ROk.back ok hc1 k1 k2 k3))
              · exact hW1.elim
          | exc x d co =>
            rw [ed] at hW1
            cases co with
            | none => exact hW1.elim
            | some c' =>
              simp only at hW1
              split at hW1
              · rename_i hc
                rw [Bool.or_eq_true, Bool.and_eq_true] at hc
                have hc1 : (∀ a, ¬ P a) ∨ noLst d = true := hc.imp nolend And.left
                have hc2 : (∀ a, ¬ P a) ∨ noLstC c' = true := hc.imp nolend And.right
                intro C dx v F2 H2 g1 g2 g3 ev hco
                obtain ⟨F3, ev3, k1, k2, k3⟩ := l.back ev
                have S5 := S4.evo (v := .non) (s := .fr .none) La Sa et ho h1 ev3 (k1 p hco.1) (cback k3 hc2 hco.2) (H' := H2) .non
                refine hW1 C dx v F3 H2 g1 g2 (k2 v d hc1 g3) (S4.cut ⟨La.s, by rw [List.length_set]; exact La.r, by simp [La.t]⟩ S5 (by simp))
              · exact hW1.elim
        · exact hW1.elim
      · exact hW1.elim
    · exact hW1.elim
  · exact hW1.elim
end
end DL

namespace DL
open PySem PySem.Spec PyProof.Rows L2
section
variable {K : PySem.W.Frag} {mg : Str → Option Value} {E : XW} {W : Wd} {F0 B F H F' H' : Hp} {σ tv us vs : L2.St} {ρ ρ' tr ss : Evn} {v : V} {d : D} {s : Sl} {c c' : Cn} {p : Addr} {i : Nat} {α β : Type}

/-! ### several names at once -/
theorem SR.move {N : Nat} {ios : List Addr} {k : Nat} (S : SR K N ios F0 B F H σ ρ) (hN : N ≤ ρ.length) (hk : N ≤ k) (hi : i < N) (e : ρ[k]? = some (some s)) (ev : σ[k]? = some (some v)) (hs : ∀ j, s ≠ .br j) (hio : ∀ j c, s ≠ .io j c)
    (nb : ∀ (q : Nat), ρ[q]? ≠ some (some (Sl.br i))) : SR K N ios F0 B F H ((σ.set i (some v)).set k none) ((ρ.set i (some s)).set k none) := by
  have lk := (List.getElem?_eq_some_iff.mp e).1
  have ls := S.len
  have gρ : ∀ {j : Nat} {t : Sl}, ((ρ.set i (some s)).set k none)[j]? = some (some t) → (j = i ∧ t = s) ∨ (j ≠ i ∧ j ≠ k ∧ ρ[j]? = some (some t)) := fun {j t} h => by
    rcases set_get h with ⟨_, _, h⟩ | ⟨hjk, h⟩
    · cases h
    · rcases set_get h with ⟨rfl, _, h⟩ | ⟨hji, h⟩
      · exact .inl ⟨rfl, Option.some.inj h⟩
      · exact .inr ⟨hji, hjk, h⟩
  have gσi : ((σ.set i (some v)).set k none)[i]? = some (some v) := by
    rw [List.getElem?_set_ne (by omega), List.getElem?_set_self (by omega)]
  have gσ : ∀ {j : Nat}, j ≠ i → j ≠ k → ((σ.set i (some v)).set k none)[j]? = σ[j]? := fun {j} h1 h2 => by
    rw [List.getElem?_set_ne (Ne.symm h2), List.getElem?_set_ne (Ne.symm h1)]
  refine ⟨by simp [ls], S.fh, S.f0, S.fn, S.bh, S.bs, fun j d h => ?_, fun j c h => ?_, fun j q c h => ?_, fun j q h => ?_, fun j q a b p e1 e2 o1 o2 e3 e4 => ?_⟩
  · rcases gρ h with ⟨rfl, rfl⟩ | ⟨h1, h2, h⟩
    · obtain ⟨w, w1, w2⟩ := S.fr k d e
      rw [ev] at w1; cases w1
      exact ⟨v, gσi, w2⟩
    · rw [gσ h1 h2]; exact S.fr j d h
  · rcases gρ h with ⟨rfl, rfl⟩ | ⟨h1, h2, h⟩
    · obtain ⟨p, w1, w2⟩ := S.ow k c e
      rw [ev] at w1; cases w1
      exact ⟨p, gσi, w2⟩
    · rw [gσ h1 h2]; exact S.ow j c h
  · rcases gρ h with ⟨rfl, rfl⟩ | ⟨h1, h2, h⟩
    · exact absurd rfl (hio _ _)
    · rw [gσ h1 h2]; exact S.io j q c h
  · rcases gρ h with ⟨rfl, rfl⟩ | ⟨h1, h2, h⟩
    · exact absurd rfl (hs _)
    · obtain ⟨q1, q2, q3⟩ := S.br j q h
      refine ⟨q1, q2, fun t ht ot => ?_⟩
      have hq : q ≠ i := fun z => nb j (z ▸ h)
      rcases gρ ht with ⟨z, _⟩ | ⟨g1, g2, ht'⟩
      · exact absurd z hq
      · rw [gσ h1 h2, gσ g1 g2]; exact q3 t ht' ot
  · rcases gρ e1 with ⟨rfl, rfl⟩ | ⟨h1, h2, h⟩
    · rcases gρ e2 with ⟨rfl, rfl⟩ | ⟨g1, g2, g⟩
      · rfl
      · rw [gσi] at e3; cases e3
        rw [gσ g1 g2] at e4
        exact absurd (S.sep k q _ b p e g o1 o2 ev e4).symm g2
    · rcases gρ e2 with ⟨rfl, rfl⟩ | ⟨g1, g2, g⟩
      · rw [gσi] at e4; cases e4
        rw [gσ h1 h2] at e3
        exact absurd (S.sep j k a _ p h e o1 o2 e3 ev) h2
      · rw [gσ h1 h2] at e3
        rw [gσ g1 g2] at e4
        exact S.sep j q a b p h g o1 o2 e3 e4
def plainS : Sl → Bool
  | .fr _ => true
  | .ow _ => true
  | _ => false
def setS (σ : L2.St) : List Nat → List V → L2.St
  | i :: is, v :: vs => setS (σ.set i (some v)) is vs
  | _, _ => σ
def setE (ρ : Evn) : List Nat → List Sl → Evn
  | i :: is, s :: ss => setE (ρ.set i (some s)) is ss
  | _, _ => ρ
theorem S4.putMany : ∀ {is : List Nat} {ss : List Sl} {vs : List V} {σ : L2.St} {ρ : Evn} {n : Nat}, is.length = ss.length → vs.length = ss.length → ss.all plainS = true → (∀ i ∈ is, i < W.N) →
    Ln W σ (List.replicate n none ++ vs.map some) ρ (List.replicate n none ++ ss.map some) → S4 K W F H σ (List.replicate n none ++ vs.map some) ρ (List.replicate n none ++ ss.map some) →
    Ln W (setS σ is vs) [] (setE ρ is ss) [] ∧ S4 K W F H (setS σ is vs) [] (setE ρ is ss) []
  | [], [], [], σ, ρ, n, _, _, _, _, L, S => by
    refine ⟨⟨L.s, L.r, rfl⟩, ?_⟩
    show S4 K W F H σ [] ρ []
    exact S4.cut (tv := []) (tr := []) (us := List.replicate n none ++ [].map some) (ss := List.replicate n none ++ ([] : List Sl).map some) (by simpa using L) (by simpa using S) (by simp)
  | i :: is, s :: ss, v :: vs, σ, ρ, n, h1, h2, h3, h4, L, S => by
    have h3' := h3
    rw [List.all_cons, Bool.and_eq_true] at h3
    have hi := h4 i List.mem_cons_self
    have l1 := L.s
    have l2 := L.r
    have e : (ρ ++ (List.replicate n none ++ (s :: ss).map some))[ρ.length + n]? = some (some s) := by
      rw [List.getElem?_append_right (by omega), List.getElem?_append_right (by simp)]
      simp
    have ev : (σ ++ (List.replicate n none ++ (v :: vs).map some))[ρ.length + n]? = some (some v) := by
      rw [List.getElem?_append_right (by omega), List.getElem?_append_right (by simp; omega)]
      simp [l1, l2]
    have nb : ∀ (q : Nat), (ρ ++ (List.replicate n none ++ (s :: ss).map some))[q]? ≠ some (some (Sl.br i)) := fun q z => by
      have hq := (S.br q i z).1
      rw [List.getElem?_append_right (by omega)] at z
      by_cases hn : q - ρ.length < n
      · rw [List.getElem?_append_left (by simpa using hn), List.getElem?_replicate] at z
        split at z <;> cases z
      · rw [List.getElem?_append_right (by simpa using hn), List.getElem?_map] at z
        cases e2 : (s :: ss)[q - ρ.length - (List.replicate n (none : Option Sl)).length]? with
        | none => rw [e2] at z; cases z
        | some t =>
          rw [e2] at z
          cases z
          have := List.all_eq_true.mp h3' _ (List.mem_of_getElem? e2)
          cases this
    have M := SR.move S (k := ρ.length + n) (i := i) (s := s) (v := v) (by simp; omega) (by omega) hi e ev (fun j z => by subst z; cases h3.1) (fun j c z => by subst z; cases h3.1) nb
    have e1 : ((ρ ++ (List.replicate n none ++ (s :: ss).map some)).set i (some s)).set (ρ.length + n) none = ρ.set i (some s) ++ (List.replicate (n + 1) none ++ ss.map some) := by
      rw [List.set_append_left _ _ (by omega), List.set_append_right _ _ (by simp), List.set_append_right _ _ (by simp)]
      simp [List.replicate_succ']
    have e2 : ((σ ++ (List.replicate n none ++ (v :: vs).map some)).set i (some v)).set (ρ.length + n) none = σ.set i (some v) ++ (List.replicate (n + 1) none ++ vs.map some) := by
      rw [List.set_append_left _ _ (by omega), List.set_append_right _ _ (by simp; omega), List.set_append_right _ _ (by simp; omega)]
      simp [List.replicate_succ', l1, l2]
    rw [e1, e2] at M
    exact S4.putMany (is := is) (ss := ss) (vs := vs) (n := n + 1) (by simpa using h1) (by simpa using h2) h3.2 (fun j hj => h4 j (List.mem_cons_of_mem _ hj)) ⟨by simp [l1], by simp [l2], by simpa using h2⟩ M
  | [], _ :: _, _, _, _, _, h, _, _, _, _, _ => by simp at h
  | _ :: _, [], _, _, _, _, h, _, _, _, _, _ => by simp at h
  | [], [], _ :: _, _, _, _, _, h, _, _, _, _ => by simp at h
  | _ :: _, _ :: _, [], _, _, _, _, h, _, _, _, _ => by simp at h
def fPar (is : List Nat) (f : Evn → Res (List Sl)) (ρ : Evn) : Res Fl := (f ρ).bind fun ss ρ1 => if is.length = ss.length ∧ ss.all plainS = true ∧ ∀ i ∈ is, i < ρ1.length then .ok .nx (setE ρ1 is ss) else .bad
theorem par_core {ta : TA} {f : Evn → Res (List Sl)} {is : List Nat} (h : TAJ K mg E ta f) {D : Ends} {Q : List V → Hp → Prop} (L : Ln W σ [] ρ []) (S : S4 K W F H σ [] ρ []) (hW : Wants (FlyS K mg E W) (EndsOk K W D) (fPar is f ρ))
    (hq : ∀ vs F' H', vs.length = is.length → Same F' H' → (∀ F2 H2, Grow F' H' F2 H2 → D.nx (setS σ is vs) H2) → Q vs H') : ta σ H Q := by
  refine h.run L S (fun _ _ _ h => h.fly L) hW fun ss ρ1 vs F1 H1 hl L1 S1 hW1 => ?_
  split at hW1
  · rename_i hc
    refine hq vs F1 H1 (by rw [hl]; exact hc.1.symm) S1.fh fun F2 H2 g => ?_
    have S2 : S4 K W F2 H2 σ ([] ++ vs.map some) ρ1 ([] ++ ss.map some) := SR.grow S1 g
    have := S4.putMany (is := is) (n := 0) hc.1 hl hc.2.1 (fun j hj => by rw [← L1.r]; exact hc.2.2 j hj) (by simpa using L1) (by simpa using S2)
    exact hW1 _ F2 H2 this.1 this.2
  · exact hW1.elim
theorem tsj_par {ta : TA} {f : Evn → Res (List Sl)} {i j : Nat} (h : TAJ K mg E ta f) : TSJ K mg E (tPar i j ta) (fPar [i, j] f) := by
  intro W F H σ ρ D L S hW
  refine par_core h L S hW fun vs F' H' hl fh q => ?_
  match vs, hl with
  | [v, w], _ => exact ⟨v, w, rfl, q F' H' (.refl fh)⟩
theorem tsj_par3 {ta : TA} {f : Evn → Res (List Sl)} {i j l : Nat} (h : TAJ K mg E ta f) : TSJ K mg E (tPar3 i j l ta) (fPar [i, j, l] f) := by
  intro W F H σ ρ D L S hW
  refine par_core h L S hW fun vs F' H' hl fh q => ?_
  match vs, hl with
  | [u, v, w], _ => exact ⟨u, v, w, rfl, q F' H' (.refl fh)⟩
def gNames : List Nat → TGs
  | [] => gNil
  | i :: is => gCons (gName i) (gNames is)
theorem gNames_ok : ∀ {is : List Nat} {vs : List V} {σ : L2.St} {H : Hp} {Q : L2.St → Hp → Prop}, vs.length = is.length → Q (setS σ is vs) H → gNames is vs σ H Q
  | [], [], _, _, _, _, q => ⟨rfl, q⟩
  | i :: is, v :: vs, σ, H, Q, hl, q => ⟨v, vs, rfl, gNames_ok (is := is) (vs := vs) (by simpa using hl) q⟩
  | [], _ :: _, _, _, _, h, _ => by simp at h
  | _ :: _, [], _, _, _, h, _ => by simp at h
/-- the same where one of the names is a cell: by way of a tuple -/
theorem tsj_parT {ta : TA} {f : Evn → Res (List Sl)} {is : List Nat} {n : Nat} (h : TAJ K mg E ta f) (hn : is.length = n) (hz : n ≤ 100000) : TSJ K mg E (tAsg (tTup ta) (gTup K n (gNames is))) (fPar is f) := by
  intro W F H σ ρ D L S hW
  refine par_core h L S hW fun vs F' H' hl fh q => ?_
  refine ⟨line5 (by omega), fun p hp => ⟨p, vs, rfl, .of upd_same, by omega, gNames_ok hl (q F' _ (.laid fh hp))⟩⟩
/-- (a, b, ..) = xs, xs a list of frozen data -/
def gLstF (n : Nat) (g : List D → Evn → Option Evn) (d : D) (ρ : Evn) : Option Evn := match d with
  | .list ds => if ds.length = n then g ds ρ else none
  | _ => none
theorem tgj_lst {gs : TGs} {is : List Nat} {n : Nat} {fs : List D → Evn → Option Evn} (h : TGsJ K gs is fs) : TGJ K (gLst K n gs) is (gLstF n fs) := by
  intro W F H σ tv ρ tr x d ρ' Q L S hx hf q
  unfold gLstF at hf
  split at hf
  · rename_i ds
    split at hf
    · rename_i hn
      cases hx with
      | lst hs ha => exact ⟨_, _, rfl, .of (S.fh _ _ hs), by rw [dpAll_len ha]; exact hn, h W F H σ tv ρ tr _ ds ρ' Q L S ha hf q⟩
    · cases hf
  · cases hf

/-! ### the values of operators -/
def frO (d : Option D) : Option Sl := d.map .fr
theorem VR2.or {r r' : R2} {g g' : D → D → Option Sl} (h : VR2 K r g) (h' : VR2 K r' g') : VR2 K (fun x y H Q => r x y H Q ∨ r' x y H Q) (fun a b => (g a b).or (g' a b)) := by
  intro F H x y dx dy s Q fh r1 r2 e q
  cases e1 : g dx dy with
  | some t =>
    simp only [e1, Option.or_some] at e
    exact .inl (h F H x y dx dy s Q fh r1 r2 (by rw [e1]; exact e) q)
  | none =>
    simp only [e1, Option.none_or] at e
    exact .inr (h' F H x y dx dy s Q fh r1 r2 e q)
theorem VRn.or {r r' : List V → Hp → VK → Prop} {g g' : List D → Option Sl} (h : VRn K r g) (h' : VRn K r' g') : VRn K (fun x H Q => r x H Q ∨ r' x H Q) (fun a => (g a).or (g' a)) := by
  intro F H x dx s Q fh r1 e q
  cases e1 : g dx with
  | some t =>
    simp only [e1, Option.or_some] at e
    exact .inl (h F H x dx s Q fh r1 (by rw [e1]; exact e) q)
  | none =>
    simp only [e1, Option.none_or] at e
    exact .inr (h' F H x dx s Q fh r1 e q)
/-- two ints -/
def op2I (C : Int → Int → Bool) (g : Int → Int → D) (a b : D) : Option Sl := match a, b with
  | .int i, .int j => if C i j then some (.fr (g i j)) else none
  | _, _ => none
theorem vr_I {Cp : Int → Int → Prop} {C : Int → Int → Bool} {g : Int → Int → V} {gd : Int → Int → D} (hC : ∀ i j, C i j = true → Cp i j) (hg : ∀ F i j, Dt K F (g i j) (gd i j)) : VR2 K (rI Cp g) (op2I C gd) := by
  intro F H x y dx dy s Q fh r1 r2 e q
  unfold op2I at e
  split at e
  · rename_i i j
    split at e
    · rename_i hc
      cases e
      rw [RepC.int r1, RepC.int r2]
      exact ⟨i, j, rfl, rfl, hC i j hc, q _ F H (.refl fh) (hg F i j)⟩
    · cases e
  · cases e
theorem vr_I0 {g : Int → Int → V} {gd : Int → Int → D} (hg : ∀ F i j, Dt K F (g i j) (gd i j)) : VR2 K (rI0 g) (op2I (fun _ _ => true) gd) := by
  intro F H x y dx dy s Q fh r1 r2 e q
  unfold op2I at e
  split at e
  · rename_i i j
    cases e
    rw [RepC.int r1, RepC.int r2]
    exact ⟨i, j, rfl, rfl, q _ F H (.refl fh) (hg F i j)⟩
  · cases e
theorem vr_sub : VR2 K (rI0 fun i j => .int (i - j)) (op2I (fun _ _ => true) fun i j => .int (i - j)) := vr_I0 fun _ _ _ => .int _
theorem vr_addI : VR2 K (rI0 fun i j => .int (i + j)) (op2I (fun _ _ => true) fun i j => .int (i + j)) := vr_I0 fun _ _ _ => .int _
theorem vr_mod : VR2 K (rI (fun _ j => 0 < j) fun i j => .int (i % j)) (op2I (fun _ j => decide (0 < j)) fun i j => .int (i % j)) := vr_I (fun _ _ h => of_decide_eq_true h) fun _ _ _ => .int _
def divOk (j : Int) : Bool := decide (0 < j ∧ j < 2 ^ 64)
theorem vr_div : VR2 K (rI CDivW fun i j => .int (i / j)) (op2I (fun _ j => divOk j) fun i j => .int (i / j)) :=
  vr_I (fun i j h => by
    have h := of_decide_eq_true h
    exact wide_div (b := 64) h.1 (by omega) (by decide) (by decide)) fun _ _ _ => .int _
def powOk (i j : Int) : Bool := decide (0 ≤ j ∧ j ≤ 1000 ∧ i.natAbs < 2 ^ 64)
theorem vr_pow : VR2 K (rI CPow fun i j => .int (i ^ j.toNat)) (op2I powOk fun i j => .int (i ^ j.toNat)) :=
  vr_I (fun i j h => by
    have h := of_decide_eq_true h
    exact ⟨h.1, by omega, h.2.2⟩) fun _ _ _ => .int _
def mulOk (i j : Int) : Bool := decide ((-(2 ^ 64) < i ∧ i < 2 ^ 64) ∨ (-(2 ^ 64) < j ∧ j < 2 ^ 64))
theorem vr_mulI : VR2 K (rI CMul fun i j => .int (i * j)) (op2I mulOk fun i j => .int (i * j)) := vr_I (fun i j h => by unfold CMul; exact of_decide_eq_true h) fun _ _ _ => .int _
theorem vr_cmp {p : Int → Int → Prop} [∀ i j, Decidable (p i j)] : VR2 K (rI0 fun i j => .bl (decide (p i j))) (op2I (fun _ _ => true) fun i j => .bool (decide (p i j))) := vr_I0 fun _ _ _ => .bl _
/-- texts -/
def op2S (C : Str → Str → Bool) (g : Str → Str → D) (a b : D) : Option Sl := match a, b with
  | .str i, .str j => if C i j then some (.fr (g i j)) else none
  | _, _ => none
def rAddS : R2 := fun x y H Q => ∃ i j, x = .str i ∧ y = .str j ∧ i.length + j.length ≤ sizeLine ∧ Q (.str (i ++ j)) H
theorem vr_addS : VR2 K rAddS (op2S (fun i j => decide (i.length + j.length ≤ 100000)) fun i j => .str (i ++ j)) := by
  intro F H x y dx dy s Q fh r1 r2 e q
  unfold op2S at e
  split at e
  · rename_i i j
    split at e
    · rename_i hc
      cases e
      rw [RepC.str r1, RepC.str r2]
      exact ⟨i, j, rfl, rfl, line5 (of_decide_eq_true hc), q _ F H (.refl fh) (.str _)⟩
    · cases e
  · cases e
theorem vr_ltS : VR2 K (fun x y H Q => ∃ i j, x = .str i ∧ y = .str j ∧ Q (.bl (decide (i.cps.toList < j.cps.toList))) H) (op2S (fun _ _ => true) fun i j => .bool (decide (i.cps.toList < j.cps.toList))) := by
  intro F H x y dx dy s Q fh r1 r2 e q
  unfold op2S at e
  split at e
  · rename_i i j
    cases e
    rw [RepC.str r1, RepC.str r2]
    exact ⟨i, j, rfl, rfl, q _ F H (.refl fh) (.bl _)⟩
  · cases e
/-- a list made -/
def okL (ds : List D) : Option Sl := if ds.length ≤ 100000 then some (.ow (.lst ds)) else none
theorem ROk.new_lst {ds : List D} {vs : List V} (fh : Same F H) (hp : H p = none) (ha : DtAll K F vs ds) : ROk K F H (upd H p (.lst vs)) (.ref p) (.ow (.lst ds)) := ⟨p, rfl, hp, Same.free fh hp, vs, upd_same, ha⟩
theorem Dt.new_tup {ds : List D} {vs : List V} (fh : Same F H) (hp : H p = none) (ha : DtAll K F vs ds) : Dt K (upd F p (.tup vs)) (.ref p) (.tuple ds) := .tup (.of upd_same) (dpAll_mono (Same.upd_new (Same.free fh hp)) _ _ ha)
def catL (a b : D) : Option Sl := match a, b with
  | .list xs, .list ys => okL (xs ++ ys)
  | _, _ => none
theorem vr_catL : VR2 K rCat catL := by
  intro F H x y dx dy s Q fh r1 r2 e q
  unfold catL okL at e
  split at e
  · rename_i xs ys
    split at e
    · rename_i hc
      cases e
      obtain ⟨a, vs, rfl, h1, h2⟩ := r1.lst fh
      obtain ⟨b, ws, rfl, h3, h4⟩ := r2.lst fh
      refine ⟨a, b, vs, ws, rfl, rfl, h1, h3, ?_, fun p hp => q _ F _ (.laid fh hp) (.new_lst fh hp (dpAll_app h2 h4))⟩
      have := line5 hc
      rw [List.length_append] at this
      rw [dpAll_len h2, dpAll_len h4]
      exact this
    · cases e
  · cases e
def catT (a b : D) : Option Sl := match a, b with
  | .tuple xs, .tuple ys => if (xs ++ ys).length ≤ 100000 then some (.fr (.tuple (xs ++ ys))) else none
  | _, _ => none
theorem vr_addT {r : R2} (hr : ∀ x y H Q, (∃ a b xs ys, x = .ref a ∧ y = .ref b ∧ SqT K H a xs ∧ SqT K H b ys ∧ xs.length + ys.length ≤ sizeLine ∧ (xs = [] → Q (.ref b) H) ∧ (xs ≠ [] → ys = [] → Q (.ref a) H) ∧ (xs ≠ [] → ys ≠ [] → ∀ p, H p = none → Q (.ref p) (upd H p (.tup (xs ++ ys))))) → r x y H Q) : VR2 K r catT := by
  intro F H x y dx dy s Q fh r1 r2 e q
  unfold catT at e
  split at e
  · rename_i xs ys
    split at e
    · rename_i hc
      cases e
      obtain ⟨a, vs, rfl, h1, h2, h2'⟩ := r1.tup fh
      obtain ⟨b, ws, rfl, h3, h4, h4'⟩ := r2.tup fh
      have l1 := dpAll_len h2
      have l2 := dpAll_len h4
      refine hr _ _ H Q ⟨a, b, vs, ws, rfl, rfl, h1, h3, ?_, fun z => ?_, fun _ z => ?_, fun _ _ p hp => q _ _ _ (.froze fh hp) (Dt.new_tup fh hp (dpAll_app h2 h4))⟩
      · have := line5 hc
        rw [List.length_append] at this
        rw [l1, l2]; exact this
      · subst z
        cases h2
        exact q _ F H (.refl fh) h4'
      · subst z
        cases h4
        refine q _ F H (.refl fh) ?_
        show Dt K F _ (.tuple (_ ++ []))
        rw [List.append_nil]; exact h2'
    · cases e
  · cases e
/-- == and != -/
def canEq (d : D) : Bool := SeqAt.shaped d
def eqOp (neg : Bool) (a b : D) : Option Sl := if canEq a && canEq b then some (.fr (.bool (if neg then !PyData.eqv a b else PyData.eqv a b))) else none
theorem vr_eqD : VR2 K (rEqD K) (eqOp false) := by
  intro F H x y dx dy s Q fh r1 r2 e q
  unfold eqOp at e
  split at e
  · rename_i hc
    rw [Bool.and_eq_true] at hc
    cases e
    exact ⟨dx, dy, r1.dp fh, r2.dp fh, hc.1, hc.2, q _ F H (.refl fh) (.bl _)⟩
  · cases e
theorem vr_neD : VR2 K (rNeD K) (eqOp true) := by
  intro F H x y dx dy s Q fh r1 r2 e q
  unfold eqOp at e
  split at e
  · rename_i hc
    rw [Bool.and_eq_true] at hc
    cases e
    exact ⟨dx, dy, r1.dp fh, r2.dp fh, hc.1, hc.2, q _ F H (.refl fh) (.bl _)⟩
  · cases e
/-- is None, is not None -/
def isNonD : D → Bool
  | .none => true
  | _ => false
def isN (neg : Bool) (a b : D) : Option Sl := match b with
  | .none => some (.fr (.bool (if neg then !isNonD a else isNonD a)))
  | _ => none
theorem RepC.isNon (h : RepC K F H v d) : decide (v = .non) = isNonD d := by
  rcases h with h | ⟨p, vs, ds, rfl, rfl, _⟩
  · cases h <;> rfl
  · rfl
theorem vr_isN : VR2 K (fun x y H Q => y = .non ∧ Q (.bl (decide (x = .non))) H) (isN false) := by
  intro F H x y dx dy s Q fh r1 r2 e q
  unfold isN at e
  split at e
  · cases e
    refine ⟨r2.non, ?_⟩
    rw [r1.isNon]
    exact q _ F H (.refl fh) (.bl _)
  · cases e
theorem vr_notN : VR2 K (fun x y H Q => y = .non ∧ Q (.bl (!decide (x = .non))) H) (isN true) := by
  intro F H x y dx dy s Q fh r1 r2 e q
  unfold isN at e
  split at e
  · cases e
    refine ⟨r2.non, ?_⟩
    rw [r1.isNon]
    exact q _ F H (.refl fh) (.bl _)
  · cases e
/-- x in xs, the items flat -/
def flatD : D → Bool
  | .none => true
  | .bool _ => true
  | .int _ => true
  | .str _ => true
  | _ => false
def inD (x : D) (xs : List D) : Bool := xs.any fun y => PyData.eqv y x
theorem flat_of {F : Hp} (h : Dt K F v d) (hf : flatD d = true) : flatV v = true := by
  cases h <;> first | rfl | cases hf
theorem eqv_of {w : V} {e : D} (h : Dt K F v d) (h' : Dt K F w e) (hf : flatD d = true) (hf' : flatD e = true) : eqV v w = PyData.eqv d e := by
  cases h <;> first | (cases hf; done) | (cases h' <;> first | (cases hf'; done) | rfl | (simp [eqV, PyData.eqv]))
theorem RepC.flat (h : RepC K F H v d) (hf : flatD d = true) : Dt K F v d := by
  rcases h with h | ⟨p, vs, ds, rfl, rfl, _⟩
  · exact h
  · cases hf
theorem inV_of {x : V} {dx : D} (hx : Dt K F x dx) (fx : flatD dx = true) : ∀ {vs : List V} {ds : List D}, DtAll K F vs ds → ds.all flatD = true → vs.all flatV = true ∧ inV x vs = inD dx ds
  | _, _, .nil, _ => ⟨rfl, rfl⟩
  | _, _, .cons h t, hf => by
    rw [List.all_cons, Bool.and_eq_true] at hf
    obtain ⟨h1, h2⟩ := inV_of hx fx t hf.2
    refine ⟨by rw [List.all_cons, flat_of h hf.1, h1]; rfl, ?_⟩
    unfold inV inD at *
    rw [List.any_cons, List.any_cons, h2, eqv_of h hx hf.1 fx]
def inOp (neg : Bool) (x xs : D) : Option Sl := match xs with
  | .list ds => if flatD x && ds.all flatD then some (.fr (.bool (if neg then !inD x ds else inD x ds))) else none
  | .tuple ds => if flatD x && ds.all flatD then some (.fr (.bool (if neg then !inD x ds else inD x ds))) else none
  | _ => none
theorem vr_in {neg : Bool} : VR2 K (rIn K neg) (inOp neg) := by
  intro F H x y dx dy s Q fh r1 r2 e q
  unfold inOp at e
  split at e
  · rename_i ds
    split at e
    · rename_i hc
      rw [Bool.and_eq_true] at hc
      cases e
      obtain ⟨a, vs, rfl, h1, h2⟩ := r2.lst fh
      have hx := r1.flat hc.1
      obtain ⟨h3, h4⟩ := inV_of hx hc.1 h2 hc.2
      refine ⟨a, vs, rfl, .inl (.of h1), flat_of hx hc.1, h3, ?_⟩
      rw [h4]
      exact q _ F H (.refl fh) (.bl _)
    · cases e
  · rename_i ds
    split at e
    · rename_i hc
      rw [Bool.and_eq_true] at hc
      cases e
      obtain ⟨a, vs, rfl, h1, h2, _⟩ := r2.tup fh
      have hx := r1.flat hc.1
      obtain ⟨h3, h4⟩ := inV_of hx hc.1 h2 hc.2
      refine ⟨a, vs, rfl, .inr h1, flat_of hx hc.1, h3, ?_⟩
      rw [h4]
      exact q _ F H (.refl fh) (.bl _)
    · cases e
  · cases e
/-- xs[i] -/
def ixD (n : Nat) (i : Int) : Option Nat := if 0 ≤ i then (if i < n then some i.toNat else none) else if 0 ≤ i + n then some (i + n).toNat else none
theorem atI_of {α : Type} {xs : List α} {i : Int} {j : Nat} {v : α} (h : ixD xs.length i = some j) (hv : xs[j]? = some v) : atI xs i = some v := by
  unfold ixD at h
  have e : ixN xs.length i = some j := by
    unfold ixN
    split at h
    · rename_i h0
      split at h
      · rename_i h1
        cases h
        rw [if_pos h0, if_pos (by omega)]
      · cases h
    · rename_i h0
      split at h
      · rename_i h1
        cases h
        rw [if_neg h0, if_pos (by omega)]
      · cases h
  unfold atI
  rw [e]; exact hv
def ixOp (xs i : D) : Option Sl := match xs, i with
  | .list ds, .int i => (match ixD ds.length i with
    | some j => (ds[j]?).map .fr
    | none => none)
  | .tuple ds, .int i => (match ixD ds.length i with
    | some j => (ds[j]?).map .fr
    | none => none)
  | .str z, .int i => if z.length ≤ 100000 then (match ixD z.cps.toList.length i with
    | some j => (z.cps.toList[j]?).map fun c => .fr (.str ⟨#[c]⟩)
    | none => none) else none
  | _, _ => none
theorem vr_ix : VR2 K (rIx K) ixOp := by
  intro F H x y dx dy s Q fh r1 r2 e q
  unfold ixOp at e
  split at e
  · rename_i ds i
    split at e
    · rename_i j ej
      cases ed : ds[j]? with
      | none => rw [ed] at e; cases e
      | some d =>
        rw [ed] at e
        cases e
        obtain ⟨a, vs, rfl, h1, h2⟩ := r1.lst fh
        obtain ⟨w, w1, w2⟩ := dpAll_get h2 ed
        rw [RepC.int r2]
        exact .inl ⟨a, vs, i, w, rfl, rfl, .of h1, atI_of (by rw [dpAll_len h2]; exact ej) w1, q _ F H (.refl fh) w2⟩
    · cases e
  · rename_i ds i
    split at e
    · rename_i j ej
      cases ed : ds[j]? with
      | none => rw [ed] at e; cases e
      | some d =>
        rw [ed] at e
        cases e
        obtain ⟨a, vs, rfl, h1, h2, _⟩ := r1.tup fh
        obtain ⟨w, w1, w2⟩ := dpAll_get h2 ed
        rw [RepC.int r2]
        exact .inr (.inl ⟨a, vs, i, w, rfl, rfl, h1, atI_of (by rw [dpAll_len h2]; exact ej) w1, q _ F H (.refl fh) w2⟩)
    · cases e
  · rename_i z i
    split at e
    · rename_i hz
      split at e
      · rename_i j ej
        cases ed : z.cps.toList[j]? with
        | none => rw [ed] at e; cases e
        | some c =>
          rw [ed] at e
          cases e
          rw [RepC.str r1, RepC.int r2]
          exact .inr (.inr ⟨z, i, c, rfl, rfl, line5 hz, atI_of ej ed, q _ F H (.refl fh) (.str _)⟩)
      · cases e
    · cases e
  · cases e
end
end DL

namespace DL
open PySem PySem.Spec PyProof.Rows L2 RZ
section
variable {K : PySem.W.Frag} {mg : Str → Option Value} {E : XW} {W : Wd} {F0 B F H F' H' : Hp} {σ tv us vs : L2.St} {ρ ρ' tr ss : Evn} {v : V} {d : D} {s : Sl} {c c' : Cn} {p : Addr} {i : Nat} {α β : Type}

/-! ### the values of calls -/
theorem one_arg {r : List V → Hp → VK → Prop} {g : List D → Option Sl} (hg : ∀ ds, g ds ≠ none → ∃ d, ds = [d])
    (h : ∀ (F H : Hp) (x : V) (d : D) (s : Sl) (Q : VK), Same F H → RepC K F H x d → g [d] = some s → (∀ v F' H', Grow F H F' H' → ROk K F' H H' v s → Q v H') → r [x] H Q) : VRn K r g := by
  intro F H xs ds s Q fh hd e q
  obtain ⟨d, rfl⟩ := hg ds (by rw [e]; exact fun z => nomatch z)
  cases hd with
  | cons r t =>
    cases t
    exact h F H _ d s Q fh r e q
def lenOp : List D → Option Sl
  | [.list ds] => some (.fr (.int ds.length))
  | [.tuple ds] => some (.fr (.int ds.length))
  | [.str z] => if z.length ≤ 100000 then some (.fr (.int z.length)) else none
  | _ => none
theorem vr_len : VRn K (fun xs H Q => ∃ x n, xs = [x] ∧ LenV K x H n ∧ Q (.int n) H) lenOp := by
  refine one_arg (fun ds h => ?_) fun F H x d s Q fh r e q => ?_
  · unfold lenOp at h
    split at h <;> first | exact ⟨_, rfl⟩ | exact absurd rfl h
  · unfold lenOp at e
    split at e
    · rename_i ds0 ds e0
      cases e0
      cases e
      obtain ⟨a, vs, rfl, h1, h2⟩ := r.lst fh
      exact ⟨_, ds.length, rfl, .inl ⟨vs, .of h1, (dpAll_len h2).symm⟩, q _ F H (.refl fh) (.int _)⟩
    · rename_i ds0 ds e0
      cases e0
      cases e
      obtain ⟨a, vs, rfl, h1, h2, _⟩ := r.tup fh
      exact ⟨_, ds.length, rfl, .inr ⟨vs, h1, (dpAll_len h2).symm⟩, q _ F H (.refl fh) (.int _)⟩
    · rename_i ds0 z e0
      cases e0
      split at e
      · rename_i hz
        cases e
        rw [RepC.str r]
        exact ⟨_, z.length, rfl, ⟨line5 hz, rfl⟩, q _ F H (.refl fh) (.int _)⟩
      · cases e
    · cases e
def listOp : List D → Option Sl
  | [.list ds] => some (.ow (.lst ds))
  | [.tuple ds] => some (.ow (.lst ds))
  | _ => none
theorem vr_list : VRn K (fun xs H Q => ∃ p ys, xs = [.ref p] ∧ (SqL K H p ys ∨ SqT K H p ys) ∧ ∀ l, H l = none → Q (.ref l) (upd H l (.lst ys))) listOp := by
  refine one_arg (fun ds h => ?_) fun F H x d s Q fh r e q => ?_
  · unfold listOp at h
    split at h <;> first | exact ⟨_, rfl⟩ | exact absurd rfl h
  · unfold listOp at e
    split at e
    · rename_i ds0 ds e0
      cases e0
      cases e
      obtain ⟨a, vs, rfl, h1, h2⟩ := r.lst fh
      exact ⟨a, vs, rfl, .inl (.of h1), fun p hp => q _ F _ (.laid fh hp) (.new_lst fh hp h2)⟩
    · rename_i ds0 ds e0
      cases e0
      cases e
      obtain ⟨a, vs, rfl, h1, h2, _⟩ := r.tup fh
      exact ⟨a, vs, rfl, .inr h1, fun p hp => q _ F _ (.laid fh hp) (.new_lst fh hp h2)⟩
    · cases e
def tupleOp : List D → Option Sl
  | [.list ds] => some (.fr (.tuple ds))
  | [.tuple ds] => some (.fr (.tuple ds))
  | _ => none
theorem vr_tuple : VRn K (fun xs H Q => ∃ p ys, xs = [.ref p] ∧ ((SqL K H p ys ∧ ∀ l, H l = none → Q (.ref l) (upd H l (.tup ys))) ∨ (SqT K H p ys ∧ Q (.ref p) H))) tupleOp := by
  refine one_arg (fun ds h => ?_) fun F H x d s Q fh r e q => ?_
  · unfold tupleOp at h
    split at h <;> first | exact ⟨_, rfl⟩ | exact absurd rfl h
  · unfold tupleOp at e
    split at e
    · rename_i ds0 ds e0
      cases e0
      cases e
      obtain ⟨a, vs, rfl, h1, h2⟩ := r.lst fh
      exact ⟨a, vs, rfl, .inl ⟨.of h1, fun p hp => q _ _ _ (.froze fh hp) (Dt.new_tup fh hp h2)⟩⟩
    · rename_i ds0 ds e0
      cases e0
      cases e
      obtain ⟨a, vs, rfl, h1, h2, h3⟩ := r.tup fh
      exact ⟨a, vs, rfl, .inr ⟨h1, q _ F H (.refl fh) h3⟩⟩
    · cases e
def absOp : List D → Option Sl
  | [.int i] => some (.fr (.int (if i < 0 then -i else i)))
  | _ => none
theorem vr_abs : VRn K (fun xs H Q => ∃ i, xs = [.int i] ∧ Q (.int (if i < 0 then -i else i)) H) absOp := by
  refine one_arg (fun ds h => ?_) fun F H x d s Q fh r e q => ?_
  · unfold absOp at h
    split at h <;> first | exact ⟨_, rfl⟩ | exact absurd rfl h
  · unfold absOp at e
    split at e
    · rename_i ds0 i e0
      cases e0
      cases e
      rw [RepC.int r]
      exact ⟨i, rfl, q _ F H (.refl fh) (.int _)⟩
    · cases e
def intOp : List D → Option Sl
  | [.int i] => some (.fr (.int i))
  | [.bool k] => some (.fr (.int (if k then 1 else 0)))
  | _ => none
theorem vr_int : VRn K (fun xs H Q => (∃ i, xs = [.int i] ∧ Q (.int i) H) ∨ ∃ k, xs = [.bl k] ∧ Q (.int (if k then 1 else 0)) H) intOp := by
  refine one_arg (fun ds h => ?_) fun F H x d s Q fh r e q => ?_
  · unfold intOp at h
    split at h <;> first | exact ⟨_, rfl⟩ | exact absurd rfl h
  · unfold intOp at e
    split at e
    · rename_i ds0 i e0
      cases e0
      cases e
      rw [RepC.int r]
      exact .inl ⟨i, rfl, q _ F H (.refl fh) (.int _)⟩
    · rename_i ds0 i e0
      cases e0
      cases e
      rw [RepC.bl r]
      exact .inr ⟨i, rfl, q _ F H (.refl fh) (.int _)⟩
    · cases e
def max2Op : List D → Option Sl
  | [.int i, .int j] => some (.fr (.int (if j > i then j else i)))
  | _ => none
theorem vr_max2 : VRn K (fun xs H Q => ∃ i j, xs = [.int i, .int j] ∧ Q (.int (if j > i then j else i)) H) max2Op := by
  intro F H xs ds s Q fh hd e q
  unfold max2Op at e
  split at e
  · rename_i ds0 i j
    cases e
    cases hd with
    | cons r t => cases t with
      | cons r2 t =>
        cases t
        rw [RepC.int r, RepC.int r2]
        exact ⟨i, j, rfl, q _ F H (.refl fh) (.int _)⟩
  · cases e
def min2Op : List D → Option Sl
  | [.int i, .int j] => some (.fr (.int (if j < i then j else i)))
  | _ => none
theorem vr_min2 : VRn K (fun xs H Q => ∃ i j, xs = [.int i, .int j] ∧ Q (.int (if j < i then j else i)) H) min2Op := by
  intro F H xs ds s Q fh hd e q
  unfold min2Op at e
  split at e
  · rename_i ds0 i j
    cases e
    cases hd with
    | cons r t => cases t with
      | cons r2 t =>
        cases t
        rw [RepC.int r, RepC.int r2]
        exact ⟨i, j, rfl, q _ F H (.refl fh) (.int _)⟩
  · cases e
/-- lists of truths, of ints, of texts -/
def bools : List D → Option (List Bool)
  | [] => some []
  | .bool b :: ds => (bools ds).map (b :: ·)
  | _ => none
theorem bools_ok : ∀ {ds : List D} {vs : List V} {bs : List Bool}, bools ds = some bs → DtAll K F vs ds → vs = bs.map V.bl
  | [], _, bs, h, hd => by cases h; cases hd; rfl
  | d :: ds, vs, bs, h, hd => by
    unfold bools at h
    split at h
    · rename_i e; cases e
    · rename_i b ds' e
      cases e
      cases eb : bools ds with
      | none => rw [eb] at h; cases h
      | some bs' =>
        rw [eb] at h
        cases h
        cases hd with
        | cons h1 h2 =>
          cases h1
          rw [bools_ok eb h2]
          rfl
    · cases h
def intsD : List D → Option (List Int)
  | [] => some []
  | .int b :: ds => (intsD ds).map (b :: ·)
  | _ => none
theorem intsD_ok : ∀ {ds : List D} {vs : List V} {bs : List Int}, intsD ds = some bs → DtAll K F vs ds → vs = bs.map V.int
  | [], _, bs, h, hd => by cases h; cases hd; rfl
  | d :: ds, vs, bs, h, hd => by
    unfold intsD at h
    split at h
    · rename_i e; cases e
    · rename_i b ds' e
      cases e
      cases eb : intsD ds with
      | none => rw [eb] at h; cases h
      | some bs' =>
        rw [eb] at h
        cases h
        cases hd with
        | cons h1 h2 =>
          cases h1
          rw [intsD_ok eb h2]
          rfl
    · cases h
def strsD : List D → Option (List Str)
  | [] => some []
  | .str b :: ds => (strsD ds).map (b :: ·)
  | _ => none
theorem strsD_ok : ∀ {ds : List D} {vs : List V} {bs : List Str}, strsD ds = some bs → DtAll K F vs ds → vs = bs.map V.str
  | [], _, bs, h, hd => by cases h; cases hd; rfl
  | d :: ds, vs, bs, h, hd => by
    unfold strsD at h
    split at h
    · rename_i e; cases e
    · rename_i b ds' e
      cases e
      cases eb : strsD ds with
      | none => rw [eb] at h; cases h
      | some bs' =>
        rw [eb] at h
        cases h
        cases hd with
        | cons h1 h2 =>
          cases h1
          rw [strsD_ok eb h2]
          rfl
    · cases h
def allOp : List D → Option Sl
  | [.list ds] => (bools ds).map fun bs => .fr (.bool (bs.all id))
  | _ => none
def anyOp : List D → Option Sl
  | [.list ds] => (bools ds).map fun bs => .fr (.bool (bs.any id))
  | _ => none
def sumOp : List D → Option Sl
  | [.list ds] => (intsD ds).map fun bs => .fr (.int bs.sum)
  | _ => none
theorem vr_all : VRn K (rAll K) allOp := by
  refine one_arg (fun ds h => ?_) fun F H x d s Q fh r e q => ?_
  · unfold allOp at h
    split at h <;> first | exact ⟨_, rfl⟩ | exact absurd rfl h
  · unfold allOp at e
    split at e
    · rename_i ds0 ds e0
      cases e0
      cases eb : bools ds with
      | none => rw [eb] at e; cases e
      | some bs =>
        rw [eb] at e
        cases e
        obtain ⟨a, vs, rfl, h1, h2⟩ := r.lst fh
        rw [bools_ok eb h2] at h1
        exact ⟨a, bs, rfl, .of h1, q _ F H (.refl fh) (.bl _)⟩
    · cases e
theorem vr_any : VRn K (rAny K) anyOp := by
  refine one_arg (fun ds h => ?_) fun F H x d s Q fh r e q => ?_
  · unfold anyOp at h
    split at h <;> first | exact ⟨_, rfl⟩ | exact absurd rfl h
  · unfold anyOp at e
    split at e
    · rename_i ds0 ds e0
      cases e0
      cases eb : bools ds with
      | none => rw [eb] at e; cases e
      | some bs =>
        rw [eb] at e
        cases e
        obtain ⟨a, vs, rfl, h1, h2⟩ := r.lst fh
        rw [bools_ok eb h2] at h1
        exact ⟨a, bs, rfl, .of h1, q _ F H (.refl fh) (.bl _)⟩
    · cases e
theorem vr_sum : VRn K (rSum K) sumOp := by
  refine one_arg (fun ds h => ?_) fun F H x d s Q fh r e q => ?_
  · unfold sumOp at h
    split at h <;> first | exact ⟨_, rfl⟩ | exact absurd rfl h
  · unfold sumOp at e
    split at e
    · rename_i ds0 ds e0
      cases e0
      cases eb : intsD ds with
      | none => rw [eb] at e; cases e
      | some bs =>
        rw [eb] at e
        cases e
        obtain ⟨a, vs, rfl, h1, h2⟩ := r.lst fh
        rw [intsD_ok eb h2] at h1
        exact ⟨a, bs, rfl, .of h1, q _ F H (.refl fh) (.int _)⟩
    · cases e
/-! ### sorted(xs), xs data of one shape -/
def sortD (ds : List D) : List D := ds.mergeSort (PySem.W.dataLe false id)
def alikeAllB (ds : List D) : Bool := ds.all fun d => ds.all fun e => PySem.W.alike d e
def sortableB (ds : List D) : Bool := (ds.all fun d => match d with | .tuple (_ :: _) => true | _ => false) || ds.all fun d => match d with | .none => false | .tuple _ => false | _ => true
def sortOk (ds : List D) : Bool := alikeAllB ds && sortableB ds && decide (ds.length ≤ 100000) && ds.all fun d => decide (d.depth ≤ 50)
def rSortD (K : PySem.W.Frag) : List V → Hp → VK → Prop := fun xs H Q => ∃ (F : Hp) (a : Addr) (vs : List V) (ds : List D), xs = [.ref a] ∧ SqL K H a vs ∧ Same F H ∧ DtAll K F vs ds ∧ sortOk ds = true ∧
  ∀ p ys, H p = none → DtAll K F ys (sortD ds) → Q (.ref p) (upd H p (.lst ys))
theorem each_of {X : Cx} {pins : List (Addr × Obj)} {σ : L2.St} {H F : Hp} {s : Shared} (I : Inv X pins σ H s) (fh : Same F H) : ∀ {vs : List V} {ds : List D} {us : List Value}, Vals vs us → DtAll X.K F vs ds →
    PySem.W.EachIs (fun u d => ∃ x, RelV x u ∧ Dt X.K F x d) us ds ∧ PySem.W.EachIs (fun u d => ∃ as, Reads s.heap u (id d) as) us ds
  | _, _, _, .nil, .nil => ⟨.nil, .nil⟩
  | _, _, _, .cons r t, .cons h k => by
    obtain ⟨e1, e2⟩ := each_of I fh t k
    exact ⟨.cons ⟨_, r, h⟩ e1, .cons (Dp.reads I _ _ _ (dt_dp _ _ (dp_mono fh _ _ h)) r) e2⟩
theorem of_each {K : PySem.W.Frag} {F : Hp} : ∀ {us : List Value} {ds : List D}, PySem.W.EachIs (fun u d => ∃ x, RelV x u ∧ Dt K F x d) us ds → ∃ vs, Vals vs us ∧ DtAll K F vs ds
  | _, _, .nil => ⟨[], .nil, .nil⟩
  | _, _, .cons ⟨x, r, h⟩ t => by
    obtain ⟨vs, h1, h2⟩ := of_each t
    exact ⟨x :: vs, .cons r h1, .cons h h2⟩
theorem alike_of {ds : List D} (h : alikeAllB ds = true) : PySem.W.AllAlike (ds.map id) := by
  rw [List.map_id]
  intro d hd e he
  have := List.all_eq_true.mp h d hd
  exact List.all_eq_true.mp this e he
theorem sortable_of {ds : List D} (h : sortableB ds = true) : PySem.W.Sortable (ds.map id) := by
  rw [List.map_id]
  unfold sortableB at h
  rw [Bool.or_eq_true] at h
  rcases h with h | h
  · refine .inl fun d hd => ?_
    have := List.all_eq_true.mp h d hd
    split at this
    · exact ⟨_, _, rfl⟩
    · cases this
  · refine .inr fun d hd => ?_
    have := List.all_eq_true.mp h d hd
    split at this
    · cases this
    · cases this
    · rename_i h1 h2
      exact ⟨h1, h2⟩
theorem cr_sortD {X : Cx} (hu : X.A.units + 64 < cLine) : CallR X (.builtin "sorted") (rSortD X.K) := by
  intro pins s σ H xs us Q I r h
  obtain ⟨F, a, vs, ds, rfl, hs, fh, hd, ok, q⟩ := h
  unfold sortOk at ok
  simp only [Bool.and_eq_true, decide_eq_true_eq] at ok
  obtain ⟨⟨⟨o1, o2⟩, o3⟩, o4⟩ := ok
  rw [Vals.ref1 r]
  obtain ⟨its, rv, hl, _⟩ := I.list hs
  obtain ⟨e1, e2⟩ := each_of I fh rv hd
  refine PySem.W.sorted_data (enc := id) hl.isList e1 e2 (alike_of o1) (sortable_of o2) (line5 o3) (fun b hb => ?_) fun out hlen hout => ?_
  · have := of_decide_eq_true (List.all_eq_true.mp o4 b hb)
    show X.A.units + 2 + b.depth < cLine
    omega
  · obtain ⟨ys, h1, h2⟩ := of_each hout
    obtain ⟨ep, he⟩ := PyProof.Rows.sortedAll_at s.heap its out.toArray
    have hlen2 : ys.length ≤ sizeLine := by
      rw [dpAll_len h2]
      exact line5 (by rw [List.length_mergeSort]; exact o3)
    exact ⟨.ref _, upd H (s.heap.objs.size + 1) (.lst ys), I.laid (t' := s.toks) (fun _ _ => PyProof.Rows.sortedAll_old) (Nat.le_succ _) ⟨hlen2, out, ep, h1, he⟩, rfl, q _ ys (I.hok.fresh (Nat.le_succ _)) h2⟩
def sortOp : List D → Option Sl
  | [.list ds] => if sortOk ds then some (.ow (.lst (sortD ds))) else none
  | _ => none
theorem vr_sort : VRn K (rSortD K) sortOp := by
  refine one_arg (fun ds h => ?_) fun F H x d s Q fh r e q => ?_
  · unfold sortOp at h
    split at h <;> first | exact ⟨_, rfl⟩ | exact absurd rfl h
  · unfold sortOp at e
    split at e
    · rename_i ds0 ds e0
      cases e0
      split at e
      · rename_i ok
        cases e
        obtain ⟨a, vs, rfl, h1, h2⟩ := r.lst fh
        exact ⟨F, a, vs, ds, rfl, .of h1, fh, h2, ok, fun p ys hp hy => q _ F _ (.laid fh hp) (.new_lst fh hp hy)⟩
      · cases e
    · cases e
/-! ### texts -/
/-- x.f(y), x a text -/
def fM1 (op : D → D → Option Sl) (f g : Evn → Res Sl) (ρ : Evn) : Res Sl := (f ρ).bind fun s1 ρ1 => match s1 with
  | .fr (.str x) => (g ρ1).bind fun s2 ρ2 => ofOpt ρ2 (match rd ρ2 s2 with
    | some d2 => op (.str x) d2
    | none => none)
  | _ => .bad
theorem tj_m1 {to te : TE} {f g : Evn → Res Sl} {r : V → List V → Hp → VK → Prop} {op : D → D → Option Sl} (hr : VR2 K (fun x y H Q => r x [y] H Q) op) (ha : TJ K mg E to f) (hb : TJ K mg E te g) : TJ K mg E (tM1 r to te) (fM1 op f g) := by
  intro W F H σ tv ρ tr Q L S hW
  refine ha.run L S (fun _ _ _ h => h) hW fun s1 ρ1 x F1 H1 L1 S1 hW1 => ?_
  split at hW1
  · rename_i z
    have hx : Dt K F1 x (.str z) := S4.top_fr L1 S1
    have ex : x = .str z := by cases hx; rfl
    subst ex
    refine ⟨⟨z, rfl⟩, hb.run L1 S1 (fun _ _ _ h => h.push L (by simp)) hW1 fun s2 ρ2 y F2 H2 L2 S2 hW2 => ?_⟩
    have Lb := L2.cut (us := [some y]) (ss := [some s2]) (by simp)
    have La : Ln W σ tv ρ2 tr := Lb.cut (by simp)
    have Sa : S4 K W F2 H2 σ tv ρ2 tr := S4.cut Lb (S4.cut L2 S2 (by simp)) (by simp)
    cases e2 : rd ρ2 s2 with
    | none => rw [e2] at hW2; exact hW2.elim
    | some d2 =>
      rw [e2] at hW2
      have r2 : RepC K F2 H2 y d2 := S4.read Lb (us := []) (ss := []) (by simpa using S2) e2
      have hW2 : Wants _ _ (ofOpt ρ2 (op (.str z) d2)) := hW2
      cases eo : op (.str z) d2 with
      | none => rw [eo] at hW2; exact hW2.elim
      | some s =>
        rw [eo] at hW2
        exact hr F2 H2 _ y _ d2 s Q Sa.fh (.inl (.str z)) r2 eo fun v F' H' g ok => hW2 v F' H' (S4.result Sa g ok)
  · exact hW1.elim
def joinOp (a xs : D) : Option Sl := match a, xs with
  | .str a, .list ds => (match strsD ds with
    | some ys => if (ys.map (·.length)).sum + ys.length * a.length ≤ 100000 then some (.fr (.str (Txt.join a ys))) else none
    | none => none)
  | .str a, .tuple ds => (match strsD ds with
    | some ys => if (ys.map (·.length)).sum + ys.length * a.length ≤ 100000 then some (.fr (.str (Txt.join a ys))) else none
    | none => none)
  | _, _ => none
theorem vr_join : VR2 K (fun x y H Q => (fun (x : V) (xs : List V) (H : Hp) (Q : VK) => ∃ a p, ∃ ys : List Str, x = .str a ∧ xs = [.ref p] ∧ (SqL K H p (ys.map V.str) ∨ SqT K H p (ys.map V.str)) ∧
      (ys.map (·.length)).sum + ys.length * a.length ≤ 16777216 ∧ Q (.str (Txt.join a ys)) H) x [y] H Q) joinOp := by
  intro F H x y dx dy s Q fh r1 r2 e q
  unfold joinOp at e
  split at e
  · rename_i a ds
    split at e
    · rename_i ys es
      split at e
      · rename_i hz
        cases e
        obtain ⟨b, vs, rfl, h1, h2⟩ := r2.lst fh
        rw [RepC.str r1]
        rw [strsD_ok es h2] at h1
        exact ⟨a, b, ys, rfl, rfl, .inl (.of h1), by omega, q _ F H (.refl fh) (.str _)⟩
      · cases e
    · cases e
  · rename_i a ds
    split at e
    · rename_i ys es
      split at e
      · rename_i hz
        cases e
        obtain ⟨b, vs, rfl, h1, h2, _⟩ := r2.tup fh
        rw [RepC.str r1]
        rw [strsD_ok es h2] at h1
        exact ⟨a, b, ys, rfl, rfl, .inr h1, by omega, q _ F H (.refl fh) (.str _)⟩
      · cases e
    · cases e
  · cases e
/-! ### xs.index(y), flat items -/
def firstAt (y : D) : List D → Option Nat
  | [] => none
  | z :: zs => if PyData.eqv z y then some 0 else (firstAt y zs).map (· + 1)
def indexOp (xs y : D) : Option Sl := match xs with
  | .list ds => if flatD y && ds.all flatD then (firstAt y ds).map fun j => .fr (.int j) else none
  | _ => none
theorem firstAt_ok {y : D} : ∀ {zs : List D} {j : Nat}, firstAt y zs = some j → (∃ z, zs[j]? = some z ∧ PyData.eqv z y = true) ∧ ∀ (m : Nat) (z : D), m < j → zs[m]? = some z → PyData.eqv z y = false
  | [], _, h => by cases h
  | z :: zs, j, h => by
    unfold firstAt at h
    split at h
    · rename_i e
      cases h
      exact ⟨⟨z, rfl, e⟩, fun m z h _ => absurd h (Nat.not_lt_zero _)⟩
    · rename_i e
      cases e2 : firstAt y zs with
      | none => rw [e2] at h; cases h
      | some k =>
        rw [e2] at h
        cases h
        obtain ⟨⟨w, w1, w2⟩, w3⟩ := firstAt_ok e2
        refine ⟨⟨w, by simpa using w1, w2⟩, fun m w' hm hw => ?_⟩
        cases m with
        | zero => simp at hw; subst hw; simpa using e
        | succ m =>
          have hm : m + 1 < k + 1 := hm
          exact w3 m w' (by omega) (by simpa using hw)
/-- a method of a list by values -/
def fBL (op : D → D → Option Sl) (f g : Evn → Res Sl) (ρ : Evn) : Res Sl := (f ρ).bind fun s1 ρ1 => match rd ρ1 s1 with
  | some (.list _) => (g ρ1).bind fun s2 ρ2 => ofOpt ρ2 (match rd ρ2 s1, rd ρ2 s2 with
    | some d1, some d2 => op d1 d2
    | _, _ => none)
  | _ => .bad
theorem tj_bl1 {to te : TE} {f g : Evn → Res Sl} {r : V → List V → Hp → VK → Prop} {op : D → D → Option Sl} (hr : VR2 K (fun x y H Q => r x [y] H Q) op) (ha : TJ K mg E to f) (hb : TJ K mg E te g) : TJ K mg E (tBM K "list" r to (tCons te tNil)) (fBL op f g) := by
  intro W F H σ tv ρ tr Q L S hW
  refine ha.run L S (fun _ _ _ h => h) hW fun s1 ρ1 x F1 H1 L1 S1 hW1 => ?_
  split at hW1
  · rename_i ds e1
    have r1 : RepC K F1 H1 x (.list ds) := S4.read (L1.cut (by simp)) (us := []) (ss := []) (by simpa using S1) e1
    obtain ⟨a, ws, ea, h1, h2⟩ := r1.lst S1.fh
    subst ea
    refine ⟨.inl ⟨rfl, ws, .of h1⟩, hb.run L1 S1 (fun _ _ _ h => h.push L (by simp)) hW1 fun s2 ρ2 y F2 H2 L2 S2 hW2 => ?_⟩
    have Lb := L2.cut (us := [some y]) (ss := [some s2]) (by simp)
    have La : Ln W σ tv ρ2 tr := Lb.cut (by simp)
    have Sa : S4 K W F2 H2 σ tv ρ2 tr := S4.cut Lb (S4.cut L2 S2 (by simp)) (by simp)
    cases e2 : rd ρ2 s1 with
    | none => rw [e2] at hW2; exact hW2.elim
    | some d1 =>
      cases e3 : rd ρ2 s2 with
      | none => rw [e2, e3] at hW2; exact hW2.elim
      | some d2 =>
        rw [e2, e3] at hW2
        have q1 : RepC K F2 H2 (.ref a) d1 := S4.read La (us := [some y]) (ss := [some s2]) (by simpa using S2) e2
        have q2 : RepC K F2 H2 y d2 := S4.read Lb (us := []) (ss := []) (by simpa using S2) e3
        have hW2 : Wants _ _ (ofOpt ρ2 (op d1 d2)) := hW2
        cases eo : op d1 d2 with
        | none => rw [eo] at hW2; exact hW2.elim
        | some s =>
          rw [eo] at hW2
          exact hr F2 H2 _ y d1 d2 s Q Sa.fh q1 q2 eo fun v F' H' g ok => hW2 v F' H' (S4.result Sa g ok)
  · exact hW1.elim
theorem vr_index : VR2 K (fun x y H Q => rIndex K x [y] H Q) indexOp := by
  intro F H x y dx dy s Q fh r1 r2 e q
  unfold indexOp at e
  split at e
  · rename_i ds
    split at e
    · rename_i hc
      rw [Bool.and_eq_true] at hc
      cases ej : firstAt dy ds with
      | none => rw [ej] at e; cases e
      | some j =>
        rw [ej] at e
        cases e
        obtain ⟨a, vs, rfl, h1, h2⟩ := r1.lst fh
        have hy := r2.flat hc.1
        obtain ⟨f1, _⟩ := inV_of hy hc.1 h2 hc.2
        obtain ⟨⟨z, z1, z2⟩, z3⟩ := firstAt_ok ej
        obtain ⟨w, w1, w2⟩ := dpAll_get h2 z1
        refine ⟨a, vs, y, j, w, rfl, rfl, .of h1, flat_of hy hc.1, f1, w1, ?_, fun m z' hm hz => ?_, q _ F H (.refl fh) (.int _)⟩
        · rw [eqv_of w2 hy (List.all_eq_true.mp hc.2 z (List.mem_of_getElem? z1)) hc.1]; exact z2
        · obtain ⟨e1, e2, e3⟩ := dpAll_get' h2 hz
          rw [eqv_of e3 hy (List.all_eq_true.mp hc.2 e1 (List.mem_of_getElem? e2)) hc.1]
          exact z3 m e1 hm e2
    · cases e
  · cases e
/-! ### slices -/
def TOJ (K : PySem.W.Frag) (mg : Str → Option Value) (E : XW) (t : TO) (f : Evn → Res (Option Int)) : Prop :=
  ∀ (W : Wd) (F H : Hp) (σ tv : L2.St) (ρ tr : Evn) (Q : Option Int → Hp → Prop), Ln W σ tv ρ tr → S4 K W F H σ tv ρ tr →
    Wants (Fly K mg E W σ tv tr) (fun o ρ' => ∀ F' H', S4 K W F' H' σ tv ρ' tr → Q o H') (f ρ) → t σ H Q
def fNoPart (ρ : Evn) : Res (Option Int) := .ok none ρ
theorem toj_none : TOJ K mg E tNoPart fNoPart := fun W F H σ tv ρ tr Q L S hW => hW F H S
def fPart (f : Evn → Res Sl) (ρ : Evn) : Res (Option Int) := (f ρ).bind fun s ρ1 => match s with
  | .fr (.int i) => .ok (some i) ρ1
  | _ => .bad
theorem toj_some {te : TE} {f : Evn → Res Sl} (h : TJ K mg E te f) : TOJ K mg E (tPart te) (fPart f) := by
  intro W F H σ tv ρ tr Q L S hW
  refine h.run L S (fun _ _ _ h => h) hW fun s ρ1 x F1 H1 L1 S1 hW1 => ?_
  split at hW1
  · rename_i i
    have hx := S4.top_fr L1 S1
    cases hx
    exact ⟨i, rfl, hW1 F1 H1 (S4.cut L1 S1 (by simp))⟩
  · exact hW1.elim
theorem TOJ.run {ta : TO} {f : Evn → Res (Option Int)} (ha : TOJ K mg E ta f) (L : Ln W σ tv ρ tr) (S : S4 K W F H σ tv ρ tr) {Fl : Str → D → Evn → Prop} {P : β → Evn → Prop} {k : Option Int → Evn → Res β}
    (hF : ∀ c d ρ', Fl c d ρ' → Fly K mg E W σ tv tr c d ρ') (hW : Wants Fl P ((f ρ).bind k)) {Q : Option Int → Hp → Prop}
    (h : ∀ b ρ1 F1 H1, Ln W σ tv ρ1 tr → S4 K W F1 H1 σ tv ρ1 tr → Wants Fl P (k b ρ1) → Q b H1) : ta σ H Q := by
  refine ha W F H σ tv ρ tr Q L S ?_
  cases e : f ρ with
  | bad => rw [e] at hW; exact hW
  | exc c d ρ' => rw [e] at hW; exact hF _ _ _ hW
  | ok s ρ1 =>
    rw [e] at hW
    intro F1 H1 S1
    exact h s ρ1 F1 H1 (L.next S1 L.t) S1 hW
def cutD (ds : List D) (lo hi : Option Int) : List D := (ds.drop (HT.sIx ds.length 0 lo)).take (HT.sIx ds.length ds.length hi - HT.sIx ds.length 0 lo)
theorem cutD_ok {vs : List V} {ds : List D} (h : DtAll K F vs ds) (lo hi : Option Int) : DtAll K F (cutV vs lo hi) (cutD ds lo hi) := by
  unfold cutV cutD
  rw [dpAll_len h]
  exact dpAll_take _ (dpAll_drop _ h)
def slOp (d : D) (lo hi : Option Int) : Option Sl := match d with
  | .list ds => some (.ow (.lst (cutD ds lo hi)))
  | .tuple ds => some (.fr (.tuple (cutD ds lo hi)))
  | .str z => if z.length ≤ 100000 then some (.fr (.str (cutS z lo hi))) else none
  | _ => none
def rSl3 (K : PySem.W.Frag) : V → Option Int → Option Int → Hp → VK → Prop := fun x lo hi H Q => rSlL K x lo hi H Q ∨ (rSlA K x lo hi H Q ∨ rSlS x lo hi H Q)
theorem sl_3 {X : Cx} : SlR X (rSl3 X.K) := sl_list.or (sl_tupA.or sl_str)
theorem cut_whole {ds : List D} {lo hi : Option Int} (h : HT.sIx ds.length 0 lo = 0 ∧ HT.sIx ds.length ds.length hi = ds.length) : cutD ds lo hi = ds := by
  unfold cutD
  rw [h.1, h.2]
  simp
def fSl (f : Evn → Res Sl) (lo hi : Evn → Res (Option Int)) (ρ : Evn) : Res Sl := (f ρ).bind fun s ρ1 => (lo ρ1).bind fun l ρ2 => (hi ρ2).bind fun u ρ3 => ofOpt ρ3 (match rd ρ3 s with
  | some d => slOp d l u
  | none => none)
theorem tj_sl {te : TE} {tl th : TO} {f : Evn → Res Sl} {lo hi : Evn → Res (Option Int)} (h : TJ K mg E te f) (hl : TOJ K mg E tl lo) (hh : TOJ K mg E th hi) : TJ K mg E (tSl (rSl3 K) te tl th) (fSl f lo hi) := by
  intro W F H σ tv ρ tr Q L S hW
  refine h.run L S (fun _ _ _ h => h) hW fun s ρ1 x F1 H1 L1 S1 hW1 => ?_
  refine hl.run L1 S1 (fun _ _ _ h => h.push L (by simp)) hW1 fun l ρ2 F2 H2 L2 S2 hW2 => ?_
  refine hh.run L2 S2 (fun _ _ _ h => h.push L (by simp)) hW2 fun u ρ3 F3 H3 L3 S3 hW3 => ?_
  have La := L3.cut (us := [some x]) (ss := [some s]) (by simp)
  have Sa := S4.cut L3 S3 (by simp)
  have fh := Sa.fh
  cases e : rd ρ3 s with
  | none => rw [e] at hW3; exact hW3.elim
  | some d =>
    rw [e] at hW3
    have r1 : RepC K F3 H3 x d := S4.read La (us := []) (ss := []) (by simpa using S3) e
    have hW3 : Wants _ _ (ofOpt ρ3 (slOp d l u)) := hW3
    unfold slOp at hW3
    split at hW3
    · rename_i ds
      obtain ⟨a, ws, rfl, h1, h2⟩ := r1.lst fh
      exact .inl ⟨a, ws, rfl, .of h1, fun p hp => hW3 _ _ _ (S4.result Sa (.laid fh hp) (.new_lst fh hp (cutD_ok h2 l u)))⟩
    · rename_i ds
      obtain ⟨a, ws, rfl, h1, h2, h3⟩ := r1.tup fh
      refine .inr (.inl ⟨a, ws, rfl, h1, fun z => ?_, fun _ p hp => hW3 _ _ _ (S4.result (s := .fr _) Sa (.froze fh hp) (Dt.new_tup fh hp (cutD_ok h2 l u)))⟩)
      rw [dpAll_len h2] at z
      rw [cut_whole z] at hW3
      exact hW3 _ _ _ (S4.result (s := .fr _) Sa (.refl fh) h3)
    · rename_i z _
      split at hW3
      · rename_i hz
        rw [RepC.str r1]
        exact .inr (.inr ⟨z, rfl, line5 hz, hW3 _ _ _ (S4.result (s := .fr _) Sa (.refl fh) (.str _))⟩)
      · exact hW3.elim
    · exact hW3.elim
/-! ### what a value is -/
def tyN : D → String
  | .none => "NoneType"
  | .bool _ => "bool"
  | .int _ => "int"
  | .str _ => "str"
  | .list _ => "list"
  | .tuple _ => "tuple"
  | .dict _ => "dict"
theorem ty_of (fh : Same F H) (h : RepC K F H v d) : TyX K H v (.type (tyN d)) := by
  have sq : ∀ {a : Addr} {xs : List V}, SqT K H a xs → TyX K H (.ref a) (.type "tuple") := fun {a xs} h => by
    rcases h with (h | ⟨o, h⟩) | ⟨o, its, n, h1, h2, _⟩
    · exact .base (.tup h)
    · exact .fTuple h
    · exact .kTuple h1 h2
  rcases h with h | ⟨p, vs, ds', rfl, rfl, e3, _⟩
  · cases h with
    | non => exact .base .non
    | bl b => exact .base (.bl b)
    | int i => exact .base (.int i)
    | str x => exact .base (.str x)
    | lst hs _ => exact .base (.lst (fh _ _ hs))
    | tup hs _ => exact sq (same_sqT fh hs)
  · exact .base (.lst e3)
def isTy (T : String) (d : D) : Bool := tyN d == T || (T == "int" && tyN d == "bool")
/-- isinstance(x, T), T a built-in class -/
def fIsi (T : String) (f : Evn → Res Sl) (ρ : Evn) : Res Sl := (f ρ).bind fun s ρ1 => match rd ρ1 s with
  | some (.dict _) => .bad
  | some d => .ok (.fr (.bool (isTy T d))) ρ1
  | none => .bad
def okTy (T : String) : Bool := T == "str" || T == "int" || T == "bool" || T == "list" || T == "tuple"
theorem kit_isTy {T : String} (h : okTy T = true) {d : D} (hd : ∀ x, d ≠ .dict x) : PySem.W.kitOne K (.type (tyN d)) (.type T) = some (isTy T d) := by
  unfold okTy at h
  simp only [Bool.or_eq_true, beq_iff_eq] at h
  rcases h with (((rfl | rfl) | rfl) | rfl) | rfl <;> cases d <;> first | exact absurd rfl (hd _) | exact kit_ty (by simp only [tyN, isTy]; decide +kernel)
theorem tj_isi {te : TE} {f : Evn → Res Sl} {T : String} (hT : okTy T = true) (h : TJ K mg E te f) : TJ K mg E (tCB (rIsi K) (tCons te (tCons (tC (.ty T)) tNil))) (fIsi T f) := by
  intro W F H σ tv ρ tr Q L S hW
  refine h.run L S (fun _ _ _ h => h) hW fun s ρ1 x F1 H1 L1 S1 hW1 => ?_
  have La := L1.cut (us := [some x]) (ss := [some s]) (by simp)
  have Sa := S4.cut L1 S1 (by simp)
  split at hW1
  · exact hW1.elim
  · rename_i d hd e
    have r1 : RepC K F1 H1 x d := S4.read La (us := []) (ss := []) (by simpa using S1) e
    exact ⟨x, .ty T, _, _, _, rfl, .ty T, ty_of Sa.fh r1, kit_isTy hT (fun z hz => hd z (by rw [← hz])), hW1 _ F1 H1 (S4.result (s := .fr _) Sa (.refl Sa.fh) (.bl _))⟩
  · exact hW1.elim
/-- isinstance(x, (T, U)) -/
def fIsi2 (T U : String) (f : Evn → Res Sl) (ρ : Evn) : Res Sl := (f ρ).bind fun s ρ1 => match rd ρ1 s with
  | some (.dict _) => .bad
  | some d => .ok (.fr (.bool (isTy T d || isTy U d))) ρ1
  | none => .bad
theorem tj_isi2 {te : TE} {f : Evn → Res Sl} {T U : String} (hT : okTy T = true) (hU : okTy U = true) (h : TJ K mg E te f) : TJ K mg E (tCB (rIsiT K) (tCons te (tCons (tTup (tCons (tC (.ty T)) (tCons (tC (.ty U)) tNil))) tNil))) (fIsi2 T U f) := by
  intro W F H σ tv ρ tr Q L S hW
  refine h.run L S (fun _ _ _ h => h) hW fun s ρ1 x F1 H1 L1 S1 hW1 => ?_
  have La := L1.cut (us := [some x]) (ss := [some s]) (by simp)
  have Sa := S4.cut L1 S1 (by simp)
  split at hW1
  · exact hW1.elim
  · rename_i d hd e
    have hd' : ∀ z, d ≠ .dict z := fun z hz => hd z (by rw [← hz])
    refine ⟨by show 2 ≤ sizeLine; decide, fun p hp => ?_⟩
    have g : Grow F1 H1 F1 (upd H1 p (.tup [.ty T, .ty U])) := .laid Sa.fh hp
    have Sg : S4 K W F1 (upd H1 p (.tup [.ty T, .ty U])) σ (tv ++ [some x]) ρ1 (tr ++ [some s]) := SR.grow S1 g
    have r1 : RepC K F1 (upd H1 p (.tup [.ty T, .ty U])) x d := S4.read La (us := []) (ss := []) (by simpa using Sg) e
    have k1 := kit_isTy (K := K) hT hd'
    have k2 := kit_isTy (K := K) hU hd'
    refine ⟨x, p, [.ty T, .ty U], _, [.type T, .type U], isTy T d || isTy U d, rfl, upd_same, .cons (.ty T) (.cons (.ty U) .nil), ty_of g.fh r1, ?_, hW1 _ F1 _ (S4.result (s := .fr _) Sa g (.bl _))⟩
    refine kitAny_cons k1 (fun hb => ?_) (fun hb => by rw [hb]; rfl)
    rw [hb, Bool.false_or]
    exact kitAny_cons k2 (fun hb => by rw [hb]; exact kitAny_nil) (fun hb => hb)
  · exact hW1.elim
/-! ### enumerate, zip -/
def enumD (ds : List D) : List D := (List.range ds.length).zipWith (fun (i : Nat) d => PyData.tuple [.int i, d]) ds
theorem enumD_get {ds : List D} {i : Nat} {d : D} (h : (enumD ds)[i]? = some d) : ∃ e, ds[i]? = some e ∧ d = .tuple [.int i, e] := by
  unfold enumD at h
  rw [List.getElem?_zipWith] at h
  cases e1 : (List.range ds.length)[i]? with
  | none => rw [e1] at h; cases h
  | some k =>
    have hi : i < ds.length := by simpa using (List.getElem?_eq_some_iff.mp e1).1
    rw [List.getElem?_range hi] at e1
    cases e1
    cases e2 : ds[i]? with
    | none => rw [e2, List.getElem?_range hi] at h; cases h
    | some e =>
      rw [e2, List.getElem?_range hi] at h
      cases h
      exact ⟨e, rfl, rfl⟩
theorem enumD_len {ds : List D} : (enumD ds).length = ds.length := by simp [enumD]
def fEnum (f : Evn → Res (List Sl)) (ρ : Evn) : Res (List D) := (f ρ).bind fun ss ρ1 => match ss with
  | [.fr (.list ds)] => .ok (enumD ds) ρ1
  | _ => .bad
theorem tij_enum {ta : TA} {f : Evn → Res (List Sl)} (h : TAJ K mg E ta f) : TIJ K mg E (iEnum K ta) (fEnum f) := by
  intro W F H σ tv ρ tr R L S hW
  refine h.run L S (fun _ _ _ h => h) hW fun ss ρ1 vs F1 H1 hl L1 S1 hW1 => ?_
  split at hW1
  · rename_i ds
    match vs, hl with
    | [x], _ =>
      have La := L1.cut (us := [x].map some) (ss := [Sl.fr (.list ds)].map some) (by simp)
      have Sa := S4.cut L1 S1 (by simp)
      have hx : Dt K F1 x (.list ds) := S4.top_fr L1 S1
      cases hx with
      | @lst a ws _ hs ha =>
        refine ⟨_, ws, rfl, .of (Sa.fh _ _ hs), hW1 _ F1 H1 Sa ?_⟩
        intro i F2 H2 e1 e2
        have hH : SqL K H2 a ws := .of (e2 _ _ (e1 _ _ hs))
        refine ⟨fun d hd => ?_, fun hi => ⟨ws, hH, by rw [dpAll_len ha, ← enumD_len]; exact hi⟩⟩
        obtain ⟨e, he, rfl⟩ := enumD_get hd
        obtain ⟨w, w1, w2⟩ := dpAll_get ha he
        refine ⟨⟨ws, w, hH, w1⟩, fun y H' hy => ?_⟩
        obtain ⟨T, z, rfl, nT, rfl, hz⟩ := hy
        have := hz ws hH
        rw [w1] at this
        cases this
        exact ⟨_, .froze e2 nT, Dt.new_tup e2 nT (.cons (.int _) (.cons (dp_mono e1 _ _ w2) .nil))⟩
  · exact hW1.elim
def zipD (as bs : List D) : List D := as.zipWith (fun a b => PyData.tuple [a, b]) bs
theorem zipD_get {as bs : List D} {i : Nat} {d : D} (h : (zipD as bs)[i]? = some d) : ∃ a b, as[i]? = some a ∧ bs[i]? = some b ∧ d = .tuple [a, b] := by
  unfold zipD at h
  rw [List.getElem?_zipWith] at h
  cases e1 : as[i]? with
  | none => rw [e1] at h; cases h
  | some a =>
    cases e2 : bs[i]? with
    | none => rw [e1, e2] at h; cases h
    | some b =>
      rw [e1, e2] at h
      cases h
      exact ⟨a, b, rfl, rfl, rfl⟩
def fZip (f : Evn → Res (List Sl)) (ρ : Evn) : Res (List D) := (f ρ).bind fun ss ρ1 => match ss with
  | [.fr (.list as), .fr (.list bs)] => .ok (zipD as bs) ρ1
  | [.fr (.tuple as), .fr (.tuple bs)] => .ok (zipD as bs) ρ1
  | _ => .bad
theorem tij_zip {ta : TA} {f : Evn → Res (List Sl)} (h : TAJ K mg E ta f) : TIJ K mg E (iZipA K ta) (fZip f) := by
  intro W F H σ tv ρ tr R L S hW
  refine h.run L S (fun _ _ _ h => h) hW fun ss ρ1 vs F1 H1 hl L1 S1 hW1 => ?_
  split at hW1
  · rename_i as bs
    match vs, hl with
    | [x, y], _ =>
      have La := L1.cut (us := [x, y].map some) (ss := [Sl.fr (.list as), Sl.fr (.list bs)].map some) (by simp)
      have Sa := S4.cut L1 S1 (by simp)
      have hx : Dt K F1 x (.list as) := S4.frAt La S1 (k := 0) rfl rfl
      have hy : Dt K F1 y (.list bs) := S4.frAt La S1 (k := 1) rfl rfl
      cases hx with
      | @lst a ws _ hs ha =>
        cases hy with
        | @lst b zs _ hs2 hb =>
          refine ⟨_, _, ws, zs, rfl, .inl ⟨.of (Sa.fh _ _ hs), .of (Sa.fh _ _ hs2), hW1 _ F1 H1 Sa ?_⟩⟩
          intro i F2 H2 e1 e2
          have hH : SqL K H2 a ws := .of (e2 _ _ (e1 _ _ hs))
          have hH2 : SqL K H2 b zs := .of (e2 _ _ (e1 _ _ hs2))
          refine ⟨fun d hd => ?_, fun hi => ⟨ws, zs, hH, hH2, ?_⟩⟩
          · obtain ⟨p, q, hp, hq, rfl⟩ := zipD_get hd
            obtain ⟨w, w1, w2⟩ := dpAll_get ha hp
            obtain ⟨z, z1, z2⟩ := dpAll_get hb hq
            refine ⟨⟨ws, zs, w, z, hH, hH2, w1, z1⟩, fun y H' hy => ?_⟩
            obtain ⟨T, x', y', rfl, nT, rfl, k1, k2⟩ := hy
            have g1 := k1 ws hH
            have g2 := k2 zs hH2
            rw [w1] at g1
            rw [z1] at g2
            cases g1
            cases g2
            exact ⟨_, .froze e2 nT, Dt.new_tup e2 nT (.cons (dp_mono e1 _ _ w2) (.cons (dp_mono e1 _ _ z2) .nil))⟩
          · rw [dpAll_len ha, dpAll_len hb]
            unfold zipD at hi
            rw [List.length_zipWith] at hi
            omega
  · rename_i as bs
    match vs, hl with
    | [x, y], _ =>
      have La := L1.cut (us := [x, y].map some) (ss := [Sl.fr (.tuple as), Sl.fr (.tuple bs)].map some) (by simp)
      have Sa := S4.cut L1 S1 (by simp)
      have hx : Dt K F1 x (.tuple as) := S4.frAt La S1 (k := 0) rfl rfl
      have hy : Dt K F1 y (.tuple bs) := S4.frAt La S1 (k := 1) rfl rfl
      cases hx with
      | @tup a ws _ hs ha =>
        cases hy with
        | @tup b zs _ hs2 hb =>
          refine ⟨_, _, ws, zs, rfl, .inr ⟨same_sqT Sa.fh hs, same_sqT Sa.fh hs2, hW1 _ F1 H1 Sa ?_⟩⟩
          intro i F2 H2 e1 e2
          have hH : SqT K H2 a ws := same_sqT (e1.trans e2) hs
          have hH2 : SqT K H2 b zs := same_sqT (e1.trans e2) hs2
          refine ⟨fun d hd => ?_, fun hi => ⟨ws, zs, hH, hH2, ?_⟩⟩
          · obtain ⟨p, q, hp, hq, rfl⟩ := zipD_get hd
            obtain ⟨w, w1, w2⟩ := dpAll_get ha hp
            obtain ⟨z, z1, z2⟩ := dpAll_get hb hq
            refine ⟨⟨ws, zs, w, z, hH, hH2, w1, z1⟩, fun y H' hy => ?_⟩
            obtain ⟨T, x', y', rfl, nT, rfl, k1, k2⟩ := hy
            have g1 := k1 ws hH
            have g2 := k2 zs hH2
            rw [w1] at g1
            rw [z1] at g2
            cases g1
            cases g2
            exact ⟨_, .froze e2 nT, Dt.new_tup e2 nT (.cons (dp_mono e1 _ _ w2) (.cons (dp_mono e1 _ _ z2) .nil))⟩
          · rw [dpAll_len ha, dpAll_len hb]
            unfold zipD at hi
            rw [List.length_zipWith] at hi
            omega
  · exact hW1.elim
/-! ### -x -/
def negOp (d : D) : Option Sl := match d with
  | .int i => some (.fr (.int (-i)))
  | _ => none
theorem vr_neg : VR1 K (rU fun i => .int (-i)) negOp := by
  intro F H x dx s Q fh r e q
  unfold negOp at e
  split at e
  · rename_i i
    cases e
    rw [RepC.int r]
    exact ⟨i, rfl, q _ F H (.refl fh) (.int _)⟩
  · cases e
end
end DL

namespace DL
open PySem PySem.Spec PyProof.Rows L2 RZ
section
variable {K : PySem.W.Frag} {mg : Str → Option Value} {E : XW} {W : Wd} {F0 B F H F' H' : Hp} {σ tv us vs : L2.St} {ρ ρ' tr ss : Evn} {v : V} {d : D} {s : Sl} {c c' : Cn} {p : Addr} {i : Nat} {α β : Type}
/-! ### a comprehension of two clauses -/
def fTurns2 (ks : List Nat) (g : D → Evn → Option Evn) (c : Evn → Res Bool) (it1 : Evn → Res (List D)) (ks1 : List Nat) (g1 : D → Evn → Option Evn) (c1 : Evn → Res Bool) (f : Evn → Res Sl) : List D → List D → Evn → Res (List D)
  | [], acc, ρ => .ok acc ρ
  | d :: r, acc, ρ => match g d ρ with
    | none => .bad
    | some ρ1 => (c ρ1).bind fun b ρ2 => if b then (it1 ρ2).bind fun es ρ3 =>
        if acc.length + es.length ≤ 100000 ∧ ∀ k ∈ ks1, k < ρ3.length then (fTurns ks1 g1 c1 f es acc (wipeE ρ3 ks1)).bind fun acc' ρ4 => fTurns2 ks g c it1 ks1 g1 c1 f r acc' (wipeE ρ4 ks) else .bad
      else fTurns2 ks g c it1 ks1 g1 c1 f r acc (wipeE ρ2 ks)
def fLc2 (ks : List Nat) (it : Evn → Res (List D)) (g : D → Evn → Option Evn) (c : Evn → Res Bool) (it1 : Evn → Res (List D)) (ks1 : List Nat) (g1 : D → Evn → Option Evn) (c1 : Evn → Res Bool) (f : Evn → Res Sl) (ρ : Evn) : Res Sl :=
  (it ρ).bind fun ds ρ1 => if ∀ k ∈ ks, k < ρ1.length then (noExc (fTurns2 ks g c it1 ks1 g1 c1 f ds [] (wipeE ρ1 ks))).bind fun xs ρ2 => Res.ok (Sl.ow (.lst xs)) (backE ρ1 ρ2 ks) else .bad
theorem tj_lc2 {wi wi1 : TI} {g g1 : TG} {tt tt1 : TT} {te : TE} {ks is ks1 is1 : List Nat} {it it1 : Evn → Res (List D)} {gf gf1 : D → Evn → Option Evn} {c c1 : Evn → Res Bool} {f : Evn → Res Sl} (hi : TIJ K mg E wi it) (hg : TGJ K g is gf) (hc : TTJ K mg (fun _ _ _ _ => False) tt c) (hi1 : TIJ K mg (fun _ _ _ _ => False) wi1 it1) (hg1 : TGJ K g1 is1 gf1) (hc1 : TTJ K mg (fun _ _ _ _ => False) tt1 c1)
    (hf : TJ K mg (fun _ _ _ _ => False) te f) (hs : ∀ k ∈ is, k ∈ ks) (hs1 : ∀ k ∈ is1, k ∈ ks1) (hk1 : ∀ k ∈ ks1, k ∈ ks) : TJ K mg E (tLc2 wi g tt wi1 g1 tt1 te ks ks1) (fLc2 ks it gf c it1 ks1 gf1 c1 f) := by
  intro W F H σ tv ρ tr Q L S hW
  refine hi W F H σ tv ρ tr _ L S ?_
  unfold fLc2 at hW
  cases e : it ρ with
  | bad => rw [e] at hW; exact hW
  | exc c d ρ' => rw [e] at hW; exact hW
  | ok ds ρ1 =>
    rw [e] at hW
    have hW : Wants (Fly K mg E W σ tv tr) _ (if ∀ k ∈ ks, k < ρ1.length then (noExc (fTurns2 ks gf c it1 ks1 gf1 c1 f ds [] (wipeE ρ1 ks))).bind fun xs ρ2 => Res.ok (Sl.ow (.lst xs)) (backE ρ1 ρ2 ks) else .bad) := hW
    split at hW
    · rename_i hks
      have hW := wants_noExc (Fl' := fun _ _ _ => False) hW
      intro J F1 H1 S1 walk Dn hDn
      have L1 : Ln W σ tv ρ1 tr := L.next S1 L.t
      have hks : ∀ k ∈ ks, k < W.N := fun k hk => by rw [← L1.r]; exact hks k hk
      refine ⟨fun i m H' => m = ds.length - i ∧ i ≤ ds.length ∧ ∃ F2 ρ2 acc, Ln W (wipe σ ks) (tv ++ [some (.ref Dn)]) ρ2 (tr ++ [some (.ow (.lst acc))]) ∧ S4 K (W.rebase F1) F2 H' (wipe σ ks) (tv ++ [some (.ref Dn)]) ρ2 (tr ++ [some (.ow (.lst acc))]) ∧
          Wants (fun _ _ _ => False) (fun s ρ' => ∀ v F' H', S4 K W F' H' σ (tv ++ [some v]) ρ' (tr ++ [some s]) → Q v H') ((fTurns2 ks gf c it1 ks1 gf1 c1 f (ds.drop i) acc ρ2).bind fun xs ρ2 => Res.ok (Sl.ow (.lst xs)) (backE ρ1 ρ2 ks)),
        ⟨ds.length, by omega, by omega, F1, wipeE ρ1 ks, [], ?_, ?_, by simpa using hW⟩, ?_⟩
      · exact (Ln.wipe (tv := tv ++ [some (.ref Dn)]) (tr := tr ++ [some (.ow (.lst []))]) ⟨L1.s, L1.r, by simp [L1.t]⟩ ks)
      · have S2 : S4 K (W.rebase F1) F1 (upd H1 Dn (.lst [])) σ (tv ++ [some (.ref Dn)]) ρ1 (tr ++ [some (.ow (.lst []))]) :=
          S4.result S1.rebase (.laid S1.fh hDn) ⟨Dn, rfl, hDn, Same.free S1.fh hDn, [], upd_same, .nil⟩
        exact S4.wipe (W := W.rebase F1) ⟨L1.s, L1.r, by simp [L1.t]⟩ S2 ks hks
      · rintro i m H2 ⟨rfl, hle, F2, ρ2, acc, L2, S2, hW2⟩
        have hw := walk i F2 H2 S2.f0 S2.fh
        by_cases hlt : i < ds.length
        · have ed : ds.drop i = ds[i] :: ds.drop (i + 1) := List.drop_eq_getElem_cons hlt
          rw [ed] at hW2
          obtain ⟨go, yld⟩ := hw.1 ds[i] (List.getElem?_eq_getElem hlt)
          refine .inr ⟨go, fun H' => ∃ F2 ρ2 acc, Ln W (wipe σ ks) (tv ++ [some (.ref Dn)]) ρ2 (tr ++ [some (.ow (.lst acc))]) ∧ S4 K (W.rebase F1) F2 H' (wipe σ ks) (tv ++ [some (.ref Dn)]) ρ2 (tr ++ [some (.ow (.lst acc))]) ∧
              Wants (fun _ _ _ => False) (fun s ρ' => ∀ v F' H', S4 K W F' H' σ (tv ++ [some v]) ρ' (tr ++ [some s]) → Q v H') ((fTurns2 ks gf c it1 ks1 gf1 c1 f (ds.drop (i + 1)) acc ρ2).bind fun xs ρ2 => Res.ok (Sl.ow (.lst xs)) (backE ρ1 ρ2 ks)),
            fun H' h => ⟨ds.length - (i + 1), by omega, rfl, hlt, h⟩, fun x H' hy => ?_⟩
          obtain ⟨F3, gr, hx⟩ := yld x H' hy
          have S3 : S4 K (W.rebase F1) F3 H' (wipe σ ks) (tv ++ [some (.ref Dn)]) ρ2 (tr ++ [some (.ow (.lst acc))]) := SR.grow S2 gr
          unfold fTurns2 at hW2
          cases eg : gf ds[i] ρ2 with
          | none => rw [eg] at hW2; exact hW2.elim
          | some ρ3 =>
            rw [eg] at hW2
            refine hg (W.rebase F1) F3 H' (wipe σ ks) _ ρ2 _ x ds[i] ρ3 _ ⟨L2.s, L2.r, L2.t⟩ S3 hx eg fun σ3 k3 L3 S3' => ?_
            have ew : wipe σ3 ks = wipe σ ks := by
              rw [wipe_same k3 hs (by rw [L3.s]; exact L2.s.symm), wipe_wipe]
            refine ⟨ew, ?_⟩
            have hW3 : Wants (fun _ _ _ => False) (fun s ρ' => ∀ v F' H', S4 K W F' H' σ (tv ++ [some v]) ρ' (tr ++ [some s]) → Q v H') (((c ρ3).bind fun b ρ2 => if b then (it1 ρ2).bind fun es ρ3 =>
                if acc.length + es.length ≤ 100000 ∧ ∀ k ∈ ks1, k < ρ3.length then (fTurns ks1 gf1 c1 f es acc (wipeE ρ3 ks1)).bind fun acc' ρ4 => fTurns2 ks gf c it1 ks1 gf1 c1 f (ds.drop (i + 1)) acc' (wipeE ρ4 ks) else .bad
              else fTurns2 ks gf c it1 ks1 gf1 c1 f (ds.drop (i + 1)) acc (wipeE ρ2 ks)).bind fun xs ρ2 => Res.ok (Sl.ow (.lst xs)) (backE ρ1 ρ2 ks)) := hW2
            rw [Res.bind_assoc] at hW3
            refine hc.run L3 S3' (fun _ _ _ h => h.elim) hW3 fun b ρ4 F4 H4 L4 S4' hW4 => ?_
            have fin : ∀ {σ3} {F5 H5 : Hp} {ρ5 : Evn} {acc' : List D}, wipe σ3 ks = wipe σ ks → Ln (W.rebase F1) σ3 (tv ++ [some (.ref Dn)]) ρ5 (tr ++ [some (.ow (.lst acc'))]) → S4 K (W.rebase F1) F5 H5 σ3 (tv ++ [some (.ref Dn)]) ρ5 (tr ++ [some (.ow (.lst acc'))]) →
                Wants (fun _ _ _ => False) (fun s ρ' => ∀ v F' H', S4 K W F' H' σ (tv ++ [some v]) ρ' (tr ++ [some s]) → Q v H') ((fTurns2 ks gf c it1 ks1 gf1 c1 f (ds.drop (i + 1)) acc' (wipeE ρ5 ks)).bind fun xs ρ2 => Res.ok (Sl.ow (.lst xs)) (backE ρ1 ρ2 ks)) →
                ∃ F2 ρ2 acc, Ln W (wipe σ ks) (tv ++ [some (.ref Dn)]) ρ2 (tr ++ [some (.ow (.lst acc))]) ∧ S4 K (W.rebase F1) F2 H5 (wipe σ ks) (tv ++ [some (.ref Dn)]) ρ2 (tr ++ [some (.ow (.lst acc))]) ∧
                  Wants (fun _ _ _ => False) (fun s ρ' => ∀ v F' H', S4 K W F' H' σ (tv ++ [some v]) ρ' (tr ++ [some s]) → Q v H') ((fTurns2 ks gf c it1 ks1 gf1 c1 f (ds.drop (i + 1)) acc ρ2).bind fun xs ρ2 => Res.ok (Sl.ow (.lst xs)) (backE ρ1 ρ2 ks)) := by
              intro σ3 F5 H5 ρ5 acc' ew L5 S5 hW5
              refine ⟨F5, wipeE ρ5 ks, acc', ?_, ?_, hW5⟩
              · have := L5.wipe ks
                rw [ew] at this
                exact ⟨this.s, this.r, this.t⟩
              · have := S4.wipe L5 S5 ks hks
                rw [ew] at this
                exact this
            cases b with
            | false => exact fin ew L4 S4' hW4
            | true =>
              have hW4 : Wants (fun _ _ _ => False) (fun s ρ' => ∀ v F' H', S4 K W F' H' σ (tv ++ [some v]) ρ' (tr ++ [some s]) → Q v H') (((it1 ρ4).bind fun es ρ3 =>
                if acc.length + es.length ≤ 100000 ∧ ∀ k ∈ ks1, k < ρ3.length then (fTurns ks1 gf1 c1 f es acc (wipeE ρ3 ks1)).bind fun acc' ρ4 => fTurns2 ks gf c it1 ks1 gf1 c1 f (ds.drop (i + 1)) acc' (wipeE ρ4 ks) else .bad).bind fun xs ρ2 => Res.ok (Sl.ow (.lst xs)) (backE ρ1 ρ2 ks)) := hW4
              rw [Res.bind_assoc] at hW4
              refine hi1 (W.rebase F1) F4 H4 σ3 _ ρ4 _ _ L4 S4' ?_
              cases e1 : it1 ρ4 with
              | bad => rw [e1] at hW4; exact hW4.elim
              | exc c d ρ' => rw [e1] at hW4; exact hW4.elim
              | ok es ρ5 =>
                rw [e1] at hW4
                intro J1 F5 H5 S5 walk1
                have L5 : Ln (W.rebase F1) σ3 (tv ++ [some (.ref Dn)]) ρ5 (tr ++ [some (.ow (.lst acc))]) := L4.next S5 L4.t
                have hW5 : Wants (fun _ _ _ => False) (fun s ρ' => ∀ v F' H', S4 K W F' H' σ (tv ++ [some v]) ρ' (tr ++ [some s]) → Q v H') ((if acc.length + es.length ≤ 100000 ∧ ∀ k ∈ ks1, k < ρ5.length then (fTurns ks1 gf1 c1 f es acc (wipeE ρ5 ks1)).bind fun acc' ρ4 => fTurns2 ks gf c it1 ks1 gf1 c1 f (ds.drop (i + 1)) acc' (wipeE ρ4 ks) else .bad).bind fun xs ρ2 => Res.ok (Sl.ow (.lst xs)) (backE ρ1 ρ2 ks)) := hW4
                split at hW5
                · rename_i hz
                  obtain ⟨hz, hks1⟩ := hz
                  have hks1 : ∀ k ∈ ks1, k < W.N := fun k hk => hks k (hk1 k hk)
                  rw [Res.bind_assoc] at hW5
                  refine ⟨fun j m H' => m = es.length - j ∧ j ≤ es.length ∧ ∃ F6 ρ6 acc', Ln (W.rebase F1) (wipe σ3 ks1) (tv ++ [some (.ref Dn)]) ρ6 (tr ++ [some (.ow (.lst acc'))]) ∧ S4 K ((W.rebase F1).rebase F5) F6 H' (wipe σ3 ks1) (tv ++ [some (.ref Dn)]) ρ6 (tr ++ [some (.ow (.lst acc'))]) ∧ acc'.length ≤ acc.length + j ∧
                      Wants (fun _ _ _ => False) (fun s ρ' => ∀ v F' H', S4 K W F' H' σ (tv ++ [some v]) ρ' (tr ++ [some s]) → Q v H') ((fTurns ks1 gf1 c1 f (es.drop j) acc' ρ6).bind fun acc' ρ4 => (fTurns2 ks gf c it1 ks1 gf1 c1 f (ds.drop (i + 1)) acc' (wipeE ρ4 ks)).bind fun xs ρ2 => Res.ok (Sl.ow (.lst xs)) (backE ρ1 ρ2 ks)),
                    ⟨es.length, by omega, by omega, F5, wipeE ρ5 ks1, acc, L5.wipe ks1, S4.wipe (W := (W.rebase F1).rebase F5) ⟨L5.s, L5.r, L5.t⟩ S5.rebase ks1 hks1, by omega, by simpa using hW5⟩, ?_⟩
                  rintro j m H6 ⟨rfl, hle1, F6, ρ6, acc', L6, S6, hacc, hW6⟩
                  have hw1 := walk1 j F6 H6 S6.f0 S6.fh
                  by_cases hlt1 : j < es.length
                  · have ed1 : es.drop j = es[j] :: es.drop (j + 1) := List.drop_eq_getElem_cons hlt1
                    rw [ed1] at hW6
                    obtain ⟨go1, yld1⟩ := hw1.1 es[j] (List.getElem?_eq_getElem hlt1)
                    refine .inr ⟨go1, fun H' => ∃ F6 ρ6 acc', Ln (W.rebase F1) (wipe σ3 ks1) (tv ++ [some (.ref Dn)]) ρ6 (tr ++ [some (.ow (.lst acc'))]) ∧ S4 K ((W.rebase F1).rebase F5) F6 H' (wipe σ3 ks1) (tv ++ [some (.ref Dn)]) ρ6 (tr ++ [some (.ow (.lst acc'))]) ∧ acc'.length ≤ acc.length + (j + 1) ∧
                      Wants (fun _ _ _ => False) (fun s ρ' => ∀ v F' H', S4 K W F' H' σ (tv ++ [some v]) ρ' (tr ++ [some s]) → Q v H') ((fTurns ks1 gf1 c1 f (es.drop (j + 1)) acc' ρ6).bind fun acc' ρ4 => (fTurns2 ks gf c it1 ks1 gf1 c1 f (ds.drop (i + 1)) acc' (wipeE ρ4 ks)).bind fun xs ρ2 => Res.ok (Sl.ow (.lst xs)) (backE ρ1 ρ2 ks)),
                      fun H' h => ⟨es.length - (j + 1), by omega, rfl, hlt1, h⟩, fun x1 H' hy1 => ?_⟩
                    obtain ⟨F7, gr1, hx1⟩ := yld1 x1 H' hy1
                    have S7 : S4 K ((W.rebase F1).rebase F5) F7 H' (wipe σ3 ks1) (tv ++ [some (.ref Dn)]) ρ6 (tr ++ [some (.ow (.lst acc'))]) := SR.grow S6 gr1
                    unfold fTurns at hW6
                    cases eg1 : gf1 es[j] ρ6 with
                    | none => rw [eg1] at hW6; exact hW6.elim
                    | some ρ7 =>
                      rw [eg1] at hW6
                      refine hg1 ((W.rebase F1).rebase F5) F7 H' (wipe σ3 ks1) _ ρ6 _ x1 es[j] ρ7 _ ⟨L6.s, L6.r, L6.t⟩ S7 hx1 eg1 fun σ8 k8 L8 S8 => ?_
                      have ew1 : wipe σ8 ks1 = wipe σ3 ks1 := by
                        rw [wipe_same k8 hs1 (by rw [L8.s]; exact L6.s.symm), wipe_wipe]
                      refine ⟨ew1, ?_⟩
                      have hW7 : Wants (fun _ _ _ => False) (fun s ρ' => ∀ v F' H', S4 K W F' H' σ (tv ++ [some v]) ρ' (tr ++ [some s]) → Q v H') (((c1 ρ7).bind fun b ρ2 => if b then (fFz f ρ2).bind fun s ρ3 => match s with
                          | .fr x => fTurns ks1 gf1 c1 f (es.drop (j + 1)) (acc' ++ [x]) (wipeE ρ3 ks1)
                          | _ => .bad
                        else fTurns ks1 gf1 c1 f (es.drop (j + 1)) acc' (wipeE ρ2 ks1)).bind fun acc' ρ4 => (fTurns2 ks gf c it1 ks1 gf1 c1 f (ds.drop (i + 1)) acc' (wipeE ρ4 ks)).bind fun xs ρ2 => Res.ok (Sl.ow (.lst xs)) (backE ρ1 ρ2 ks)) := hW6
                      rw [Res.bind_assoc] at hW7
                      refine hc1.run L8 S8 (fun _ _ _ h => h.elim) hW7 fun b ρ9 F9 H9 L9 S9 hW9 => ?_
                      have fin1 : ∀ {F5' H5 : Hp} {ρ5 : Evn} {acc2 : List D}, Ln ((W.rebase F1).rebase F5) σ8 (tv ++ [some (.ref Dn)]) ρ5 (tr ++ [some (.ow (.lst acc2))]) → S4 K ((W.rebase F1).rebase F5) F5' H5 σ8 (tv ++ [some (.ref Dn)]) ρ5 (tr ++ [some (.ow (.lst acc2))]) → acc2.length ≤ acc.length + (j + 1) →
                          Wants (fun _ _ _ => False) (fun s ρ' => ∀ v F' H', S4 K W F' H' σ (tv ++ [some v]) ρ' (tr ++ [some s]) → Q v H') ((fTurns ks1 gf1 c1 f (es.drop (j + 1)) acc2 (wipeE ρ5 ks1)).bind fun acc' ρ4 => (fTurns2 ks gf c it1 ks1 gf1 c1 f (ds.drop (i + 1)) acc' (wipeE ρ4 ks)).bind fun xs ρ2 => Res.ok (Sl.ow (.lst xs)) (backE ρ1 ρ2 ks)) →
                          ∃ F6 ρ6 acc', Ln (W.rebase F1) (wipe σ3 ks1) (tv ++ [some (.ref Dn)]) ρ6 (tr ++ [some (.ow (.lst acc'))]) ∧ S4 K ((W.rebase F1).rebase F5) F6 H5 (wipe σ3 ks1) (tv ++ [some (.ref Dn)]) ρ6 (tr ++ [some (.ow (.lst acc'))]) ∧ acc'.length ≤ acc.length + (j + 1) ∧
                            Wants (fun _ _ _ => False) (fun s ρ' => ∀ v F' H', S4 K W F' H' σ (tv ++ [some v]) ρ' (tr ++ [some s]) → Q v H') ((fTurns ks1 gf1 c1 f (es.drop (j + 1)) acc' ρ6).bind fun acc' ρ4 => (fTurns2 ks gf c it1 ks1 gf1 c1 f (ds.drop (i + 1)) acc' (wipeE ρ4 ks)).bind fun xs ρ2 => Res.ok (Sl.ow (.lst xs)) (backE ρ1 ρ2 ks)) := by
                        intro F5' H5 ρ5 acc2 L5 S5 ha hW5
                        refine ⟨F5', wipeE ρ5 ks1, acc2, ?_, ?_, ha, hW5⟩
                        · have := L5.wipe ks1
                          rw [ew1] at this
                          exact ⟨this.s, this.r, this.t⟩
                        · have := S4.wipe L5 S5 ks1 hks1
                          rw [ew1] at this
                          exact this
                      cases b with
                      | false => exact fin1 L9 S9 (by omega) hW9
                      | true =>
                        have hW9 : Wants (fun _ _ _ => False) (fun s ρ' => ∀ v F' H', S4 K W F' H' σ (tv ++ [some v]) ρ' (tr ++ [some s]) → Q v H') (((fFz f ρ9).bind fun s ρ3 => match s with
                          | .fr x => fTurns ks1 gf1 c1 f (es.drop (j + 1)) (acc' ++ [x]) (wipeE ρ3 ks1)
                          | _ => .bad).bind fun acc' ρ4 => (fTurns2 ks gf c it1 ks1 gf1 c1 f (ds.drop (i + 1)) acc' (wipeE ρ4 ks)).bind fun xs ρ2 => Res.ok (Sl.ow (.lst xs)) (backE ρ1 ρ2 ks)) := hW9
                        rw [Res.bind_assoc] at hW9
                        refine (tj_fz hf).run L9 S9 (fun _ _ _ h => h.elim) hW9 fun s ρa y Fa Ha La0 Sa0 hWa => ?_
                        split at hWa
                        · rename_i z
                          have La := La0.cut (us := [some y]) (ss := [some (.fr z)]) (by simp)
                          have Sa := S4.cut La0 Sa0 (by simp)
                          obtain ⟨p, ws, e1, e2, e3, e4⟩ := S4.top_ow La Sa
                          cases e1
                          have hy := S4.top_fr La0 Sa0
                          refine ⟨ws, e2, ?_, fin1 ⟨La.s, La.r, by simpa using La.t⟩ (SR.mutTop La Sa (dpAll_app e3 (.cons hy .nil))) (by simp; omega) hWa⟩
                          rw [dpAll_len e3]
                          exact line5' (by omega)
                        · exact hWa.elim
                  · refine .inl ⟨hw1.2 (by omega), ?_⟩
                    rw [List.drop_eq_nil_of_le (by omega)] at hW6
                    refine fin (σ3 := wipe σ3 ks1) ?_ ⟨L6.s, L6.r, L6.t⟩ (S5.unbase S6) hW6
                    rw [← ew]
                    exact wipe_same (is := ks1) (fun k hk => wipe_get hk) hk1 (wipe_length _ _)
                · exact hW5.elim
        · have ei : i = ds.length := by omega
          refine .inl ⟨hw.2 (by omega), ?_⟩
          rw [List.drop_eq_nil_of_le (by omega)] at hW2
          have S3 := S4.back L1 S1 L2 S2 ks hks
          rw [backS_eq ks (fun k hk => by rw [L1.s]; exact hks k hk) (fun k hk => .inl hk)] at S3
          exact hW2 (.ref Dn) F2 H2 (S1.unbase S3)
    · exact hW.elim
end
end DL

namespace DL
open PySem PySem.Spec PyProof.Rows L2 RZ
/-- nothing is wished of an exception -/
abbrev FW : XW := fun _ _ _ _ => False
section
variable {X : Cx} {K : PySem.W.Frag} {mg : Str → Option Value} {E : XW} {W : Wd} {F0 B F H F' H' : Hp} {σ tv us vs : L2.St} {ρ ρ' tr ss : Evn} {v : V} {d : D} {s : Sl} {c c' : Cn} {p : Addr} {i : Nat} {α β : Type}
/-! ### what is never reached -/
def tNeverE : TE := fun _ _ _ => False
def tNeverS : TS := fun _ _ _ => False
theorem pe_never {e : Expr} : PE X e tNeverE := ⟨fun _ _ _ _ _ _ h => h.elim⟩
theorem ps_never {e : Stmt} : PS X e tNeverS := ⟨fun _ _ _ _ _ _ h => h.elim⟩
def fBadE (_ : Evn) : Res Sl := .bad
def fBadS (_ : Evn) : Res Fl := .bad
theorem tj_never : TJ K mg E tNeverE fBadE := fun W F H σ tv ρ tr Q L S hW => hW.elim
theorem tsj_never : TSJ K mg E tNeverS fBadS := fun W F H σ ρ D L S hW => hW.elim
theorem ttj_yes : TTJ K mg E tYes fun ρ => .ok true ρ := fun W F H σ tv ρ tr Q L S hW => hW F H S
/-! ### operators of any kind -/
def rAddU (K : PySem.W.Frag) : R2 := fun x y H Q => ((rI0 (fun i j => .int (i + j)) x y H Q) ∨ rAddS x y H Q) ∨ (rCat x y H Q ∨ rCatA K x y H Q)
def addOp (a b : D) : Option Sl := ((op2I (fun _ _ => true) (fun i j => .int (i + j)) a b).or (op2S (fun i j => decide (i.length + j.length ≤ 100000)) (fun i j => .str (i ++ j)) a b)).or ((catL a b).or (catT a b))
theorem op_addU : OpR X (binaryOp .Add) (rAddU X.K) := OpR.or (op_add.or op_add_str) (op_cat.or op_catA)
theorem vr_addU : VR2 K (rAddU K) addOp := VR2.or (vr_addI.or vr_addS) (vr_catL.or (vr_addT fun _ _ _ _ h => h))
def rMulS : R2 := fun x y H Q => ∃ (a : Str) (i : Int), x = .str a ∧ y = .int i ∧ ((i = 0 ∧ Q (.str Str.empty) H) ∨ (i = 1 ∧ Q (.str a) H))
theorem op_mulS : OpR X (binaryOp .Mult) rMulS := by
  intro pins s σ H x y v u Q I rx ry h
  obtain ⟨a, i, rfl, rfl, h⟩ := h
  obtain ⟨t, rfl⟩ := rx
  obtain ⟨t', rfl⟩ := ry
  rcases h with ⟨rfl, q⟩ | ⟨rfl, q⟩
  · exact P.mul_str_none (by decide) (by decide) ⟨.str Str.empty, H, I.tok _, ⟨_, rfl⟩, q⟩
  · exact P.mul_str (by decide) (fun _ h => by simp at h) (fun _ h => by simp at h) (by
      rw [if_neg (by decide), if_pos (by rfl)]
      exact ⟨.str a, H, I, ⟨_, rfl⟩, q⟩)
def mulSOp (a b : D) : Option Sl := match a, b with
  | .str a, .int i => if i = 0 then some (.fr (.str Str.empty)) else if i = 1 then some (.fr (.str a)) else none
  | _, _ => none
theorem vr_mulS : VR2 K rMulS mulSOp := by
  intro F H x y dx dy s Q fh r1 r2 e q
  unfold mulSOp at e
  split at e
  · rename_i a i
    split at e
    · rename_i h
      cases e
      rw [RepC.str r1, RepC.int r2]
      exact ⟨a, i, rfl, rfl, .inl ⟨h, q _ F H (.refl fh) (.str _)⟩⟩
    · split at e
      · rename_i h
        cases e
        rw [RepC.str r1, RepC.int r2]
        exact ⟨a, i, rfl, rfl, .inr ⟨h, q _ F H (.refl fh) (.str _)⟩⟩
      · cases e
  · cases e
def mulOp (a b : D) : Option Sl := (op2I mulOk (fun i j => .int (i * j)) a b).or (mulSOp a b)
theorem op_mulU : OpR X (binaryOp .Mult) (fun x y H Q => rI CMul (fun i j => .int (i * j)) x y H Q ∨ rMulS x y H Q) := op_mul.or op_mulS
theorem vr_mulU : VR2 K (fun x y H Q => rI CMul (fun i j => .int (i * j)) x y H Q ∨ rMulS x y H Q) mulOp := vr_mulI.or vr_mulS
def subOp : D → D → Option Sl := op2I (fun _ _ => true) fun i j => .int (i - j)
def modOp : D → D → Option Sl := op2I (fun _ j => decide (0 < j)) fun i j => .int (i % j)
def divOp : D → D → Option Sl := op2I (fun _ j => divOk j) fun i j => .int (i / j)
def powOp : D → D → Option Sl := op2I powOk fun i j => .int (i ^ j.toNat)
def ltOp (a b : D) : Option Sl := (op2I (fun _ _ => true) (fun i j => .bool (decide (i < j))) a b).or (op2S (fun _ _ => true) (fun i j => .bool (decide (i.cps.toList < j.cps.toList))) a b)
def leOp : D → D → Option Sl := op2I (fun _ _ => true) fun i j => .bool (decide (i ≤ j))
def gtOp : D → D → Option Sl := op2I (fun _ _ => true) fun i j => .bool (decide (j < i))
def geOp : D → D → Option Sl := op2I (fun _ _ => true) fun i j => .bool (decide (j ≤ i))
theorem op_ltU : OpR X (compareOp .Lt) (fun x y H Q => rI0 (fun i j => .bl (decide (i < j))) x y H Q ∨ (∃ i j, x = .str i ∧ y = .str j ∧ Q (.bl (decide (i.cps.toList < j.cps.toList))) H)) := op_lt.or op_lt_str
theorem vr_ltU : VR2 K (fun x y H Q => rI0 (fun i j => .bl (decide (i < j))) x y H Q ∨ (∃ i j, x = .str i ∧ y = .str j ∧ Q (.bl (decide (i.cps.toList < j.cps.toList))) H)) ltOp := vr_cmp.or vr_ltS
/-! ### lists or tuples -/
def asS (ρ : Evn) : Sl → Res (List D)
  | .fr (.list ds) => .ok ds ρ
  | .fr (.tuple ds) => .ok ds ρ
  | _ => .bad
def fIterS (f : Evn → Res Sl) (ρ : Evn) : Res (List D) := (fFz f ρ).bind fun s ρ1 => asS ρ1 s
def iSeq (K : PySem.W.Frag) (te : TE) : TI := fun σ H R => iList K te σ H R ∨ iTup K te σ H R
theorem pi_seq {tg l : Expr} {tl : TE} (hl : PE X l tl) : PI X tg l (iSeq X.K tl) :=
  ⟨fun pins s σ H R I h => h.elim (fun h => (pi_list hl).run pins s σ H R I h) fun h => (pi_tup hl).run pins s σ H R I h⟩
theorem tij_seq {te : TE} {f : Evn → Res Sl} (h : TJ K mg E te f) : TIJ K mg E (iSeq K te) (fIterS f) := by
  intro W F H σ tv ρ tr R L S hW
  unfold fIterS at hW
  have key : fIterL f ρ = (fFz f ρ).bind fun s ρ1 => asL ρ1 s := rfl
  have key2 : fIterT f ρ = (fFz f ρ).bind fun s ρ1 => asT ρ1 s := rfl
  cases e : fFz f ρ with
  | bad => rw [e] at hW; exact hW.elim
  | exc c d ρ' =>
    refine .inl (tij_list h W F H σ tv ρ tr R L S ?_)
    rw [key, e]
    rw [e] at hW
    exact hW
  | ok s ρ1 =>
    rw [e] at hW
    have hW : Wants _ _ (asS ρ1 s) := hW
    unfold asS at hW
    split at hW
    · refine .inl (tij_list h W F H σ tv ρ tr R L S ?_)
      rw [key, e]
      exact hW
    · refine .inr (tij_tup h W F H σ tv ρ tr R L S ?_)
      rw [key2, e]
      exact hW
    · exact hW.elim
def gSeqF (n : Nat) (g : List D → Evn → Option Evn) (d : D) (ρ : Evn) : Option Evn := match d with
  | .list ds => if ds.length = n then g ds ρ else none
  | .tuple ds => if ds.length = n then g ds ρ else none
  | _ => none
def gSeq (K : PySem.W.Frag) (n : Nat) (t : TGs) : TG := fun v σ H Q => gLst K n t v σ H Q ∨ gTup K n t v σ H Q
theorem pg_seq {es : List Expr} {k : Nat} {t : TGs} {n : Nat} {pos : Pos} (hc : X.calm = true) (h : PGs X es t)
    (hn : (assignEach es X.env).length = n := by rfl) (hst : (assignEach es X.env).findIdx? (·.1) = none := by rfl) : PG X (.Tuple es k pos) (gSeq X.K n t) :=
  ⟨fun pins s σ H v u Q I r hw => hw.elim (fun hw => (pg_lst hc h hn hst).run pins s σ H v u Q I r hw) fun hw => (pg_tup hc h hn hst).run pins s σ H v u Q I r hw⟩
end
end DL

namespace DL
open PySem PySem.Spec PyProof.Rows L2 RZ
section
variable {X : Cx} {K : PySem.W.Frag} {mg : Str → Option Value} {E : XW} {W : Wd} {F0 B F H F' H' : Hp} {σ tv us vs : L2.St} {ρ ρ' tr ss : Evn} {v : V} {d : D} {s : Sl} {c c' : Cn} {p : Addr} {i : Nat} {α β : Type}
theorem tgj_seq {gs : TGs} {is : List Nat} {n : Nat} {fs : List D → Evn → Option Evn} (h : TGsJ K gs is fs) : TGJ K (gSeq K n gs) is (gSeqF n fs) := by
  intro W F H σ tv ρ tr x d ρ' Q L S hx e q
  unfold gSeqF at e
  split at e
  · exact .inl (tgj_lst h W F H σ tv ρ tr x _ ρ' Q L S hx e q)
  · exact .inr (tgj_tup h W F H σ tv ρ tr x _ ρ' Q L S hx e q)
  · cases e
/-! ### a def as it may be called -/
structure Cal (P : Program) (w : World) (K : PySem.W.Frag) (mg : Str → Option Value) (base : Heap) (x : Str) (ps : List Str) (lev : Nat) (sp : Sp) : Prop where
  ex : ∃ f fd, mg x = some (.ref f) ∧ PySem.W.keepIn K (.ref f) = true ∧ Binds K fd ps [] ∧ FnOk P w K mg base (L2.CX P w) lev f fd ps sp
theorem passF {s : Shared} {H : Hp} {scope : Scope} {cenv : PySem.Env} {fp : List Addr} (σ : L2.St) : PassesAt (L2.CX (X.blk s H scope cenv fp).prog (X.blk s H scope cenv fp).w) (X.blk s H scope cenv fp) σ (FW σ) := fun _ _ _ _ _ _ h => by
  obtain ⟨_, _, _, _, _, _, _, _, _, _, _, _, z⟩ := h
  exact z.elim
theorem pe_cal {x : Str} {ps : List Str} {lev n : Nat} {den : Option Cn → List D → Ret} {p pos : Pos} {e : Expr} {es : List Expr} {t : TA} {E : L2.St → XK} (C : Cal X.prog X.w X.K X.mg X.base x ps lev (spD X.K X.mg n den)) (hr : Room lev X.A) (hg : Gl X x) (hx : ∀ σ, PassesAt (L2.CX X.prog X.w) X σ (E σ))
    (ha : PA X (e :: es) t) (hdb : (x == ("__debug__" : Str)) = false := by decide) (he : starEach (e :: es) X.env = (false, eval e X.env) :: starEach es X.env := by rfl) (hpl : (backTo pos (starEach es X.env)).any (·.1) = false := by rfl) :
    PE X (.Call (.Name x p) (e :: es) [] pos) (tCallSD (spD X.K X.mg n den) [] E t) := by
  obtain ⟨f, fd, h1, h2, h3, h4⟩ := C.ex
  exact pe_callSD h4 hr hg h1 h2 h3 .nil hx ha hdb he hpl
theorem pe_calB {x : Str} {ps : List Str} {lev n : Nat} {den : Option Cn → List D → Ret} {p pos : Pos} {e : Expr} {es : List Expr} {t : TA} {s : Shared} {H : Hp} {scope : Scope} {cenv : PySem.Env} {fp : List Addr} (C : Cal X.prog X.w X.K X.mg X.base x ps lev (spD X.K X.mg n den)) (hr : Room lev X.A) (hg : Gl (X.blk s H scope cenv fp) x)
    (ha : PA (X.blk s H scope cenv fp) (e :: es) t) (hdb : (x == ("__debug__" : Str)) = false := by decide) (he : starEach (e :: es) cenv = (false, eval e cenv) :: starEach es cenv := by rfl) (hpl : (backTo pos (starEach es cenv)).any (·.1) = false := by rfl) :
    PE (X.blk s H scope cenv fp) (.Call (.Name x p) (e :: es) [] pos) (tCallSD (spD X.K X.mg n den) [] FW t) :=
  pe_cal (X := X.blk s H scope cenv fp) C hr hg passF ha hdb he hpl
/-- how many values an argument list gives -/
theorem nil_len : ∀ (ρ : Evn) ss ρ', fNil ρ = .ok ss ρ' → ss.length = 0 := fun ρ ss ρ' h => by
  unfold fNil at h
  cases h
  rfl
theorem cons_len {f : Evn → Res Sl} {g : Evn → Res (List Sl)} {n : Nat} (h : ∀ ρ ss ρ', g ρ = .ok ss ρ' → ss.length = n) : ∀ ρ ss ρ', fCons f g ρ = .ok ss ρ' → ss.length = n + 1 := fun ρ ss ρ' e => by
  unfold fCons at e
  cases e1 : f ρ with
  | bad => rw [e1] at e; cases e
  | exc c d ρ1 => rw [e1] at e; cases e
  | ok a ρ1 =>
    rw [e1] at e
    have e : (g ρ1).bind (fun ss ρ2 => Res.ok (a :: ss) ρ2) = .ok ss ρ' := e
    cases e2 : g ρ1 with
    | bad => rw [e2] at e; cases e
    | exc c d ρ1 => rw [e2] at e; cases e
    | ok as ρ2 =>
      rw [e2] at e
      cases e
      exact congrArg (· + 1) (h _ _ _ e2)
theorem Cal.up {P : Program} {w : World} {base : Heap} {x : Str} {ps : List Str} {lev lev' : Nat} {sp : Sp} (C : Cal P w K mg base x ps lev sp) (h : lev = lev') : Cal P w K mg base x ps lev' sp := h ▸ C
theorem cal_mk {P : Program} {w : World} {base : Heap} {x : Str} {qual : Str} {st : Stmt} {f : Addr} {fd : FuncData} {ps : List Str} {lev : Nat} {sp : Sp} (F : Fun K x qual st f fd) (g : mg x = some (.ref f)) (b : Binds K fd ps []) (h : FnOk P w K mg base (L2.CX P w) lev f fd ps sp) : Cal P w K mg base x ps lev sp := ⟨⟨f, fd, g, F.kp, b, h⟩⟩
end
end DL

namespace DL
open PySem PySem.Spec PyProof.Rows L2 RZ
section
variable {P : Program} {w : World} {K : PySem.W.Frag} {mg : Str → Option Value} {base : Heap} {X : Cx}
theorem Same.new {H : Hp} {p : Addr} {o : HO} (h : H p = none) : Same H (upd H p o) := fun b x e => by
  rw [upd_ne (ne_of_none e h)]
  exact e
/-! ### the script's cells -/
def spFold (K : PySem.W.Frag) : Sp := fun vs H Q _ => ∃ (a : Addr) (ns : List Int) (n : Nat), vs = [.ref a, .int (n : Int)] ∧ SqL K H a (ns.map V.int) ∧ ns.length ≤ 63 ∧ 1 ≤ n ∧ n ≤ 4 ∧
  ∀ H' p (ms : List Int), Same H H' → H p = none → H' p = some (.lst (ms.map V.int)) → ms.length = min n ns.length → Q (.ref p) H'
def tFold (K : PySem.W.Frag) : TS :=
  tSeq (tAsg (tCB (fun xs H Q => ∃ p ys, xs = [.ref p] ∧ (SqL K H p ys ∨ SqT K H p ys) ∧ ∀ l, H l = none → Q (.ref l) (upd H l (.lst ys))) (tCons (tSl (rSlL K) (tVar 0) tNoPart (tPart (tVar 1))) tNil)) (gName 2))
  (tSeq (tFor (iEnum K (tCons (tSl (rSlL K) (tVar 0) (tPart (tVar 1)) (tPart (tC (.int 63)))) tNil)) (gTup K 2 (gCons (gName 3) (gCons (gName 4) gNil)))
    (tAsg (tOp (rI0 fun i j => .int (i + j)) (tOp (rIxL K) (tVar 2) (tOp (rI (fun _ j => 0 < j) fun i j => .int (i % j)) (tVar 3) (tVar 1))) (tOp (rI CMul fun i j => .int (i * j)) (tVar 4) (tOp (rI0 fun i j => .int (i + j)) (tVar 3) (tC (.int 2)))))
      (gSub (tVar 2) (tOp (rI (fun _ j => 0 < j) fun i j => .int (i % j)) (tVar 3) (tVar 1)) rSetL)))
  (tRet (tVar 2)))
theorem map_set_int {ms : List Int} {j : Nat} {x : Int} : (ms.map V.int).set j (.int x) = (ms.set j x).map V.int := by rw [List.map_set]
theorem fold_run {vs : List V} {H : Hp} {Q : VK} {E : XK} {N : List Str} (hN : N.length = 5) (h : spFold K vs H Q E) : tFold K { nx := fun _ H' => Q .non H', rt := Q } (L2.start N vs) H := by
  obtain ⟨a, ns, n, rfl, hS, hlen, n1, n4, q⟩ := h
  have hst : L2.start N [V.ref a, V.int n] = [some (.ref a), some (.int n), none, none, none] := by
    match N, hN with
    | [_, _, _, _, _], _ => rfl
  rw [hst]
  -- cells = list(script[:n])
  refine ⟨.ref a, rfl, .int n, rfl, n, rfl, a, ns.map V.int, rfl, hS, fun c nc => ?_⟩
  refine ⟨c, _, rfl, .inl (.of upd_same), fun o no => ?_⟩
  have s1 : Same H (upd H c (.lst (cutV (ns.map V.int) none (some (n : Int))))) := Same.new nc
  have s2 := s1.trans (Same.new (o := .lst (cutV (ns.map V.int) none (some (n : Int)))) no)
  have ecut : cutV (ns.map V.int) none (some (n : Int)) = (ns.take n).map V.int := by
    unfold cutV
    rw [HT.sIx_none, HT.sIx_nat]
    simp only [List.drop_zero, Nat.sub_zero, List.map_take]
    by_cases hh : n ≤ (ns.map V.int).length
    · rw [Nat.min_eq_left hh]
    · rw [Nat.min_eq_right (by omega), List.take_of_length_le (Nat.le_refl _), List.take_of_length_le (by omega)]
  have hoH : H o = none := by
    cases e : H o with
    | none => rfl
    | some x =>
      have := s1 _ _ e
      rw [no] at this
      cases this
  -- enumerate(script[n:63])
  refine ⟨.ref a, rfl, .int n, rfl, n, rfl, 63, rfl, a, ns.map V.int, rfl, s2.seq hS, fun b nb => ?_⟩
  obtain ⟨es, ee, hes, hel⟩ : ∃ es : List Int, cutV (ns.map V.int) (some (n : Int)) (some 63) = es.map V.int ∧ (0 < es.length → n ≤ ns.length) ∧ es.length ≤ ns.length := by
    refine ⟨((ns.drop (HT.sIx (ns.map V.int).length 0 (some (n : Int)))).take (HT.sIx (ns.map V.int).length (ns.map V.int).length (some 63) - HT.sIx (ns.map V.int).length 0 (some (n : Int)))), ?_, fun h => ?_, ?_⟩
    · unfold cutV
      rw [List.map_take, List.map_drop]
    · rw [HT.sIx_nat] at h
      rw [List.length_take, List.length_drop, List.length_map] at h
      omega
    · rw [List.length_take, List.length_drop]
      omega
  rw [ee]
  rw [ecut] at s1 s2 no nb ⊢
  have s3 := s2.trans (Same.new (o := .lst (es.map V.int)) nb)
  have nbo : o ≠ b := fun e => by
    rw [← e, upd_same] at nb
    cases nb
  refine ⟨b, es.map V.int, rfl, .of upd_same, fun i m σ H3 => ∃ (y3 y4 : Option V) (ms : List Int), σ = [some (.ref a), some (.int n), some (.ref o), y3, y4] ∧ i + m = es.length ∧ Same H H3 ∧ H3 b = some (.lst (es.map V.int)) ∧ H3 o = some (.lst (ms.map V.int)) ∧ ms.length = min n ns.length,
    ⟨es.length, none, none, ns.take n, rfl, by omega, s3, upd_same, ?_, List.length_take⟩, fun i m σ H3 hW => ?_⟩
  · rw [upd_ne nbo, upd_same]
  · obtain ⟨y3, y4, ms, rfl, em, sm, eb, eo, hms⟩ := hW
    have hB : SqL K H3 b (es.map V.int) := .of eb
    by_cases hi : i < es.length
    · have hn : ms.length = n := by
        have := hes (by omega)
        omega
      have g1 : (es.map V.int)[i]? = some (.int es[i]) := by
        rw [List.getElem?_map, List.getElem?_eq_getElem hi]
        rfl
      refine .inr ⟨⟨_, _, hB, g1⟩, fun σ' H' => ∃ (y3 y4 : Option V) (ms : List Int), σ' = [some (.ref a), some (.int n), some (.ref o), y3, y4] ∧ Same H H' ∧ H' b = some (.lst (es.map V.int)) ∧ H' o = some (.lst (ms.map V.int)) ∧ ms.length = min n ns.length, fun σ' H' hN => ?_, fun x H' hy => ?_⟩
      · obtain ⟨z3, z4, ms', e, sm', eb', eo', hl'⟩ := hN
        exact ⟨m - 1, by omega, z3, z4, ms', e, by omega, sm', eb', eo', hl'⟩
      · obtain ⟨T, x1, rfl, nT, rfl, f1⟩ := hy
        have ex1 : x1 = .int es[i] := Option.some.inj ((f1 _ hB).symm.trans g1)
        subst ex1
        have nTo : o ≠ T := ne_of_none eo nT
        have nTb : b ≠ T := ne_of_none eb nT
        have smT : Same H3 (upd H3 T (.tup [.int (i : Nat), .int es[i]])) := Same.new nT
        have eoT : (upd H3 T (.tup [.int (i : Nat), .int es[i]])) o = some (.lst (ms.map V.int)) := by
          rw [upd_ne nTo]
          exact eo
        have ebT : (upd H3 T (.tup [.int (i : Nat), .int es[i]])) b = some (.lst (es.map V.int)) := by
          rw [upd_ne nTb]
          exact eb
        have hj : i % n < ms.length := by
          rw [hn]
          exact Nat.mod_lt _ n1
        have hmod : ((i : Int) % (n : Int)) = ((i % n : Nat) : Int) := by omega
        refine ⟨T, [.int (i : Nat), .int es[i]], rfl, .inl (.inl upd_same), rfl, .int (i : Nat), [.int es[i]], rfl, .int es[i], [], rfl, rfl, ?_⟩
        -- cells[k % n] + cell * (k + 2)
        refine ⟨.ref o, rfl, .int (i : Nat), rfl, .int n, rfl, i, n, rfl, rfl, by omega, o, ms.map V.int, (i : Int) % (n : Int), .int ms[i % n], rfl, rfl, .of eoT, ?_, .int es[i], rfl, .int (i : Nat), rfl, i, 2, rfl, rfl, es[i], (i : Int) + 2, rfl, rfl, ?_, ms[i % n], es[i] * ((i : Int) + 2), rfl, rfl, ?_⟩
        · rw [hmod]
          refine atI_nat (j := i % n) ?_
          rw [List.getElem?_map, List.getElem?_eq_getElem hj]
          rfl
        · refine .inr ⟨?_, ?_⟩ <;> omega
        · refine ⟨.ref o, rfl, .int (i : Nat), rfl, .int n, rfl, i, n, rfl, rfl, by omega, o, ms.map V.int, (i : Int) % (n : Int), i % n, rfl, rfl, eoT, ?_, ?_⟩
          · rw [hmod]
            unfold ixN
            rw [if_pos (by omega), if_pos (by rw [List.length_map]; omega)]
            rfl
          · refine ⟨_, _, ms.set (i % n) (ms[i % n] + es[i] * ((i : Int) + 2)), rfl, fun d z e => ?_, ?_, ?_, ?_⟩
            · have nd : d ≠ o := ne_of_none e hoH
              rw [upd_ne nd]
              exact smT _ _ (sm _ _ e)
            · rw [upd_ne (Ne.symm nbo)]
              exact ebT
            · rw [upd_same, map_set_int]
            · rw [List.length_set]; exact hms
    · refine .inl ⟨⟨_, hB, by rw [List.length_map]; omega⟩, .ref o, rfl, q H3 o ms sm hoH eo hms⟩

/-! ### the cells: at least one -/
def spCells (K : PySem.W.Frag) : Sp := fun vs H Q _ => ∃ (a : Addr) (ns : List Int) (n : Nat), vs = [.ref a, .int (n : Int)] ∧ SqL K H a (ns.map V.int) ∧ ns.length ≤ 63 ∧ 1 ≤ n ∧ n ≤ 4 ∧
  ∀ H' p (ms : List Int), Same H H' → H p = none → H' p = some (.lst (ms.map V.int)) → 1 ≤ ms.length → ms.length ≤ n → Q (.ref p) H'
def tCells (K : PySem.W.Frag) (E : L2.St → XK) : TS :=
  tRet (tIf (tTest (tOp (rNeD K) (tVar 0) (tLst tNil))) (tCallSD (spFold K) [] E (tCons (tVar 0) (tCons (tVar 1) tNil))) (tLst (tCons (tC (.int 0)) tNil)))
theorem dp_ints {H : Hp} : ∀ ns : List Int, DpAll K H (ns.map V.int) (ns.map PyData.int)
  | [] => .nil
  | n :: ns => .cons (.int n) (dp_ints ns)
theorem cells_run {vs : List V} {H : Hp} {Q : VK} {Ex : XK} {N : List Str} {E : L2.St → XK} (hN : N.length = 2) (h : spCells K vs H Q Ex) : tCells K E { nx := fun _ H' => Q .non H', rt := Q } (L2.start N vs) H := by
  obtain ⟨a, ns, n, rfl, hS, hlen, n1, n4, q⟩ := h
  have hst : L2.start N [V.ref a, V.int n] = [some (.ref a), some (.int n)] := by
    match N, hN with
    | [_, _], _ => rfl
  rw [hst]
  refine ⟨.ref a, rfl, Nat.zero_le _, fun p hp => ?_⟩
  have s1 : Same H (upd H p (.lst [])) := Same.new hp
  have hS1 := s1.seq hS
  have hpH : ∀ p' : Addr, upd H p (.lst []) p' = none → H p' = none := fun p' z => by
    cases e : H p' with
    | none => rfl
    | some x => rw [s1 _ _ e] at z; cases z
  refine ⟨.list (ns.map PyData.int), .list [], .lst hS1 (dp_ints ns), .lst (.of upd_same) .nil, PySem.W.ke_shaped_ints ns, rfl, _, rfl, ?_⟩
  cases ns with
  | nil =>
    refine ⟨by decide, fun p' hp' => ?_⟩
    refine q _ p' [0] (s1.trans (Same.new hp')) (hpH _ hp') upd_same (Nat.le_refl _) n1
  | cons x r =>
    refine ⟨.ref a, rfl, .int n, rfl, a, x :: r, n, rfl, hS1, hlen, n1, n4, fun H' p' ms sm np e el => q _ p' ms (s1.trans sm) (hpH _ np) e ?_ ?_⟩
    · rw [el, List.length_cons]; omega
    · rw [el]; exact Nat.min_le_left _ _
/-! ### the law: behind its first statement -/
def spLaw (K : PySem.W.Frag) : Sp := fun vs H Q _ => ∃ (a : Addr) (ns : List Int), vs = [.ref a] ∧ SqL K H a (ns.map V.int) ∧ ns.length ≤ 63 ∧ ∀ H', Q (.bl true) H'
theorem dt_ints {F : Hp} : ∀ ns : List Int, DtAll K F (ns.map V.int) (ns.map PyData.int)
  | [] => .nil
  | n :: ns => .cons (.int n) (dt_ints ns)
def ini1 (N : Nat) (ds : List D) : Evn := none :: some (.ow (.lst ds)) :: List.replicate (N - 2) none
theorem law_rest {t : TS} {g : Evn → Res Fl} {Ex : XK} {Q : VK} {H : Hp} {a p : Addr} {ms : List Int} {N : Nat} {ρ' : Evn} (ht : TSJ K mg (fun _ => Ex) t g) (hN : 2 ≤ N) (e : H p = some (.lst (ms.map V.int))) (hg : g (ini1 N (ms.map PyData.int)) = .ok (.rt (.fr (.bool true))) ρ') (q : ∀ H', Q (.bl true) H') :
    t { nx := fun _ H' => Q .non H', rt := Q } (some (.ref a) :: some (.ref p) :: List.replicate (N - 2) none) H := by
  have li : (ini1 N (ms.map PyData.int)).length = N := by simp [ini1]; omega
  have ls : (some (V.ref a) :: some (V.ref p) :: List.replicate (N - 2) none).length = N := by simp; omega
  have get : ∀ (i : Nat) (s : Sl), (ini1 N (ms.map PyData.int))[i]? = some (some s) → i = 1 ∧ s = .ow (.lst (ms.map PyData.int)) := by
    intro i s h
    match i, h with
    | 0, h => cases h
    | 1, h => cases h; exact ⟨rfl, rfl⟩
    | i + 2, h =>
      have h : (List.replicate (N - 2) (none : Option Sl))[i]? = some (some s) := h
      rw [List.getElem?_replicate] at h
      split at h <;> cases h
  refine ht ⟨N, [], fun _ => none, fun _ => none⟩ (fun _ => none) H _ (ini1 N (ms.map PyData.int)) _ ⟨ls, li, rfl⟩ ?_ ?_
  · show SR K N [] (fun _ => none) (fun _ => none) (fun _ => none) H (_ ++ []) (_ ++ [])
    rw [List.append_nil, List.append_nil]
    refine ⟨by rw [ls, li], fun b x z => (by cases z), fun b x z => (by cases z), fun b z => absurd rfl z, fun b x z => (by cases z), fun b z => absurd rfl z, fun i d h => ?_, fun i c h => ?_, fun i j c h => ?_, fun i j h => ?_, fun i j s t' p' h1 h2 _ _ _ _ => ?_⟩
    · cases (get i _ h).2
    · obtain ⟨rfl, e2⟩ := get i _ h
      cases e2
      exact ⟨p, rfl, rfl, rfl, ms.map V.int, e, dt_ints ms⟩
    · cases (get i _ h).2
    · cases (get i _ h).2
    · rw [(get i _ h1).1, (get j _ h2).1]
  · rw [hg]
    intro v σ' F' H' L S
    have := S4.top_fr (tv := []) (tr := []) L S
    cases this
    exact q H'
end
end DL

namespace DL
open PySem PySem.Spec PyProof.Rows L2 RZ
section
variable {K : PySem.W.Frag} {mg : Str → Option Value} {E : XW} {W : Wd} {F0 B F H F' H' : Hp} {σ tv us vs : L2.St} {ρ ρ' tr ss : Evn} {v : V} {d : D} {s : Sl} {c c' : Cn} {p : Addr} {i : Nat} {α β : Type}
/-- a change at an address that no slot holds -/
theorem SR.poke {N : Nat} {ios : List Addr} (S : SR K N ios F0 B F H σ ρ) (hF : F p = none) (hB : B p = none) (h1 : ∀ a, a ≠ p → H' a = H a) (hn : ∀ (j : Nat) (s : Sl), ρ[j]? = some (some s) → s.own ≠ none → σ[j]? ≠ some (some (V.ref p))) : SR K N ios F0 B F H' σ ρ := by
  refine ⟨S.len, fun a o e => ?_, S.f0, S.fn, fun a o e z => ?_, fun a e => ?_, S.fr, fun j c e => ?_, fun j k c e => ?_, S.br, S.sep⟩
  · have na : a ≠ p := fun z => by rw [z, hF] at e; cases e
    rw [h1 a na]
    exact S.fh _ _ e
  · have na : a ≠ p := fun z => by rw [z, hB] at e; cases e
    rw [h1 a na]
    exact S.bh _ _ e z
  · have na : a ≠ p := fun z => e (by rw [z]; exact hB)
    rw [h1 a na]
    exact S.bs _ e
  · obtain ⟨q, q1, q2, q3, q4⟩ := S.ow j c e
    have nq : q ≠ p := fun z => hn j _ e (fun z => nomatch z) (by rw [q1, z])
    exact ⟨q, q1, q2, q3, crep_mono (Same.refl _) (h1 q nq) q4⟩
  · obtain ⟨q, q1, q2, q3, q4⟩ := S.io j k c e
    have nq : q ≠ p := fun z => hn j _ e (fun z => nomatch z) (by rw [q2, z])
    exact ⟨q, q1, q2, q3, crep_mono (Same.refl _) (h1 q nq) q4⟩
/-- a call whose first and only argument is a new list that the callee may change -/
def callO (den : Option Cn → List D → Ret) (ss : List Sl) (ρ : Evn) : Res Sl := match ss with
  | [.ow c] => (match den (some c) [] with
    | .ok s (some _) => .ok s ρ
    | _ => .bad)
  | _ => .bad
def fCallO (den : Option Cn → List D → Ret) (f : Evn → Res (List Sl)) (ρ : Evn) : Res Sl := (f ρ).bind fun ss ρ1 => callO den ss ρ1
theorem tj_callO {ta : TA} {f : Evn → Res (List Sl)} {den : Option Cn → List D → Ret} (ha : TAJ K mg E ta f) : TJ K mg E (tCallSD (spD K mg 1 den) [] E ta) (fCallO den f) := by
  intro W F H σ tv ρ tr Q L S hW
  refine ha W F H σ tv ρ tr _ L S ?_
  unfold fCallO at hW
  cases e0 : f ρ with
  | bad => rw [e0] at hW; exact hW
  | exc c d ρ' => rw [e0] at hW; exact hW
  | ok ss ρ1 =>
  rw [e0] at hW
  intro vs F1 H1 hl S1
  have hW1 : Wants (Fly K mg E W σ tv tr) _ (callO den ss ρ1) := hW
  unfold callO at hW1
  split at hW1
  · rename_i c
    match vs, hl with
    | [v0], _ =>
      have L1 : Ln W σ (tv ++ [v0].map some) ρ1 (tr ++ [Sl.ow c].map some) := L.next S1 (by simp [L.t])
      have La : Ln W σ tv ρ1 tr := L1.cut (us := [v0].map some) (ss := [Sl.ow c].map some) (by simp)
      have Sa : S4 K W F1 H1 σ tv ρ1 tr := S4.cut L1 S1 (by simp)
      have lσ := La.s
      have lρ := La.r
      have lt := La.t
      have full : (ρ1 ++ (tr ++ [Sl.ow c].map some))[ρ1.length + tr.length]? = some (some (Sl.ow c)) := by
        rw [List.getElem?_append_right (by omega), List.getElem?_append_right (by omega)]
        simp
      obtain ⟨p, q1, q2, q3, q4⟩ := S1.ow _ c full
      have fullσ := q1
      rw [List.getElem?_append_right (by omega), List.getElem?_append_right (by omega)] at q1
      have ev0 : v0 = .ref p := by simpa [show ρ1.length + tr.length - σ.length - tv.length = 0 by omega] using q1
      subst ev0
      have hp1 : H1 p ≠ none := crep_ne q4
      split at hW1
      · rename_i s c'' hd
        refine ⟨rfl, F1, [p], some c, [], [], Sa.fh, .nil, rfl, ⟨q3, q4⟩, ?_⟩
        rw [hd]
        intro v F2 H2 ev ok hco
        obtain ⟨hF2, hcr⟩ := hco
        let Hm : Hp := fun a => if a = p then H1 p else H2 a
        have hm1 : Hm p = H1 p := if_pos rfl
        have hm2 : ∀ a, a ≠ p → Hm a = H2 a := fun a z => if_neg z
        have g : Grow F1 H1 F2 Hm := by
          refine ⟨ev.ff, fun a o h => ?_, fun a o h => ?_, ev.fn⟩
          · by_cases z : a = p
            · subst z; rw [hm1]; exact h
            · rw [hm2 a z]; exact ev.hh a o h (by simpa using z)
          · by_cases z : a = p
            · subst z; rw [hF2] at h; cases h
            · rw [hm2 a z]; exact ev.fh a o h
        have ok' : ROk K F2 H1 Hm v s := by
          cases s with
          | fr d => exact ok
          | io _ _ => exact ok.elim
          | br _ => exact ok.elim
          | ow c0 =>
            obtain ⟨q, k1, k2, k3, k4⟩ := ok
            have : q ≠ p := fun z => by rw [z] at k2; exact hp1 k2
            exact ⟨q, k1, k2, k3, crep_mono (Same.refl _) (hm2 q this) k4⟩
        have S2 : S4 K W F2 Hm σ (tv ++ [some v]) ρ1 (tr ++ [some s]) := S4.result Sa g ok'
        refine hW1 v F2 H2 (SR.poke (p := p) S2 hF2 q2 (fun a z => (hm2 a z).symm) fun j s' e o z => ?_)
        -- a slot that holds p
        by_cases hj : j < ρ1.length + tr.length
        · have e1 : (ρ1 ++ (tr ++ [Sl.ow c].map some))[j]? = some (some s') := by
            rw [← List.append_assoc] at e ⊢
            rw [List.getElem?_append_left (by simpa using hj)] at e ⊢
            exact e
          have z1 : (σ ++ (tv ++ [V.ref p].map some))[j]? = some (some (V.ref p)) := by
            rw [← List.append_assoc] at z ⊢
            rw [List.getElem?_append_left (by simp; omega)] at z ⊢
            exact z
          have := S1.sep j _ s' _ p e1 full o (fun z => nomatch z) z1 fullσ
          omega
        · have hjl : j < (ρ1 ++ (tr ++ [some s])).length := (List.getElem?_eq_some_iff.mp e).1
          have ej : j = ρ1.length + tr.length := by simp at hjl; omega
          subst ej
          rw [List.getElem?_append_right (by omega), List.getElem?_append_right (by omega)] at e z
          have e : s = s' := by simpa using e
          have z : v = V.ref p := by simpa [show ρ1.length + tr.length - σ.length - tv.length = 0 by omega] using z
          subst e
          subst z
          cases s with
          | fr d => exact o rfl
          | io _ _ => exact ok.elim
          | br _ => exact ok.elim
          | ow c0 =>
            obtain ⟨q, k1, k2, _⟩ := ok
            cases k1
            exact hp1 k2
      · exact hW1.elim
  · exact hW1.elim
/-! ### a call by any promise -/
theorem pe_calG {X : Cx} {x : Str} {ps : List Str} {lev : Nat} {sp : Sp} {q pos : Pos} {e : Expr} {es : List Expr} {t : TA} {E : L2.St → XK} (C : Cal X.prog X.w X.K X.mg X.base x ps lev sp) (hr : Room lev X.A) (hg : Gl X x) (hx : ∀ σ, PassesAt (L2.CX X.prog X.w) X σ (E σ))
    (ha : PA X (e :: es) t) (hdb : (x == ("__debug__" : Str)) = false := by decide) (he : starEach (e :: es) X.env = (false, eval e X.env) :: starEach es X.env := by rfl) (hpl : (backTo pos (starEach es X.env)).any (·.1) = false := by rfl) :
    PE X (.Call (.Name x q) (e :: es) [] pos) (tCallSD sp [] E t) := by
  obtain ⟨f, fd, h1, h2, h3, h4⟩ := C.ex
  exact pe_callSD h4 hr hg h1 h2 h3 .nil hx ha hdb he hpl
end
end DL

namespace TX
open PySem PySem.Spec PyProof.Rows L2 RZ DL
def topS (i : Nat) : Stmt := PySem.Challenge.pw_ripepicks_k41_hung_anew_known_by_hand.main.body.getD i (.Pass ⟨0, 0, 0, 0⟩)
/-! ### lot_of (level 1) -/
abbrev s_lot_of : Stmt := topS 1
abbrev N_lot_of : List Str := ["names"]
theorem sc_lot_of : FnScope N_lot_of ["names"] (defScope s_lot_of) := ⟨rfl, rfl, rfl, by decide +kernel, rfl, by decide +kernel, by decide +kernel⟩
def g_lot_of : Evn → Res Fl := (fRet (fCB tupleOp (fCons (fCB sortOp (fCons (fVar 0) fNil)) fNil)))
def d_lot_of : Option Cn → List PyData → Ret := denB 1 g_lot_of
/-! ### is_within (level 1) -/
abbrev s_is_within : Stmt := topS 2
abbrev N_is_within : List Str := ["one", "other", "name"]
theorem sc_is_within : FnScope N_is_within ["one", "other"] (defScope s_is_within) := ⟨rfl, rfl, rfl, by decide +kernel, rfl, by decide +kernel, by decide +kernel⟩
def g_is_within : Evn → Res Fl := (fRet (fCB allOp (fCons (fLc [2] (fIterS (fVar 0)) (gNm 2) (fun ρ => .ok true ρ) (fOp (inOp false) (fVar 2) (fVar 1))) fNil)))
def d_is_within : Option Cn → List PyData → Ret := denB 3 g_is_within
/-! ### fruits_of (level 1) -/
abbrev s_fruits_of : Stmt := topS 6
abbrev N_fruits_of : List Str := ["orchard", "pair"]
theorem sc_fruits_of : FnScope N_fruits_of ["orchard"] (defScope s_fruits_of) := ⟨rfl, rfl, rfl, by decide +kernel, rfl, by decide +kernel, by decide +kernel⟩
def g_fruits_of : Evn → Res Fl := (fRet (fLc [1] (fIterS (fVar 0)) (gNm 1) (fun ρ => .ok true ρ) (fOp ixOp (fVar 1) (fC (.int 0)))))
def d_fruits_of : Option Cn → List PyData → Ret := denB 2 g_fruits_of
/-! ### look_fruit (level 2) -/
abbrev s_look_fruit : Stmt := topS 7
abbrev N_look_fruit : List Str := ["orchard", "fruit"]
theorem sc_look_fruit : FnScope N_look_fruit ["orchard", "fruit"] (defScope s_look_fruit) := ⟨rfl, rfl, rfl, by decide +kernel, rfl, by decide +kernel, by decide +kernel⟩
def g_look_fruit : Evn → Res Fl := (fIfS (fTest (fOp (inOp true) (fVar 1) (fCallV d_fruits_of (fCons (fVar 0) fNil)))) fBadS fNext)
def d_look_fruit : Option Cn → List PyData → Ret := denB 2 g_look_fruit
/-! ### is_ripe (level 3) -/
abbrev s_is_ripe : Stmt := topS 8
abbrev N_is_ripe : List Str := ["orchard", "fruit", "gone", "one", "lots", "lot"]
theorem sc_is_ripe : FnScope N_is_ripe ["orchard", "fruit", "gone"] (defScope s_is_ripe) := ⟨rfl, rfl, rfl, by decide +kernel, rfl, by decide +kernel, by decide +kernel⟩
def g_is_ripe : Evn → Res Fl := (fSeq (fDrop (fCallV d_look_fruit (fCons (fVar 0) (fCons (fVar 1) fNil))))
    (fRet (fCB anyOp (fCons (fLc2 [3, 4, 5] (fIterS (fVar 0)) (gSeqF 2 (gConsF (gNm 3) (gConsF (gNm 4) gNilF))) (fTest (fOp (eqOp false) (fVar 3) (fVar 1))) (fIterS (fVar 4)) [5] (gNm 5) (fun ρ => .ok true ρ) (fCallV d_is_within (fCons (fVar 5) (fCons (fVar 2) fNil)))) fNil))))
def d_is_ripe : Option Cn → List PyData → Ret := denB 6 g_is_ripe
/-! ### ripe (level 2) -/
abbrev s_ripe : Stmt := topS 9
abbrev N_ripe : List Str := ["orchard", "gone", "found", "fruit", "lots", "lot"]
theorem sc_ripe : FnScope N_ripe ["orchard", "gone"] (defScope s_ripe) := ⟨rfl, rfl, rfl, by decide +kernel, rfl, by decide +kernel, by decide +kernel⟩
def g_ripe : Evn → Res Fl := (fSeq (fAsg 2 (fLst fNil))
    (fSeq (fFor (fIterS (fVar 0)) (gSeqF 2 (gConsF (gNm 3) (gConsF (gNm 4) gNilF))) (fIfS (fAnd (fTest (fOp (inOp true) (fVar 3) (fVar 1))) (fTest (fCB anyOp (fCons (fLc [5] (fIterS (fVar 4)) (gNm 5) (fun ρ => .ok true ρ) (fCallV d_is_within (fCons (fVar 5) (fCons (fVar 1) fNil)))) fNil)))) (fDrop (fAppend 2 (fVar 3))) fNext))
    (fRet (fVar 2))))
def d_ripe : Option Cn → List PyData → Ret := denB 6 g_ripe
/-! ### passed_by (level 3) -/
abbrev s_passed_by : Stmt := topS 11
abbrev N_passed_by : List Str := ["orchard", "liking", "found", "gone", "some", "best", "fruit"]
theorem sc_passed_by : FnScope N_passed_by ["orchard", "liking"] (defScope s_passed_by) := ⟨rfl, rfl, rfl, by decide +kernel, rfl, by decide +kernel, by decide +kernel⟩
def g_passed_by : Evn → Res Fl := (fSeq (fPar [2, 3] (fCons (fLst fNil) (fCons (fLst fNil) fNil)))
    (fSeq (fAsg 4 (fCallV d_ripe (fCons (fVar 0) (fCons (fVar 3) fNil))))
    (fSeq (fWhile 1000 (fTest (fOp gtOp (fCB lenOp (fCons (fVar 4) fNil)) (fC (.int 0)))) (fSeq (fAsg 5 (fOp ixOp (fLc [6] (fIterS (fVar 1)) (gNm 6) (fTest (fOp (inOp false) (fVar 6) (fVar 4))) (fVar 6)) (fC (.int 0))))
    (fSeq (fDrop (fAppend 2 (fTup (fCons (fVar 5) (fCons (fFz (fLc [6] (fIterS (fVar 4)) (gNm 6) (fTest (fOp (eqOp true) (fVar 6) (fVar 5))) (fVar 6))) fNil)))))
    (fSeq (fDrop (fAppend 3 (fVar 5)))
    (fAsg 4 (fCallV d_ripe (fCons (fVar 0) (fCons (fVar 3) fNil))))))))
    (fRet (fVar 2)))))
def d_passed_by : Option Cn → List PyData → Ret := denB 7 g_passed_by
/-! ### pick (level 4) -/
abbrev s_pick : Stmt := topS 12
abbrev N_pick : List Str := ["orchard", "liking", "fruit", "others"]
theorem sc_pick : FnScope N_pick ["orchard", "liking"] (defScope s_pick) := ⟨rfl, rfl, rfl, by decide +kernel, rfl, by decide +kernel, by decide +kernel⟩
def g_pick : Evn → Res Fl := (fRet (fLc [2, 3] (fIterS (fCallV d_passed_by (fCons (fVar 0) (fCons (fVar 1) fNil)))) (gSeqF 2 (gConsF (gNm 2) (gConsF (gNm 3) gNilF))) (fun ρ => .ok true ρ) (fVar 2)))
def d_pick : Option Cn → List PyData → Ret := denB 4 g_pick
/-! ### known (level 2) -/
abbrev s_known : Stmt := topS 14
abbrev N_known : List Str := ["picking", "fruit", "liking", "row", "ahead", "better", "lesser", "place", "name"]
theorem sc_known : FnScope N_known ["picking", "fruit"] (defScope s_known) := ⟨rfl, rfl, rfl, by decide +kernel, rfl, by decide +kernel, by decide +kernel⟩
def g_known : Evn → Res Fl := (fSeq (fUnp (gSeqF 2 (gConsF (gNm 2) (gConsF (gNm 3) gNilF))) (fVar 0))
    (fSeq (fIfS (fTest (fOp (inOp true) (fVar 1) (fVar 2))) fBadS fNext)
    (fSeq (fIfS (fTest (fOp (inOp true) (fVar 1) (fVar 3))) (fRet (fTup (fCons (fC .none) (fCons (fCallV d_lot_of (fCons (fVar 3) fNil)) fNil)))) fNext)
    (fSeq (fAsg 4 (fSl (fCB listOp (fCons (fVar 3) fNil)) fNoPart (fPart (fBL indexOp (fCB listOp (fCons (fVar 3) fNil)) (fVar 1)))))
    (fSeq (fAsg 5 (fSl (fCB listOp (fCons (fVar 2) fNil)) fNoPart (fPart (fBL indexOp (fCB listOp (fCons (fVar 2) fNil)) (fVar 1)))))
    (fSeq (fAsg 6 (fLc [7, 8] (fEnum (fCons (fFz (fVar 4)) fNil)) (gSeqF 2 (gConsF (gNm 7) (gConsF (gNm 8) gNilF))) (fTest (fOp (inOp true) (fVar 8) (fVar 5))) (fVar 7)))
    (fRet (fTup (fCons (fCallV d_lot_of (fCons (fVar 4) fNil)) (fCons (fIf (fTest (fOp gtOp (fCB lenOp (fCons (fVar 6) fNil)) (fC (.int 0)))) (fCallV d_lot_of (fCons (fSl (fVar 4) fNoPart (fPart (fOp ixOp (fVar 6) (fUn negOp (fC (.int 1)))))) fNil)) (fC .none)) fNil))))))))))
def d_known : Option Cn → List PyData → Ret := denB 9 g_known
/-! ### ill_word (level 4) -/
abbrev s_ill_word : Stmt := topS 18
abbrev N_ill_word : List Str := ["orchard", "liking", "row", "fruit", "by", "not_by"]
theorem sc_ill_word : FnScope N_ill_word ["orchard", "liking", "row", "fruit"] (defScope s_ill_word) := ⟨rfl, rfl, rfl, by decide +kernel, rfl, by decide +kernel, by decide +kernel⟩
def g_ill_word : Evn → Res Fl := (fSeq (fUnp (gSeqF 2 (gConsF (gNm 4) (gConsF (gNm 5) gNilF))) (fCallV d_known (fCons (fTup (fCons (fVar 1) (fCons (fVar 2) fNil))) (fCons (fVar 3) fNil))))
    (fSeq (fIfS (fAnd (fTest (fOp (isN true) (fVar 4) (fC .none))) (fNot (fTest (fCallV d_is_ripe (fCons (fVar 0) (fCons (fVar 3) (fCons (fVar 4) fNil))))))) (fRet (fC (.str "late"))) fNext)
    (fRet (fIf (fAnd (fTest (fOp (isN true) (fVar 5) (fC .none))) (fTest (fCallV d_is_ripe (fCons (fVar 0) (fCons (fVar 3) (fCons (fVar 5) fNil)))))) (fC (.str "soon")) (fC .none)))))
def d_ill_word : Option Cn → List PyData → Ret := denB 6 g_ill_word
/-! ### ill_hung (level 5) -/
abbrev s_ill_hung : Stmt := topS 19
abbrev N_ill_hung : List Str := ["orchard", "liking", "row", "words", "fruit", "word"]
theorem sc_ill_hung : FnScope N_ill_hung ["orchard", "liking", "row"] (defScope s_ill_hung) := ⟨rfl, rfl, rfl, by decide +kernel, rfl, by decide +kernel, by decide +kernel⟩
def g_ill_hung : Evn → Res Fl := (fSeq (fAsg 3 (fLc [4] (fIterS (fCallV d_fruits_of (fCons (fVar 0) fNil))) (gNm 4) (fun ρ => .ok true ρ) (fTup (fCons (fVar 4) (fCons (fCallV d_ill_word (fCons (fVar 0) (fCons (fVar 1) (fCons (fVar 2) (fCons (fVar 4) fNil))))) fNil)))))
    (fRet (fLc [4, 5] (fIterS (fVar 3)) (gSeqF 2 (gConsF (gNm 4) (gConsF (gNm 5) gNilF))) (fTest (fOp (isN true) (fVar 5) (fC .none))) (fTup (fCons (fVar 4) (fCons (fVar 5) fNil))))))
def d_ill_hung : Option Cn → List PyData → Ret := denB 6 g_ill_hung
/-! ### least_hung (level 6) -/
abbrev s_least_hung : Stmt := topS 20
abbrev N_least_hung : List Str := ["orchard", "liking", "row", "prices", "ill", "fruit", "word", "price"]
theorem sc_least_hung : FnScope N_least_hung ["orchard", "liking", "row", "prices"] (defScope s_least_hung) := ⟨rfl, rfl, rfl, by decide +kernel, rfl, by decide +kernel, by decide +kernel⟩
def g_least_hung : Evn → Res Fl := (fSeq (fAsg 4 (fLc [5, 6] (fIterS (fCallV d_ill_hung (fCons (fVar 0) (fCons (fVar 1) (fCons (fVar 2) fNil))))) (gSeqF 2 (gConsF (gNm 5) (gConsF (gNm 6) gNilF))) (fun ρ => .ok true ρ) (fVar 5)))
    (fRet (fCB sumOp (fCons (fLc [5, 7] (fIterS (fVar 3)) (gSeqF 2 (gConsF (gNm 5) (gConsF (gNm 7) gNilF))) (fTest (fOp (inOp false) (fVar 5) (fVar 4))) (fVar 7)) fNil))))
def d_least_hung : Option Cn → List PyData → Ret := denB 8 g_least_hung
/-! ### hung_anew (level 6) -/
abbrev s_hung_anew : Stmt := topS 21
abbrev N_hung_anew : List Str := ["orchard", "liking", "row", "ill", "found", "fruit", "word", "lots", "lot"]
theorem sc_hung_anew : FnScope N_hung_anew ["orchard", "liking", "row"] (defScope s_hung_anew) := ⟨rfl, rfl, rfl, by decide +kernel, rfl, by decide +kernel, by decide +kernel⟩
def g_hung_anew : Evn → Res Fl := (fSeq (fPar [3, 4] (fCons (fLc [5, 6] (fIterS (fCallV d_ill_hung (fCons (fVar 0) (fCons (fVar 1) (fCons (fVar 2) fNil))))) (gSeqF 2 (gConsF (gNm 5) (gConsF (gNm 6) gNilF))) (fun ρ => .ok true ρ) (fVar 5)) (fCons (fLst fNil) fNil)))
    (fSeq (fFor (fIterS (fVar 0)) (gSeqF 2 (gConsF (gNm 5) (gConsF (gNm 7) gNilF))) (fIfS (fTest (fOp (inOp true) (fVar 5) (fVar 3))) (fDrop (fAppend 4 (fTup (fCons (fVar 5) (fCons (fCB tupleOp (fCons (fLc [8] (fIterS (fVar 7)) (gNm 8) (fun ρ => .ok true ρ) (fCB tupleOp (fCons (fVar 8) fNil))) fNil)) fNil))))) (fIfS (fTest (fOp (inOp false) (fVar 5) (fVar 2))) (fDrop (fAppend 4 (fTup (fCons (fVar 5) (fCons (fTup (fCons (fCallV d_lot_of (fCons (fSl (fCB listOp (fCons (fVar 2) fNil)) fNoPart (fPart (fBL indexOp (fCB listOp (fCons (fVar 2) fNil)) (fVar 5)))) fNil)) fNil)) fNil))))) (fDrop (fAppend 4 (fTup (fCons (fVar 5) (fCons (fTup fNil) fNil))))))))
    (fRet (fCB tupleOp (fCons (fVar 4) fNil)))))
def d_hung_anew : Option Cn → List PyData → Ret := denB 9 g_hung_anew
/-! ### _law_tape (level 1) -/
abbrev s__law_tape : Stmt := topS 23
abbrev N__law_tape : List Str := ["_law_script", "_law_k", "_law_cell"]
theorem sc__law_tape : FnScope N__law_tape ["_law_script", "_law_k"] (defScope s__law_tape) := ⟨rfl, rfl, rfl, by decide +kernel, rfl, by decide +kernel, by decide +kernel⟩
def g__law_tape : Evn → Res Fl := (fSeq (fAsg 2 (fIf (fTest (fOp ltOp (fVar 1) (fCB lenOp (fCons (fVar 0) fNil)))) (fOp ixOp (fVar 0) (fVar 1)) (fC (.int 0))))
    (fRet (fLst (fCons (fOp mulOp (fCB absOp (fCons (fVar 2) fNil)) (fCB intOp (fCons (fOp geOp (fCB absOp (fCons (fVar 2) fNil)) (fOp powOp (fC (.int 10)) (fC (.int 18)))) fNil))) (fCons (fOp addOp (fOp addOp (fOp modOp (fVar 2) (fC (.int 2305843009213693951))) (fOp mulOp (fC (.int 39373)) (fVar 1))) (fC (.int 17))) (fCons (fC (.int 0)) fNil))))))
def d__law_tape : Option Cn → List PyData → Ret := denB 3 g__law_tape
/-! ### _law_draw (level 1) -/
abbrev s__law_draw : Stmt := topS 24
abbrev N__law_draw : List Str := ["_law_tape_here", "_law_count", "_law_found", "_law_once", "_law_twice", "_law_wide"]
theorem sc__law_draw : FnScope N__law_draw ["_law_tape_here", "_law_count"] (defScope s__law_draw) := ⟨rfl, rfl, rfl, by decide +kernel, rfl, by decide +kernel, by decide +kernel⟩
def g__law_draw : Evn → Res Fl := (fSeq (fIfS (fTest (fOp gtOp (fOp ixOp (fVar 0) (fC (.int 0))) (fC (.int 0)))) (fSeq (fAsg 2 (fOp modOp (fOp ixOp (fVar 0) (fC (.int 0))) (fVar 1)))
    (fSeq (fSetAt 0 (fOp divOp (fOp ixOp (fVar 0) (fC (.int 0))) (fVar 1)) (fC (.int 0)))
    (fRet (fVar 2)))) fNext)
    (fSeq (fSetAt 0 (fOp addOp (fOp ixOp (fVar 0) (fC (.int 2))) (fC (.int 1))) (fC (.int 2)))
    (fSeq (fAsg 3 (fOp modOp (fOp powOp (fOp addOp (fOp ixOp (fVar 0) (fC (.int 1))) (fOp mulOp (fC (.int 39373)) (fOp ixOp (fVar 0) (fC (.int 2))))) (fC (.int 5))) (fC (.int 2147483647))))
    (fSeq (fAsg 4 (fOp modOp (fOp mulOp (fOp addOp (fVar 3) (fOp ixOp (fVar 0) (fC (.int 2)))) (fOp addOp (fOp addOp (fOp modOp (fVar 3) (fC (.int 40009))) (fC (.int 7))) (fOp ixOp (fVar 0) (fC (.int 2))))) (fC (.int 2147483629))))
    (fSeq (fAsg 5 (fOp modOp (fOp addOp (fOp addOp (fOp divOp (fOp ixOp (fVar 0) (fC (.int 1))) (fC (.int 2147483647))) (fOp mulOp (fVar 4) (fC (.int 40009)))) (fOp ixOp (fVar 0) (fC (.int 2)))) (fC (.int 2305843009213693951))))
    (fRet (fOp modOp (fOp divOp (fOp modOp (fOp addOp (fOp addOp (fOp mulOp (fVar 4) (fC (.int 48271))) (fOp mulOp (fVar 5) (fC (.int 39373)))) (fVar 3)) (fC (.int 2305843009213693921))) (fC (.int 64))) (fVar 1))))))))
def d__law_draw : Option Cn → List PyData → Ret := denB 6 g__law_draw
/-! ### _law_same (level 1) -/
abbrev s__law_same : Stmt := topS 26
abbrev N__law_same : List Str := ["_law_found", "_law_due", "_law_mine", "_law_its"]
theorem sc__law_same : FnScope N__law_same ["_law_found", "_law_due"] (defScope s__law_same) := ⟨rfl, rfl, rfl, by decide +kernel, rfl, by decide +kernel, by decide +kernel⟩
def g__law_same (den : Option Cn → List PyData → Ret) : Evn → Res Fl := (fSeq (fIfS (fTest (fIsi2 "list" "tuple" (fVar 1))) (fSeq (fIfS (fOr (fTest (fOp (eqOp true) (fIsi "list" (fVar 0)) (fIsi "list" (fVar 1)))) (fTest (fOp (eqOp true) (fIsi "tuple" (fVar 0)) (fIsi "tuple" (fVar 1))))) (fRet (fC (.bool false))) fNext)
    (fRet (fAndV (fOp (eqOp false) (fCB lenOp (fCons (fVar 0) fNil)) (fCB lenOp (fCons (fVar 1) fNil))) (fCB allOp (fCons (fLc [2, 3] (fZip (fCons (fFz (fVar 0)) (fCons (fFz (fVar 1)) fNil))) (gSeqF 2 (gConsF (gNm 2) (gConsF (gNm 3) gNilF))) (fun ρ => .ok true ρ) (fCallV den (fCons (fVar 2) (fCons (fVar 3) fNil)))) fNil))))) fNext)
    (fSeq (fIfS (fOr (fTest (fOp (isN false) (fVar 1) (fC .none))) (fTest (fIsi2 "str" "bool" (fVar 1)))) (fRet (fAndV (fOp (eqOp false) (fIsi "bool" (fVar 0)) (fIsi "bool" (fVar 1))) (fOp (eqOp false) (fVar 0) (fVar 1)))) fNext)
    (fRet (fAndV (fIsi "int" (fVar 0)) (fAndV (fNotV (fIsi "bool" (fVar 0))) (fOp (eqOp false) (fVar 0) (fVar 1)))))))
def d__law_same : Nat → Option Cn → List PyData → Ret
  | 0 => fun _ _ => .bad
  | n + 1 => denB 4 (g__law_same (d__law_same n))
/-! ### _law_names (level 2) -/
abbrev s__law_names : Stmt := topS 27
abbrev N__law_names : List Str := ["_law_tape_here", "_law_count", "_law_letters", "_law_shift", "_law_stem", "_law_k", "_law_at", "_law_step", "_law_found", "_law_head", "_law_tail", "_law_way", "_law_sign"]
theorem sc__law_names : FnScope N__law_names ["_law_tape_here", "_law_count"] (defScope s__law_names) := ⟨rfl, rfl, rfl, by decide +kernel, rfl, by decide +kernel, by decide +kernel⟩
def g__law_names : Evn → Res Fl := (fSeq (fPar [2, 3] (fCons (fC (.str "abcdefghijklmnopqrstuvwxyz")) (fCons (fCallT d__law_draw (fCons (fVar 0) (fCons (fC (.int 26)) fNil))) fNil)))
    (fSeq (fAsg 4 (fM1 joinOp (fC (.str "")) (fLc [5] (fRange1 (fCons (fCallT d__law_draw (fCons (fVar 0) (fCons (fC (.int 8)) fNil))) fNil)) (gNm 5) (fun ρ => .ok true ρ) (fOp ixOp (fVar 2) (fCallT d__law_draw (fCons (fVar 0) (fCons (fC (.int 26)) fNil)))))))
    (fSeq (fPar [6, 7, 8] (fCons (fCallT d__law_draw (fCons (fVar 0) (fCons (fOp addOp (fCB lenOp (fCons (fVar 4) fNil)) (fC (.int 1))) fNil))) (fCons (fOp ixOp (fLst (fCons (fC (.int 1)) (fCons (fC (.int 7)) (fCons (fC (.int 25)) fNil)))) (fCallT d__law_draw (fCons (fVar 0) (fCons (fC (.int 3)) fNil)))) (fCons (fLst fNil) fNil))))
    (fSeq (fPar [9, 10] (fCons (fSl (fVar 4) fNoPart (fPart (fVar 6))) (fCons (fSl (fVar 4) (fPart (fVar 6)) fNoPart) fNil)))
    (fSeq (fFor (fRange1 (fCons (fVar 1) fNil)) (gNm 5) (fSeq (fAsg 11 (fOp mulOp (fOp modOp (fOp addOp (fOp addOp (fVar 3) (fVar 6)) (fCB lenOp (fCons (fVar 4) fNil))) (fC (.int 3))) (fCB intOp (fCons (fOp (eqOp true) (fVar 10) (fC (.str ""))) fNil))))
    (fSeq (fAsg 12 (fOp ixOp (fVar 2) (fOp modOp (fOp addOp (fVar 3) (fOp mulOp (fVar 7) (fOp ixOp (fLst (fCons (fVar 5) (fCons (fOp divOp (fVar 5) (fC (.int 2))) (fCons (fVar 5) fNil)))) (fVar 11)))) (fC (.int 26)))))
    (fDrop (fAppend 8 (fOp addOp (fOp addOp (fVar 9) (fVar 12)) (fOp ixOp (fLst (fCons (fVar 10) (fCons (fOp mulOp (fVar 10) (fOp modOp (fVar 5) (fC (.int 2)))) (fCons (fSl (fVar 10) fNoPart (fPart (fOp modOp (fVar 5) (fOp addOp (fCB lenOp (fCons (fVar 10) fNil)) (fC (.int 1)))))) fNil)))) (fVar 11))))))))
    (fRet (fVar 8)))))))
def d__law_names : Option Cn → List PyData → Ret := denB 13 g__law_names
/-! ### _law_right (level 7) -/
abbrev s__law_right : Stmt := topS 29
abbrev N__law_right : List Str := ["_law_tape_here", "_law_some", "_law_a", "_law_b", "_law_c", "_law_d", "_law_p", "_law_q", "_law_r", "_law_s", "_law_turn", "_law_garden", "_law_likes", "_law_fees", "_law_dues", "_law_went", "_law_ill", "_law_price", "_law_due"]
theorem sc__law_right : FnScope N__law_right ["_law_tape_here"] (defScope s__law_right) := ⟨rfl, rfl, rfl, by decide +kernel, rfl, by decide +kernel, by decide +kernel⟩
def g__law_right : Evn → Res Fl := (fSeq (fAsg 1 (fCallT d__law_names (fCons (fVar 0) (fCons (fC (.int 4)) fNil))))
    (fSeq (fUnp (gSeqF 4 (gConsF (gNm 2) (gConsF (gNm 3) (gConsF (gNm 4) (gConsF (gNm 5) gNilF))))) (fCB sortOp (fCons (fVar 1) fNil)))
    (fSeq (fUnp (gSeqF 4 (gConsF (gNm 6) (gConsF (gNm 7) (gConsF (gNm 8) (gConsF (gNm 9) gNilF))))) (fLc [10] (fRange1 (fCons (fC (.int 4)) fNil)) (gNm 10) (fun ρ => .ok true ρ) (fCallT d__law_draw (fCons (fVar 0) (fCons (fOp powOp (fC (.int 10)) (fC (.int 6))) fNil)))))
    (fSeq (fPar [11, 12] (fCons (fTup (fCons (fTup (fCons (fVar 2) (fCons (fTup (fCons (fTup fNil) fNil)) fNil))) (fCons (fTup (fCons (fVar 3) (fCons (fTup (fCons (fTup (fCons (fVar 2) fNil)) fNil)) fNil))) (fCons (fTup (fCons (fVar 4) (fCons (fTup (fCons (fTup fNil) fNil)) fNil))) (fCons (fTup (fCons (fVar 5) (fCons (fTup fNil) fNil))) fNil))))) (fCons (fTup (fCons (fVar 4) (fCons (fVar 2) (fCons (fVar 5) (fCons (fVar 3) fNil))))) fNil)))
    (fSeq (fAsg 13 (fLst (fCons (fTup (fCons (fVar 2) (fCons (fVar 6) fNil))) (fCons (fTup (fCons (fVar 3) (fCons (fVar 7) fNil))) (fCons (fTup (fCons (fVar 4) (fCons (fVar 8) fNil))) (fCons (fTup (fCons (fVar 5) (fCons (fVar 9) fNil))) fNil))))))
    (fSeq (fAsg 14 (fLst (fCons (fTup (fCons (fFz (fLst (fCons (fVar 4) (fCons (fVar 2) (fCons (fVar 3) fNil))))) (fCons (fFz (fLst fNil)) (fCons (fC (.int 0)) fNil)))) (fCons (fTup (fCons (fFz (fLst (fCons (fVar 2) (fCons (fVar 4) (fCons (fVar 3) fNil))))) (fCons (fFz (fLst (fCons (fTup (fCons (fVar 4) (fCons (fC (.str "soon")) fNil))) fNil))) (fCons (fVar 8) fNil)))) (fCons (fTup (fCons (fFz (fLst (fCons (fVar 4) (fCons (fVar 3) (fCons (fVar 2) fNil))))) (fCons (fFz (fLst (fCons (fTup (fCons (fVar 2) (fCons (fC (.str "soon")) fNil))) (fCons (fTup (fCons (fVar 3) (fCons (fC (.str "late")) fNil))) fNil)))) (fCons (fOp addOp (fVar 6) (fVar 7)) fNil)))) fNil)))))
    (fSeq (fAsg 14 (fOp addOp (fVar 14) (fLst (fCons (fTup (fCons (fFz (fLst fNil)) (fCons (fFz (fLst (fCons (fTup (fCons (fVar 2) (fCons (fC (.str "soon")) fNil))) (fCons (fTup (fCons (fVar 4) (fCons (fC (.str "soon")) fNil))) fNil)))) (fCons (fOp addOp (fVar 6) (fVar 8)) fNil)))) (fCons (fTup (fCons (fFz (fLst (fCons (fVar 4) (fCons (fVar 2) fNil)))) (fCons (fFz (fLst (fCons (fTup (fCons (fVar 3) (fCons (fC (.str "soon")) fNil))) fNil))) (fCons (fVar 7) fNil)))) fNil)))))
    (fSeq (fAsg 14 (fOp addOp (fVar 14) (fLst (fCons (fTup (fCons (fFz (fLst (fCons (fVar 4) (fCons (fVar 2) (fCons (fVar 5) (fCons (fVar 3) fNil)))))) (fCons (fFz (fLst (fCons (fTup (fCons (fVar 5) (fCons (fC (.str "late")) fNil))) fNil))) (fCons (fVar 9) fNil)))) (fCons (fTup (fCons (fFz (fLst (fCons (fVar 5) fNil))) (fCons (fFz (fLst (fCons (fTup (fCons (fVar 2) (fCons (fC (.str "soon")) fNil))) (fCons (fTup (fCons (fVar 4) (fCons (fC (.str "soon")) fNil))) (fCons (fTup (fCons (fVar 5) (fCons (fC (.str "late")) fNil))) fNil))))) (fCons (fOp addOp (fOp addOp (fVar 6) (fVar 8)) (fVar 9)) fNil)))) fNil)))))
    (fSeq (fAsg 14 (fOp addOp (fVar 14) (fLst (fCons (fTup (fCons (fFz (fLst (fCons (fVar 2) (fCons (fVar 3) (fCons (fVar 4) fNil))))) (fCons (fFz (fLst (fCons (fTup (fCons (fVar 4) (fCons (fC (.str "soon")) fNil))) fNil))) (fCons (fVar 8) fNil)))) (fCons (fTup (fCons (fFz (fLst (fCons (fVar 3) (fCons (fVar 4) (fCons (fVar 2) fNil))))) (fCons (fFz (fLst (fCons (fTup (fCons (fVar 2) (fCons (fC (.str "soon")) fNil))) (fCons (fTup (fCons (fVar 3) (fCons (fC (.str "late")) fNil))) (fCons (fTup (fCons (fVar 4) (fCons (fC (.str "soon")) fNil))) fNil))))) (fCons (fOp addOp (fOp addOp (fVar 6) (fVar 7)) (fVar 8)) fNil)))) fNil)))))
    (fSeq (fFor (fIterS (fVar 14)) (gSeqF 3 (gConsF (gNm 15) (gConsF (gNm 16) (gConsF (gNm 17) gNilF)))) (fSeq (fIfS (fNot (fTest (fCallV (d__law_same 12) (fCons (fLst (fCons (fFz (fCallV d_ill_hung (fCons (fVar 11) (fCons (fVar 12) (fCons (fVar 15) fNil))))) (fCons (fCallV d_least_hung (fCons (fVar 11) (fCons (fVar 12) (fCons (fVar 15) (fCons (fVar 13) fNil))))) fNil))) (fCons (fLst (fCons (fVar 16) (fCons (fVar 17) fNil))) fNil))))) (fRet (fC (.bool false))) fNext)
    (fIfS (fNot (fTest (fCallV (d__law_same 12) (fCons (fCallV d_pick (fCons (fCallV d_hung_anew (fCons (fVar 11) (fCons (fVar 12) (fCons (fVar 15) fNil)))) (fCons (fVar 12) fNil))) (fCons (fVar 15) fNil))))) (fRet (fC (.bool false))) fNext)))
    (fSeq (fAsg 18 (fTup (fCons (fTup (fCons (fVar 2) (fCons (fTup (fCons (fTup (fCons (fVar 3) (fCons (fVar 4) fNil))) fNil)) fNil))) (fCons (fTup (fCons (fVar 3) (fCons (fTup (fCons (fTup (fCons (fVar 4) fNil)) fNil)) fNil))) (fCons (fTup (fCons (fVar 4) (fCons (fTup (fCons (fTup fNil) fNil)) fNil))) (fCons (fTup (fCons (fVar 5) (fCons (fTup fNil) fNil))) fNil))))))
    (fSeq (fIfS (fNot (fTest (fCallV (d__law_same 12) (fCons (fCallV d_hung_anew (fCons (fVar 11) (fCons (fVar 12) (fCons (fLst (fCons (fVar 4) (fCons (fVar 3) (fCons (fVar 2) fNil)))) fNil)))) (fCons (fVar 18) fNil))))) (fRet (fC (.bool false))) fNext)
    (fSeq (fAsg 18 (fTup (fCons (fTup (fCons (fVar 2) (fCons (fTup fNil) fNil))) (fCons (fTup (fCons (fVar 3) (fCons (fTup (fCons (fTup (fCons (fVar 2) fNil)) fNil)) fNil))) (fCons (fTup (fCons (fVar 4) (fCons (fTup fNil) fNil))) (fCons (fTup (fCons (fVar 5) (fCons (fTup (fCons (fTup fNil) fNil)) fNil))) fNil))))))
    (fRet (fCallV (d__law_same 12) (fCons (fCallV d_hung_anew (fCons (fVar 11) (fCons (fVar 12) (fCons (fLst (fCons (fVar 5) fNil)) fNil)))) (fCons (fVar 18) fNil)))))))))))))))))
def d__law_right : Option Cn → List PyData → Ret := denB 19 g__law_right
/-! ### law (level 8) -/
abbrev s_law : Stmt := topS 30
abbrev N_law : List Str := ["_law_script", "_law_cells_here", "_law_k"]
theorem sc_law : FnScope N_law ["_law_script"] (defScope s_law) := ⟨rfl, rfl, rfl, by decide +kernel, rfl, by decide +kernel, by decide +kernel⟩
def g_law : Evn → Res Fl := (fRet (fCB allOp (fCons (fLc [2] (fRange1 (fCons (fCB lenOp (fCons (fVar 1) fNil)) fNil)) (gNm 2) (fun ρ => .ok true ρ) (fCallO d__law_right (fCons (fCallV d__law_tape (fCons (fVar 1) (fCons (fVar 2) fNil))) fNil))) fNil)))
abbrev s__law_folded : Stmt := topS 25
abbrev N__law_folded : List Str := ["_law_script", "_law_count", "_law_cells_here", "_law_k", "_law_cell"]
theorem sc__law_folded : FnScope N__law_folded ["_law_script", "_law_count"] (defScope s__law_folded) := ⟨rfl, rfl, rfl, by decide +kernel, rfl, by decide +kernel, by decide +kernel⟩
abbrev s__law_cells : Stmt := topS 28
abbrev N__law_cells : List Str := ["_law_script", "_law_count"]
theorem sc__law_cells : FnScope N__law_cells ["_law_script", "_law_count"] (defScope s__law_cells) := ⟨rfl, rfl, rfl, by decide +kernel, rfl, by decide +kernel, by decide +kernel⟩
end TX

namespace TX
open PySem PySem.Spec PyProof.Rows L2 RZ DL
theorem ok__law_folded {P : Program} {w : World} {K : PySem.W.Frag} {mg : Str → Option Value} {base : Heap} {k : Nat} {f : Addr} {fd : FuncData} (F : Fun K "_law_folded" "_law_folded" s__law_folded f fd) (m_list : mg "list" = none) (m_enumerate : mg "enumerate" = none) :
    FnOk P w K mg base (L2.CX P w) (k + 1) f fd ["_law_script", "_law_count"] (spFold K) :=
  F.okX sc__law_folded (fun vs H Q E h => by obtain ⟨_, _, _, rfl, _⟩ := h; rfl) fun cdv A outer s H vs Q E hr h => ⟨tFold K,
    pss_cons (ps_set (i := 2) sc__law_folded.nd rfl (Or.inl rfl) (pe_callTy call_list_of rfl m_list boot_list (pa_cons (pe_slice sl_list (pv 0) po_none (po_some (pv 1))) pa_nil)))
      (pss_cons (ps_for (passes_of rfl) rfl (pi_enum rfl m_enumerate (pa_cons (pe_slice sl_list (pv 0) (po_some (pv 1)) (po_some pe_int)) pa_nil))
          (pg_tup rfl (pgs_cons (pg_name (i := 3) sc__law_folded.nd rfl (Or.inl rfl)) (pgs_cons (pg_name (i := 4) sc__law_folded.nd rfl (Or.inl rfl)) pgs_nil)))
        (pss_one (ps_asg (pe_op op_add (pe_ix ix_list (pv 2) (pe_op op_mod (pv 3) (pv 1)) (fun _ _ => rfl)) (pe_op op_mul (pv 4) (pe_op op_add (pv 3) pe_int))) (pg_sub (pv 2) (pe_op op_mod (pv 3) (pv 1)) set_list))))
      (pss_one (ps_ret (pv 2)))), fold_run rfl h⟩
theorem ok__law_cells {P : Program} {w : World} {K : PySem.W.Frag} {mg : Str → Option Value} {base : Heap} {k : Nat} {f : Addr} {fd : FuncData} (F : Fun K "_law_cells" "_law_cells" s__law_cells f fd) {lev__law_folded : Nat} (C__law_folded : Cal P w K mg base "_law_folded" ["_law_script", "_law_count"] lev__law_folded (spFold K)) (l__law_folded : lev__law_folded ≤ k) :
    FnOk P w K mg base (L2.CX P w) (k + 1) f fd ["_law_script", "_law_count"] (spCells K) :=
  F.okX sc__law_cells (fun vs H Q E h => by obtain ⟨_, _, _, rfl, _⟩ := h; rfl) fun cdv A outer s H vs Q E hr h => ⟨tCells K (fun _ => E),
    pss_one (ps_ret (pe_ifExp (pt_cmpR (op_neD hr.units) (pv 0) (pe_lst pa_nil) (nomark _)) (pe_calG (E := fun _ => E) C__law_folded (hr.mono l__law_folded) rfl (fun σ => passAt (takes_of rfl rfl rfl rfl) σ) (pa_cons (pv 0) (pa_cons (pv 1) pa_nil))) (pe_lst (pa_cons pe_int pa_nil)))), cells_run rfl h⟩
theorem ok_lot_of {P : Program} {w : World} {K : PySem.W.Frag} {mg : Str → Option Value} {base : Heap} {k : Nat} {f : Addr} {fd : FuncData} (F : Fun K "lot_of" "lot_of" s_lot_of f fd) (m_tuple : mg "tuple" = none) (m_sorted : mg "sorted" = none) :
    FnOk P w K mg base (L2.CX P w) (k + 1) f fd ["names"] (spD K mg 1 d_lot_of) :=
  fn_den F sc_lot_of fun cdv A outer s H E hr => ⟨_, (pss_one (ps_ret (pe_callTy call_tuple_of rfl m_tuple boot_tuple (pa_cons (pe_callB (cr_sortD hr.units) rfl m_sorted boot_sorted (pa_cons (pv 0) pa_nil)) pa_nil)))),
    (tsj_ret (tj_cb vr_tuple (taj_cons (tj_cb vr_sort (taj_cons (tj_var 0) taj_nil)) taj_nil)))⟩
theorem ok_is_within {P : Program} {w : World} {K : PySem.W.Frag} {mg : Str → Option Value} {base : Heap} {k : Nat} {f : Addr} {fd : FuncData} (F : Fun K "is_within" "is_within" s_is_within f fd) (m_all : mg "all" = none) :
    FnOk P w K mg base (L2.CX P w) (k + 1) f fd ["one", "other"] (spD K mg 2 d_is_within) :=
  fn_den F sc_is_within fun cdv A outer s H E hr => ⟨_, (pss_one (ps_ret (pe_callB (cr_all rfl) rfl m_all boot_all (pa_cons (pe_lc (own := [("name", 2)]) rfl sc_is_within.nd (pi_seq (pv 0)) (blkOk_by (N := N_is_within) (sc := defScope s_is_within) (own := [("name", 2)]) (by decide +kernel)) (fun _ _ _ _ _ => (pg_name (i := 2) sc_is_within.nd rfl (Or.inl rfl))) (fun _ _ _ _ _ => pts_nil) (fun _ _ _ _ _ => (pe_cmpR op_in_seq (pv 2) (pv 1) (by rfl)))) pa_nil)))),
    (tsj_ret (tj_cb vr_all (taj_cons (tj_lc (ks := [2]) (tij_seq (tj_var 0)) (tgj_name 2) ttj_yes (tj_op vr_in (tj_var 2) (tj_var 1)) (by decide)) taj_nil)))⟩
theorem ok_fruits_of {P : Program} {w : World} {K : PySem.W.Frag} {mg : Str → Option Value} {base : Heap} {k : Nat} {f : Addr} {fd : FuncData} (F : Fun K "fruits_of" "fruits_of" s_fruits_of f fd) :
    FnOk P w K mg base (L2.CX P w) (k + 1) f fd ["orchard"] (spD K mg 1 d_fruits_of) :=
  fn_den F sc_fruits_of fun cdv A outer s H E hr => ⟨_, (pss_one (ps_ret (pe_lc (own := [("pair", 1)]) rfl sc_fruits_of.nd (pi_seq (pv 0)) (blkOk_by (N := N_fruits_of) (sc := defScope s_fruits_of) (own := [("pair", 1)]) (by decide +kernel)) (fun _ _ _ _ _ => (pg_name (i := 1) sc_fruits_of.nd rfl (Or.inl rfl))) (fun _ _ _ _ _ => pts_nil) (fun _ _ _ _ _ => (pe_ix ix_seq (pv 1) pe_int (fun _ _ => rfl)))))),
    (tsj_ret (tj_lc (ks := [1]) (tij_seq (tj_var 0)) (tgj_name 1) ttj_yes (tj_op vr_ix (tj_var 1) tj_int) (by decide)))⟩
theorem ok_look_fruit {P : Program} {w : World} {K : PySem.W.Frag} {mg : Str → Option Value} {base : Heap} {k : Nat} {f : Addr} {fd : FuncData} (F : Fun K "look_fruit" "look_fruit" s_look_fruit f fd) {lev_fruits_of : Nat} (C_fruits_of : Cal P w K mg base "fruits_of" ["orchard"] lev_fruits_of (spD K mg 1 d_fruits_of)) (l_fruits_of : lev_fruits_of ≤ k) :
    FnOk P w K mg base (L2.CX P w) (k + 1) f fd ["orchard", "fruit"] (spD K mg 2 d_look_fruit) :=
  fn_den F sc_look_fruit fun cdv A outer s H E hr => ⟨_, (pss_one (ps_if (pt_cmpR op_notIn_seq (pv 1) (pe_cal (E := fun _ => E) C_fruits_of (hr.mono l_fruits_of) rfl (fun σ => passAt (takes_of rfl rfl rfl rfl) σ) (pa_cons (pv 0) pa_nil)) (by rfl)) (pss_one DL.ps_never) pss_nil)),
    (tsj_if (ttj_val (tj_op vr_in (tj_var 1) (tj_callV (taj_cons (tj_var 0) taj_nil) (cons_len nil_len)))) tsj_never tsj_next)⟩
theorem ok_is_ripe {P : Program} {w : World} {K : PySem.W.Frag} {mg : Str → Option Value} {base : Heap} {k : Nat} {f : Addr} {fd : FuncData} (F : Fun K "is_ripe" "is_ripe" s_is_ripe f fd) {lev_look_fruit : Nat} (C_look_fruit : Cal P w K mg base "look_fruit" ["orchard", "fruit"] lev_look_fruit (spD K mg 2 d_look_fruit)) (l_look_fruit : lev_look_fruit ≤ k) {lev_is_within : Nat} (C_is_within : Cal P w K mg base "is_within" ["one", "other"] lev_is_within (spD K mg 2 d_is_within)) (l_is_within : lev_is_within ≤ k) (m_any : mg "any" = none) :
    FnOk P w K mg base (L2.CX P w) (k + 1) f fd ["orchard", "fruit", "gone"] (spD K mg 3 d_is_ripe) :=
  fn_den F sc_is_ripe fun cdv A outer s H E hr => ⟨_, (pss_cons (ps_expr (pe_cal (E := fun _ => E) C_look_fruit (hr.mono l_look_fruit) rfl (fun σ => passAt (takes_of rfl rfl rfl rfl) σ) (pa_cons (pv 0) (pa_cons (pv 1) pa_nil))))
      (pss_one (ps_ret (pe_callB (cr_any rfl) rfl m_any boot_any (pa_cons (pe_lc2 (own := [("one", 3), ("lots", 4), ("lot", 5)]) (vs1 := [5]) rfl sc_is_ripe.nd (pi_seq (pv 0)) (blkOk_by (N := N_is_ripe) (sc := defScope s_is_ripe) (own := [("one", 3), ("lots", 4), ("lot", 5)]) (by decide +kernel)) (by decide) (fun _ _ _ _ _ => (pg_seq rfl (pgs_cons (pg_name (i := 3) sc_is_ripe.nd rfl (Or.inl rfl)) (pgs_cons (pg_name (i := 4) sc_is_ripe.nd rfl (Or.inl rfl)) pgs_nil)))) (fun _ _ _ _ _ => (pts_one (pt_cmpR (op_eqD hr.units) (pv 3) (pv 1) (nomark _)))) (fun _ _ _ _ _ => (pi_seq (pv 4))) (fun _ _ _ _ _ => (pg_name (i := 5) sc_is_ripe.nd rfl (Or.inl rfl))) (fun _ _ _ _ _ => pts_nil) (fun _ _ _ _ _ => (pe_calB C_is_within (hr.mono l_is_within) (by rfl) (pa_cons (pv 5) (pa_cons (pv 2) pa_nil))))) pa_nil))))),
    (tsj_seq (tsj_drop (tj_callV (taj_cons (tj_var 0) (taj_cons (tj_var 1) taj_nil)) (cons_len (cons_len nil_len))))
      (tsj_ret (tj_cb vr_any (taj_cons (tj_lc2 (ks := [3, 4, 5]) (ks1 := [5]) (tij_seq (tj_var 0)) (tgj_seq (tgsj_cons (tgj_name 3) (tgsj_cons (tgj_name 4) tgsj_nil))) (ttj_val (tj_op vr_eqD (tj_var 3) (tj_var 1))) (tij_seq (tj_var 4)) (tgj_name 5) ttj_yes (tj_callV (taj_cons (tj_var 5) (taj_cons (tj_var 2) taj_nil)) (cons_len (cons_len nil_len))) (by decide) (by decide) (by decide)) taj_nil))))⟩
theorem ok_ripe {P : Program} {w : World} {K : PySem.W.Frag} {mg : Str → Option Value} {base : Heap} {k : Nat} {f : Addr} {fd : FuncData} (F : Fun K "ripe" "ripe" s_ripe f fd) {lev_is_within : Nat} (C_is_within : Cal P w K mg base "is_within" ["one", "other"] lev_is_within (spD K mg 2 d_is_within)) (l_is_within : lev_is_within ≤ k) (m_any : mg "any" = none) :
    FnOk P w K mg base (L2.CX P w) (k + 1) f fd ["orchard", "gone"] (spD K mg 2 d_ripe) :=
  fn_den F sc_ripe fun cdv A outer s H E hr => ⟨_, (pss_cons (ps_set (i := 2) sc_ripe.nd rfl (Or.inl rfl) (pe_lst pa_nil))
      (pss_cons (ps_for (passes_of rfl) rfl (pi_seq (pv 0)) (pg_seq rfl (pgs_cons (pg_name (i := 3) sc_ripe.nd rfl (Or.inl rfl)) (pgs_cons (pg_name (i := 4) sc_ripe.nd rfl (Or.inl rfl)) pgs_nil))) (pss_one (ps_if (PW.pt (pw_and (pt_cmpR op_notIn_seq (pv 3) (pv 1) (by rfl)) (pw_and1 (pt_val (pe_callB (cr_any rfl) rfl m_any boot_any (pa_cons (pe_lc (own := [("lot", 5)]) rfl sc_ripe.nd (pi_seq (pv 4)) (blkOk_by (N := N_ripe) (sc := defScope s_ripe) (own := [("lot", 5)]) (by decide +kernel)) (fun _ _ _ _ _ => (pg_name (i := 5) sc_ripe.nd rfl (Or.inl rfl))) (fun _ _ _ _ _ => pts_nil) (fun _ _ _ _ _ => (pe_calB C_is_within (hr.mono l_is_within) (by rfl) (pa_cons (pv 5) (pa_cons (pv 1) pa_nil))))) pa_nil)))))) (pss_one (ps_expr (pe_bm PySem.F.plainAttrs_list PySem.F.slot_list_append PySem.F.type_list_append mt_append (pv 2) (pa_cons (pv 3) pa_nil)))) pss_nil)))
      (pss_one (ps_ret (pv 2))))),
    (tsj_seq (tsj_asg (tj_lst taj_nil))
      (tsj_seq (tsj_for (tij_seq (tj_var 0)) (tgj_seq (tgsj_cons (tgj_name 3) (tgsj_cons (tgj_name 4) tgsj_nil))) (tsj_if (ttj_and (ttj_val (tj_op vr_in (tj_var 3) (tj_var 1))) (ttj_B (tj_cb vr_any (taj_cons (tj_lc (ks := [5]) (tij_seq (tj_var 4)) (tgj_name 5) ttj_yes (tj_callV (taj_cons (tj_var 5) (taj_cons (tj_var 1) taj_nil)) (cons_len (cons_len nil_len))) (by decide)) taj_nil)))) (tsj_drop (tj_append (tj_var 3))) tsj_next))
      (tsj_ret (tj_var 2))))⟩
theorem ok_passed_by {P : Program} {w : World} {K : PySem.W.Frag} {mg : Str → Option Value} {base : Heap} {k : Nat} {f : Addr} {fd : FuncData} (F : Fun K "passed_by" "passed_by" s_passed_by f fd) {lev_ripe : Nat} (C_ripe : Cal P w K mg base "ripe" ["orchard", "gone"] lev_ripe (spD K mg 2 d_ripe)) (l_ripe : lev_ripe ≤ k) (m_len : mg "len" = none) :
    FnOk P w K mg base (L2.CX P w) (k + 1) f fd ["orchard", "liking"] (spD K mg 2 d_passed_by) :=
  fn_den F sc_passed_by fun cdv A outer s H E hr => ⟨_, (pss_cons (ps_par rfl sc_passed_by.nd (i := 2) (j := 3) rfl rfl (by decide) rfl rfl (pa_cons (pe_lst pa_nil) (pa_cons (pe_lst pa_nil) pa_nil)) rfl)
      (pss_cons (ps_set (i := 4) sc_passed_by.nd rfl (Or.inr rfl) (pe_cal (E := fun _ => E) C_ripe (hr.mono l_ripe) rfl (fun σ => passAt (takes_of rfl rfl rfl rfl) σ) (pa_cons (pv 0) (pa_cons (pv 3) pa_nil))))
      (pss_cons (ps_while (passes_of rfl) (pt_cmpR op_gt (pe_callB call_len rfl m_len PySem.boot_len (pa_cons (pv 4) pa_nil)) pe_int (nomark _)) (pss_cons (ps_set (i := 5) sc_passed_by.nd rfl (Or.inr rfl) (pe_ix ix_seq (pe_lc (own := [("fruit", 6)]) rfl sc_passed_by.nd (pi_seq (pv 1)) (blkOk_by (N := N_passed_by) (sc := defScope s_passed_by) (own := [("fruit", 6)]) (by decide +kernel)) (fun _ _ _ _ _ => (pg_name (i := 6) sc_passed_by.nd rfl (Or.inl rfl))) (fun _ _ _ _ _ => (pts_one (pt_cmpR op_in_seq (pv 6) (pv 4) (by rfl)))) (fun _ _ _ _ _ => (pv 6))) pe_int (fun _ _ => rfl)))
      (pss_cons (ps_expr (pe_bm PySem.F.plainAttrs_list PySem.F.slot_list_append PySem.F.type_list_append mt_append (pv 2) (pa_cons (pe_tup (pa_cons (pv 5) (pa_cons (pe_lc (own := [("fruit", 6)]) rfl sc_passed_by.nd (pi_seq (pv 4)) (blkOk_by (N := N_passed_by) (sc := defScope s_passed_by) (own := [("fruit", 6)]) (by decide +kernel)) (fun _ _ _ _ _ => (pg_name (i := 6) sc_passed_by.nd rfl (Or.inl rfl))) (fun _ _ _ _ _ => (pts_one (pt_cmpR (op_neD hr.units) (pv 6) (pv 5) (nomark _)))) (fun _ _ _ _ _ => (pv 6))) pa_nil))) pa_nil)))
      (pss_cons (ps_expr (pe_bm PySem.F.plainAttrs_list PySem.F.slot_list_append PySem.F.type_list_append mt_append (pv 3) (pa_cons (pv 5) pa_nil)))
      (pss_one (ps_set (i := 4) sc_passed_by.nd rfl (Or.inr rfl) (pe_cal (E := fun _ => E) C_ripe (hr.mono l_ripe) rfl (fun σ => passAt (takes_of rfl rfl rfl rfl) σ) (pa_cons (pv 0) (pa_cons (pv 3) pa_nil)))))))))
      (pss_one (ps_ret (pv 2)))))),
    (tsj_seq (tsj_par (taj_cons (tj_lst taj_nil) (taj_cons (tj_lst taj_nil) taj_nil)))
      (tsj_seq (tsj_asg (tj_callV (taj_cons (tj_var 0) (taj_cons (tj_var 3) taj_nil)) (cons_len (cons_len nil_len))))
      (tsj_seq (tsj_while 1000 (ttj_val (tj_op vr_cmp (tj_cb vr_len (taj_cons (tj_var 4) taj_nil)) tj_int)) (tsj_seq (tsj_asg (tj_op vr_ix (tj_lc (ks := [6]) (tij_seq (tj_var 1)) (tgj_name 6) (ttj_val (tj_op vr_in (tj_var 6) (tj_var 4))) (tj_var 6) (by decide)) tj_int))
      (tsj_seq (tsj_drop (tj_append (tj_tup (taj_cons (tj_var 5) (taj_cons (tj_fz (tj_lc (ks := [6]) (tij_seq (tj_var 4)) (tgj_name 6) (ttj_val (tj_op vr_neD (tj_var 6) (tj_var 5))) (tj_var 6) (by decide))) taj_nil)))))
      (tsj_seq (tsj_drop (tj_append (tj_var 5)))
      (tsj_asg (tj_callV (taj_cons (tj_var 0) (taj_cons (tj_var 3) taj_nil)) (cons_len (cons_len nil_len))))))))
      (tsj_ret (tj_var 2)))))⟩
theorem ok_pick {P : Program} {w : World} {K : PySem.W.Frag} {mg : Str → Option Value} {base : Heap} {k : Nat} {f : Addr} {fd : FuncData} (F : Fun K "pick" "pick" s_pick f fd) {lev_passed_by : Nat} (C_passed_by : Cal P w K mg base "passed_by" ["orchard", "liking"] lev_passed_by (spD K mg 2 d_passed_by)) (l_passed_by : lev_passed_by ≤ k) :
    FnOk P w K mg base (L2.CX P w) (k + 1) f fd ["orchard", "liking"] (spD K mg 2 d_pick) :=
  fn_den F sc_pick fun cdv A outer s H E hr => ⟨_, (pss_one (ps_ret (pe_lc (own := [("fruit", 2), ("others", 3)]) rfl sc_pick.nd (pi_seq (pe_cal (E := fun _ => E) C_passed_by (hr.mono l_passed_by) rfl (fun σ => passAt (takes_of rfl rfl rfl rfl) σ) (pa_cons (pv 0) (pa_cons (pv 1) pa_nil)))) (blkOk_by (N := N_pick) (sc := defScope s_pick) (own := [("fruit", 2), ("others", 3)]) (by decide +kernel)) (fun _ _ _ _ _ => (pg_seq rfl (pgs_cons (pg_name (i := 2) sc_pick.nd rfl (Or.inl rfl)) (pgs_cons (pg_name (i := 3) sc_pick.nd rfl (Or.inl rfl)) pgs_nil)))) (fun _ _ _ _ _ => pts_nil) (fun _ _ _ _ _ => (pv 2))))),
    (tsj_ret (tj_lc (ks := [2, 3]) (tij_seq (tj_callV (taj_cons (tj_var 0) (taj_cons (tj_var 1) taj_nil)) (cons_len (cons_len nil_len)))) (tgj_seq (tgsj_cons (tgj_name 2) (tgsj_cons (tgj_name 3) tgsj_nil))) ttj_yes (tj_var 2) (by decide)))⟩
theorem ok_known {P : Program} {w : World} {K : PySem.W.Frag} {mg : Str → Option Value} {base : Heap} {k : Nat} {f : Addr} {fd : FuncData} (F : Fun K "known" "known" s_known f fd) {lev_lot_of : Nat} (C_lot_of : Cal P w K mg base "lot_of" ["names"] lev_lot_of (spD K mg 1 d_lot_of)) (l_lot_of : lev_lot_of ≤ k) (m_list : mg "list" = none) (m_enumerate : mg "enumerate" = none) (m_len : mg "len" = none) :
    FnOk P w K mg base (L2.CX P w) (k + 1) f fd ["picking", "fruit"] (spD K mg 2 d_known) :=
  fn_den F sc_known fun cdv A outer s H E hr => ⟨_, (pss_cons (ps_asg (pv 0) (pg_seq rfl (pgs_cons (pg_name (i := 2) sc_known.nd rfl (Or.inl rfl)) (pgs_cons (pg_name (i := 3) sc_known.nd rfl (Or.inl rfl)) pgs_nil))))
      (pss_cons (ps_if (pt_cmpR op_notIn_seq (pv 1) (pv 2) (by rfl)) (pss_one DL.ps_never) pss_nil)
      (pss_cons (ps_if (pt_cmpR op_notIn_seq (pv 1) (pv 3) (by rfl)) (pss_one (ps_ret (pe_tup (pa_cons pe_non (pa_cons (pe_cal (E := fun _ => E) C_lot_of (hr.mono l_lot_of) rfl (fun σ => passAt (takes_of rfl rfl rfl rfl) σ) (pa_cons (pv 3) pa_nil)) pa_nil))))) pss_nil)
      (pss_cons (ps_set (i := 4) sc_known.nd rfl (Or.inl rfl) (pe_slice sl_3 (pe_callTy call_list_of rfl m_list boot_list (pa_cons (pv 3) pa_nil)) po_none (po_some (pe_bm PySem.F.plainAttrs_list PySem.F.slot_list_index PySem.F.type_list_index mt_index (pe_callTy call_list_of rfl m_list boot_list (pa_cons (pv 3) pa_nil)) (pa_cons (pv 1) pa_nil)))))
      (pss_cons (ps_set (i := 5) sc_known.nd rfl (Or.inr rfl) (pe_slice sl_3 (pe_callTy call_list_of rfl m_list boot_list (pa_cons (pv 2) pa_nil)) po_none (po_some (pe_bm PySem.F.plainAttrs_list PySem.F.slot_list_index PySem.F.type_list_index mt_index (pe_callTy call_list_of rfl m_list boot_list (pa_cons (pv 2) pa_nil)) (pa_cons (pv 1) pa_nil)))))
      (pss_cons (ps_setLc (i := 6) (own := [("place", 7), ("name", 8)]) rfl sc_known.nd rfl rfl (sw_true rfl rfl rfl rfl) (pi_enum rfl m_enumerate (pa_cons (pv 4) pa_nil)) (blkOk_by (N := N_known) (sc := defScope s_known) (own := [("place", 7), ("name", 8)]) (by decide +kernel)) (fun _ _ _ _ _ => (pg_seq rfl (pgs_cons (pg_name (i := 7) sc_known.nd rfl (Or.inl rfl)) (pgs_cons (pg_name (i := 8) sc_known.nd rfl (Or.inl rfl)) pgs_nil)))) (fun _ _ _ _ _ => (pts_one (pt_cmpR op_notIn_seq (pv 8) (pv 5) (by rfl)))) (fun _ _ _ _ _ => (pv 7)))
      (pss_one (ps_ret (pe_tup (pa_cons (pe_cal (E := fun _ => E) C_lot_of (hr.mono l_lot_of) rfl (fun σ => passAt (takes_of rfl rfl rfl rfl) σ) (pa_cons (pv 4) pa_nil)) (pa_cons (pe_ifExp (pt_cmpR op_gt (pe_callB call_len rfl m_len PySem.boot_len (pa_cons (pv 6) pa_nil)) pe_int (nomark _)) (pe_cal (E := fun _ => E) C_lot_of (hr.mono l_lot_of) rfl (fun σ => passAt (takes_of rfl rfl rfl rfl) σ) (pa_cons (pe_slice sl_3 (pv 4) po_none (po_some (pe_ix ix_seq (pv 6) (pe_un un_neg pe_int) (fun _ _ => rfl)))) pa_nil)) pe_non) pa_nil))))))))))),
    (tsj_seq (tsj_unp (tj_var 0) (tgj_seq (tgsj_cons (tgj_name 2) (tgsj_cons (tgj_name 3) tgsj_nil))))
      (tsj_seq (tsj_if (ttj_val (tj_op vr_in (tj_var 1) (tj_var 2))) tsj_never tsj_next)
      (tsj_seq (tsj_if (ttj_val (tj_op vr_in (tj_var 1) (tj_var 3))) (tsj_ret (tj_tup (taj_cons tj_non (taj_cons (tj_callV (taj_cons (tj_var 3) taj_nil) (cons_len nil_len)) taj_nil)))) tsj_next)
      (tsj_seq (tsj_asg (tj_sl (tj_cb vr_list (taj_cons (tj_var 3) taj_nil)) toj_none (toj_some (tj_bl1 vr_index (tj_cb vr_list (taj_cons (tj_var 3) taj_nil)) (tj_var 1)))))
      (tsj_seq (tsj_asg (tj_sl (tj_cb vr_list (taj_cons (tj_var 2) taj_nil)) toj_none (toj_some (tj_bl1 vr_index (tj_cb vr_list (taj_cons (tj_var 2) taj_nil)) (tj_var 1)))))
      (tsj_seq (tsj_asg (tj_lc (ks := [7, 8]) (tij_enum (taj_cons (tj_fz (tj_var 4)) taj_nil)) (tgj_seq (tgsj_cons (tgj_name 7) (tgsj_cons (tgj_name 8) tgsj_nil))) (ttj_val (tj_op vr_in (tj_var 8) (tj_var 5))) (tj_var 7) (by decide)))
      (tsj_ret (tj_tup (taj_cons (tj_callV (taj_cons (tj_var 4) taj_nil) (cons_len nil_len)) (taj_cons (tj_if (ttj_val (tj_op vr_cmp (tj_cb vr_len (taj_cons (tj_var 6) taj_nil)) tj_int)) (tj_callV (taj_cons (tj_sl (tj_var 4) toj_none (toj_some (tj_op vr_ix (tj_var 6) (tj_un vr_neg tj_int)))) taj_nil) (cons_len nil_len)) tj_non) taj_nil))))))))))⟩
theorem ok_ill_word {P : Program} {w : World} {K : PySem.W.Frag} {mg : Str → Option Value} {base : Heap} {k : Nat} {f : Addr} {fd : FuncData} (F : Fun K "ill_word" "ill_word" s_ill_word f fd) {lev_known : Nat} (C_known : Cal P w K mg base "known" ["picking", "fruit"] lev_known (spD K mg 2 d_known)) (l_known : lev_known ≤ k) {lev_is_ripe : Nat} (C_is_ripe : Cal P w K mg base "is_ripe" ["orchard", "fruit", "gone"] lev_is_ripe (spD K mg 3 d_is_ripe)) (l_is_ripe : lev_is_ripe ≤ k) {t_LATE : Tok} (c_LATE : mg "LATE" = some (.str "late" t_LATE)) {t_SOON : Tok} (c_SOON : mg "SOON" = some (.str "soon" t_SOON)) :
    FnOk P w K mg base (L2.CX P w) (k + 1) f fd ["orchard", "liking", "row", "fruit"] (spD K mg 4 d_ill_word) :=
  fn_den F sc_ill_word fun cdv A outer s H E hr => ⟨_, (pss_cons (ps_asg (pe_cal (E := fun _ => E) C_known (hr.mono l_known) rfl (fun σ => passAt (takes_of rfl rfl rfl rfl) σ) (pa_cons (pe_tup (pa_cons (pv 1) (pa_cons (pv 2) pa_nil))) (pa_cons (pv 3) pa_nil))) (pg_seq rfl (pgs_cons (pg_name (i := 4) sc_ill_word.nd rfl (Or.inl rfl)) (pgs_cons (pg_name (i := 5) sc_ill_word.nd rfl (Or.inl rfl)) pgs_nil))))
      (pss_cons (ps_if (PW.pt (pw_and (pt_cmpR op_notN (pv 4) pe_non (nomark _)) (pw_and1 (pt_not (pt_val (pe_cal (E := fun _ => E) C_is_ripe (hr.mono l_is_ripe) rfl (fun σ => passAt (takes_of rfl rfl rfl rfl) σ) (pa_cons (pv 0) (pa_cons (pv 3) (pa_cons (pv 4) pa_nil))))))))) (pss_one (ps_ret (pe_glob (v := V.str "late") rfl c_LATE ⟨_, rfl⟩))) pss_nil)
      (pss_one (ps_ret (pe_ifExp (PW.pt (pw_and (pt_cmpR op_notN (pv 5) pe_non (nomark _)) (pw_and1 (pt_val (pe_cal (E := fun _ => E) C_is_ripe (hr.mono l_is_ripe) rfl (fun σ => passAt (takes_of rfl rfl rfl rfl) σ) (pa_cons (pv 0) (pa_cons (pv 3) (pa_cons (pv 5) pa_nil)))))))) (pe_glob (v := V.str "soon") rfl c_SOON ⟨_, rfl⟩) pe_non))))),
    (tsj_seq (tsj_unp (tj_callV (taj_cons (tj_tup (taj_cons (tj_var 1) (taj_cons (tj_var 2) taj_nil))) (taj_cons (tj_var 3) taj_nil)) (cons_len (cons_len nil_len))) (tgj_seq (tgsj_cons (tgj_name 4) (tgsj_cons (tgj_name 5) tgsj_nil))))
      (tsj_seq (tsj_if (ttj_and (ttj_val (tj_op vr_notN (tj_var 4) tj_non)) (ttj_not (ttj_B (tj_callV (taj_cons (tj_var 0) (taj_cons (tj_var 3) (taj_cons (tj_var 4) taj_nil))) (cons_len (cons_len (cons_len nil_len))))))) (tsj_ret tj_str) tsj_next)
      (tsj_ret (tj_if (ttj_and (ttj_val (tj_op vr_notN (tj_var 5) tj_non)) (ttj_B (tj_callV (taj_cons (tj_var 0) (taj_cons (tj_var 3) (taj_cons (tj_var 5) taj_nil))) (cons_len (cons_len (cons_len nil_len)))))) tj_str tj_non))))⟩
theorem ok_ill_hung {P : Program} {w : World} {K : PySem.W.Frag} {mg : Str → Option Value} {base : Heap} {k : Nat} {f : Addr} {fd : FuncData} (F : Fun K "ill_hung" "ill_hung" s_ill_hung f fd) {lev_fruits_of : Nat} (C_fruits_of : Cal P w K mg base "fruits_of" ["orchard"] lev_fruits_of (spD K mg 1 d_fruits_of)) (l_fruits_of : lev_fruits_of ≤ k) {lev_ill_word : Nat} (C_ill_word : Cal P w K mg base "ill_word" ["orchard", "liking", "row", "fruit"] lev_ill_word (spD K mg 4 d_ill_word)) (l_ill_word : lev_ill_word ≤ k) :
    FnOk P w K mg base (L2.CX P w) (k + 1) f fd ["orchard", "liking", "row"] (spD K mg 3 d_ill_hung) :=
  fn_den F sc_ill_hung fun cdv A outer s H E hr => ⟨_, (pss_cons (ps_setLc (i := 3) (own := [("fruit", 4)]) rfl sc_ill_hung.nd rfl rfl (sw_true rfl rfl rfl rfl) (pi_seq (pe_cal (E := fun _ => E) C_fruits_of (hr.mono l_fruits_of) rfl (fun σ => passAt (takes_of rfl rfl rfl rfl) σ) (pa_cons (pv 0) pa_nil))) (blkOk_by (N := N_ill_hung) (sc := defScope s_ill_hung) (own := [("fruit", 4)]) (by decide +kernel)) (fun _ _ _ _ _ => (pg_name (i := 4) sc_ill_hung.nd rfl (Or.inl rfl))) (fun _ _ _ _ _ => pts_nil) (fun _ _ _ _ _ => (pe_tup (pa_cons (pv 4) (pa_cons (pe_calB C_ill_word (hr.mono l_ill_word) (by rfl) (pa_cons (pv 0) (pa_cons (pv 1) (pa_cons (pv 2) (pa_cons (pv 4) pa_nil))))) pa_nil)))))
      (pss_one (ps_ret (pe_lc (own := [("fruit", 4), ("word", 5)]) rfl sc_ill_hung.nd (pi_seq (pv 3)) (blkOk_by (N := N_ill_hung) (sc := defScope s_ill_hung) (own := [("fruit", 4), ("word", 5)]) (by decide +kernel)) (fun _ _ _ _ _ => (pg_seq rfl (pgs_cons (pg_name (i := 4) sc_ill_hung.nd rfl (Or.inl rfl)) (pgs_cons (pg_name (i := 5) sc_ill_hung.nd rfl (Or.inl rfl)) pgs_nil)))) (fun _ _ _ _ _ => (pts_one (pt_cmpR op_notN (pv 5) pe_non (nomark _)))) (fun _ _ _ _ _ => (pe_tup (pa_cons (pv 4) (pa_cons (pv 5) pa_nil)))))))),
    (tsj_seq (tsj_asg (tj_lc (ks := [4]) (tij_seq (tj_callV (taj_cons (tj_var 0) taj_nil) (cons_len nil_len))) (tgj_name 4) ttj_yes (tj_tup (taj_cons (tj_var 4) (taj_cons (tj_callV (taj_cons (tj_var 0) (taj_cons (tj_var 1) (taj_cons (tj_var 2) (taj_cons (tj_var 4) taj_nil)))) (cons_len (cons_len (cons_len (cons_len nil_len))))) taj_nil))) (by decide)))
      (tsj_ret (tj_lc (ks := [4, 5]) (tij_seq (tj_var 3)) (tgj_seq (tgsj_cons (tgj_name 4) (tgsj_cons (tgj_name 5) tgsj_nil))) (ttj_val (tj_op vr_notN (tj_var 5) tj_non)) (tj_tup (taj_cons (tj_var 4) (taj_cons (tj_var 5) taj_nil))) (by decide))))⟩
theorem ok_least_hung {P : Program} {w : World} {K : PySem.W.Frag} {mg : Str → Option Value} {base : Heap} {k : Nat} {f : Addr} {fd : FuncData} (F : Fun K "least_hung" "least_hung" s_least_hung f fd) {lev_ill_hung : Nat} (C_ill_hung : Cal P w K mg base "ill_hung" ["orchard", "liking", "row"] lev_ill_hung (spD K mg 3 d_ill_hung)) (l_ill_hung : lev_ill_hung ≤ k) (m_sum : mg "sum" = none) :
    FnOk P w K mg base (L2.CX P w) (k + 1) f fd ["orchard", "liking", "row", "prices"] (spD K mg 4 d_least_hung) :=
  fn_den F sc_least_hung fun cdv A outer s H E hr => ⟨_, (pss_cons (ps_set (i := 4) sc_least_hung.nd rfl (Or.inr rfl) (pe_lc (own := [("fruit", 5), ("word", 6)]) rfl sc_least_hung.nd (pi_seq (pe_cal (E := fun _ => E) C_ill_hung (hr.mono l_ill_hung) rfl (fun σ => passAt (takes_of rfl rfl rfl rfl) σ) (pa_cons (pv 0) (pa_cons (pv 1) (pa_cons (pv 2) pa_nil))))) (blkOk_by (N := N_least_hung) (sc := defScope s_least_hung) (own := [("fruit", 5), ("word", 6)]) (by decide +kernel)) (fun _ _ _ _ _ => (pg_seq rfl (pgs_cons (pg_name (i := 5) sc_least_hung.nd rfl (Or.inl rfl)) (pgs_cons (pg_name (i := 6) sc_least_hung.nd rfl (Or.inl rfl)) pgs_nil)))) (fun _ _ _ _ _ => pts_nil) (fun _ _ _ _ _ => (pv 5))))
      (pss_one (ps_ret (pe_callB (cr_sum rfl) rfl m_sum boot_sum (pa_cons (pe_lc (own := [("fruit", 5), ("price", 7)]) rfl sc_least_hung.nd (pi_seq (pv 3)) (blkOk_by (N := N_least_hung) (sc := defScope s_least_hung) (own := [("fruit", 5), ("price", 7)]) (by decide +kernel)) (fun _ _ _ _ _ => (pg_seq rfl (pgs_cons (pg_name (i := 5) sc_least_hung.nd rfl (Or.inl rfl)) (pgs_cons (pg_name (i := 7) sc_least_hung.nd rfl (Or.inl rfl)) pgs_nil)))) (fun _ _ _ _ _ => (pts_one (pt_cmpR op_in_seq (pv 5) (pv 4) (by rfl)))) (fun _ _ _ _ _ => (pv 7))) pa_nil))))),
    (tsj_seq (tsj_asg (tj_lc (ks := [5, 6]) (tij_seq (tj_callV (taj_cons (tj_var 0) (taj_cons (tj_var 1) (taj_cons (tj_var 2) taj_nil))) (cons_len (cons_len (cons_len nil_len))))) (tgj_seq (tgsj_cons (tgj_name 5) (tgsj_cons (tgj_name 6) tgsj_nil))) ttj_yes (tj_var 5) (by decide)))
      (tsj_ret (tj_cb vr_sum (taj_cons (tj_lc (ks := [5, 7]) (tij_seq (tj_var 3)) (tgj_seq (tgsj_cons (tgj_name 5) (tgsj_cons (tgj_name 7) tgsj_nil))) (ttj_val (tj_op vr_in (tj_var 5) (tj_var 4))) (tj_var 7) (by decide)) taj_nil))))⟩
theorem ok_hung_anew {P : Program} {w : World} {K : PySem.W.Frag} {mg : Str → Option Value} {base : Heap} {k : Nat} {f : Addr} {fd : FuncData} (F : Fun K "hung_anew" "hung_anew" s_hung_anew f fd) {lev_ill_hung : Nat} (C_ill_hung : Cal P w K mg base "ill_hung" ["orchard", "liking", "row"] lev_ill_hung (spD K mg 3 d_ill_hung)) (l_ill_hung : lev_ill_hung ≤ k) {lev_lot_of : Nat} (C_lot_of : Cal P w K mg base "lot_of" ["names"] lev_lot_of (spD K mg 1 d_lot_of)) (l_lot_of : lev_lot_of ≤ k) (m_tuple : mg "tuple" = none) (m_list : mg "list" = none) :
    FnOk P w K mg base (L2.CX P w) (k + 1) f fd ["orchard", "liking", "row"] (spD K mg 3 d_hung_anew) :=
  fn_den F sc_hung_anew fun cdv A outer s H E hr => ⟨_, (pss_cons (ps_par rfl sc_hung_anew.nd (i := 3) (j := 4) rfl rfl (by decide) rfl rfl (pa_cons (pe_lc (own := [("fruit", 5), ("word", 6)]) rfl sc_hung_anew.nd (pi_seq (pe_cal (E := fun _ => E) C_ill_hung (hr.mono l_ill_hung) rfl (fun σ => passAt (takes_of rfl rfl rfl rfl) σ) (pa_cons (pv 0) (pa_cons (pv 1) (pa_cons (pv 2) pa_nil))))) (blkOk_by (N := N_hung_anew) (sc := defScope s_hung_anew) (own := [("fruit", 5), ("word", 6)]) (by decide +kernel)) (fun _ _ _ _ _ => (pg_seq rfl (pgs_cons (pg_name (i := 5) sc_hung_anew.nd rfl (Or.inl rfl)) (pgs_cons (pg_name (i := 6) sc_hung_anew.nd rfl (Or.inl rfl)) pgs_nil)))) (fun _ _ _ _ _ => pts_nil) (fun _ _ _ _ _ => (pv 5))) (pa_cons (pe_lst pa_nil) pa_nil)) rfl)
      (pss_cons (ps_for (passes_of rfl) rfl (pi_seq (pv 0)) (pg_seq rfl (pgs_cons (pg_name (i := 5) sc_hung_anew.nd rfl (Or.inl rfl)) (pgs_cons (pg_name (i := 7) sc_hung_anew.nd rfl (Or.inl rfl)) pgs_nil))) (pss_one (ps_if (pt_cmpR op_notIn_seq (pv 5) (pv 3) (by rfl)) (pss_one (ps_expr (pe_bm PySem.F.plainAttrs_list PySem.F.slot_list_append PySem.F.type_list_append mt_append (pv 4) (pa_cons (pe_tup (pa_cons (pv 5) (pa_cons (pe_callTy call_tuple_of rfl m_tuple boot_tuple (pa_cons (pe_lc (own := [("lot", 8)]) rfl sc_hung_anew.nd (pi_seq (pv 7)) (blkOk_by (N := N_hung_anew) (sc := defScope s_hung_anew) (own := [("lot", 8)]) (by decide +kernel)) (fun _ _ _ _ _ => (pg_name (i := 8) sc_hung_anew.nd rfl (Or.inl rfl))) (fun _ _ _ _ _ => pts_nil) (fun _ _ _ _ _ => (pe_callTy call_tuple_of rfl m_tuple boot_tuple (pa_cons (pv 8) pa_nil)))) pa_nil)) pa_nil))) pa_nil)))) (pss_one (ps_if (pt_cmpR op_in_seq (pv 5) (pv 2) (by rfl)) (pss_one (ps_expr (pe_bm PySem.F.plainAttrs_list PySem.F.slot_list_append PySem.F.type_list_append mt_append (pv 4) (pa_cons (pe_tup (pa_cons (pv 5) (pa_cons (pe_tup (pa_cons (pe_cal (E := fun _ => E) C_lot_of (hr.mono l_lot_of) rfl (fun σ => passAt (takes_of rfl rfl rfl rfl) σ) (pa_cons (pe_slice sl_3 (pe_callTy call_list_of rfl m_list boot_list (pa_cons (pv 2) pa_nil)) po_none (po_some (pe_bm PySem.F.plainAttrs_list PySem.F.slot_list_index PySem.F.type_list_index mt_index (pe_callTy call_list_of rfl m_list boot_list (pa_cons (pv 2) pa_nil)) (pa_cons (pv 5) pa_nil)))) pa_nil)) pa_nil)) pa_nil))) pa_nil)))) (pss_one (ps_expr (pe_bm PySem.F.plainAttrs_list PySem.F.slot_list_append PySem.F.type_list_append mt_append (pv 4) (pa_cons (pe_tup (pa_cons (pv 5) (pa_cons (pe_tup pa_nil) pa_nil))) pa_nil)))))))))
      (pss_one (ps_ret (pe_callTy call_tuple_of rfl m_tuple boot_tuple (pa_cons (pv 4) pa_nil)))))),
    (tsj_seq (tsj_par (taj_cons (tj_lc (ks := [5, 6]) (tij_seq (tj_callV (taj_cons (tj_var 0) (taj_cons (tj_var 1) (taj_cons (tj_var 2) taj_nil))) (cons_len (cons_len (cons_len nil_len))))) (tgj_seq (tgsj_cons (tgj_name 5) (tgsj_cons (tgj_name 6) tgsj_nil))) ttj_yes (tj_var 5) (by decide)) (taj_cons (tj_lst taj_nil) taj_nil)))
      (tsj_seq (tsj_for (tij_seq (tj_var 0)) (tgj_seq (tgsj_cons (tgj_name 5) (tgsj_cons (tgj_name 7) tgsj_nil))) (tsj_if (ttj_val (tj_op vr_in (tj_var 5) (tj_var 3))) (tsj_drop (tj_append (tj_tup (taj_cons (tj_var 5) (taj_cons (tj_cb vr_tuple (taj_cons (tj_lc (ks := [8]) (tij_seq (tj_var 7)) (tgj_name 8) ttj_yes (tj_cb vr_tuple (taj_cons (tj_var 8) taj_nil)) (by decide)) taj_nil)) taj_nil))))) (tsj_if (ttj_val (tj_op vr_in (tj_var 5) (tj_var 2))) (tsj_drop (tj_append (tj_tup (taj_cons (tj_var 5) (taj_cons (tj_tup (taj_cons (tj_callV (taj_cons (tj_sl (tj_cb vr_list (taj_cons (tj_var 2) taj_nil)) toj_none (toj_some (tj_bl1 vr_index (tj_cb vr_list (taj_cons (tj_var 2) taj_nil)) (tj_var 5)))) taj_nil) (cons_len nil_len)) taj_nil)) taj_nil))))) (tsj_drop (tj_append (tj_tup (taj_cons (tj_var 5) (taj_cons (tj_tup taj_nil) taj_nil))))))))
      (tsj_ret (tj_cb vr_tuple (taj_cons (tj_var 4) taj_nil)))))⟩
theorem ok__law_tape {P : Program} {w : World} {K : PySem.W.Frag} {mg : Str → Option Value} {base : Heap} {k : Nat} {f : Addr} {fd : FuncData} (F : Fun K "_law_tape" "_law_tape" s__law_tape f fd) (m_len : mg "len" = none) (m_abs : mg "abs" = none) (m_int : mg "int" = none) :
    FnOk P w K mg base (L2.CX P w) (k + 1) f fd ["_law_script", "_law_k"] (spD K mg 2 d__law_tape) :=
  fn_den F sc__law_tape fun cdv A outer s H E hr => ⟨_, (pss_cons (ps_set (i := 2) sc__law_tape.nd rfl (Or.inl rfl) (pe_ifExp (pt_cmpR op_ltU (pv 1) (pe_callB call_len rfl m_len PySem.boot_len (pa_cons (pv 0) pa_nil)) (nomark _)) (pe_ix ix_seq (pv 0) (pv 1) (fun _ _ => rfl)) pe_int))
      (pss_one (ps_ret (pe_lst (pa_cons (pe_op op_mulU (pe_callB call_abs rfl m_abs boot_abs (pa_cons (pv 2) pa_nil)) (pe_callTy call_int1 rfl m_int boot_int (pa_cons (pe_cmpR op_ge (pe_callB call_abs rfl m_abs boot_abs (pa_cons (pv 2) pa_nil)) (pe_op op_pow pe_int pe_int) (nomark _)) pa_nil))) (pa_cons (pe_op op_addU (pe_op op_addU (pe_op op_mod (pv 2) pe_int) (pe_op op_mulU pe_int (pv 1))) pe_int) (pa_cons pe_int pa_nil))))))),
    (tsj_seq (tsj_asg (tj_if (ttj_val (tj_op vr_ltU (tj_var 1) (tj_cb vr_len (taj_cons (tj_var 0) taj_nil)))) (tj_op vr_ix (tj_var 0) (tj_var 1)) tj_int))
      (tsj_ret (tj_lst (taj_cons (tj_op vr_mulU (tj_cb vr_abs (taj_cons (tj_var 2) taj_nil)) (tj_cb vr_int (taj_cons (tj_op vr_cmp (tj_cb vr_abs (taj_cons (tj_var 2) taj_nil)) (tj_op vr_pow tj_int tj_int)) taj_nil))) (taj_cons (tj_op vr_addU (tj_op vr_addU (tj_op vr_mod (tj_var 2) tj_int) (tj_op vr_mulU tj_int (tj_var 1))) tj_int) (taj_cons tj_int taj_nil))))))⟩
theorem ok__law_draw {P : Program} {w : World} {K : PySem.W.Frag} {mg : Str → Option Value} {base : Heap} {k : Nat} {f : Addr} {fd : FuncData} (F : Fun K "_law_draw" "_law_draw" s__law_draw f fd) :
    FnOk P w K mg base (L2.CX P w) (k + 1) f fd ["_law_tape_here", "_law_count"] (spD K mg 2 d__law_draw) :=
  fn_den F sc__law_draw fun cdv A outer s H E hr => ⟨_, (pss_cons (ps_if (pt_cmpR op_gt (pe_ix ix_seq (pv 0) pe_int (fun _ _ => rfl)) pe_int (nomark _)) (pss_cons (ps_set (i := 2) sc__law_draw.nd rfl (Or.inl rfl) (pe_op op_mod (pe_ix ix_seq (pv 0) pe_int (fun _ _ => rfl)) (pv 1)))
      (pss_cons (ps_asg (pe_op op_fdivW (pe_ix ix_seq (pv 0) pe_int (fun _ _ => rfl)) (pv 1)) (pg_sub (pv 0) pe_int set_list))
      (pss_one (ps_ret (pv 2))))) pss_nil)
      (pss_cons (ps_asg (pe_op op_addU (pe_ix ix_seq (pv 0) pe_int (fun _ _ => rfl)) pe_int) (pg_sub (pv 0) pe_int set_list))
      (pss_cons (ps_set (i := 3) sc__law_draw.nd rfl (Or.inl rfl) (pe_op op_mod (pe_op op_pow (pe_op op_addU (pe_ix ix_seq (pv 0) pe_int (fun _ _ => rfl)) (pe_op op_mulU pe_int (pe_ix ix_seq (pv 0) pe_int (fun _ _ => rfl)))) pe_int) pe_int))
      (pss_cons (ps_set (i := 4) sc__law_draw.nd rfl (Or.inl rfl) (pe_op op_mod (pe_op op_mulU (pe_op op_addU (pv 3) (pe_ix ix_seq (pv 0) pe_int (fun _ _ => rfl))) (pe_op op_addU (pe_op op_addU (pe_op op_mod (pv 3) pe_int) pe_int) (pe_ix ix_seq (pv 0) pe_int (fun _ _ => rfl)))) pe_int))
      (pss_cons (ps_set (i := 5) sc__law_draw.nd rfl (Or.inl rfl) (pe_op op_mod (pe_op op_addU (pe_op op_addU (pe_op op_fdivW (pe_ix ix_seq (pv 0) pe_int (fun _ _ => rfl)) pe_int) (pe_op op_mulU (pv 4) pe_int)) (pe_ix ix_seq (pv 0) pe_int (fun _ _ => rfl))) pe_int))
      (pss_one (ps_ret (pe_op op_mod (pe_op op_fdivW (pe_op op_mod (pe_op op_addU (pe_op op_addU (pe_op op_mulU (pv 4) pe_int) (pe_op op_mulU (pv 5) pe_int)) (pv 3)) pe_int) pe_int) (pv 1))))))))),
    (tsj_seq (tsj_if (ttj_val (tj_op vr_cmp (tj_op vr_ix (tj_var 0) tj_int) tj_int)) (tsj_seq (tsj_asg (tj_op vr_mod (tj_op vr_ix (tj_var 0) tj_int) (tj_var 1)))
      (tsj_seq (tsj_setAt (tj_op vr_div (tj_op vr_ix (tj_var 0) tj_int) (tj_var 1)) tj_int)
      (tsj_ret (tj_var 2)))) tsj_next)
      (tsj_seq (tsj_setAt (tj_op vr_addU (tj_op vr_ix (tj_var 0) tj_int) tj_int) tj_int)
      (tsj_seq (tsj_asg (tj_op vr_mod (tj_op vr_pow (tj_op vr_addU (tj_op vr_ix (tj_var 0) tj_int) (tj_op vr_mulU tj_int (tj_op vr_ix (tj_var 0) tj_int))) tj_int) tj_int))
      (tsj_seq (tsj_asg (tj_op vr_mod (tj_op vr_mulU (tj_op vr_addU (tj_var 3) (tj_op vr_ix (tj_var 0) tj_int)) (tj_op vr_addU (tj_op vr_addU (tj_op vr_mod (tj_var 3) tj_int) tj_int) (tj_op vr_ix (tj_var 0) tj_int))) tj_int))
      (tsj_seq (tsj_asg (tj_op vr_mod (tj_op vr_addU (tj_op vr_addU (tj_op vr_div (tj_op vr_ix (tj_var 0) tj_int) tj_int) (tj_op vr_mulU (tj_var 4) tj_int)) (tj_op vr_ix (tj_var 0) tj_int)) tj_int))
      (tsj_ret (tj_op vr_mod (tj_op vr_div (tj_op vr_mod (tj_op vr_addU (tj_op vr_addU (tj_op vr_mulU (tj_var 4) tj_int) (tj_op vr_mulU (tj_var 5) tj_int)) (tj_var 3)) tj_int) tj_int) (tj_var 1))))))))⟩
theorem ok__law_same {P : Program} {w : World} {K : PySem.W.Frag} {mg : Str → Option Value} {base : Heap} {k : Nat} {f : Addr} {fd : FuncData} (F : Fun K "_law_same" "_law_same" s__law_same f fd) (m_isinstance : mg "isinstance" = none) (m_list : mg "list" = none) (m_tuple : mg "tuple" = none) (m_len : mg "len" = none) (m_all : mg "all" = none) (m_zip : mg "zip" = none) (m_str : mg "str" = none) (m_bool : mg "bool" = none) (m_int : mg "int" = none) {n : Nat} (C__law_same : Cal P w K mg base "_law_same" ["_law_found", "_law_due"] k (spD K mg 2 (d__law_same n))) :
    FnOk P w K mg base (L2.CX P w) (k + 1) f fd ["_law_found", "_law_due"] (spD K mg 2 (d__law_same (n + 1))) :=
  fn_den F sc__law_same fun cdv A outer s H E hr => ⟨_, (pss_cons (ps_if (pt_val (pe_callB call_isiT rfl m_isinstance boot_isinstance (pa_cons (pv 1) (pa_cons (pe_tup (pa_cons (pe_bltn (v := V.ty "list") rfl m_list boot_list rfl) (pa_cons (pe_bltn (v := V.ty "tuple") rfl m_tuple boot_tuple rfl) pa_nil))) pa_nil)))) (pss_cons (ps_if (PW.pt (pw_or (pt_cmpR (op_neD hr.units) (pe_callB call_isi rfl m_isinstance boot_isinstance (pa_cons (pv 0) (pa_cons (pe_bltn (v := V.ty "list") rfl m_list boot_list rfl) pa_nil))) (pe_callB call_isi rfl m_isinstance boot_isinstance (pa_cons (pv 1) (pa_cons (pe_bltn (v := V.ty "list") rfl m_list boot_list rfl) pa_nil))) (nomark _)) (pw_or1 (pt_cmpR (op_neD hr.units) (pe_callB call_isi rfl m_isinstance boot_isinstance (pa_cons (pv 0) (pa_cons (pe_bltn (v := V.ty "tuple") rfl m_tuple boot_tuple rfl) pa_nil))) (pe_callB call_isi rfl m_isinstance boot_isinstance (pa_cons (pv 1) (pa_cons (pe_bltn (v := V.ty "tuple") rfl m_tuple boot_tuple rfl) pa_nil))) (nomark _))))) (pss_one (ps_ret pe_bl)) pss_nil)
      (pss_one (ps_ret (pe_and (pe_cmpR (op_eqD hr.units) (pe_callB call_len rfl m_len PySem.boot_len (pa_cons (pv 0) pa_nil)) (pe_callB call_len rfl m_len PySem.boot_len (pa_cons (pv 1) pa_nil)) (nomark _)) (pe_one (pe_callB (cr_all rfl) rfl m_all boot_all (pa_cons (pe_lc (own := [("_law_mine", 2), ("_law_its", 3)]) rfl sc__law_same.nd (RZ.pi_zipA rfl m_zip (pa_cons (pv 0) (pa_cons (pv 1) pa_nil))) (blkOk_by (N := N__law_same) (sc := defScope s__law_same) (own := [("_law_mine", 2), ("_law_its", 3)]) (by decide +kernel)) (fun _ _ _ _ _ => (pg_seq rfl (pgs_cons (pg_name (i := 2) sc__law_same.nd rfl (Or.inl rfl)) (pgs_cons (pg_name (i := 3) sc__law_same.nd rfl (Or.inl rfl)) pgs_nil)))) (fun _ _ _ _ _ => pts_nil) (fun _ _ _ _ _ => (pe_calB C__law_same hr (by rfl) (pa_cons (pv 2) (pa_cons (pv 3) pa_nil))))) pa_nil))))))) pss_nil)
      (pss_cons (ps_if (PW.pt (pw_or (pt_cmpR op_isN (pv 1) pe_non (nomark _)) (pw_or1 (pt_val (pe_callB call_isiT rfl m_isinstance boot_isinstance (pa_cons (pv 1) (pa_cons (pe_tup (pa_cons (pe_bltn (v := V.ty "str") rfl m_str boot_str rfl) (pa_cons (pe_bltn (v := V.ty "bool") rfl m_bool boot_bool rfl) pa_nil))) pa_nil))))))) (pss_one (ps_ret (pe_and (pe_cmpR (op_eqD hr.units) (pe_callB call_isi rfl m_isinstance boot_isinstance (pa_cons (pv 0) (pa_cons (pe_bltn (v := V.ty "bool") rfl m_bool boot_bool rfl) pa_nil))) (pe_callB call_isi rfl m_isinstance boot_isinstance (pa_cons (pv 1) (pa_cons (pe_bltn (v := V.ty "bool") rfl m_bool boot_bool rfl) pa_nil))) (nomark _)) (pe_one (pe_cmpR (op_eqD hr.units) (pv 0) (pv 1) (nomark _)))))) pss_nil)
      (pss_one (ps_ret (pe_and (pe_callB call_isi rfl m_isinstance boot_isinstance (pa_cons (pv 0) (pa_cons (pe_bltn (v := V.ty "int") rfl m_int boot_int rfl) pa_nil))) (pe_and (pe_not (pe_callB call_isi rfl m_isinstance boot_isinstance (pa_cons (pv 0) (pa_cons (pe_bltn (v := V.ty "bool") rfl m_bool boot_bool rfl) pa_nil)))) (pe_one (pe_cmpR (op_eqD hr.units) (pv 0) (pv 1) (nomark _))))))))),
    (tsj_seq (tsj_if (ttj_B (tj_isi2 rfl rfl (tj_var 1))) (tsj_seq (tsj_if (ttj_or (ttj_val (tj_op vr_neD (tj_isi rfl (tj_var 0)) (tj_isi rfl (tj_var 1)))) (ttj_val (tj_op vr_neD (tj_isi rfl (tj_var 0)) (tj_isi rfl (tj_var 1))))) (tsj_ret tj_bl) tsj_next)
      (tsj_ret (tj_andV (tj_op vr_eqD (tj_cb vr_len (taj_cons (tj_var 0) taj_nil)) (tj_cb vr_len (taj_cons (tj_var 1) taj_nil))) (tj_cb vr_all (taj_cons (tj_lc (ks := [2, 3]) (tij_zip (taj_cons (tj_fz (tj_var 0)) (taj_cons (tj_fz (tj_var 1)) taj_nil))) (tgj_seq (tgsj_cons (tgj_name 2) (tgsj_cons (tgj_name 3) tgsj_nil))) ttj_yes (tj_callV (taj_cons (tj_var 2) (taj_cons (tj_var 3) taj_nil)) (cons_len (cons_len nil_len))) (by decide)) taj_nil))))) tsj_next)
      (tsj_seq (tsj_if (ttj_or (ttj_val (tj_op vr_isN (tj_var 1) tj_non)) (ttj_B (tj_isi2 rfl rfl (tj_var 1)))) (tsj_ret (tj_andV (tj_op vr_eqD (tj_isi rfl (tj_var 0)) (tj_isi rfl (tj_var 1))) (tj_op vr_eqD (tj_var 0) (tj_var 1)))) tsj_next)
      (tsj_ret (tj_andV (tj_isi rfl (tj_var 0)) (tj_andV (tj_notV (tj_isi rfl (tj_var 0))) (tj_op vr_eqD (tj_var 0) (tj_var 1)))))))⟩
theorem ok__law_names {P : Program} {w : World} {K : PySem.W.Frag} {mg : Str → Option Value} {base : Heap} {k : Nat} {f : Addr} {fd : FuncData} (F : Fun K "_law_names" "_law_names" s__law_names f fd) {lev__law_draw : Nat} (C__law_draw : Cal P w K mg base "_law_draw" ["_law_tape_here", "_law_count"] lev__law_draw (spD K mg 2 d__law_draw)) (l__law_draw : lev__law_draw ≤ k) (m_range : mg "range" = none) (m_len : mg "len" = none) (m_int : mg "int" = none) :
    FnOk P w K mg base (L2.CX P w) (k + 1) f fd ["_law_tape_here", "_law_count"] (spD K mg 2 d__law_names) :=
  fn_den F sc__law_names fun cdv A outer s H E hr => ⟨_, (pss_cons (ps_asg (pe_tup (pa_cons pe_str (pa_cons (pe_cal (E := fun _ => E) C__law_draw (hr.mono l__law_draw) rfl (fun σ => passAt (takes_of rfl rfl rfl rfl) σ) (pa_cons (pv 0) (pa_cons pe_int pa_nil))) pa_nil))) (pg_tup rfl (pgs_cons (pg_name (i := 2) sc__law_names.nd rfl (Or.inr rfl)) (pgs_cons (pg_name (i := 3) sc__law_names.nd rfl (Or.inl rfl)) pgs_nil))))
      (pss_cons (ps_set (i := 4) sc__law_names.nd rfl (Or.inl rfl) (pe_m1 PySem.F.slot_str_join PySem.F.type_str_join mt_join pe_str (pe_lc (own := [("_law_k", 5)]) rfl sc__law_names.nd (pi_range1 rfl m_range (pa_cons (pe_cal (E := fun _ => E) C__law_draw (hr.mono l__law_draw) rfl (fun σ => passAt (takes_of rfl rfl rfl rfl) σ) (pa_cons (pv 0) (pa_cons pe_int pa_nil))) pa_nil)) (blkOk_by (N := N__law_names) (sc := defScope s__law_names) (own := [("_law_k", 5)]) (by decide +kernel)) (fun _ _ _ _ _ => (pg_name (i := 5) sc__law_names.nd rfl (Or.inl rfl))) (fun _ _ _ _ _ => pts_nil) (fun _ _ _ _ _ => (pe_ix ix_seq (pv 2) (pe_calB C__law_draw (hr.mono l__law_draw) (by rfl) (pa_cons (pv 0) (pa_cons pe_int pa_nil))) (fun _ _ => rfl))))))
      (pss_cons (ps_par3 rfl sc__law_names.nd (i := 6) (j := 7) (l := 8) rfl rfl rfl (by decide) (by decide) (by decide) rfl rfl rfl (pa_cons (pe_cal (E := fun _ => E) C__law_draw (hr.mono l__law_draw) rfl (fun σ => passAt (takes_of rfl rfl rfl rfl) σ) (pa_cons (pv 0) (pa_cons (pe_op op_addU (pe_callB call_len rfl m_len PySem.boot_len (pa_cons (pv 4) pa_nil)) pe_int) pa_nil))) (pa_cons (pe_ix ix_seq (pe_lst (pa_cons pe_int (pa_cons pe_int (pa_cons pe_int pa_nil)))) (pe_cal (E := fun _ => E) C__law_draw (hr.mono l__law_draw) rfl (fun σ => passAt (takes_of rfl rfl rfl rfl) σ) (pa_cons (pv 0) (pa_cons pe_int pa_nil))) (fun _ _ => rfl)) (pa_cons (pe_lst pa_nil) pa_nil))) rfl)
      (pss_cons (ps_par rfl sc__law_names.nd (i := 9) (j := 10) rfl rfl (by decide) rfl rfl (pa_cons (pe_slice sl_3 (pv 4) po_none (po_some (pv 6))) (pa_cons (pe_slice sl_3 (pv 4) (po_some (pv 6)) po_none) pa_nil)) rfl)
      (pss_cons (ps_for (passes_of rfl) rfl (pi_range1 rfl m_range (pa_cons (pv 1) pa_nil)) (pg_name (i := 5) sc__law_names.nd rfl (Or.inl rfl)) (pss_cons (ps_set (i := 11) sc__law_names.nd rfl (Or.inl rfl) (pe_op op_mulU (pe_op op_mod (pe_op op_addU (pe_op op_addU (pv 3) (pv 6)) (pe_callB call_len rfl m_len PySem.boot_len (pa_cons (pv 4) pa_nil))) pe_int) (pe_callTy call_int1 rfl m_int boot_int (pa_cons (pe_cmpR (op_neD hr.units) (pv 10) pe_str (nomark _)) pa_nil))))
      (pss_cons (ps_set (i := 12) sc__law_names.nd rfl (Or.inl rfl) (pe_ix ix_seq (pv 2) (pe_op op_mod (pe_op op_addU (pv 3) (pe_op op_mulU (pv 7) (pe_ix ix_seq (pe_lst (pa_cons (pv 5) (pa_cons (pe_op op_fdivW (pv 5) pe_int) (pa_cons (pv 5) pa_nil)))) (pv 11) (fun _ _ => rfl)))) pe_int) (fun _ _ => rfl)))
      (pss_one (ps_expr (pe_bm PySem.F.plainAttrs_list PySem.F.slot_list_append PySem.F.type_list_append mt_append (pv 8) (pa_cons (pe_op op_addU (pe_op op_addU (pv 9) (pv 12)) (pe_ix ix_seq (pe_lst (pa_cons (pv 10) (pa_cons (pe_op op_mulU (pv 10) (pe_op op_mod (pv 5) pe_int)) (pa_cons (pe_slice sl_3 (pv 10) po_none (po_some (pe_op op_mod (pv 5) (pe_op op_addU (pe_callB call_len rfl m_len PySem.boot_len (pa_cons (pv 10) pa_nil)) pe_int)))) pa_nil)))) (pv 11) (fun _ _ => rfl))) pa_nil)))))))
      (pss_one (ps_ret (pv 8)))))))),
    (tsj_seq (tsj_parT (is := [2, 3]) (taj_cons tj_str (taj_cons (tj_callT (taj_cons (tj_var 0) (taj_cons tj_int taj_nil)) (cons_len (cons_len nil_len))) taj_nil)) rfl (by decide))
      (tsj_seq (tsj_asg (tj_m1 vr_join tj_str (tj_lc (ks := [5]) (tij_range1 (taj_cons (tj_callT (taj_cons (tj_var 0) (taj_cons tj_int taj_nil)) (cons_len (cons_len nil_len))) taj_nil)) (tgj_name 5) ttj_yes (tj_op vr_ix (tj_var 2) (tj_callT (taj_cons (tj_var 0) (taj_cons tj_int taj_nil)) (cons_len (cons_len nil_len)))) (by decide))))
      (tsj_seq (tsj_par3 (taj_cons (tj_callT (taj_cons (tj_var 0) (taj_cons (tj_op vr_addU (tj_cb vr_len (taj_cons (tj_var 4) taj_nil)) tj_int) taj_nil)) (cons_len (cons_len nil_len))) (taj_cons (tj_op vr_ix (tj_lst (taj_cons tj_int (taj_cons tj_int (taj_cons tj_int taj_nil)))) (tj_callT (taj_cons (tj_var 0) (taj_cons tj_int taj_nil)) (cons_len (cons_len nil_len)))) (taj_cons (tj_lst taj_nil) taj_nil))))
      (tsj_seq (tsj_par (taj_cons (tj_sl (tj_var 4) toj_none (toj_some (tj_var 6))) (taj_cons (tj_sl (tj_var 4) (toj_some (tj_var 6)) toj_none) taj_nil)))
      (tsj_seq (tsj_for (tij_range1 (taj_cons (tj_var 1) taj_nil)) (tgj_name 5) (tsj_seq (tsj_asg (tj_op vr_mulU (tj_op vr_mod (tj_op vr_addU (tj_op vr_addU (tj_var 3) (tj_var 6)) (tj_cb vr_len (taj_cons (tj_var 4) taj_nil))) tj_int) (tj_cb vr_int (taj_cons (tj_op vr_neD (tj_var 10) tj_str) taj_nil))))
      (tsj_seq (tsj_asg (tj_op vr_ix (tj_var 2) (tj_op vr_mod (tj_op vr_addU (tj_var 3) (tj_op vr_mulU (tj_var 7) (tj_op vr_ix (tj_lst (taj_cons (tj_var 5) (taj_cons (tj_op vr_div (tj_var 5) tj_int) (taj_cons (tj_var 5) taj_nil)))) (tj_var 11)))) tj_int)))
      (tsj_drop (tj_append (tj_op vr_addU (tj_op vr_addU (tj_var 9) (tj_var 12)) (tj_op vr_ix (tj_lst (taj_cons (tj_var 10) (taj_cons (tj_op vr_mulU (tj_var 10) (tj_op vr_mod (tj_var 5) tj_int)) (taj_cons (tj_sl (tj_var 10) toj_none (toj_some (tj_op vr_mod (tj_var 5) (tj_op vr_addU (tj_cb vr_len (taj_cons (tj_var 10) taj_nil)) tj_int)))) taj_nil)))) (tj_var 11))))))))
      (tsj_ret (tj_var 8)))))))⟩
theorem ok__law_right {P : Program} {w : World} {K : PySem.W.Frag} {mg : Str → Option Value} {base : Heap} {k : Nat} {f : Addr} {fd : FuncData} (F : Fun K "_law_right" "_law_right" s__law_right f fd) {lev__law_names : Nat} (C__law_names : Cal P w K mg base "_law_names" ["_law_tape_here", "_law_count"] lev__law_names (spD K mg 2 d__law_names)) (l__law_names : lev__law_names ≤ k) {lev__law_draw : Nat} (C__law_draw : Cal P w K mg base "_law_draw" ["_law_tape_here", "_law_count"] lev__law_draw (spD K mg 2 d__law_draw)) (l__law_draw : lev__law_draw ≤ k) {lev__law_same : Nat} (C__law_same : Cal P w K mg base "_law_same" ["_law_found", "_law_due"] lev__law_same (spD K mg 2 (d__law_same 12))) (l__law_same : lev__law_same ≤ k) {lev_least_hung : Nat} (C_least_hung : Cal P w K mg base "least_hung" ["orchard", "liking", "row", "prices"] lev_least_hung (spD K mg 4 d_least_hung)) (l_least_hung : lev_least_hung ≤ k) {lev_ill_hung : Nat} (C_ill_hung : Cal P w K mg base "ill_hung" ["orchard", "liking", "row"] lev_ill_hung (spD K mg 3 d_ill_hung)) (l_ill_hung : lev_ill_hung ≤ k) {lev_pick : Nat} (C_pick : Cal P w K mg base "pick" ["orchard", "liking"] lev_pick (spD K mg 2 d_pick)) (l_pick : lev_pick ≤ k) {lev_hung_anew : Nat} (C_hung_anew : Cal P w K mg base "hung_anew" ["orchard", "liking", "row"] lev_hung_anew (spD K mg 3 d_hung_anew)) (l_hung_anew : lev_hung_anew ≤ k) (m_sorted : mg "sorted" = none) (m_range : mg "range" = none) :
    FnOk P w K mg base (L2.CX P w) (k + 1) f fd ["_law_tape_here"] (spD K mg 1 d__law_right) :=
  fn_den F sc__law_right fun cdv A outer s H E hr => ⟨_, (pss_cons (ps_set (i := 1) sc__law_right.nd rfl (Or.inl rfl) (pe_cal (E := fun _ => E) C__law_names (hr.mono l__law_names) rfl (fun σ => passAt (takes_of rfl rfl rfl rfl) σ) (pa_cons (pv 0) (pa_cons pe_int pa_nil))))
      (pss_cons (ps_asg (pe_callB (cr_sortD hr.units) rfl m_sorted boot_sorted (pa_cons (pv 1) pa_nil)) (pg_seq rfl (pgs_cons (pg_name (i := 2) sc__law_right.nd rfl (Or.inl rfl)) (pgs_cons (pg_name (i := 3) sc__law_right.nd rfl (Or.inl rfl)) (pgs_cons (pg_name (i := 4) sc__law_right.nd rfl (Or.inl rfl)) (pgs_cons (pg_name (i := 5) sc__law_right.nd rfl (Or.inl rfl)) pgs_nil))))))
      (pss_cons (ps_asg (pe_lc (own := [("_law_turn", 10)]) rfl sc__law_right.nd (pi_range1 rfl m_range (pa_cons pe_int pa_nil)) (blkOk_by (N := N__law_right) (sc := defScope s__law_right) (own := [("_law_turn", 10)]) (by decide +kernel)) (fun _ _ _ _ _ => (pg_name (i := 10) sc__law_right.nd rfl (Or.inl rfl))) (fun _ _ _ _ _ => pts_nil) (fun _ _ _ _ _ => (pe_calB C__law_draw (hr.mono l__law_draw) (by rfl) (pa_cons (pv 0) (pa_cons (pe_op op_pow pe_int pe_int) pa_nil))))) (pg_seq rfl (pgs_cons (pg_name (i := 6) sc__law_right.nd rfl (Or.inl rfl)) (pgs_cons (pg_name (i := 7) sc__law_right.nd rfl (Or.inl rfl)) (pgs_cons (pg_name (i := 8) sc__law_right.nd rfl (Or.inl rfl)) (pgs_cons (pg_name (i := 9) sc__law_right.nd rfl (Or.inl rfl)) pgs_nil))))))
      (pss_cons (ps_par rfl sc__law_right.nd (i := 11) (j := 12) rfl rfl (by decide) rfl rfl (pa_cons (pe_tup (pa_cons (pe_tup (pa_cons (pv 2) (pa_cons (pe_tup (pa_cons (pe_tup pa_nil) pa_nil)) pa_nil))) (pa_cons (pe_tup (pa_cons (pv 3) (pa_cons (pe_tup (pa_cons (pe_tup (pa_cons (pv 2) pa_nil)) pa_nil)) pa_nil))) (pa_cons (pe_tup (pa_cons (pv 4) (pa_cons (pe_tup (pa_cons (pe_tup pa_nil) pa_nil)) pa_nil))) (pa_cons (pe_tup (pa_cons (pv 5) (pa_cons (pe_tup pa_nil) pa_nil))) pa_nil))))) (pa_cons (pe_tup (pa_cons (pv 4) (pa_cons (pv 2) (pa_cons (pv 5) (pa_cons (pv 3) pa_nil))))) pa_nil)) rfl)
      (pss_cons (ps_set (i := 13) sc__law_right.nd rfl (Or.inl rfl) (pe_lst (pa_cons (pe_tup (pa_cons (pv 2) (pa_cons (pv 6) pa_nil))) (pa_cons (pe_tup (pa_cons (pv 3) (pa_cons (pv 7) pa_nil))) (pa_cons (pe_tup (pa_cons (pv 4) (pa_cons (pv 8) pa_nil))) (pa_cons (pe_tup (pa_cons (pv 5) (pa_cons (pv 9) pa_nil))) pa_nil))))))
      (pss_cons (ps_set (i := 14) sc__law_right.nd rfl (Or.inl rfl) (pe_lst (pa_cons (pe_tup (pa_cons (pe_lst (pa_cons (pv 4) (pa_cons (pv 2) (pa_cons (pv 3) pa_nil)))) (pa_cons (pe_lst pa_nil) (pa_cons pe_int pa_nil)))) (pa_cons (pe_tup (pa_cons (pe_lst (pa_cons (pv 2) (pa_cons (pv 4) (pa_cons (pv 3) pa_nil)))) (pa_cons (pe_lst (pa_cons (pe_tup (pa_cons (pv 4) (pa_cons pe_str pa_nil))) pa_nil)) (pa_cons (pv 8) pa_nil)))) (pa_cons (pe_tup (pa_cons (pe_lst (pa_cons (pv 4) (pa_cons (pv 3) (pa_cons (pv 2) pa_nil)))) (pa_cons (pe_lst (pa_cons (pe_tup (pa_cons (pv 2) (pa_cons pe_str pa_nil))) (pa_cons (pe_tup (pa_cons (pv 3) (pa_cons pe_str pa_nil))) pa_nil))) (pa_cons (pe_op op_addU (pv 6) (pv 7)) pa_nil)))) pa_nil)))))
      (pss_cons (ps_set (i := 14) sc__law_right.nd rfl (Or.inl rfl) (pe_op op_addU (pv 14) (pe_lst (pa_cons (pe_tup (pa_cons (pe_lst pa_nil) (pa_cons (pe_lst (pa_cons (pe_tup (pa_cons (pv 2) (pa_cons pe_str pa_nil))) (pa_cons (pe_tup (pa_cons (pv 4) (pa_cons pe_str pa_nil))) pa_nil))) (pa_cons (pe_op op_addU (pv 6) (pv 8)) pa_nil)))) (pa_cons (pe_tup (pa_cons (pe_lst (pa_cons (pv 4) (pa_cons (pv 2) pa_nil))) (pa_cons (pe_lst (pa_cons (pe_tup (pa_cons (pv 3) (pa_cons pe_str pa_nil))) pa_nil)) (pa_cons (pv 7) pa_nil)))) pa_nil)))))
      (pss_cons (ps_set (i := 14) sc__law_right.nd rfl (Or.inl rfl) (pe_op op_addU (pv 14) (pe_lst (pa_cons (pe_tup (pa_cons (pe_lst (pa_cons (pv 4) (pa_cons (pv 2) (pa_cons (pv 5) (pa_cons (pv 3) pa_nil))))) (pa_cons (pe_lst (pa_cons (pe_tup (pa_cons (pv 5) (pa_cons pe_str pa_nil))) pa_nil)) (pa_cons (pv 9) pa_nil)))) (pa_cons (pe_tup (pa_cons (pe_lst (pa_cons (pv 5) pa_nil)) (pa_cons (pe_lst (pa_cons (pe_tup (pa_cons (pv 2) (pa_cons pe_str pa_nil))) (pa_cons (pe_tup (pa_cons (pv 4) (pa_cons pe_str pa_nil))) (pa_cons (pe_tup (pa_cons (pv 5) (pa_cons pe_str pa_nil))) pa_nil)))) (pa_cons (pe_op op_addU (pe_op op_addU (pv 6) (pv 8)) (pv 9)) pa_nil)))) pa_nil)))))
      (pss_cons (ps_set (i := 14) sc__law_right.nd rfl (Or.inl rfl) (pe_op op_addU (pv 14) (pe_lst (pa_cons (pe_tup (pa_cons (pe_lst (pa_cons (pv 2) (pa_cons (pv 3) (pa_cons (pv 4) pa_nil)))) (pa_cons (pe_lst (pa_cons (pe_tup (pa_cons (pv 4) (pa_cons pe_str pa_nil))) pa_nil)) (pa_cons (pv 8) pa_nil)))) (pa_cons (pe_tup (pa_cons (pe_lst (pa_cons (pv 3) (pa_cons (pv 4) (pa_cons (pv 2) pa_nil)))) (pa_cons (pe_lst (pa_cons (pe_tup (pa_cons (pv 2) (pa_cons pe_str pa_nil))) (pa_cons (pe_tup (pa_cons (pv 3) (pa_cons pe_str pa_nil))) (pa_cons (pe_tup (pa_cons (pv 4) (pa_cons pe_str pa_nil))) pa_nil)))) (pa_cons (pe_op op_addU (pe_op op_addU (pv 6) (pv 7)) (pv 8)) pa_nil)))) pa_nil)))))
      (pss_cons (ps_for (passes_of rfl) rfl (pi_seq (pv 14)) (pg_seq rfl (pgs_cons (pg_name (i := 15) sc__law_right.nd rfl (Or.inl rfl)) (pgs_cons (pg_name (i := 16) sc__law_right.nd rfl (Or.inl rfl)) (pgs_cons (pg_name (i := 17) sc__law_right.nd rfl (Or.inl rfl)) pgs_nil)))) (pss_cons (ps_if (pt_not (pt_val (pe_cal (E := fun _ => E) C__law_same (hr.mono l__law_same) rfl (fun σ => passAt (takes_of rfl rfl rfl rfl) σ) (pa_cons (pe_lst (pa_cons (pe_cal (E := fun _ => E) C_ill_hung (hr.mono l_ill_hung) rfl (fun σ => passAt (takes_of rfl rfl rfl rfl) σ) (pa_cons (pv 11) (pa_cons (pv 12) (pa_cons (pv 15) pa_nil)))) (pa_cons (pe_cal (E := fun _ => E) C_least_hung (hr.mono l_least_hung) rfl (fun σ => passAt (takes_of rfl rfl rfl rfl) σ) (pa_cons (pv 11) (pa_cons (pv 12) (pa_cons (pv 15) (pa_cons (pv 13) pa_nil))))) pa_nil))) (pa_cons (pe_lst (pa_cons (pv 16) (pa_cons (pv 17) pa_nil))) pa_nil))))) (pss_one (ps_ret pe_bl)) pss_nil)
      (pss_one (ps_if (pt_not (pt_val (pe_cal (E := fun _ => E) C__law_same (hr.mono l__law_same) rfl (fun σ => passAt (takes_of rfl rfl rfl rfl) σ) (pa_cons (pe_cal (E := fun _ => E) C_pick (hr.mono l_pick) rfl (fun σ => passAt (takes_of rfl rfl rfl rfl) σ) (pa_cons (pe_cal (E := fun _ => E) C_hung_anew (hr.mono l_hung_anew) rfl (fun σ => passAt (takes_of rfl rfl rfl rfl) σ) (pa_cons (pv 11) (pa_cons (pv 12) (pa_cons (pv 15) pa_nil)))) (pa_cons (pv 12) pa_nil))) (pa_cons (pv 15) pa_nil))))) (pss_one (ps_ret pe_bl)) pss_nil))))
      (pss_cons (ps_set (i := 18) sc__law_right.nd rfl (Or.inl rfl) (pe_tup (pa_cons (pe_tup (pa_cons (pv 2) (pa_cons (pe_tup (pa_cons (pe_tup (pa_cons (pv 3) (pa_cons (pv 4) pa_nil))) pa_nil)) pa_nil))) (pa_cons (pe_tup (pa_cons (pv 3) (pa_cons (pe_tup (pa_cons (pe_tup (pa_cons (pv 4) pa_nil)) pa_nil)) pa_nil))) (pa_cons (pe_tup (pa_cons (pv 4) (pa_cons (pe_tup (pa_cons (pe_tup pa_nil) pa_nil)) pa_nil))) (pa_cons (pe_tup (pa_cons (pv 5) (pa_cons (pe_tup pa_nil) pa_nil))) pa_nil))))))
      (pss_cons (ps_if (pt_not (pt_val (pe_cal (E := fun _ => E) C__law_same (hr.mono l__law_same) rfl (fun σ => passAt (takes_of rfl rfl rfl rfl) σ) (pa_cons (pe_cal (E := fun _ => E) C_hung_anew (hr.mono l_hung_anew) rfl (fun σ => passAt (takes_of rfl rfl rfl rfl) σ) (pa_cons (pv 11) (pa_cons (pv 12) (pa_cons (pe_lst (pa_cons (pv 4) (pa_cons (pv 3) (pa_cons (pv 2) pa_nil)))) pa_nil)))) (pa_cons (pv 18) pa_nil))))) (pss_one (ps_ret pe_bl)) pss_nil)
      (pss_cons (ps_set (i := 18) sc__law_right.nd rfl (Or.inl rfl) (pe_tup (pa_cons (pe_tup (pa_cons (pv 2) (pa_cons (pe_tup pa_nil) pa_nil))) (pa_cons (pe_tup (pa_cons (pv 3) (pa_cons (pe_tup (pa_cons (pe_tup (pa_cons (pv 2) pa_nil)) pa_nil)) pa_nil))) (pa_cons (pe_tup (pa_cons (pv 4) (pa_cons (pe_tup pa_nil) pa_nil))) (pa_cons (pe_tup (pa_cons (pv 5) (pa_cons (pe_tup (pa_cons (pe_tup pa_nil) pa_nil)) pa_nil))) pa_nil))))))
      (pss_one (ps_ret (pe_cal (E := fun _ => E) C__law_same (hr.mono l__law_same) rfl (fun σ => passAt (takes_of rfl rfl rfl rfl) σ) (pa_cons (pe_cal (E := fun _ => E) C_hung_anew (hr.mono l_hung_anew) rfl (fun σ => passAt (takes_of rfl rfl rfl rfl) σ) (pa_cons (pv 11) (pa_cons (pv 12) (pa_cons (pe_lst (pa_cons (pv 5) pa_nil)) pa_nil)))) (pa_cons (pv 18) pa_nil)))))))))))))))))),
    (tsj_seq (tsj_asg (tj_callT (taj_cons (tj_var 0) (taj_cons tj_int taj_nil)) (cons_len (cons_len nil_len))))
      (tsj_seq (tsj_unp (tj_cb vr_sort (taj_cons (tj_var 1) taj_nil)) (tgj_seq (tgsj_cons (tgj_name 2) (tgsj_cons (tgj_name 3) (tgsj_cons (tgj_name 4) (tgsj_cons (tgj_name 5) tgsj_nil))))))
      (tsj_seq (tsj_unp (tj_lc (ks := [10]) (tij_range1 (taj_cons tj_int taj_nil)) (tgj_name 10) ttj_yes (tj_callT (taj_cons (tj_var 0) (taj_cons (tj_op vr_pow tj_int tj_int) taj_nil)) (cons_len (cons_len nil_len))) (by decide)) (tgj_seq (tgsj_cons (tgj_name 6) (tgsj_cons (tgj_name 7) (tgsj_cons (tgj_name 8) (tgsj_cons (tgj_name 9) tgsj_nil))))))
      (tsj_seq (tsj_par (taj_cons (tj_tup (taj_cons (tj_tup (taj_cons (tj_var 2) (taj_cons (tj_tup (taj_cons (tj_tup taj_nil) taj_nil)) taj_nil))) (taj_cons (tj_tup (taj_cons (tj_var 3) (taj_cons (tj_tup (taj_cons (tj_tup (taj_cons (tj_var 2) taj_nil)) taj_nil)) taj_nil))) (taj_cons (tj_tup (taj_cons (tj_var 4) (taj_cons (tj_tup (taj_cons (tj_tup taj_nil) taj_nil)) taj_nil))) (taj_cons (tj_tup (taj_cons (tj_var 5) (taj_cons (tj_tup taj_nil) taj_nil))) taj_nil))))) (taj_cons (tj_tup (taj_cons (tj_var 4) (taj_cons (tj_var 2) (taj_cons (tj_var 5) (taj_cons (tj_var 3) taj_nil))))) taj_nil)))
      (tsj_seq (tsj_asg (tj_lst (taj_cons (tj_tup (taj_cons (tj_var 2) (taj_cons (tj_var 6) taj_nil))) (taj_cons (tj_tup (taj_cons (tj_var 3) (taj_cons (tj_var 7) taj_nil))) (taj_cons (tj_tup (taj_cons (tj_var 4) (taj_cons (tj_var 8) taj_nil))) (taj_cons (tj_tup (taj_cons (tj_var 5) (taj_cons (tj_var 9) taj_nil))) taj_nil))))))
      (tsj_seq (tsj_asg (tj_lst (taj_cons (tj_tup (taj_cons (tj_fz (tj_lst (taj_cons (tj_var 4) (taj_cons (tj_var 2) (taj_cons (tj_var 3) taj_nil))))) (taj_cons (tj_fz (tj_lst taj_nil)) (taj_cons tj_int taj_nil)))) (taj_cons (tj_tup (taj_cons (tj_fz (tj_lst (taj_cons (tj_var 2) (taj_cons (tj_var 4) (taj_cons (tj_var 3) taj_nil))))) (taj_cons (tj_fz (tj_lst (taj_cons (tj_tup (taj_cons (tj_var 4) (taj_cons tj_str taj_nil))) taj_nil))) (taj_cons (tj_var 8) taj_nil)))) (taj_cons (tj_tup (taj_cons (tj_fz (tj_lst (taj_cons (tj_var 4) (taj_cons (tj_var 3) (taj_cons (tj_var 2) taj_nil))))) (taj_cons (tj_fz (tj_lst (taj_cons (tj_tup (taj_cons (tj_var 2) (taj_cons tj_str taj_nil))) (taj_cons (tj_tup (taj_cons (tj_var 3) (taj_cons tj_str taj_nil))) taj_nil)))) (taj_cons (tj_op vr_addU (tj_var 6) (tj_var 7)) taj_nil)))) taj_nil)))))
      (tsj_seq (tsj_asg (tj_op vr_addU (tj_var 14) (tj_lst (taj_cons (tj_tup (taj_cons (tj_fz (tj_lst taj_nil)) (taj_cons (tj_fz (tj_lst (taj_cons (tj_tup (taj_cons (tj_var 2) (taj_cons tj_str taj_nil))) (taj_cons (tj_tup (taj_cons (tj_var 4) (taj_cons tj_str taj_nil))) taj_nil)))) (taj_cons (tj_op vr_addU (tj_var 6) (tj_var 8)) taj_nil)))) (taj_cons (tj_tup (taj_cons (tj_fz (tj_lst (taj_cons (tj_var 4) (taj_cons (tj_var 2) taj_nil)))) (taj_cons (tj_fz (tj_lst (taj_cons (tj_tup (taj_cons (tj_var 3) (taj_cons tj_str taj_nil))) taj_nil))) (taj_cons (tj_var 7) taj_nil)))) taj_nil)))))
      (tsj_seq (tsj_asg (tj_op vr_addU (tj_var 14) (tj_lst (taj_cons (tj_tup (taj_cons (tj_fz (tj_lst (taj_cons (tj_var 4) (taj_cons (tj_var 2) (taj_cons (tj_var 5) (taj_cons (tj_var 3) taj_nil)))))) (taj_cons (tj_fz (tj_lst (taj_cons (tj_tup (taj_cons (tj_var 5) (taj_cons tj_str taj_nil))) taj_nil))) (taj_cons (tj_var 9) taj_nil)))) (taj_cons (tj_tup (taj_cons (tj_fz (tj_lst (taj_cons (tj_var 5) taj_nil))) (taj_cons (tj_fz (tj_lst (taj_cons (tj_tup (taj_cons (tj_var 2) (taj_cons tj_str taj_nil))) (taj_cons (tj_tup (taj_cons (tj_var 4) (taj_cons tj_str taj_nil))) (taj_cons (tj_tup (taj_cons (tj_var 5) (taj_cons tj_str taj_nil))) taj_nil))))) (taj_cons (tj_op vr_addU (tj_op vr_addU (tj_var 6) (tj_var 8)) (tj_var 9)) taj_nil)))) taj_nil)))))
      (tsj_seq (tsj_asg (tj_op vr_addU (tj_var 14) (tj_lst (taj_cons (tj_tup (taj_cons (tj_fz (tj_lst (taj_cons (tj_var 2) (taj_cons (tj_var 3) (taj_cons (tj_var 4) taj_nil))))) (taj_cons (tj_fz (tj_lst (taj_cons (tj_tup (taj_cons (tj_var 4) (taj_cons tj_str taj_nil))) taj_nil))) (taj_cons (tj_var 8) taj_nil)))) (taj_cons (tj_tup (taj_cons (tj_fz (tj_lst (taj_cons (tj_var 3) (taj_cons (tj_var 4) (taj_cons (tj_var 2) taj_nil))))) (taj_cons (tj_fz (tj_lst (taj_cons (tj_tup (taj_cons (tj_var 2) (taj_cons tj_str taj_nil))) (taj_cons (tj_tup (taj_cons (tj_var 3) (taj_cons tj_str taj_nil))) (taj_cons (tj_tup (taj_cons (tj_var 4) (taj_cons tj_str taj_nil))) taj_nil))))) (taj_cons (tj_op vr_addU (tj_op vr_addU (tj_var 6) (tj_var 7)) (tj_var 8)) taj_nil)))) taj_nil)))))
      (tsj_seq (tsj_for (tij_seq (tj_var 14)) (tgj_seq (tgsj_cons (tgj_name 15) (tgsj_cons (tgj_name 16) (tgsj_cons (tgj_name 17) tgsj_nil)))) (tsj_seq (tsj_if (ttj_not (ttj_B (tj_callV (taj_cons (tj_lst (taj_cons (tj_fz (tj_callV (taj_cons (tj_var 11) (taj_cons (tj_var 12) (taj_cons (tj_var 15) taj_nil))) (cons_len (cons_len (cons_len nil_len))))) (taj_cons (tj_callV (taj_cons (tj_var 11) (taj_cons (tj_var 12) (taj_cons (tj_var 15) (taj_cons (tj_var 13) taj_nil)))) (cons_len (cons_len (cons_len (cons_len nil_len))))) taj_nil))) (taj_cons (tj_lst (taj_cons (tj_var 16) (taj_cons (tj_var 17) taj_nil))) taj_nil)) (cons_len (cons_len nil_len))))) (tsj_ret tj_bl) tsj_next)
      (tsj_if (ttj_not (ttj_B (tj_callV (taj_cons (tj_callV (taj_cons (tj_callV (taj_cons (tj_var 11) (taj_cons (tj_var 12) (taj_cons (tj_var 15) taj_nil))) (cons_len (cons_len (cons_len nil_len)))) (taj_cons (tj_var 12) taj_nil)) (cons_len (cons_len nil_len))) (taj_cons (tj_var 15) taj_nil)) (cons_len (cons_len nil_len))))) (tsj_ret tj_bl) tsj_next)))
      (tsj_seq (tsj_asg (tj_tup (taj_cons (tj_tup (taj_cons (tj_var 2) (taj_cons (tj_tup (taj_cons (tj_tup (taj_cons (tj_var 3) (taj_cons (tj_var 4) taj_nil))) taj_nil)) taj_nil))) (taj_cons (tj_tup (taj_cons (tj_var 3) (taj_cons (tj_tup (taj_cons (tj_tup (taj_cons (tj_var 4) taj_nil)) taj_nil)) taj_nil))) (taj_cons (tj_tup (taj_cons (tj_var 4) (taj_cons (tj_tup (taj_cons (tj_tup taj_nil) taj_nil)) taj_nil))) (taj_cons (tj_tup (taj_cons (tj_var 5) (taj_cons (tj_tup taj_nil) taj_nil))) taj_nil))))))
      (tsj_seq (tsj_if (ttj_not (ttj_B (tj_callV (taj_cons (tj_callV (taj_cons (tj_var 11) (taj_cons (tj_var 12) (taj_cons (tj_lst (taj_cons (tj_var 4) (taj_cons (tj_var 3) (taj_cons (tj_var 2) taj_nil)))) taj_nil))) (cons_len (cons_len (cons_len nil_len)))) (taj_cons (tj_var 18) taj_nil)) (cons_len (cons_len nil_len))))) (tsj_ret tj_bl) tsj_next)
      (tsj_seq (tsj_asg (tj_tup (taj_cons (tj_tup (taj_cons (tj_var 2) (taj_cons (tj_tup taj_nil) taj_nil))) (taj_cons (tj_tup (taj_cons (tj_var 3) (taj_cons (tj_tup (taj_cons (tj_tup (taj_cons (tj_var 2) taj_nil)) taj_nil)) taj_nil))) (taj_cons (tj_tup (taj_cons (tj_var 4) (taj_cons (tj_tup taj_nil) taj_nil))) (taj_cons (tj_tup (taj_cons (tj_var 5) (taj_cons (tj_tup (taj_cons (tj_tup taj_nil) taj_nil)) taj_nil))) taj_nil))))))
      (tsj_ret (tj_callV (taj_cons (tj_callV (taj_cons (tj_var 11) (taj_cons (tj_var 12) (taj_cons (tj_lst (taj_cons (tj_var 5) taj_nil)) taj_nil))) (cons_len (cons_len (cons_len nil_len)))) (taj_cons (tj_var 18) taj_nil)) (cons_len (cons_len nil_len)))))))))))))))))⟩
theorem ok_law {P : Program} {w : World} {K : PySem.W.Frag} {mg : Str → Option Value} {base : Heap} {k : Nat} {f : Addr} {fd : FuncData} (F : Fun K "law" "law" s_law f fd) {lev__law_cells : Nat} (C__law_cells : Cal P w K mg base "_law_cells" ["_law_script", "_law_count"] lev__law_cells (spCells K)) (l__law_cells : lev__law_cells ≤ k) {lev__law_right : Nat} (C__law_right : Cal P w K mg base "_law_right" ["_law_tape_here"] lev__law_right (spD K mg 1 d__law_right)) (l__law_right : lev__law_right ≤ k) {lev__law_tape : Nat} (C__law_tape : Cal P w K mg base "_law_tape" ["_law_script", "_law_k"] lev__law_tape (spD K mg 2 d__law_tape)) (l__law_tape : lev__law_tape ≤ k) (m_all : mg "all" = none) (m_range : mg "range" = none) (m_len : mg "len" = none)
    (L : ∀ ms : List Int, 1 ≤ ms.length → ms.length ≤ 3 → ∃ ρ1, g_law (ini1 3 (ms.map PyData.int)) = .ok (.rt (.fr (.bool true))) ρ1) :
    FnOk P w K mg base (L2.CX P w) (k + 1) f fd ["_law_script"] (spLaw K) :=
  F.okX sc_law (fun vs H Q E h => by obtain ⟨_, _, rfl, _⟩ := h; rfl) fun cdv A outer s H vs Q E hr h => by
    obtain ⟨a, ns, rfl, hS, hl, q⟩ := h
    refine ⟨_, pss_cons (ps_set (i := 1) sc_law.nd rfl (Or.inr rfl) (pe_calG (E := fun _ => E) C__law_cells (hr.mono l__law_cells) rfl (fun σ => passAt (takes_of rfl rfl rfl rfl) σ) (pa_cons (pv 0) (pa_cons pe_int pa_nil))))
      (pss_one (ps_ret (pe_callB (cr_all rfl) rfl m_all boot_all (pa_cons (pe_lc (own := [("_law_k", 2)]) rfl sc_law.nd (pi_range1 rfl m_range (pa_cons (pe_callB call_len rfl m_len PySem.boot_len (pa_cons (pv 1) pa_nil)) pa_nil)) (blkOk_by (N := N_law) (sc := defScope s_law) (own := [("_law_k", 2)]) (by decide +kernel)) (fun _ _ _ _ _ => (pg_name (i := 2) sc_law.nd rfl (Or.inl rfl))) (fun _ _ _ _ _ => pts_nil) (fun _ _ _ _ _ => (pe_calB C__law_right (hr.mono l__law_right) (by rfl) (pa_cons (pe_calB C__law_tape (hr.mono l__law_tape) (by rfl) (pa_cons (pv 1) (pa_cons (pv 2) pa_nil))) pa_nil)))) pa_nil)))), ?_⟩
    refine ⟨.ref a, rfl, a, ns, 3, rfl, hS, hl, by decide, by decide, fun H' p ms sm np e h1 h2 => ?_⟩
    obtain ⟨ρ1, hg⟩ := L ms h1 h2
    exact law_rest (Ex := E) (N := 3) (tsj_ret (tj_cb vr_all (taj_cons (tj_lc (ks := [2]) (tij_range1 (taj_cons (tj_cb vr_len (taj_cons (tj_var 1) taj_nil)) taj_nil)) (tgj_name 2) ttj_yes (tj_callO (taj_cons (tj_callV (taj_cons (tj_var 1) (taj_cons (tj_var 2) taj_nil)) (cons_len (cons_len nil_len))) taj_nil) ) (by decide)) taj_nil))) (by decide) e hg q
end TX

namespace TX
open PySem PySem.Spec PyProof.Rows L2 RZ DL
theorem mulI {i j : Int} (h : mulOk i j = true) : mulOp (.int i) (.int j) = some (.fr (.int (i * j))) := by simp [mulOp, op2I, h]
theorem divI {i j : Int} (h : divOk j = true) : divOp (.int i) (.int j) = some (.fr (.int (i / j))) := by simp [divOp, op2I, h]
theorem modI {i j : Int} (h : 0 < j) : modOp (.int i) (.int j) = some (.fr (.int (i % j))) := by simp [modOp, op2I, h]
theorem powI {i j : Int} (h : powOk i j = true) : powOp (.int i) (.int j) = some (.fr (.int (i ^ j.toNat))) := by simp [powOp, op2I, h]
theorem addI {i j : Int} : addOp (.int i) (.int j) = some (.fr (.int (i + j))) := rfl
theorem subI {i j : Int} : subOp (.int i) (.int j) = some (.fr (.int (i - j))) := rfl
theorem gtI {i j : Int} : gtOp (.int i) (.int j) = some (.fr (.bool (decide (j < i)))) := rfl
theorem geI {i j : Int} : geOp (.int i) (.int j) = some (.fr (.bool (decide (j ≤ i)))) := rfl
theorem ltI {i j : Int} : ltOp (.int i) (.int j) = some (.fr (.bool (decide (i < j)))) := rfl
theorem ix0 {a b c : PyData} : ixOp (.list [a, b, c]) (.int 0) = some (.fr a) := rfl
theorem ix1 {a b c : PyData} : ixOp (.list [a, b, c]) (.int 1) = some (.fr b) := rfl
theorem ix2 {a b c : PyData} : ixOp (.list [a, b, c]) (.int 2) = some (.fr c) := rfl
theorem draw1 {x y t n : Int} (hx : 0 < x) (hn : 0 < n) (hn2 : n ≤ 10000000) :
    d__law_draw (some (.lst [.int x, .int y, .int t])) [.int n] = .ok (.fr (.int (x % n))) (some (.lst [.int (x / n), .int y, .int t])) := by
  have h1 : divOk n = true := by simp only [divOk, decide_eq_true_eq]; omega
  simp [d__law_draw, denB, ini, coN, g__law_draw, fSeq, fIfS, fTest, fOp, fVar, fC, fAsg, fSetAt, fRet, fFz, frz, put1, finR, finC, retS, Res.bind, ofOpt, rd, rd0, Cn.rd, Sl.own, Sl.put, asB, ix0, ix1, ix2, addI, subI, gtI, divI h1, modI hn, hx]
end TX

namespace TX
open PySem PySem.Spec PyProof.Rows L2 RZ DL
theorem mulS1 {i j : Int} (h1 : -(2 ^ 64) < i) (h2 : i < 2 ^ 64) : mulOk i j = true := by unfold mulOk; exact decide_eq_true (.inl ⟨h1, h2⟩)
theorem mulS2 {i j : Int} (h1 : -(2 ^ 64) < j) (h2 : j < 2 ^ 64) : mulOk i j = true := by unfold mulOk; exact decide_eq_true (.inr ⟨h1, h2⟩)
theorem divK {j : Int} (h1 : 0 < j) (h2 : j < 2 ^ 64) : divOk j = true := decide_eq_true ⟨h1, h2⟩
def onceOf (y t : Int) : Int := (y + 39373 * t) ^ 5 % 2147483647
def twiceOf (y t : Int) : Int := (onceOf y t + t) * (onceOf y t % 40009 + 7 + t) % 2147483629
def wideOf (y t : Int) : Int := (y / 2147483647 + twiceOf y t * 40009 + t) % 2305843009213693951
def drawOf (y t n : Int) : Int := (twiceOf y t * 48271 + wideOf y t * 39373 + onceOf y t) % 2305843009213693921 / 64 % n
theorem draw2 {y t n : Int} (hy : 0 ≤ y) (hy2 : y < 4611686018427387904) (ht : 0 ≤ t) (ht2 : t < 10000) (hn : 0 < n) :
    d__law_draw (some (.lst [.int 0, .int y, .int t])) [.int n] = .ok (.fr (.int (drawOf y (t + 1) n))) (some (.lst [.int 0, .int y, .int (t + 1)])) := by
  have h1 : mulOk 39373 (t + 1) = true := mulS1 (by decide) (by decide)
  have h2 : powOk (y + 39373 * (t + 1)) 5 = true := by unfold powOk; exact decide_eq_true ⟨by decide, by decide, by omega⟩
  have o1 : onceOf y (t + 1) < 2147483647 := Int.emod_lt_of_pos _ (by decide)
  have o2 : 0 ≤ onceOf y (t + 1) := Int.emod_nonneg _ (by decide)
  have w1 : twiceOf y (t + 1) < 2147483629 := Int.emod_lt_of_pos _ (by decide)
  have w2 : 0 ≤ twiceOf y (t + 1) := Int.emod_nonneg _ (by decide)
  have h3 : mulOk (onceOf y (t + 1) + (t + 1)) (onceOf y (t + 1) % 40009 + 7 + (t + 1)) = true := mulS1 (by omega) (by omega)
  have h4 : ∀ x : Int, mulOk x 40009 = true := fun x => mulS2 (by decide) (by decide)
  have h5 : ∀ x : Int, mulOk x 48271 = true := fun x => mulS2 (by decide) (by decide)
  have h6 : ∀ x : Int, mulOk x 39373 = true := fun x => mulS2 (by decide) (by decide)
  have h7 : divOk 2147483647 = true := by decide
  have h8 : divOk 64 = true := by decide
  have e1 : modOp (.int ((y + 39373 * (t + 1)) ^ 5)) (.int 2147483647) = some (.fr (.int (onceOf y (t + 1)))) := modI (by decide)
  have e2 : modOp (.int ((onceOf y (t + 1) + (t + 1)) * (onceOf y (t + 1) % 40009 + 7 + (t + 1)))) (.int 2147483629) = some (.fr (.int (twiceOf y (t + 1)))) := modI (by decide)
  have e3 : modOp (.int (y / 2147483647 + twiceOf y (t + 1) * 40009 + (t + 1))) (.int 2305843009213693951) = some (.fr (.int (wideOf y (t + 1)))) := modI (by decide)
  have e4 : modOp (.int (onceOf y (t + 1))) (.int 40009) = some (.fr (.int (onceOf y (t + 1) % 40009))) := modI (by decide)
  have e5 : ∀ x : Int, modOp (.int x) (.int 2305843009213693921) = some (.fr (.int (x % 2305843009213693921))) := fun x => modI (by decide)
  have e6 : powOp (.int (y + 39373 * (t + 1))) (.int 5) = some (.fr (.int ((y + 39373 * (t + 1)) ^ 5))) := powI h2
  have e7 : modOp (.int ((twiceOf y (t + 1) * 48271 + wideOf y (t + 1) * 39373 + onceOf y (t + 1)) % 2305843009213693921 / 64)) (.int n) = some (.fr (.int (drawOf y (t + 1) n))) := modI hn
  simp [d__law_draw, denB, ini, coN, g__law_draw, fSeq, fIfS, fTest, fOp, fVar, fC, fAsg, fSetAt, fRet, fFz, frz, put1, finR, finC, retS, Res.bind, ofOpt, rd, rd0, Cn.rd, Sl.own, Sl.put, asB, ix0, ix1, ix2, addI, subI, gtI, mulI h1, mulI h3, mulI (h4 _), mulI (h5 _), mulI (h6 _), divI h7, divI h8, e1, e2, e3, e4, e5, e6, e7, fNext]
end TX

namespace TX
open PySem PySem.Spec PyProof.Rows L2 RZ DL
/-! ### the tape -/
structure IsTape (T : Int) (c : List PyData) : Prop where
  ex : ∃ x y t : Int, c = [.int x, .int y, .int t] ∧ 0 ≤ x ∧ 0 ≤ y ∧ y < 4611686018427387904 ∧ 0 ≤ t ∧ t ≤ T
theorem IsTape.mono {T T' : Int} {c : List PyData} (h : IsTape T c) (l : T ≤ T') : IsTape T' c := by
  obtain ⟨x, y, t, e, h1, h2, h3, h4, h5⟩ := h
  exact ⟨x, y, t, e, h1, h2, h3, h4, by omega⟩
theorem draw_ok {T n : Int} {c : List PyData} (h : IsTape T c) (hT : T < 9999) (hn : 0 < n) (hn2 : n ≤ 10000000) :
    ∃ (v : Int) (c' : List PyData), d__law_draw (some (.lst c)) [.int n] = .ok (.fr (.int v)) (some (.lst c')) ∧ 0 ≤ v ∧ v < n ∧ IsTape (T + 1) c' := by
  obtain ⟨x, y, t, rfl, h1, h2, h3, h4, h5⟩ := h
  by_cases hx : 0 < x
  · exact ⟨_, _, draw1 hx hn hn2, Int.emod_nonneg _ (by omega), Int.emod_lt_of_pos _ hn, ⟨_, _, _, rfl, Int.ediv_nonneg h1 (by omega), h2, h3, h4, by omega⟩⟩
  · have e : x = 0 := by omega
    subst e
    exact ⟨_, _, draw2 h2 h3 h4 (by omega) hn, Int.emod_nonneg _ (by omega), Int.emod_lt_of_pos _ hn, ⟨_, _, _, rfl, Int.le_refl _, h2, h3, by omega, by omega⟩⟩
/-- a draw in a def that was handed the tape -/
theorem ev_draw {T n : Int} {c : List PyData} {r : Evn} {f : Evn → Res Sl} (hf : f (some (.io 0 (.lst c)) :: r) = .ok (.fr (.int n)) (some (.io 0 (.lst c)) :: r)) (h : IsTape T c) (hT : T < 9999) (hn : 0 < n) (hn2 : n ≤ 10000000) :
    ∃ (v : Int) (c' : List PyData), fCallT d__law_draw (fCons (fVar 0) (fCons f fNil)) (some (.io 0 (.lst c)) :: r) = .ok (.fr (.int v)) (some (.io 0 (.lst c')) :: r) ∧ 0 ≤ v ∧ v < n ∧ IsTape (T + 1) c' := by
  obtain ⟨v, c', e, h1, h2, h3⟩ := draw_ok h hT hn hn2
  refine ⟨v, c', ?_, h1, h2, h3⟩
  simp [fCallT, fCons, fVar, fNil, Res.bind, hf, callT, Sl.own, rds, rd, rd0, noBr, e, allFr, isFr, Sl.put]
/-- the tape of a script -/
theorem tape_ok (ms : List Int) (k : Nat) (hk : k < 1000) (hm : ms.length ≤ 63) : ∃ c, d__law_tape none [.list (ms.map PyData.int), .int k] = .ok (.ow (.lst c)) none ∧ IsTape 0 c := by
  have key : ∀ x : Int, fRet (fLst (fCons (fOp mulOp (fCB absOp (fCons (fVar 2) fNil)) (fCB intOp (fCons (fOp geOp (fCB absOp (fCons (fVar 2) fNil)) (fOp powOp (fC (.int 10)) (fC (.int 18)))) fNil))) (fCons (fOp addOp (fOp addOp (fOp modOp (fVar 2) (fC (.int 2305843009213693951))) (fOp mulOp (fC (.int 39373)) (fVar 1))) (fC (.int 17))) (fCons (fC (.int 0)) fNil)))) [some (.fr (.list (ms.map PyData.int))), some (.fr (.int k)), some (.fr (.int x))]
      = .ok (.rt (.ow (.lst [.int ((if x < 0 then -x else x) * (if (1000000000000000000 : Int) ≤ (if x < 0 then -x else x) then 1 else 0)), .int (x % 2305843009213693951 + 39373 * k + 17), .int 0]))) [some (.fr (.list (ms.map PyData.int))), some (.fr (.int k)), some (.fr (.int x))] := by
    intro x
    have h1 : ∀ (z : Int) (p : Prop) [Decidable p], mulOp (.int z) (.int (if p then 1 else 0)) = some (.fr (.int (z * (if p then 1 else 0)))) := fun z p _ => mulI (mulS2 (by split <;> decide) (by split <;> decide))
    have h2 : mulOp (.int 39373) (.int (k : Int)) = some (.fr (.int (39373 * k))) := mulI (mulS1 (by decide) (by decide))
    have h3 : powOp (.int 10) (.int 18) = some (.fr (.int 1000000000000000000)) := powI (by decide)
    have h4 : modOp (.int x) (.int 2305843009213693951) = some (.fr (.int (x % 2305843009213693951))) := modI (by decide)
    simp [fRet, fLst, fCons, fOp, fCB, fVar, fC, fNil, Res.bind, ofOpt, rds, rd, rd0, absOp, DL.intOp, geI, addI, h1, h2, h3, h4, DL.frs]
  have hl : ∃ x : Int, fAsg 2 (fIf (fTest (fOp ltOp (fVar 1) (fCB lenOp (fCons (fVar 0) fNil)))) (fOp ixOp (fVar 0) (fVar 1)) (fC (.int 0))) [some (.fr (.list (ms.map PyData.int))), some (.fr (.int k)), none] = .ok .nx [some (.fr (.list (ms.map PyData.int))), some (.fr (.int k)), some (.fr (.int x))] := by
    have hlen : lenOp [.list (ms.map PyData.int)] = some (.fr (.int ms.length)) := by
      simp [lenOp]
    by_cases h : k < ms.length
    · have hix : ixOp (.list (ms.map PyData.int)) (.int k) = some (.fr (.int ms[k])) := by
        simp [ixOp, ixD, h]
      exact ⟨ms[k], by simp [fAsg, fIf, fTest, fOp, fVar, fC, fCB, fCons, fNil, Res.bind, ofOpt, rds, rd, rd0, hlen, ltI, asB, h, hix, put1]⟩
    · exact ⟨0, by simp [fAsg, fIf, fTest, fOp, fVar, fC, fCB, fCons, fNil, Res.bind, ofOpt, rds, rd, rd0, hlen, ltI, asB, h, put1]⟩
  obtain ⟨x, hx⟩ := hl
  refine ⟨[.int ((if x < 0 then -x else x) * (if (1000000000000000000 : Int) ≤ (if x < 0 then -x else x) then 1 else 0)), .int (x % 2305843009213693951 + 39373 * k + 17), .int 0], ?_, ⟨⟨_, _, _, rfl, ?_, ?_, ?_, Int.le_refl _, Int.le_refl _⟩⟩⟩
  · show finR none (fSeq (fAsg 2 _) (fRet _) [some (.fr (.list (ms.map PyData.int))), some (.fr (.int k)), none]) = _
    simp only [fSeq, hx, Res.bind, key x, finR, finC, retS]
  · apply Int.mul_nonneg
    · split <;> omega
    · split <;> omega
  · have := Int.emod_nonneg x (show (2305843009213693951 : Int) ≠ 0 by decide)
    omega
  · have := Int.emod_lt_of_pos x (show (0 : Int) < 2305843009213693951 by decide)
    omega
end TX

namespace TX
open PySem PySem.Spec PyProof.Rows L2 RZ DL
abbrev letters : Str := "abcdefghijklmnopqrstuvwxyz"
theorem letters_eq : letters.cps.toList = (List.range 26).map (97 + ·) := by decide +kernel
theorem letters_ix {v : Int} (h : 0 ≤ v) (h2 : v < 26) : ixOp (.str letters) (.int v) = some (.fr (.str ⟨#[97 + v.toNat]⟩)) := by
  obtain ⟨n, rfl⟩ := Int.eq_ofNat_of_zero_le h
  have hn : n < 26 := by omega
  have hl : letters.length ≤ 100000 := by decide +kernel
  unfold ixOp
  simp only [if_pos hl]
  rw [letters_eq]
  have e : ixD 26 (n : Int) = some n := by
    unfold ixD
    rw [if_pos (by omega), if_pos (by omega)]
    rfl
  rw [List.length_map, List.length_range, e]
  simp only []
  rw [List.getElem?_map, List.getElem?_range hn]
  rfl
theorem ok26 {ρ : Evn} : fC (.int 26) ρ = .ok (.fr (.int 26)) ρ := rfl
theorem stem_turns {N S : PyData} {r : Evn} : ∀ (ds acc : List PyData) (c : List PyData) (T : Int), IsTape T c → T + ds.length < 9999 → ∃ (cs : List Str) (c' : List PyData),
    fTurns [5] (gNm 5) (fun ρ => .ok true ρ) (fOp ixOp (fVar 2) (fCallT d__law_draw (fCons (fVar 0) (fCons (fC (.int 26)) fNil)))) ds acc (some (.io 0 (.lst c)) :: some (.fr N) :: some (.fr (.str letters)) :: some (.fr S) :: none :: none :: r)
      = .ok (acc ++ cs.map PyData.str) (some (.io 0 (.lst c')) :: some (.fr N) :: some (.fr (.str letters)) :: some (.fr S) :: none :: none :: r) ∧ cs.length = ds.length ∧ (∀ s ∈ cs, s.length = 1 ∧ PyData.strOk s = true) ∧ IsTape (T + ds.length) c'
  | [], acc, c, T, h, hT => ⟨[], c, by simp [fTurns], rfl, fun _ h => (by cases h), IsTape.mono h (by simp)⟩
  | d :: ds, acc, c, T, h, hT => by
    have hT' : T + (ds.length + 1) < 9999 := by simpa using hT
    obtain ⟨v, c1, e, v0, v1, h1⟩ := ev_draw (r := some (.fr N) :: some (.fr (.str letters)) :: some (.fr S) :: none :: some (.fr d) :: r) (f := fC (.int 26)) rfl h (by omega) (by decide) (by decide)
    obtain ⟨cs, c', e2, l2, l3, h2⟩ := stem_turns ds (acc ++ [.str ⟨#[97 + v.toNat]⟩]) c1 (T + 1) h1 (by omega)
    refine ⟨⟨#[97 + v.toNat]⟩ :: cs, c', ?_, by simp [l2], ?_, ?_⟩
    · rw [fTurns]
      simp only [gNm, List.length_cons, List.set_cons_succ, List.set_cons_zero]
      rw [if_pos (by omega)]
      simp only [Res.bind, if_true, fFz, fOp, fVar, List.getElem?_cons_succ, List.getElem?_cons_zero, e, rd, rd0, letters_ix v0 v1, ofOpt, frz, wipeE, List.set_cons_succ, List.set_cons_zero]
      rw [e2]
      simp
    · intro s hs
      rcases List.mem_cons.mp hs with rfl | hs
      · refine ⟨rfl, ?_⟩
        have : v.toNat < 26 := by omega
        simp [PyData.strOk]
        omega
      · exact l3 s hs
    · exact h2.mono (by simp; omega)
theorem strsD_map : ∀ cs : List Str, strsD (cs.map PyData.str) = some cs
  | [] => rfl
  | c :: cs => by simp [strsD, strsD_map cs]
theorem app_len (a b : Str) : (a ++ b).length = a.length + b.length := Array.size_append
theorem join_len : ∀ cs : List Str, (∀ s ∈ cs, s.length = 1) → (Str.join "" cs).length = cs.length
  | [], _ => rfl
  | [x], h => h x List.mem_cons_self
  | x :: y :: r, h => by
    have e : (("" : Str).length) = 0 := by decide +kernel
    show (x ++ "" ++ Str.join "" (y :: r)).length = _
    rw [app_len, app_len, e, h x List.mem_cons_self, join_len (y :: r) fun s hs => h s (List.mem_cons_of_mem _ hs)]
    simp only [List.length_cons]
    omega
theorem sum_len : ∀ cs : List Str, (∀ s ∈ cs, s.length = 1) → (cs.map (·.length)).sum = cs.length
  | [], _ => rfl
  | c :: cs, h => by
    rw [List.map_cons, List.sum_cons, h c List.mem_cons_self, sum_len cs fun s hs => h s (List.mem_cons_of_mem _ hs), List.length_cons]
    omega
theorem ok_app {a b : Str} (h : PyData.strOk a = true) (h2 : PyData.strOk b = true) : PyData.strOk (a ++ b) = true := by
  unfold PyData.strOk at *
  show (a.cps ++ b.cps).all _ = true
  rw [Array.all_append, h, h2]
  rfl
theorem ok_iff {a : Str} : PyData.strOk a = true ↔ ∀ c ∈ a.cps.toList, c < 0x110000 := by
  unfold PyData.strOk
  rw [← Array.all_toList, List.all_eq_true]
  exact ⟨fun h c hc => of_decide_eq_true (h c hc), fun h c hc => decide_eq_true (h c hc)⟩
theorem ok_cut {a : Str} (h : PyData.strOk a = true) (lo hi : Option Int) : PyData.strOk (cutS a lo hi) = true := by
  rw [ok_iff] at *
  intro c hc
  unfold cutS at hc
  exact h c (List.mem_of_mem_drop (List.mem_of_mem_take hc))
theorem cut_len {a : Str} (lo hi : Option Int) : (cutS a lo hi).length ≤ a.length := by
  unfold cutS Str.length
  simp only [List.size_toArray, List.length_take, List.length_drop]
  have : a.cps.toList.length = a.cps.size := rfl
  omega
theorem ok_empty : PyData.strOk "" = true := by decide +kernel
theorem join_ok : ∀ cs : List Str, (∀ s ∈ cs, PyData.strOk s = true) → PyData.strOk (Str.join "" cs) = true
  | [], _ => by decide +kernel
  | [x], h => h x List.mem_cons_self
  | x :: y :: r, h => ok_app (ok_app (h x List.mem_cons_self) ok_empty) (join_ok (y :: r) fun s hs => h s (List.mem_cons_of_mem _ hs))
end TX

namespace TX
open PySem PySem.Spec PyProof.Rows L2 RZ DL
def wayOf (sh at' : Int) (stem tail : Str) : Int := (sh + at' + stem.length) % 3 * (if (!(tail == ("" : Str))) = true then 1 else 0)
theorem way_lt {sh at' : Int} {stem tail : Str} : 0 ≤ wayOf sh at' stem tail ∧ wayOf sh at' stem tail < 3 ∧ (tail = "" → wayOf sh at' stem tail = 0) := by
  unfold wayOf
  have h1 := Int.emod_nonneg (sh + at' + stem.length) (show (3 : Int) ≠ 0 by decide)
  have h2 := Int.emod_lt_of_pos (sh + at' + stem.length) (show (0 : Int) < 3 by decide)
  refine ⟨?_, ?_, fun h => ?_⟩
  · split <;> omega
  · split <;> omega
  · subst h
    simp
def signOf (sh stp q : Int) : Str := ⟨#[97 + ((sh + stp * q) % 26).toNat]⟩
def qOf (w : Int) (k : Nat) : Int := if w = 1 then ((k / 2 : Nat) : Int) else k
def sufOf (tail : Str) (w : Int) (k : Nat) : Str := if w = 0 then tail else if w = 1 then (if k % 2 = 0 then Str.empty else tail) else cutS tail none (some ((k % (tail.length + 1) : Nat) : Int))
def nameOf (sh stp : Int) (head tail : Str) (w : Int) (k : Nat) : Str := head ++ signOf sh stp (qOf w k) ++ sufOf tail w k
theorem neS {a b : Str} (ha : PyData.strOk a = true) (hb : PyData.strOk b = true) : eqOp true (.str a) (.str b) = some (.fr (.bool (!(a == b)))) := by
  simp [eqOp, canEq, SeqAt.shaped, PyData.canLay0, PyData.depth, PyData.eqv, ha, hb]
theorem eqS {a b : Str} (ha : PyData.strOk a = true) (hb : PyData.strOk b = true) : eqOp false (.str a) (.str b) = some (.fr (.bool (a == b))) := by
  simp [eqOp, canEq, SeqAt.shaped, PyData.canLay0, PyData.depth, PyData.eqv, ha, hb]
theorem lenS {a : Str} (h : a.length ≤ 100000) : lenOp [.str a] = some (.fr (.int a.length)) := by simp [lenOp, h]
theorem addS {a b : Str} (h : a.length + b.length ≤ 100000) : addOp (.str a) (.str b) = some (.fr (.str (a ++ b))) := by
  simp [addOp, op2I, op2S, h]
/-- slots of _law_names behind its head -/
abbrev envN (c : List PyData) (n : PyData) (sh : Int) (stem : Str) (k5 : Option Sl) (at' stp : Int) (acc : List PyData) (head tail : Str) (x y : Option Sl) : Evn :=
  [some (.io 0 (.lst c)), some (.fr n), some (.fr (.str letters)), some (.fr (.int sh)), some (.fr (.str stem)), k5, some (.fr (.int at')), some (.fr (.int stp)), some (.ow (.lst acc)), some (.fr (.str head)), some (.fr (.str tail)), x, y]
theorem body1 {c : List PyData} {n : PyData} {sh at' stp : Int} {stem head tail : Str} {k5 x y : Option Sl} {acc : List PyData} (hs : stem.length ≤ 100) (ht : PyData.strOk tail = true) :
    fAsg 11 (fOp mulOp (fOp modOp (fOp addOp (fOp addOp (fVar 3) (fVar 6)) (fCB lenOp (fCons (fVar 4) fNil))) (fC (.int 3))) (fCB DL.intOp (fCons (fOp (eqOp true) (fVar 10) (fC (.str ""))) fNil))) (envN c n sh stem k5 at' stp acc head tail x y)
      = .ok .nx (envN c n sh stem k5 at' stp acc head tail (some (.fr (.int (wayOf sh at' stem tail)))) y) := by
  have h1 : mulOp (.int ((sh + at' + stem.length) % 3)) (.int (if (!(tail == ("" : Str))) = true then 1 else 0)) = some (.fr (.int (wayOf sh at' stem tail))) := mulI (mulS2 (by split <;> decide) (by split <;> decide))
  have h2 : modOp (.int (sh + at' + stem.length)) (.int 3) = some (.fr (.int ((sh + at' + stem.length) % 3))) := modI (by decide)
  have h3 := lenS (a := stem) (by omega)
  have h4 : ∀ b : Bool, DL.intOp [.bool b] = some (.fr (.int (if b = true then 1 else 0))) := fun b => rfl
  simp only [envN, fAsg, fOp, fVar, fC, fCB, fCons, fNil, Res.bind, ofOpt, rds, rd, rd0, List.getElem?_cons_zero, List.getElem?_cons_succ, addI, h1, h2, h3, h4, neS ht ok_empty, put1, List.length_cons, List.length_nil, List.set_cons_succ, List.set_cons_zero]
  rfl
theorem body2 {c : List PyData} {n : PyData} {sh at' stp w : Int} {stem head tail : Str} {k : Nat} {y : Option Sl} {acc : List PyData} (w0 : 0 ≤ w) (w3 : w < 3) (hp : -(2 ^ 64) < stp) (hp2 : stp < 2 ^ 64) :
    fAsg 12 (fOp ixOp (fVar 2) (fOp modOp (fOp addOp (fVar 3) (fOp mulOp (fVar 7) (fOp ixOp (fLst (fCons (fVar 5) (fCons (fOp divOp (fVar 5) (fC (.int 2))) (fCons (fVar 5) fNil)))) (fVar 11)))) (fC (.int 26)))) (envN c n sh stem (some (.fr (.int k))) at' stp acc head tail (some (.fr (.int w))) y)
      = .ok .nx (envN c n sh stem (some (.fr (.int k))) at' stp acc head tail (some (.fr (.int w))) (some (.fr (.str (signOf sh stp (qOf w k)))))) := by
  have h1 : mulOp (.int stp) (.int (qOf w k)) = some (.fr (.int (stp * qOf w k))) := mulI (mulS1 hp hp2)
  have h2 : modOp (.int (sh + stp * qOf w k)) (.int 26) = some (.fr (.int ((sh + stp * qOf w k) % 26))) := modI (by decide)
  have h3 : divOp (.int (k : Int)) (.int 2) = some (.fr (.int ((k : Int) / 2))) := divI (by decide)
  have h4 := letters_ix (v := (sh + stp * qOf w k) % 26) (Int.emod_nonneg _ (by decide)) (Int.emod_lt_of_pos _ (by decide))
  have h5 : ixOp (.list [.int (k : Int), .int ((k : Int) / 2), .int (k : Int)]) (.int w) = some (.fr (.int (qOf w k))) := by
    have : w = 0 ∨ w = 1 ∨ w = 2 := by omega
    rcases this with rfl | rfl | rfl
    · rfl
    · rfl
    · rfl
  simp only [envN, fAsg, fOp, fLst, fVar, fC, fCons, fNil, Res.bind, ofOpt, rds, rd, rd0, Cn.rd, List.getElem?_cons_zero, List.getElem?_cons_succ, addI, h1, h2, h3, h4, h5, put1, List.length_cons, List.length_nil, List.set_cons_succ, List.set_cons_zero, fFz, frz, DL.frs, Nat.reduceAdd, Nat.reduceLeDiff, if_true, Nat.reduceLT]
  rfl
theorem body3 {c : List PyData} {n : PyData} {sh at' stp w : Int} {stem head tail sg : Str} {k : Nat} {acc : List PyData} (w0 : 0 ≤ w) (w3 : w < 3) (h1 : head.length ≤ 100) (h2 : tail.length ≤ 100) (h3 : sg.length = 1) (ha : acc.length < 100000) :
    fDrop (fAppend 8 (fOp addOp (fOp addOp (fVar 9) (fVar 12)) (fOp ixOp (fLst (fCons (fVar 10) (fCons (fOp mulOp (fVar 10) (fOp modOp (fVar 5) (fC (.int 2)))) (fCons (fSl (fVar 10) fNoPart (fPart (fOp modOp (fVar 5) (fOp addOp (fCB lenOp (fCons (fVar 10) fNil)) (fC (.int 1)))))) fNil)))) (fVar 11)))) (envN c n sh stem (some (.fr (.int k))) at' stp acc head tail (some (.fr (.int w))) (some (.fr (.str sg))))
      = .ok .nx (envN c n sh stem (some (.fr (.int k))) at' stp (acc ++ [.str (head ++ sg ++ sufOf tail w k)]) head tail (some (.fr (.int w))) (some (.fr (.str sg)))) := by
  have e1 : addOp (.str head) (.str sg) = some (.fr (.str (head ++ sg))) := addS (by omega)
  have e2 : modOp (.int (k : Int)) (.int 2) = some (.fr (.int ((k : Int) % 2))) := modI (by decide)
  have e3 : mulOp (.str tail) (.int ((k : Int) % 2)) = some (.fr (.str (if k % 2 = 0 then Str.empty else tail))) := by
    have : k % 2 = 0 ∨ k % 2 = 1 := by omega
    rcases this with h | h
    · rw [show ((k : Int) % 2) = 0 by omega, if_pos h]
      rfl
    · rw [show ((k : Int) % 2) = 1 by omega, if_neg (by omega)]
      rfl
  have e4 : modOp (.int (k : Int)) (.int ((tail.length : Int) + 1)) = some (.fr (.int ((k % (tail.length + 1) : Nat) : Int))) := by
    rw [modI (by omega)]
    congr 4
  have e5 := lenS (a := tail) (by omega)
  have e6 : slOp (.str tail) none (some ((k % (tail.length + 1) : Nat) : Int)) = some (.fr (.str (cutS tail none (some ((k % (tail.length + 1) : Nat) : Int))))) := by
    simp only [slOp]
    rw [if_pos (by omega)]
  have e7 : ixOp (.list [.str tail, .str (if k % 2 = 0 then Str.empty else tail), .str (cutS tail none (some ((k % (tail.length + 1) : Nat) : Int)))]) (.int w) = some (.fr (.str (sufOf tail w k))) := by
    have : w = 0 ∨ w = 1 ∨ w = 2 := by omega
    rcases this with rfl | rfl | rfl
    · rfl
    · rfl
    · rfl
  have l1 : (sufOf tail w k).length ≤ 100 := by
    unfold sufOf
    split
    · exact h2
    · split
      · split
        · exact Nat.zero_le _
        · exact h2
      · exact Nat.le_trans (cut_len _ _) h2
  have e8 : addOp (.str (head ++ sg)) (.str (sufOf tail w k)) = some (.fr (.str (head ++ sg ++ sufOf tail w k))) := addS (by rw [app_len]; omega)
  simp only [envN, fDrop, fAppend, fSl, fNoPart, fPart, fOp, fLst, fVar, fC, fCB, fCons, fNil, Res.bind, ofOpt, rds, rd, rd0, Cn.rd, List.getElem?_cons_zero, List.getElem?_cons_succ, addI, e1, e2, e3, e4, e5, e6, e7, e8, List.length_cons, List.length_nil, List.set_cons_succ, List.set_cons_zero, fFz, frz, DL.frs, Nat.reduceAdd, Nat.reduceLeDiff, if_true, Nat.reduceLT, Sl.own, Sl.put, if_pos ha]
end TX

namespace TX
open PySem PySem.Spec PyProof.Rows L2 RZ DL
def bodyN : Evn → Res Fl := fSeq (fAsg 11 (fOp mulOp (fOp modOp (fOp addOp (fOp addOp (fVar 3) (fVar 6)) (fCB lenOp (fCons (fVar 4) fNil))) (fC (.int 3))) (fCB DL.intOp (fCons (fOp (eqOp true) (fVar 10) (fC (.str ""))) fNil))))
    (fSeq (fAsg 12 (fOp ixOp (fVar 2) (fOp modOp (fOp addOp (fVar 3) (fOp mulOp (fVar 7) (fOp ixOp (fLst (fCons (fVar 5) (fCons (fOp divOp (fVar 5) (fC (.int 2))) (fCons (fVar 5) fNil)))) (fVar 11)))) (fC (.int 26)))))
    (fDrop (fAppend 8 (fOp addOp (fOp addOp (fVar 9) (fVar 12)) (fOp ixOp (fLst (fCons (fVar 10) (fCons (fOp mulOp (fVar 10) (fOp modOp (fVar 5) (fC (.int 2)))) (fCons (fSl (fVar 10) fNoPart (fPart (fOp modOp (fVar 5) (fOp addOp (fCB lenOp (fCons (fVar 10) fNil)) (fC (.int 1)))))) fNil)))) (fVar 11))))))
theorem bodyN_ok {c : List PyData} {n : PyData} {sh at' stp : Int} {stem head tail : Str} {k : Nat} {x y : Option Sl} {acc : List PyData} (hs : stem.length ≤ 100) (ht : PyData.strOk tail = true) (hp : -(2 ^ 64) < stp) (hp2 : stp < 2 ^ 64) (h1 : head.length ≤ 100) (h2 : tail.length ≤ 100) (ha : acc.length < 100000) :
    bodyN (envN c n sh stem (some (.fr (.int k))) at' stp acc head tail x y) = .ok .nx (envN c n sh stem (some (.fr (.int k))) at' stp (acc ++ [.str (nameOf sh stp head tail (wayOf sh at' stem tail) k)]) head tail (some (.fr (.int (wayOf sh at' stem tail)))) (some (.fr (.str (signOf sh stp (qOf (wayOf sh at' stem tail) k)))))) := by
  obtain ⟨w0, w3, _⟩ := way_lt (sh := sh) (at' := at') (stem := stem) (tail := tail)
  unfold bodyN
  rw [fSeq, body1 hs ht]
  simp only [Res.bind]
  rw [fSeq, body2 w0 w3 hp hp2]
  simp only [Res.bind]
  rw [body3 w0 w3 h1 h2 rfl ha]
  rfl
theorem loopN {c : List PyData} {n : PyData} {sh at' stp : Int} {stem head tail : Str} (hs : stem.length ≤ 100) (ht : PyData.strOk tail = true) (hp : -(2 ^ 64) < stp) (hp2 : stp < 2 ^ 64) (h1 : head.length ≤ 100) (h2 : tail.length ≤ 100) :
    ∀ (m i : Nat) (k5 x y : Option Sl) (acc : List PyData), acc.length + m < 100000 → ∃ k5' x' y', fLoop (gNm 5) bodyN ((List.range' i m).map fun (k : Nat) => PyData.int (k : Int)) (envN c n sh stem k5 at' stp acc head tail x y)
      = .ok .nx (envN c n sh stem k5' at' stp (acc ++ (List.range' i m).map fun k => .str (nameOf sh stp head tail (wayOf sh at' stem tail) k)) head tail x' y')
  | 0, i, k5, x, y, acc, _ => ⟨k5, x, y, by simp [fLoop]⟩
  | m + 1, i, k5, x, y, acc, ha => by
    obtain ⟨k5', x', y', e⟩ := loopN hs ht hp hp2 h1 h2 m (i + 1) (some (.fr (.int i))) (some (.fr (.int (wayOf sh at' stem tail)))) (some (.fr (.str (signOf sh stp (qOf (wayOf sh at' stem tail) i))))) (acc ++ [.str (nameOf sh stp head tail (wayOf sh at' stem tail) i)]) (by simp; omega)
    refine ⟨k5', x', y', ?_⟩
    rw [List.range'_succ, List.map_cons, fLoop]
    have eg : gNm 5 (.int (i : Int)) (envN c n sh stem k5 at' stp acc head tail x y) = some (envN c n sh stem (some (.fr (.int i))) at' stp acc head tail x y) := rfl
    rw [eg]
    simp only []
    rw [bodyN_ok hs ht hp hp2 h1 h2 (by omega)]
    simp only [Res.bind]
    rw [e, List.map_cons]
    simp
end TX

namespace TX
open PySem PySem.Spec PyProof.Rows L2 RZ DL
abbrev no7 : Evn := [none, none, none, none, none, none, none]
theorem stemA {c : List PyData} {N : PyData} {T : Int} (h : IsTape T c) (hT : T < 9000) : ∃ (sh : Int) (c' : List PyData),
    fPar [2, 3] (fCons (fC (.str letters)) (fCons (fCallT d__law_draw (fCons (fVar 0) (fCons (fC (.int 26)) fNil))) fNil)) (some (.io 0 (.lst c)) :: some (.fr N) :: none :: none :: none :: none :: no7)
      = .ok .nx (some (.io 0 (.lst c')) :: some (.fr N) :: some (.fr (.str letters)) :: some (.fr (.int sh)) :: none :: none :: no7) ∧ 0 ≤ sh ∧ sh < 26 ∧ IsTape (T + 1) c' := by
  obtain ⟨v, c1, e, v0, v1, h1⟩ := ev_draw (r := some (.fr N) :: none :: none :: none :: none :: no7) (f := fC (.int 26)) rfl h (by omega) (by decide) (by decide)
  refine ⟨v, c1, ?_, v0, v1, h1⟩
  simp only [fPar, fCons, fC, fNil, Res.bind] at e ⊢
  rw [e]
  rfl
theorem stemB {c : List PyData} {N S : PyData} {T : Int} (h : IsTape T c) (hT : T < 9000) : ∃ (stem : Str) (c' : List PyData),
    fAsg 4 (fM1 joinOp (fC (.str "")) (fLc [5] (fRange1 (fCons (fCallT d__law_draw (fCons (fVar 0) (fCons (fC (.int 8)) fNil))) fNil)) (gNm 5) (fun ρ => .ok true ρ) (fOp ixOp (fVar 2) (fCallT d__law_draw (fCons (fVar 0) (fCons (fC (.int 26)) fNil)))))) (some (.io 0 (.lst c)) :: some (.fr N) :: some (.fr (.str letters)) :: some (.fr S) :: none :: none :: no7)
      = .ok .nx (some (.io 0 (.lst c')) :: some (.fr N) :: some (.fr (.str letters)) :: some (.fr S) :: some (.fr (.str stem)) :: none :: no7) ∧ stem.length ≤ 8 ∧ PyData.strOk stem = true ∧ IsTape (T + 9) c' := by
  obtain ⟨v, c1, e, v0, v1, h1⟩ := ev_draw (r := some (.fr N) :: some (.fr (.str letters)) :: some (.fr S) :: none :: none :: no7) (f := fC (.int 8)) rfl h (by omega) (by decide) (by decide)
  have hl : (rng 0 v.toNat).length = v.toNat := by simp [rng]
  obtain ⟨cs, c2, e2, l2, l3, h2⟩ := stem_turns (N := N) (S := S) (r := no7) (rng 0 v.toNat) [] c1 (T + 1) h1 (by rw [hl]; omega)
  rw [hl] at l2 h2
  have hj : joinOp (.str "") (.list (cs.map PyData.str)) = some (.fr (.str (Txt.join "" cs))) := by
    have e0 : (("" : Str).length) = 0 := by decide +kernel
    simp only [joinOp, strsD_map]
    rw [sum_len cs fun s hs => (l3 s hs).1, e0, if_pos (by omega)]
  refine ⟨Txt.join "" cs, c2, ?_, ?_, ?_, h2.mono (by omega)⟩
  · have er : fRange1 (fCons (fCallT d__law_draw (fCons (fVar 0) (fCons (fC (.int 8)) fNil))) fNil) (some (.io 0 (.lst c)) :: some (.fr N) :: some (.fr (.str letters)) :: some (.fr S) :: none :: none :: no7) = .ok (rng 0 v.toNat) (some (.io 0 (.lst c1)) :: some (.fr N) :: some (.fr (.str letters)) :: some (.fr S) :: none :: none :: no7) := by
      rw [fRange1, fCons, e]
      simp only [fNil, Res.bind, rds, rd, rd0]
      rw [if_pos (by omega)]
    rw [fAsg, fM1]
    simp only [fC, Res.bind]
    rw [fLc, er]
    simp only [Res.bind]
    rw [if_pos ⟨by rw [hl]; omega, by simp⟩]
    have ew : wipeE (some (.io 0 (.lst c1)) :: some (.fr N) :: some (.fr (.str letters)) :: some (.fr S) :: none :: none :: no7) [5] = (some (.io 0 (.lst c1)) :: some (.fr N) :: some (.fr (.str letters)) :: some (.fr S) :: none :: none :: no7) := rfl
    rw [ew, e2]
    simp only [noExc, Res.bind, List.nil_append]
    simp only [rd, rd0, Cn.rd, hj, ofOpt, Res.bind]
    rfl
  · rw [TL.join_eq, join_len cs fun s hs => (l3 s hs).1]
    omega
  · rw [TL.join_eq]
    exact join_ok cs fun s hs => (l3 s hs).2
theorem stemC {c : List PyData} {N : PyData} {S : Int} {T : Int} {stem : Str} (h : IsTape T c) (hT : T < 9000) (hs : stem.length ≤ 8) : ∃ (at' stp : Int) (c' : List PyData),
    fPar [6, 7, 8] (fCons (fCallT d__law_draw (fCons (fVar 0) (fCons (fOp addOp (fCB lenOp (fCons (fVar 4) fNil)) (fC (.int 1))) fNil))) (fCons (fOp ixOp (fLst (fCons (fC (.int 1)) (fCons (fC (.int 7)) (fCons (fC (.int 25)) fNil)))) (fCallT d__law_draw (fCons (fVar 0) (fCons (fC (.int 3)) fNil)))) (fCons (fLst fNil) fNil))) (some (.io 0 (.lst c)) :: some (.fr N) :: some (.fr (.str letters)) :: some (.fr (.int S)) :: some (.fr (.str stem)) :: none :: no7)
      = .ok .nx (some (.io 0 (.lst c')) :: some (.fr N) :: some (.fr (.str letters)) :: some (.fr (.int S)) :: some (.fr (.str stem)) :: none :: some (.fr (.int at')) :: some (.fr (.int stp)) :: some (.ow (.lst [])) :: [none, none, none, none]) ∧ 0 ≤ at' ∧ at' ≤ stem.length ∧ (stp = 1 ∨ stp = 7 ∨ stp = 25) ∧ IsTape (T + 2) c' := by
  have e5 := lenS (a := stem) (by omega)
  obtain ⟨v, c1, e, v0, v1, h1⟩ := ev_draw (r := some (.fr N) :: some (.fr (.str letters)) :: some (.fr (.int S)) :: some (.fr (.str stem)) :: none :: no7) (f := fOp addOp (fCB lenOp (fCons (fVar 4) fNil)) (fC (.int 1))) (n := stem.length + 1) (by
    simp only [fOp, fCB, fCons, fVar, fC, fNil, Res.bind, ofOpt, rds, rd, rd0, List.getElem?_cons_zero, List.getElem?_cons_succ, e5, addI]) h (by omega) (by omega) (by omega)
  obtain ⟨u, c2, e2, u0, u1, h2⟩ := ev_draw (r := some (.fr N) :: some (.fr (.str letters)) :: some (.fr (.int S)) :: some (.fr (.str stem)) :: none :: no7) (f := fC (.int 3)) rfl h1 (by omega) (by decide) (by decide)
  have hu : ∃ stp : Int, ixOp (.list [.int 1, .int 7, .int 25]) (.int u) = some (.fr (.int stp)) ∧ (stp = 1 ∨ stp = 7 ∨ stp = 25) := by
    have : u = 0 ∨ u = 1 ∨ u = 2 := by omega
    rcases this with rfl | rfl | rfl
    · exact ⟨1, rfl, .inl rfl⟩
    · exact ⟨7, rfl, .inr (.inl rfl)⟩
    · exact ⟨25, rfl, .inr (.inr rfl)⟩
  obtain ⟨stp, hu1, hu2⟩ := hu
  refine ⟨v, stp, c2, ?_, v0, by omega, hu2, h2.mono (by omega)⟩
  have el : fLst (fCons (fC (.int 1)) (fCons (fC (.int 7)) (fCons (fC (.int 25)) fNil))) (some (.io 0 (.lst c1)) :: some (.fr N) :: some (.fr (.str letters)) :: some (.fr (.int S)) :: some (.fr (.str stem)) :: none :: no7) = .ok (.ow (.lst [.int 1, .int 7, .int 25])) (some (.io 0 (.lst c1)) :: some (.fr N) :: some (.fr (.str letters)) :: some (.fr (.int S)) :: some (.fr (.str stem)) :: none :: no7) := rfl
  rw [fPar, fCons, e]
  simp only [Res.bind]
  rw [fCons, fOp, el]
  simp only [Res.bind]
  rw [e2]
  simp only [Res.bind, rd, rd0, Cn.rd, hu1, ofOpt]
  rfl
theorem stemD {c : List PyData} {N : PyData} {S at' stp : Int} {stem : Str} (hs : stem.length ≤ 8) :
    fPar [9, 10] (fCons (fSl (fVar 4) fNoPart (fPart (fVar 6))) (fCons (fSl (fVar 4) (fPart (fVar 6)) fNoPart) fNil)) (some (.io 0 (.lst c)) :: some (.fr N) :: some (.fr (.str letters)) :: some (.fr (.int S)) :: some (.fr (.str stem)) :: none :: some (.fr (.int at')) :: some (.fr (.int stp)) :: some (.ow (.lst [])) :: [none, none, none, none])
      = .ok .nx (envN c N S stem none at' stp [] (cutS stem none (some at')) (cutS stem (some at') none) none none) := by
  have e1 : ∀ lo hi, slOp (.str stem) lo hi = some (.fr (.str (cutS stem lo hi))) := fun lo hi => by
    simp only [slOp]
    rw [if_pos (by omega)]
  simp only [fPar, fCons, fNil, fSl, fVar, fNoPart, fPart, Res.bind, List.getElem?_cons_zero, List.getElem?_cons_succ, rd, rd0, e1, ofOpt]
  rfl
/-- names: as many as asked, told by their places -/
theorem names_at {c : List PyData} {n : Nat} {T : Int} (h : IsTape T c) (hT : T < 8000) (hn : n ≤ 100) : ∃ (sh at' stp : Int) (stem : Str) (c' : List PyData),
    d__law_names (some (.lst c)) [.int n] = .ok (.ow (.lst ((List.range n).map fun k => .str (nameOf sh stp (cutS stem none (some at')) (cutS stem (some at') none) (wayOf sh at' stem (cutS stem (some at') none)) k)))) (some (.lst c')) ∧
    0 ≤ sh ∧ sh < 26 ∧ 0 ≤ at' ∧ at' ≤ stem.length ∧ (stp = 1 ∨ stp = 7 ∨ stp = 25) ∧ stem.length ≤ 8 ∧ PyData.strOk stem = true ∧ IsTape (T + 12) c' := by
  obtain ⟨sh, c1, eA, a0, a1, h1⟩ := stemA (N := .int n) h (by omega)
  obtain ⟨stem, c2, eB, b0, b1, h2⟩ := stemB (N := .int n) (S := .int sh) h1 (by omega)
  obtain ⟨at', stp, c3, eC, d0, d1, d2, h3⟩ := stemC (N := .int n) (S := sh) (stem := stem) h2 (by omega) b0
  have eD := stemD (c := c3) (N := .int n) (S := sh) (at' := at') (stp := stp) b0
  obtain ⟨k5, x, y, eE⟩ := loopN (c := c3) (n := .int n) (sh := sh) (at' := at') (stp := stp) (stem := stem) (head := cutS stem none (some at')) (tail := cutS stem (some at') none) (by omega) (ok_cut b1 _ _) (by omega) (by omega) (Nat.le_trans (cut_len _ _) (by omega)) (Nat.le_trans (cut_len _ _) (by omega)) n 0 none none none [] (by simp; omega)
  refine ⟨sh, at', stp, stem, c3, ?_, a0, a1, d0, d1, d2, b0, b1, h3.mono (by omega)⟩
  have er : rng 0 n = (List.range' 0 n).map fun (k : Nat) => PyData.int (k : Int) := by
    unfold rng
    rw [List.range_eq_range']
    exact List.map_congr_left fun k _ => by rw [Int.zero_add]
  have eF : fFor (fRange1 (fCons (fVar 1) fNil)) (gNm 5) bodyN (envN c3 (.int n) sh stem none at' stp [] (cutS stem none (some at')) (cutS stem (some at') none) none none) = .ok .nx (envN c3 (.int n) sh stem k5 at' stp ((List.range n).map fun k => .str (nameOf sh stp (cutS stem none (some at')) (cutS stem (some at') none) (wayOf sh at' stem (cutS stem (some at') none)) k)) (cutS stem none (some at')) (cutS stem (some at') none) x y) := by
    rw [fFor, fRange1]
    simp only [fCons, fVar, fNil, Res.bind, List.getElem?_cons_zero, List.getElem?_cons_succ, rds, rd, rd0]
    rw [if_pos (by omega)]
    simp only [Res.bind, Int.toNat_natCast]
    rw [er, eE, List.range_eq_range']
    simp
  show finR (some (.lst c)) (g__law_names (some (.io 0 (.lst c)) :: some (.fr (.int n)) :: none :: none :: none :: none :: no7)) = _
  unfold g__law_names
  rw [fSeq, eA]
  simp only [Res.bind]
  rw [fSeq, eB]
  simp only [Res.bind]
  rw [fSeq, eC]
  simp only [Res.bind]
  rw [fSeq, eD]
  simp only [Res.bind]
  have eG := eF
  unfold bodyN at eG
  rw [fSeq, eG]
  rfl
end TX

namespace TX
open PySem PySem.Spec PyProof.Rows L2 RZ DL
theorem app_list (a b : Str) : (a ++ b).cps.toList = a.cps.toList ++ b.cps.toList := Array.toList_append
theorem str_ext {a b : Str} (h : a.cps.toList = b.cps.toList) : a = b := by
  cases a
  cases b
  exact congrArg Str.mk (Array.toList_inj.mp h)
theorem name_inj {sh stp w : Int} {head tail : Str} {i j : Nat} (hs : 0 ≤ sh) (hp : stp = 1 ∨ stp = 7 ∨ stp = 25) (w0 : 0 ≤ w) (w3 : w < 3) (ht : tail = "" → w = 0) (hi : i < 26) (hj : j < 26) (e : nameOf sh stp head tail w i = nameOf sh stp head tail w j) : i = j := by
  have e := congrArg (fun s : Str => s.cps.toList) e
  simp only [nameOf, app_list, List.append_assoc] at e
  have e := List.append_cancel_left e
  have eS : ∀ q, (signOf sh stp q).cps.toList = [97 + ((sh + stp * q) % 26).toNat] := fun q => rfl
  rw [eS, eS] at e
  obtain ⟨e1, e2⟩ := List.cons_eq_cons.mp (show (97 + ((sh + stp * qOf w i) % 26).toNat) :: (sufOf tail w i).cps.toList = (97 + ((sh + stp * qOf w j) % 26).toNat) :: (sufOf tail w j).cps.toList from e)
  have m1 := Int.emod_nonneg (sh + stp * qOf w i) (show (26 : Int) ≠ 0 by decide)
  have m2 := Int.emod_nonneg (sh + stp * qOf w j) (show (26 : Int) ≠ 0 by decide)
  have e3 : (sh + stp * qOf w i) % 26 = (sh + stp * qOf w j) % 26 := by omega
  by_cases hw : w = 1
  · subst hw
    have q1 : qOf 1 i = ((i / 2 : Nat) : Int) := rfl
    have q2 : qOf 1 j = ((j / 2 : Nat) : Int) := rfl
    rw [q1, q2] at e3
    have e4 : i / 2 = j / 2 := by
      rcases hp with rfl | rfl | rfl <;> omega
    have hne : tail ≠ "" := fun z => by have := ht z; omega
    have hne2 : tail.cps.toList ≠ [] := fun z => hne (str_ext (by rw [z]; decide +kernel))
    have s1 : ∀ k, sufOf tail 1 k = if k % 2 = 0 then Str.empty else tail := fun k => rfl
    rw [s1, s1] at e2
    by_cases h1 : i % 2 = 0
    · by_cases h2 : j % 2 = 0
      · omega
      · rw [if_pos h1, if_neg h2] at e2
        exact absurd e2.symm hne2
    · by_cases h2 : j % 2 = 0
      · rw [if_neg h1, if_pos h2] at e2
        exact absurd e2 hne2
      · omega
  · have q : ∀ k, qOf w k = (k : Int) := fun k => if_neg hw
    rw [q, q] at e3
    rcases hp with rfl | rfl | rfl <;> omega
theorem name_ok {sh stp w : Int} {head tail : Str} {k : Nat} (h1 : head.length ≤ 8) (h2 : tail.length ≤ 8) (o1 : PyData.strOk head = true) (o2 : PyData.strOk tail = true) : (nameOf sh stp head tail w k).length ≤ 17 ∧ PyData.strOk (nameOf sh stp head tail w k) = true := by
  have l : (sufOf tail w k).length ≤ 8 ∧ PyData.strOk (sufOf tail w k) = true := by
    unfold sufOf
    split
    · exact ⟨h2, o2⟩
    · split
      · split
        · exact ⟨Nat.zero_le _, by decide +kernel⟩
        · exact ⟨h2, o2⟩
      · exact ⟨Nat.le_trans (cut_len _ _) h2, ok_cut o2 _ _⟩
  have hs : (signOf sh stp (qOf w k)).length = 1 := rfl
  have os : PyData.strOk (signOf sh stp (qOf w k)) = true := by
    have m1 := Int.emod_nonneg (sh + stp * qOf w k) (show (26 : Int) ≠ 0 by decide)
    have m2 := Int.emod_lt_of_pos (sh + stp * qOf w k) (show (0 : Int) < 26 by decide)
    simp [PyData.strOk, signOf]
    omega
  unfold nameOf
  exact ⟨by rw [app_len, app_len, hs]; omega, ok_app (ok_app o1 os) l.2⟩
theorem names_ok {c : List PyData} {n : Nat} {T : Int} (h : IsTape T c) (hT : T < 8000) (hn : n ≤ 26) : ∃ (ns : List Str) (c' : List PyData),
    d__law_names (some (.lst c)) [.int n] = .ok (.ow (.lst (ns.map PyData.str))) (some (.lst c')) ∧ ns.length = n ∧ ns.Nodup ∧ (∀ s ∈ ns, s.length ≤ 17 ∧ PyData.strOk s = true) ∧ IsTape (T + 12) c' := by
  obtain ⟨sh, at', stp, stem, c', e, a0, a1, b0, b1, hp, d0, d1, ht⟩ := names_at h hT (show n ≤ 100 by omega)
  refine ⟨(List.range n).map fun k => nameOf sh stp (cutS stem none (some at')) (cutS stem (some at') none) (wayOf sh at' stem (cutS stem (some at') none)) k, c', ?_, by simp, ?_, ?_, ht⟩
  · rw [e, List.map_map]
    rfl
  · obtain ⟨w0, w3, w4⟩ := way_lt (sh := sh) (at' := at') (stem := stem) (tail := cutS stem (some at') none)
    rw [List.nodup_iff_pairwise_ne, List.pairwise_map]
    refine List.Pairwise.imp_of_mem ?_ (List.nodup_iff_pairwise_ne.mp List.nodup_range)
    intro i j hi hj hne e2
    rw [List.mem_range] at hi hj
    exact hne (name_inj a0 hp w0 w3 w4 (by omega) (by omega) e2)
  · intro s hs
    obtain ⟨k, _, rfl⟩ := List.mem_map.mp hs
    exact name_ok (Nat.le_trans (cut_len _ _) d0) (Nat.le_trans (cut_len _ _) d0) (ok_cut d1 _ _) (ok_cut d1 _ _)
end TX

namespace TX
open PySem PySem.Spec PyProof.Rows L2 RZ DL
/-! ### comprehensions and loops that leave the slots as they are -/
theorem turns_ok {ks : List Nat} {g : PyData → Evn → Option Evn} {c : Evn → Res Bool} {f : Evn → Res Sl} {ρ0 : Evn} (p : PyData → Bool) (h : PyData → PyData) : ∀ (ds acc : List PyData),
    (∀ d ∈ ds, ∃ ρ1, g d ρ0 = some ρ1 ∧ ∃ ρ2, c ρ1 = .ok (p d) ρ2 ∧ (p d = true → ∃ ρ3, fFz f ρ2 = .ok (.fr (h d)) ρ3 ∧ wipeE ρ3 ks = ρ0) ∧ (p d = false → wipeE ρ2 ks = ρ0)) → fTurns ks g c f ds acc ρ0 = .ok (acc ++ (ds.filter p).map h) ρ0
  | [], acc, _ => by simp [fTurns]
  | d :: ds, acc, H => by
    obtain ⟨ρ1, e1, ρ2, e2, e3, e4⟩ := H d List.mem_cons_self
    rw [fTurns, e1]
    simp only []
    rw [e2]
    simp only [Res.bind]
    cases hp : p d with
    | true =>
      obtain ⟨ρ3, e5, e6⟩ := e3 hp
      simp only [if_true]
      rw [e5]
      simp only []
      rw [e6, turns_ok p h ds _ fun d hd => H d (List.mem_cons_of_mem _ hd), List.filter_cons_of_pos hp]
      simp
    | false =>
      simp only [Bool.false_eq_true, if_false]
      rw [e4 hp, turns_ok p h ds _ fun d hd => H d (List.mem_cons_of_mem _ hd), List.filter_cons_of_neg (by simp [hp])]
theorem lc_ok {ks : List Nat} {it : Evn → Res (List PyData)} {g : PyData → Evn → Option Evn} {c : Evn → Res Bool} {f : Evn → Res Sl} {ρ ρ1 ρ0 : Evn} {ds : List PyData} (p : PyData → Bool) (h : PyData → PyData) (ei : it ρ = .ok ds ρ1) (hz : ds.length ≤ 100000) (hk : ∀ k ∈ ks, k < ρ1.length) (ew : wipeE ρ1 ks = ρ0)
    (H : ∀ d ∈ ds, ∃ ρ1, g d ρ0 = some ρ1 ∧ ∃ ρ2, c ρ1 = .ok (p d) ρ2 ∧ (p d = true → ∃ ρ3, fFz f ρ2 = .ok (.fr (h d)) ρ3 ∧ wipeE ρ3 ks = ρ0) ∧ (p d = false → wipeE ρ2 ks = ρ0)) :
    fLc ks it g c f ρ = .ok (.ow (.lst ((ds.filter p).map h))) (backE ρ1 ρ0 ks) := by
  rw [fLc, ei]
  simp only [Res.bind]
  rw [if_pos ⟨hz, hk⟩, ew, turns_ok p h ds [] H]
  simp only [noExc, Res.bind, List.nil_append]
/-! ### texts -/
def mem (x : Str) (ys : List Str) : Bool := ys.any fun y => y == x
theorem inD_strs (x : Str) : ∀ ys : List Str, inD (.str x) (ys.map PyData.str) = mem x ys := by
  intro ys
  unfold inD mem
  rw [List.any_map]
  rfl
theorem flat_strs (ys : List Str) : (ys.map PyData.str).all flatD = true := by
  rw [List.all_map]
  exact List.all_eq_true.mpr fun _ _ => rfl
theorem in_list {neg : Bool} {x : Str} {ys : List Str} : inOp neg (.str x) (.list (ys.map PyData.str)) = some (.fr (.bool (if neg then !mem x ys else mem x ys))) := by
  simp only [inOp, inD_strs, flat_strs]
  cases neg <;> rfl
theorem in_tup {neg : Bool} {x : Str} {ys : List Str} : inOp neg (.str x) (.tuple (ys.map PyData.str)) = some (.fr (.bool (if neg then !mem x ys else mem x ys))) := by
  simp only [inOp, inD_strs, flat_strs]
  cases neg <;> rfl
theorem bools_map : ∀ bs : List Bool, bools (bs.map PyData.bool) = some bs
  | [] => rfl
  | b :: bs => by simp [bools, bools_map bs]
theorem filt_true {α : Type} (l : List α) : l.filter (fun _ => true) = l := List.filter_eq_self.mpr fun _ _ => rfl
def within (one other : List Str) : Bool := one.all fun x => mem x other
/-- a list or a tuple of texts -/
def IsSeq (v : PyData) (xs : List Str) : Prop := v = .list (xs.map PyData.str) ∨ v = .tuple (xs.map PyData.str)
theorem in_seq {neg : Bool} {x : Str} {v : PyData} {ys : List Str} (h : IsSeq v ys) : inOp neg (.str x) v = some (.fr (.bool (if neg then !mem x ys else mem x ys))) := by
  rcases h with rfl | rfl
  · exact in_list
  · exact in_tup
theorem iter_seq {v : PyData} {xs : List Str} {i : Nat} {ρ : Evn} (h : IsSeq v xs) (e : ρ[i]? = some (some (.fr v))) : fIterS (fVar i) ρ = .ok (xs.map PyData.str) ρ := by
  rcases h with rfl | rfl <;> simp [fIterS, fFz, fVar, e, Res.bind, frz, asS]
theorem within_ok {v w : PyData} {xs ys : List Str} (hv : IsSeq v xs) (hw : IsSeq w ys) (hz : xs.length ≤ 100000) : d_is_within none [v, w] = .ok (.fr (.bool (within xs ys))) none := by
  show finR none (g_is_within [some (.fr v), some (.fr w), none]) = _
  have e := lc_ok (ks := [2]) (it := fIterS (fVar 0)) (g := gNm 2) (c := fun ρ => .ok true ρ) (f := fOp (inOp false) (fVar 2) (fVar 1)) (ρ := [some (.fr v), some (.fr w), none]) (ds := xs.map PyData.str) (fun _ => true) (fun d => match d with | .str x => .bool (mem x ys) | _ => .none) (iter_seq hv rfl) (by rw [List.length_map]; exact hz) (by simp) rfl (fun d hd => by
    obtain ⟨x, _, rfl⟩ := List.mem_map.mp hd
    refine ⟨_, rfl, _, rfl, fun _ => ⟨[some (.fr v), some (.fr w), some (.fr (.str x))], ?_, rfl⟩, fun z => (by cases z)⟩
    simp [wipeE, fFz, fOp, fVar, Res.bind, rd, rd0, in_seq hw, ofOpt, frz])
  rw [g_is_within, fRet, fCB, fCons, e]
  have em : ((xs.map PyData.str).filter fun _ => true).map (fun d => match d with | .str x => PyData.bool (mem x ys) | _ => .none) = (xs.map fun x => mem x ys).map PyData.bool := by
    rw [filt_true, List.map_map, List.map_map]
    rfl
  rw [em]
  simp only [fNil, Res.bind, rds, rd, rd0, Cn.rd, allOp, bools_map, Option.map, ofOpt, finR, finC, retS]
  simp [within]
end TX

namespace TX
open PySem PySem.Spec PyProof.Rows L2 RZ DL
abbrev Orch := List (Str × List (List Str))
def encL (ls : List (List Str)) : PyData := .tuple (ls.map fun l => .tuple (l.map .str))
def encF (p : Str × List (List Str)) : PyData := .tuple [.str p.1, encL p.2]
def encO (o : Orch) : PyData := .tuple (o.map encF)
structure SmallO (o : Orch) : Prop where
  n : o.length ≤ 1000
  m : ∀ p ∈ o, p.2.length ≤ 1000 ∧ ∀ l ∈ p.2, l.length ≤ 1000
theorem SmallO.tail {p : Str × List (List Str)} {o : Orch} (h : SmallO (p :: o)) : SmallO o := ⟨by have := h.n; simp at this; omega, fun q hq => h.m q (List.mem_cons_of_mem _ hq)⟩
/-! ### fruits_of, look_fruit -/
theorem fruits_ok {o : Orch} (h : SmallO o) : d_fruits_of none [encO o] = .ok (.ow (.lst ((o.map (·.1)).map PyData.str))) none := by
  have hn := h.n
  have e := lc_ok (ks := [1]) (it := fIterS (fVar 0)) (g := gNm 1) (c := fun ρ => .ok true ρ) (f := fOp ixOp (fVar 1) (fC (.int 0))) (ρ := [some (.fr (encO o)), none]) (ρ0 := [some (.fr (encO o)), none]) (ρ1 := [some (.fr (encO o)), none]) (ds := o.map encF) (fun _ => true) (fun d => match d with | .tuple (x :: _) => x | _ => .none)
    (by simp [fIterS, fFz, fVar, Res.bind, frz, encO, asS]) (by rw [List.length_map]; omega) (by simp) rfl (fun d hd => by
      obtain ⟨p, _, rfl⟩ := List.mem_map.mp hd
      exact ⟨_, rfl, _, rfl, fun _ => ⟨[some (.fr (encO o)), some (.fr (encF p))], rfl, rfl⟩, fun z => (by cases z)⟩)
  show finR none (g_fruits_of [some (.fr (encO o)), none]) = _
  rw [g_fruits_of, fRet, e, filt_true, List.map_map, List.map_map]
  rfl
theorem noLsts_str : ∀ xs : List Str, noLsts (xs.map PyData.str) = true
  | [] => rfl
  | x :: xs => by simp [noLsts, noLst, noLsts_str xs]
theorem look_ok {o : Orch} {f : Str} (h : SmallO o) (hf : mem f (o.map (·.1)) = true) : d_look_fruit none [encO o, .str f] = .ok (.fr .none) none := by
  have e := fruits_ok h
  show finR none (g_look_fruit [some (.fr (encO o)), some (.fr (.str f))]) = _
  simp [g_look_fruit, fIfS, fTest, fOp, fVar, fCallV, fCons, fNil, Res.bind, callV, rds, rd, rd0, e, allFr, isFr, Cn.rd, in_list (neg := true), hf, ofOpt, asB, fNext, finR, finC, noLsts_str, -List.map_map]
/-! ### ripe -/
def anyIn (lots : List (List Str)) (gone : List Str) : Bool := lots.any fun l => within l gone
theorem lots_ok {O G : PyData} {A x3 : Option Sl} {lots : List (List Str)} {gone : List Str} (hG : IsSeq G gone) (h1 : lots.length ≤ 1000) (h2 : ∀ l ∈ lots, l.length ≤ 1000) :
    fCB anyOp (fCons (fLc [5] (fIterS (fVar 4)) (gNm 5) (fun ρ => .ok true ρ) (fCallV d_is_within (fCons (fVar 5) (fCons (fVar 1) fNil)))) fNil) [some (.fr O), some (.fr G), A, x3, some (.fr (encL lots)), none] = .ok (.fr (.bool (anyIn lots gone))) [some (.fr O), some (.fr G), A, x3, some (.fr (encL lots)), none] := by
  have e := lc_ok (ks := [5]) (it := fIterS (fVar 4)) (g := gNm 5) (c := fun ρ => .ok true ρ) (f := fCallV d_is_within (fCons (fVar 5) (fCons (fVar 1) fNil))) (ρ := [some (.fr O), some (.fr G), A, x3, some (.fr (encL lots)), none]) (ρ0 := [some (.fr O), some (.fr G), A, x3, some (.fr (encL lots)), none]) (ρ1 := [some (.fr O), some (.fr G), A, x3, some (.fr (encL lots)), none])
    (ds := lots.map fun l => .tuple (l.map .str)) (fun _ => true) (fun d => match d with | .tuple xs => (match strsD xs with | some zs => .bool (within zs gone) | none => .none) | _ => .none)
    (by simp [fIterS, fFz, fVar, Res.bind, frz, encL, asS]) (by rw [List.length_map]; omega) (by simp) rfl (fun d hd => by
      obtain ⟨l, hl, rfl⟩ := List.mem_map.mp hd
      refine ⟨_, rfl, _, rfl, fun _ => ⟨[some (.fr O), some (.fr G), A, x3, some (.fr (encL lots)), some (.fr (.tuple (l.map .str)))], ?_, rfl⟩, fun z => (by cases z)⟩
      have := within_ok (v := .tuple (l.map .str)) (w := G) (.inr rfl) hG (by have := h2 l hl; omega)
      simp [fFz, fCallV, fCons, fVar, fNil, Res.bind, callV, rds, rd, rd0, this, allFr, isFr, frz, strsD_map])
  rw [fCB, fCons, e, filt_true, List.map_map]
  have em : lots.map ((fun d => match d with | .tuple xs => (match strsD xs with | some zs => PyData.bool (within zs gone) | none => .none) | _ => .none) ∘ fun l => PyData.tuple (l.map .str)) = (lots.map fun l => within l gone).map PyData.bool := by
    rw [List.map_map]
    exact List.map_congr_left fun l _ => by simp [strsD_map]
  rw [em]
  simp only [fNil, Res.bind, rds, rd, rd0, Cn.rd, anyOp, bools_map, Option.map, ofOpt]
  simp [anyIn, backE]
def ripeP (o : Orch) (gone : List Str) : List Str := (o.filter fun p => !mem p.1 gone && anyIn p.2 gone).map (·.1)
theorem ripe_loop {O G : PyData} {gone : List Str} (hG : IsSeq G gone) : ∀ (o : Orch) (acc : List PyData) (x y : Option Sl), SmallO o → acc.length + o.length ≤ 2000 → ∃ x' y',
    fLoop (gSeqF 2 (gConsF (gNm 3) (gConsF (gNm 4) gNilF))) (fIfS (fAnd (fTest (fOp (inOp true) (fVar 3) (fVar 1))) (fTest (fCB anyOp (fCons (fLc [5] (fIterS (fVar 4)) (gNm 5) (fun ρ => .ok true ρ) (fCallV d_is_within (fCons (fVar 5) (fCons (fVar 1) fNil)))) fNil)))) (fDrop (fAppend 2 (fVar 3))) fNext) (o.map encF) [some (.fr O), some (.fr G), some (.ow (.lst acc)), x, y, none]
      = .ok .nx [some (.fr O), some (.fr G), some (.ow (.lst (acc ++ (ripeP o gone).map PyData.str))), x', y', none]
  | [], acc, x, y, _, _ => ⟨x, y, by simp [fLoop, ripeP]⟩
  | p :: o, acc, x, y, h, ha => by
    have hp := h.m p List.mem_cons_self
    have hl := lots_ok (O := O) (A := some (.ow (.lst acc))) (x3 := some (.fr (.str p.1))) hG hp.1 hp.2
    have hlen : acc.length < 100000 := by simp at ha; omega
    rw [List.map_cons, fLoop]
    have eg : gSeqF 2 (gConsF (gNm 3) (gConsF (gNm 4) gNilF)) (encF p) [some (.fr O), some (.fr G), some (.ow (.lst acc)), x, y, none] = some [some (.fr O), some (.fr G), some (.ow (.lst acc)), some (.fr (.str p.1)), some (.fr (encL p.2)), none] := rfl
    rw [eg]
    simp only []
    rw [fIfS, fAnd]
    have e1 : fTest (fOp (inOp true) (fVar 3) (fVar 1)) [some (.fr O), some (.fr G), some (.ow (.lst acc)), some (.fr (.str p.1)), some (.fr (encL p.2)), none] = .ok (!mem p.1 gone) [some (.fr O), some (.fr G), some (.ow (.lst acc)), some (.fr (.str p.1)), some (.fr (encL p.2)), none] := by
      simp [fTest, fOp, fVar, Res.bind, rd, rd0, in_seq hG, ofOpt, asB]
    have e2 : fTest (fCB anyOp (fCons (fLc [5] (fIterS (fVar 4)) (gNm 5) (fun ρ => .ok true ρ) (fCallV d_is_within (fCons (fVar 5) (fCons (fVar 1) fNil)))) fNil)) [some (.fr O), some (.fr G), some (.ow (.lst acc)), some (.fr (.str p.1)), some (.fr (encL p.2)), none] = .ok (anyIn p.2 gone) [some (.fr O), some (.fr G), some (.ow (.lst acc)), some (.fr (.str p.1)), some (.fr (encL p.2)), none] := by
      rw [fTest, hl]
      rfl
    have e3 : fDrop (fAppend 2 (fVar 3)) [some (.fr O), some (.fr G), some (.ow (.lst acc)), some (.fr (.str p.1)), some (.fr (encL p.2)), none] = .ok .nx [some (.fr O), some (.fr G), some (.ow (.lst (acc ++ [.str p.1]))), some (.fr (.str p.1)), some (.fr (encL p.2)), none] := by
      simp [fDrop, fAppend, fFz, fVar, Res.bind, frz, Sl.own, Sl.put, hlen]
    rw [e1]
    simp only [Res.bind]
    cases hm : mem p.1 gone with
    | true =>
      simp only [Bool.not_true, Bool.false_eq_true, if_false, fNext]
      obtain ⟨x', y', e⟩ := ripe_loop hG o acc (some (.fr (.str p.1))) (some (.fr (encL p.2))) h.tail (by simp at ha; omega)
      refine ⟨x', y', ?_⟩
      rw [e, ripeP, ripeP, List.filter_cons_of_neg (by simp [hm])]
    | false =>
      simp only [Bool.not_false, if_true]
      rw [e2]
      simp only [Res.bind]
      cases ha2 : anyIn p.2 gone with
      | false =>
        simp only [Bool.false_eq_true, if_false, fNext]
        obtain ⟨x', y', e⟩ := ripe_loop hG o acc (some (.fr (.str p.1))) (some (.fr (encL p.2))) h.tail (by simp at ha; omega)
        refine ⟨x', y', ?_⟩
        rw [e, ripeP, ripeP, List.filter_cons_of_neg (by simp [ha2])]
      | true =>
        simp only [if_true]
        rw [e3]
        simp only []
        obtain ⟨x', y', e⟩ := ripe_loop hG o (acc ++ [.str p.1]) (some (.fr (.str p.1))) (some (.fr (encL p.2))) h.tail (by simp at ha ⊢; omega)
        refine ⟨x', y', ?_⟩
        rw [e, ripeP, ripeP, List.filter_cons_of_pos (by simp [hm, ha2])]
        simp
theorem ripe_ok {o : Orch} {G : PyData} {gone : List Str} (h : SmallO o) (hG : IsSeq G gone) : d_ripe none [encO o, G] = .ok (.ow (.lst ((ripeP o gone).map PyData.str))) none := by
  obtain ⟨x', y', e⟩ := ripe_loop (O := encO o) hG o [] none none h (by have := h.n; simp; omega)
  show finR none (g_ripe [some (.fr (encO o)), some (.fr G), none, none, none, none]) = _
  have e0 : fAsg 2 (fLst fNil) [some (.fr (encO o)), some (.fr G), none, none, none, none] = .ok .nx [some (.fr (encO o)), some (.fr G), some (.ow (.lst [])), none, none, none] := rfl
  have ei : fIterS (fVar 0) [some (.fr (encO o)), some (.fr G), some (.ow (.lst [])), none, none, none] = .ok (o.map encF) [some (.fr (encO o)), some (.fr G), some (.ow (.lst [])), none, none, none] := by simp [fIterS, fFz, fVar, Res.bind, frz, encO, asS]
  rw [g_ripe, fSeq, e0]
  simp only [Res.bind]
  rw [fSeq, fFor, ei]
  simp only [Res.bind]
  rw [e]
  rfl
end TX

namespace TX
open PySem PySem.Spec PyProof.Rows L2 RZ DL
/-! ### is_ripe -/
def OkO (o : Orch) : Prop := ∀ p ∈ o, PyData.strOk p.1 = true
def ripeBits (o : Orch) (f : Str) (gone : List Str) : List Bool := o.flatMap fun p => if p.1 == f then p.2.map fun l => within l gone else []
theorem is_turns {O G : PyData} {f : Str} {gone : List Str} (hG : IsSeq G gone) (hf : PyData.strOk f = true) : ∀ (o : Orch) (acc : List PyData), SmallO o → OkO o → acc.length + 1000 * o.length ≤ 10000 →
    fTurns2 [3, 4, 5] (gSeqF 2 (gConsF (gNm 3) (gConsF (gNm 4) gNilF))) (fTest (fOp (eqOp false) (fVar 3) (fVar 1))) (fIterS (fVar 4)) [5] (gNm 5) (fun ρ => .ok true ρ) (fCallV d_is_within (fCons (fVar 5) (fCons (fVar 2) fNil))) (o.map encF) acc [some (.fr O), some (.fr (.str f)), some (.fr G), none, none, none]
      = .ok (acc ++ (ripeBits o f gone).map PyData.bool) [some (.fr O), some (.fr (.str f)), some (.fr G), none, none, none]
  | [], acc, _, _, _ => by simp [fTurns2, ripeBits]
  | p :: o, acc, h, hk, ha => by
    have hp := h.m p List.mem_cons_self
    have e1 : fTest (fOp (eqOp false) (fVar 3) (fVar 1)) [some (.fr O), some (.fr (.str f)), some (.fr G), some (.fr (.str p.1)), some (.fr (encL p.2)), none] = .ok (p.1 == f) [some (.fr O), some (.fr (.str f)), some (.fr G), some (.fr (.str p.1)), some (.fr (encL p.2)), none] := by
      simp [fTest, fOp, fVar, Res.bind, rd, rd0, eqS (hk p List.mem_cons_self) hf, ofOpt, asB]
    have eg : gSeqF 2 (gConsF (gNm 3) (gConsF (gNm 4) gNilF)) (encF p) [some (.fr O), some (.fr (.str f)), some (.fr G), none, none, none] = some [some (.fr O), some (.fr (.str f)), some (.fr G), some (.fr (.str p.1)), some (.fr (encL p.2)), none] := rfl
    rw [List.map_cons, fTurns2, eg]
    simp only []
    rw [e1]
    simp only [Res.bind]
    have hlen : ∀ acc' : List PyData, acc'.length ≤ acc.length + 1000 → acc'.length + 1000 * o.length ≤ 10000 := fun acc' h => by simp at ha; omega
    cases hb : (p.1 == f) with
    | false =>
      simp only [Bool.false_eq_true, if_false]
      have ew : wipeE [some (.fr O), some (.fr (.str f)), some (.fr G), some (.fr (.str p.1)), some (.fr (encL p.2)), none] [3, 4, 5] = [some (.fr O), some (.fr (.str f)), some (.fr G), none, none, none] := rfl
      rw [ew, is_turns hG hf o acc h.tail (fun q hq => hk q (List.mem_cons_of_mem _ hq)) (hlen acc (by omega))]
      rw [ripeBits, ripeBits, List.flatMap_cons, hb]
      simp
    | true =>
      simp only [if_true]
      have ei : fIterS (fVar 4) [some (.fr O), some (.fr (.str f)), some (.fr G), some (.fr (.str p.1)), some (.fr (encL p.2)), none] = .ok (p.2.map fun l => .tuple (l.map .str)) [some (.fr O), some (.fr (.str f)), some (.fr G), some (.fr (.str p.1)), some (.fr (encL p.2)), none] := by simp [fIterS, fFz, fVar, Res.bind, frz, encL, asS]
      rw [ei]
      simp only []
      rw [if_pos ⟨by rw [List.length_map]; simp at ha; have := hp.1; omega, by simp⟩]
      have et := turns_ok (ks := [5]) (g := gNm 5) (c := fun ρ => .ok true ρ) (f := fCallV d_is_within (fCons (fVar 5) (fCons (fVar 2) fNil))) (ρ0 := [some (.fr O), some (.fr (.str f)), some (.fr G), some (.fr (.str p.1)), some (.fr (encL p.2)), none]) (fun _ => true) (fun d => match d with | .tuple xs => (match strsD xs with | some zs => .bool (within zs gone) | none => .none) | _ => .none)
        (p.2.map fun l => .tuple (l.map .str)) acc (fun d hd => by
          obtain ⟨l, hl, rfl⟩ := List.mem_map.mp hd
          refine ⟨_, rfl, _, rfl, fun _ => ⟨[some (.fr O), some (.fr (.str f)), some (.fr G), some (.fr (.str p.1)), some (.fr (encL p.2)), some (.fr (.tuple (l.map .str)))], ?_, rfl⟩, fun z => (by cases z)⟩
          have := within_ok (v := .tuple (l.map .str)) (w := G) (.inr rfl) hG (by have := hp.2 l hl; omega)
          simp [fFz, fCallV, fCons, fVar, fNil, Res.bind, callV, rds, rd, rd0, this, allFr, isFr, frz, strsD_map])
      have ew : wipeE [some (.fr O), some (.fr (.str f)), some (.fr G), some (.fr (.str p.1)), some (.fr (encL p.2)), none] [5] = [some (.fr O), some (.fr (.str f)), some (.fr G), some (.fr (.str p.1)), some (.fr (encL p.2)), none] := rfl
      have ew2 : wipeE [some (.fr O), some (.fr (.str f)), some (.fr G), some (.fr (.str p.1)), some (.fr (encL p.2)), none] [3, 4, 5] = [some (.fr O), some (.fr (.str f)), some (.fr G), none, none, none] := rfl
      have em : ((p.2.map fun l => PyData.tuple (l.map .str)).filter fun _ => true).map (fun d => match d with | .tuple xs => (match strsD xs with | some zs => PyData.bool (within zs gone) | none => .none) | _ => .none) = (p.2.map fun l => within l gone).map PyData.bool := by
        rw [filt_true, List.map_map, List.map_map]
        exact List.map_congr_left fun l _ => by simp [strsD_map]
      rw [em] at et
      rw [ew, et]
      simp only []
      rw [ew2, is_turns hG hf o _ h.tail (fun q hq => hk q (List.mem_cons_of_mem _ hq)) (hlen _ (by simp; have := hp.1; omega))]
      rw [ripeBits, ripeBits, List.flatMap_cons, hb]
      simp
def isRipeP (o : Orch) (f : Str) (gone : List Str) : Bool := (ripeBits o f gone).any id
theorem isripe_ok {o : Orch} {G : PyData} {f : Str} {gone : List Str} (h : SmallO o) (h9 : o.length ≤ 9) (hk : OkO o) (hG : IsSeq G gone) (hf : PyData.strOk f = true) (hm : mem f (o.map (·.1)) = true) : d_is_ripe none [encO o, .str f, G] = .ok (.fr (.bool (isRipeP o f gone))) none := by
  have e1 := look_ok h hm
  have e2 := is_turns (O := encO o) hG hf o [] h hk (by simp; omega)
  show finR none (g_is_ripe [some (.fr (encO o)), some (.fr (.str f)), some (.fr G), none, none, none]) = _
  have ei : fIterS (fVar 0) [some (.fr (encO o)), some (.fr (.str f)), some (.fr G), none, none, none] = .ok (o.map encF) [some (.fr (encO o)), some (.fr (.str f)), some (.fr G), none, none, none] := by simp [fIterS, fFz, fVar, Res.bind, frz, encO, asS]
  have e0 : fDrop (fCallV d_look_fruit (fCons (fVar 0) (fCons (fVar 1) fNil))) [some (.fr (encO o)), some (.fr (.str f)), some (.fr G), none, none, none] = .ok .nx [some (.fr (encO o)), some (.fr (.str f)), some (.fr G), none, none, none] := by
    simp [fDrop, fCallV, fCons, fVar, fNil, Res.bind, callV, rds, rd, rd0, e1, allFr, isFr]
  have ew : wipeE [some (.fr (encO o)), some (.fr (.str f)), some (.fr G), none, none, none] [3, 4, 5] = [some (.fr (encO o)), some (.fr (.str f)), some (.fr G), none, none, none] := rfl
  rw [g_is_ripe, fSeq, e0]
  simp only [Res.bind]
  rw [fRet, fCB, fCons, fLc2, ei]
  simp only [Res.bind]
  rw [if_pos (by simp), ew, e2]
  simp only [noExc, Res.bind, fNil, rds, rd, rd0, Cn.rd, List.nil_append, anyOp, bools_map, Option.map, ofOpt]
  rfl
/-! ### lot_of -/
def srt (xs : List Str) : List Str := xs.mergeSort fun a b => decide (a.cps.toList ≤ b.cps.toList)
theorem sortD_strs (xs : List Str) : sortD (xs.map PyData.str) = (srt xs).map PyData.str := by
  unfold sortD srt
  exact (List.map_mergeSort (f := PyData.str) (s := PySem.W.dataLe false id) (r := fun a b : Str => decide (a.cps.toList ≤ b.cps.toList)) fun a _ b _ => (congrFun (congrFun (PySem.W.dataLe_str (β := Str) id) a) b).symm).symm
theorem sortOk_strs {xs : List Str} (h : xs.length ≤ 1000) : sortOk (xs.map PyData.str) = true := by
  unfold sortOk alikeAllB sortableB
  have h1 : ((xs.map PyData.str).all fun d => (xs.map PyData.str).all fun e => PySem.W.alike d e) = true := by
    rw [List.all_eq_true]
    intro d hd
    rw [List.all_eq_true]
    intro e he
    obtain ⟨a, _, rfl⟩ := List.mem_map.mp hd
    obtain ⟨b, _, rfl⟩ := List.mem_map.mp he
    simp [PySem.W.alike]
  have h2 : ((xs.map PyData.str).all fun d => match d with | .none => false | .tuple _ => false | _ => true) = true := by
    rw [List.all_eq_true]
    intro d hd
    obtain ⟨a, _, rfl⟩ := List.mem_map.mp hd
    rfl
  have h3 : ((xs.map PyData.str).all fun d => decide (d.depth ≤ 50)) = true := by
    rw [List.all_eq_true]
    intro d hd
    obtain ⟨a, _, rfl⟩ := List.mem_map.mp hd
    simp [PyData.depth]
  simp only [Bool.and_eq_true, Bool.or_eq_true]
  exact ⟨⟨⟨h1, .inr h2⟩, decide_eq_true (by rw [List.length_map]; omega)⟩, h3⟩
theorem sort_strs {xs : List Str} (h : xs.length ≤ 1000) : sortOp [.list (xs.map PyData.str)] = some (.ow (.lst ((srt xs).map PyData.str))) := by
  simp only [sortOp]
  rw [sortOk_strs h, sortD_strs]
  rfl
theorem lot_ok {xs : List Str} (h : xs.length ≤ 1000) : d_lot_of none [.list (xs.map PyData.str)] = .ok (.fr (.tuple ((srt xs).map PyData.str))) none := by
  show finR none (g_lot_of [some (.fr (.list (xs.map PyData.str)))]) = _
  have hl : (srt xs).length ≤ 100000 := by unfold srt; rw [List.length_mergeSort]; omega
  simp [g_lot_of, fRet, fCB, fCons, fVar, fNil, Res.bind, rds, rd, rd0, sort_strs h, ofOpt, Cn.rd, tupleOp, finR, finC, retS, hl]
end TX

namespace TX
open PySem PySem.Spec PyProof.Rows L2 RZ DL
/-! ### known -/
def pos (f : Str) : List Str → Nat
  | [] => 0
  | y :: ys => if y == f then 0 else pos f ys + 1
theorem first_strs (f : Str) : ∀ ys : List Str, mem f ys = true → firstAt (.str f) (ys.map PyData.str) = some (pos f ys)
  | [], h => by simp [mem] at h
  | y :: ys, h => by
    rw [List.map_cons, firstAt, pos]
    have e : PyData.eqv (.str y) (.str f) = (y == f) := by simp [PyData.eqv]
    rw [e]
    cases hb : (y == f) with
    | true => simp
    | false =>
      have : mem f ys = true := by simpa [mem, hb] using h
      rw [first_strs f ys this]
      simp
theorem index_strs {f : Str} {ys : List Str} (h : mem f ys = true) : indexOp (.list (ys.map PyData.str)) (.str f) = some (.fr (.int (pos f ys))) := by
  simp only [indexOp, flat_strs, first_strs f ys h]
  rfl
theorem cut_take (ds : List PyData) (j : Nat) : DL.cutD ds none (some (j : Int)) = ds.take j := by
  unfold DL.cutD
  rw [HT.sIx_none, HT.sIx_nat]
  simp only [List.drop_zero, Nat.sub_zero]
  by_cases h : j ≤ ds.length
  · rw [Nat.min_eq_left h]
  · rw [Nat.min_eq_right (by omega), List.take_of_length_le (Nat.le_refl _), List.take_of_length_le (by omega)]
theorem list_seq {v : PyData} {xs : List Str} (h : IsSeq v xs) : listOp [v] = some (.ow (.lst (xs.map PyData.str))) := by
  rcases h with rfl | rfl <;> rfl
def lesI (B : List Str) : List Str → Nat → List Nat
  | [], _ => []
  | n :: ns, i => if mem n B then lesI B ns (i + 1) else i :: lesI B ns (i + 1)
def lesP (B : List Str) (d : PyData) : Bool := match d with
  | .tuple [_, .str n] => !mem n B
  | _ => false
def lesH (d : PyData) : PyData := match d with
  | .tuple (x :: _) => x
  | _ => .none
theorem les_eq (B : List Str) : ∀ (A : List Str) (i : Nat), ((((List.range' i A.length).zipWith (fun (i : Nat) d => PyData.tuple [.int i, d]) (A.map PyData.str))).filter (lesP B)).map lesH = (lesI B A i).map fun (k : Nat) => PyData.int k
  | [], i => rfl
  | n :: ns, i => by
    rw [List.length_cons, List.range'_succ, List.map_cons, List.zipWith_cons_cons, lesI]
    have ih := les_eq B ns (i + 1)
    cases hm : mem n B with
    | true =>
      rw [List.filter_cons_of_neg (by simp [lesP, hm]), ih]
      simp
    | false =>
      rw [List.filter_cons_of_pos (by simp [lesP, hm]), List.map_cons, ih]
      simp [lesH]
theorem enum_eq (A : List Str) : enumD (A.map PyData.str) = (List.range' 0 A.length).zipWith (fun (i : Nat) d => PyData.tuple [.int i, d]) (A.map PyData.str) := by
  unfold enumD
  rw [List.length_map, List.range_eq_range']
def knownP (liking row : List Str) (f : Str) : Option (List Str) × Option (List Str) :=
  if mem f row = true then
    (some (srt (row.take (pos f row))), (lesI (liking.take (pos f liking)) (row.take (pos f row)) 0).getLast?.map fun k => srt ((row.take (pos f row)).take k))
  else (none, some (srt row))
def optT : Option (List Str) → PyData
  | none => .none
  | some xs => .tuple (xs.map PyData.str)
theorem lesI_len (B : List Str) : ∀ (A : List Str) (i : Nat), (lesI B A i).length ≤ A.length
  | [], _ => Nat.le_refl _
  | n :: ns, i => by
    rw [lesI]
    have := lesI_len B ns (i + 1)
    split <;> simp <;> omega
theorem last_ix (L : List Nat) {k : Nat} (h : L.getLast? = some k) : ixOp (.list (L.map fun (k : Nat) => PyData.int k)) (.int (-1)) = some (.fr (.int k)) := by
  have hn : L ≠ [] := fun z => by rw [z] at h; cases h
  have hl : 0 < L.length := List.length_pos_iff.mpr hn
  have e : ixD (L.map fun (k : Nat) => PyData.int k).length (-1) = some (L.length - 1) := by
    rw [List.length_map]
    unfold ixD
    rw [if_neg (by omega), if_pos (by omega)]
    congr 1
    omega
  simp only [ixOp, e]
  rw [List.getElem?_map, ← List.getLast?_eq_getElem?, h]
  rfl
theorem known_ok {L : PyData} {liking row : List Str} {f : Str} (hL : IsSeq L liking) (h2 : row.length ≤ 1000) (h3 : mem f liking = true) :
    d_known none [.tuple [L, .list (row.map PyData.str)], .str f] = .ok (.fr (.tuple [optT (knownP liking row f).1, optT (knownP liking row f).2])) none := by
  have hR : IsSeq (.list (row.map PyData.str)) row := .inl rfl
  show finR none (g_known [some (.fr (.tuple [L, .list (row.map PyData.str)])), some (.fr (.str f)), none, none, none, none, none, none, none]) = _
  generalize hpk : (PyData.tuple [L, .list (row.map PyData.str)]) = PK
  have e0 : fUnp (gSeqF 2 (gConsF (gNm 2) (gConsF (gNm 3) gNilF))) (fVar 0) [some (.fr PK), some (.fr (.str f)), none, none, none, none, none, none, none] = .ok .nx [some (.fr PK), some (.fr (.str f)), some (.fr L), some (.fr (.list (row.map PyData.str))), none, none, none, none, none] := by
    subst hpk
    rfl
  have e1 : fIfS (fTest (fOp (inOp true) (fVar 1) (fVar 2))) fBadS fNext [some (.fr PK), some (.fr (.str f)), some (.fr L), some (.fr (.list (row.map PyData.str))), none, none, none, none, none] = .ok .nx [some (.fr PK), some (.fr (.str f)), some (.fr L), some (.fr (.list (row.map PyData.str))), none, none, none, none, none] := by
    simp [fIfS, fTest, fOp, fVar, Res.bind, rd, rd0, in_seq hL, h3, ofOpt, asB, fNext]
  rw [g_known, fSeq, e0]
  simp only [Res.bind]
  rw [fSeq, e1]
  simp only [Res.bind]
  rw [fSeq, fIfS]
  have e2 : fTest (fOp (inOp true) (fVar 1) (fVar 3)) [some (.fr PK), some (.fr (.str f)), some (.fr L), some (.fr (.list (row.map PyData.str))), none, none, none, none, none] = .ok (!mem f row) [some (.fr PK), some (.fr (.str f)), some (.fr L), some (.fr (.list (row.map PyData.str))), none, none, none, none, none] := by
    simp [fTest, fOp, fVar, Res.bind, rd, rd0, in_seq hR, ofOpt, asB]
  rw [e2]
  simp only [Res.bind]
  cases hm : mem f row with
  | false =>
    have el := lot_ok (xs := row) h2
    have ek : knownP liking row f = (none, some (srt row)) := if_neg (by rw [hm]; decide)
    rw [ek]
    simp [fRet, fTup, fCons, fC, fNil, fCallV, fVar, Res.bind, callV, rds, rd, rd0, el, allFr, isFr, fFz, frz, DL.frs, finR, finC, retS, optT]
  | true =>
    simp only [Bool.not_true, Bool.false_eq_true, if_false, fNext]
    have ek : knownP liking row f = (some (srt (row.take (pos f row))), (lesI (liking.take (pos f liking)) (row.take (pos f row)) 0).getLast?.map fun k => srt ((row.take (pos f row)).take k)) := if_pos hm
    rw [ek]
    generalize hA : row.take (pos f row) = A
    generalize hB : liking.take (pos f liking) = B
    have hAl : A.length ≤ 1000 := by rw [← hA, List.length_take]; omega
    have e3 : fAsg 4 (fSl (fCB listOp (fCons (fVar 3) fNil)) fNoPart (fPart (fBL indexOp (fCB listOp (fCons (fVar 3) fNil)) (fVar 1)))) [some (.fr PK), some (.fr (.str f)), some (.fr L), some (.fr (.list (row.map PyData.str))), none, none, none, none, none] = .ok .nx [some (.fr PK), some (.fr (.str f)), some (.fr L), some (.fr (.list (row.map PyData.str))), some (.ow (.lst (A.map PyData.str))), none, none, none, none] := by
      simp [fAsg, fSl, fCB, fCons, fVar, fNil, Res.bind, rds, rd, rd0, Cn.rd, list_seq hR, ofOpt, fNoPart, fPart, fBL, index_strs hm, slOp, cut_take, put1, ← hA]
    have e4 : fAsg 5 (fSl (fCB listOp (fCons (fVar 2) fNil)) fNoPart (fPart (fBL indexOp (fCB listOp (fCons (fVar 2) fNil)) (fVar 1)))) [some (.fr PK), some (.fr (.str f)), some (.fr L), some (.fr (.list (row.map PyData.str))), some (.ow (.lst (A.map PyData.str))), none, none, none, none] = .ok .nx [some (.fr PK), some (.fr (.str f)), some (.fr L), some (.fr (.list (row.map PyData.str))), some (.ow (.lst (A.map PyData.str))), some (.ow (.lst (B.map PyData.str))), none, none, none] := by
      simp [fAsg, fSl, fCB, fCons, fVar, fNil, Res.bind, rds, rd, rd0, Cn.rd, list_seq hL, ofOpt, fNoPart, fPart, fBL, index_strs h3, slOp, cut_take, put1, ← hB]
    have e5 := lc_ok (ks := [7, 8]) (it := fEnum (fCons (fFz (fVar 4)) fNil)) (g := gSeqF 2 (gConsF (gNm 7) (gConsF (gNm 8) gNilF))) (c := fTest (fOp (inOp true) (fVar 8) (fVar 5))) (f := fVar 7)
      (ρ := [some (.fr PK), some (.fr (.str f)), some (.fr L), some (.fr (.list (row.map PyData.str))), some (.ow (.lst (A.map PyData.str))), some (.ow (.lst (B.map PyData.str))), none, none, none])
      (ρ1 := [some (.fr PK), some (.fr (.str f)), some (.fr L), some (.fr (.list (row.map PyData.str))), some (.fr (.list (A.map PyData.str))), some (.ow (.lst (B.map PyData.str))), none, none, none])
      (ρ0 := [some (.fr PK), some (.fr (.str f)), some (.fr L), some (.fr (.list (row.map PyData.str))), some (.fr (.list (A.map PyData.str))), some (.ow (.lst (B.map PyData.str))), none, none, none])
      (ds := enumD (A.map PyData.str)) (lesP B) lesH rfl (by rw [enumD_len, List.length_map]; omega) (by simp) rfl (fun d hd => by
        obtain ⟨i, hi⟩ := List.getElem?_of_mem hd
        obtain ⟨e, he, rfl⟩ := enumD_get hi
        rw [List.getElem?_map] at he
        obtain ⟨n, _, rfl⟩ : ∃ n, A[i]? = some n ∧ PyData.str n = e := by
          cases hx : A[i]? with
          | none => rw [hx] at he; cases he
          | some n => rw [hx] at he; exact ⟨n, rfl, by injection he⟩
        refine ⟨_, rfl, [some (.fr PK), some (.fr (.str f)), some (.fr L), some (.fr (.list (row.map PyData.str))), some (.fr (.list (A.map PyData.str))), some (.ow (.lst (B.map PyData.str))), none, some (.fr (.int i)), some (.fr (.str n))], ?_, fun _ => ⟨_, rfl, rfl⟩, fun _ => rfl⟩
        simp [fTest, fOp, fVar, Res.bind, rd, rd0, Sl.own, Cn.rd, in_list (neg := true), ofOpt, asB, lesP])
    have hbk : backE [some (.fr PK), some (.fr (.str f)), some (.fr L), some (.fr (.list (row.map PyData.str))), some (.fr (.list (A.map PyData.str))), some (.ow (.lst (B.map PyData.str))), none, none, none] [some (.fr PK), some (.fr (.str f)), some (.fr L), some (.fr (.list (row.map PyData.str))), some (.fr (.list (A.map PyData.str))), some (.ow (.lst (B.map PyData.str))), none, none, none] [7, 8] = [some (.fr PK), some (.fr (.str f)), some (.fr L), some (.fr (.list (row.map PyData.str))), some (.fr (.list (A.map PyData.str))), some (.ow (.lst (B.map PyData.str))), none, none, none] := rfl
    rw [hbk, enum_eq, les_eq] at e5
    rw [fSeq, e3]
    simp only [Res.bind]
    rw [fSeq, e4]
    simp only [Res.bind]
    rw [fSeq, fAsg, e5]
    simp only [Res.bind, put1, List.length_cons, List.length_nil]
    rw [if_pos (by decide)]
    simp only []
    have elA := lot_ok (xs := A) (by omega)
    have hsz : (lesI B A 0).length ≤ 100000 := by have := lesI_len B A 0; omega
    generalize hLs : lesI B A 0 = Ls at *
    cases hk : Ls.getLast? with
    | none =>
      have hn : Ls = [] := by simpa using hk
      subst hn
      simp [fRet, fTup, fCons, fC, fNil, fCallV, fVar, Res.bind, callV, rds, rd, rd0, elA, allFr, isFr, fFz, frz, DL.frs, finR, finC, retS, optT, fIf, fTest, fOp, fCB, lenOp, Sl.own, Cn.rd, ofOpt, gtI, asB]
    | some k =>
      have elk := lot_ok (xs := A.take k) (by rw [List.length_take]; omega)
      have hix := last_ix Ls hk
      have hpos : 0 < Ls.length := List.length_pos_iff.mpr fun z => by rw [z] at hk; cases hk
      have hnl : noLst (.tuple ((srt (A.take k)).map PyData.str)) = true := by rw [noLst]; exact noLsts_str _
      rw [List.map_take] at elk
      simp [fRet, fTup, fCons, fC, fNil, fCallV, fVar, Res.bind, callV, rds, rd, rd0, elA, elk, allFr, isFr, fFz, frz, DL.frs, finR, finC, retS, optT, fIf, fTest, fOp, fCB, lenOp, Sl.own, Cn.rd, ofOpt, gtI, asB, hsz, hpos, fSl, fNoPart, fPart, fUn, negOp, hix, slOp, cut_take, noLstS, hnl]
end TX

namespace TX
open PySem PySem.Spec PyProof.Rows L2 RZ DL
/-! ### ill_word, ill_hung -/
def soonP (o : Orch) (f : Str) : Option (List Str) → Option Str
  | some nb => if isRipeP o f nb = true then some "soon" else none
  | none => none
def lateP (o : Orch) (f : Str) : Option (List Str) → Bool
  | some b => !isRipeP o f b
  | none => false
def illP (o : Orch) (liking row : List Str) (f : Str) : Option Str := if lateP o f (knownP liking row f).1 = true then some "late" else soonP o f (knownP liking row f).2
def optS : Option Str → PyData
  | none => .none
  | some s => .str s
/-- orchard, liking and row as the hanging functions take them -/
structure Hung (o : Orch) (L : PyData) (liking row : List Str) : Prop where
  so : SmallO o
  o9 : o.length ≤ 9
  ok : OkO o
  sl : IsSeq L liking
  rl : row.length ≤ 1000
  all : ∀ p ∈ o, mem p.1 liking = true
theorem mem_fruits {o : Orch} {p : Str × List (List Str)} (h : p ∈ o) : mem p.1 (o.map (·.1)) = true := by
  unfold mem
  rw [List.any_eq_true]
  exact ⟨p.1, List.mem_map.mpr ⟨p, h, rfl⟩, by simp⟩
theorem isT (xs : List Str) : IsSeq (.tuple (xs.map PyData.str)) xs := .inr rfl
theorem ill_word_ok {o : Orch} {L : PyData} {liking row : List Str} (h : Hung o L liking row) {p : Str × List (List Str)} (hp : p ∈ o) : d_ill_word none [encO o, L, .list (row.map PyData.str), .str p.1] = .ok (.fr (optS (illP o liking row p.1))) none := by
  have ek := known_ok (row := row) h.sl h.rl (h.all p hp)
  have er : ∀ gone : List Str, d_is_ripe none [encO o, .str p.1, .tuple (gone.map PyData.str)] = .ok (.fr (.bool (isRipeP o p.1 gone))) none := fun gone => isripe_ok h.so h.o9 h.ok (isT gone) (h.ok p hp) (mem_fruits hp)
  generalize hF : p.1 = f at *
  show finR none (g_ill_word [some (.fr (encO o)), some (.fr L), some (.fr (.list (row.map PyData.str))), some (.fr (.str f)), none, none]) = _
  unfold illP
  generalize knownP liking row f = kk at *
  obtain ⟨k1, k2⟩ := kk
  have e0 : fUnp (gSeqF 2 (gConsF (gNm 4) (gConsF (gNm 5) gNilF))) (fCallV d_known (fCons (fTup (fCons (fVar 1) (fCons (fVar 2) fNil))) (fCons (fVar 3) fNil))) [some (.fr (encO o)), some (.fr L), some (.fr (.list (row.map PyData.str))), some (.fr (.str f)), none, none] = .ok .nx [some (.fr (encO o)), some (.fr L), some (.fr (.list (row.map PyData.str))), some (.fr (.str f)), some (.fr (optT k1)), some (.fr (optT k2))] := by
    simp [fUnp, fCallV, fTup, fCons, fVar, fNil, Res.bind, fFz, frz, DL.frs, callV, rds, rd, rd0, ek, allFr, isFr, gSeqF, gConsF, gNilF, gNm]
  rw [g_ill_word, fSeq, e0]
  simp only [Res.bind]
  rw [fSeq, fIfS]
  have e1 : fAnd (fTest (fOp (isN true) (fVar 4) (fC .none))) (fNot (fTest (fCallV d_is_ripe (fCons (fVar 0) (fCons (fVar 3) (fCons (fVar 4) fNil)))))) [some (.fr (encO o)), some (.fr L), some (.fr (.list (row.map PyData.str))), some (.fr (.str f)), some (.fr (optT k1)), some (.fr (optT k2))] = .ok (lateP o f k1) [some (.fr (encO o)), some (.fr L), some (.fr (.list (row.map PyData.str))), some (.fr (.str f)), some (.fr (optT k1)), some (.fr (optT k2))] := by
    cases k1 with
    | none => simp [fAnd, fTest, fOp, fVar, fC, Res.bind, rd, rd0, optT, isN, isNonD, ofOpt, asB, lateP]
    | some b => simp [fAnd, fNot, fTest, fOp, fVar, fC, Res.bind, rd, rd0, optT, isN, isNonD, ofOpt, asB, lateP, fCallV, fCons, fNil, callV, rds, er, allFr, isFr]
  rw [e1]
  simp only [Res.bind]
  cases hl : lateP o f k1 with
  | true => simp [fRet, fC, Res.bind, finR, finC, retS, optS]
  | false =>
    simp only [Bool.false_eq_true, if_false, fNext]
    cases k2 with
    | none => simp [fRet, fIf, fAnd, fTest, fOp, fVar, fC, Res.bind, rd, rd0, optT, isN, isNonD, ofOpt, asB, soonP, optS, finR, finC, retS]
    | some b =>
      cases hr : isRipeP o f b <;> simp [fRet, fIf, fAnd, fTest, fOp, fVar, fC, Res.bind, rd, rd0, optT, isN, isNonD, ofOpt, asB, soonP, optS, finR, finC, retS, fCallV, fCons, fNil, callV, rds, er, allFr, isFr, hr]
def illHungP (o : Orch) (liking row : List Str) : List (Str × Str) := o.filterMap fun p => (illP o liking row p.1).map fun w => (p.1, w)
def encW (p : Str × Str) : PyData := .tuple [.str p.1, .str p.2]
theorem ill_hung_ok {o : Orch} {L : PyData} {liking row : List Str} (h : Hung o L liking row) : d_ill_hung none [encO o, L, .list (row.map PyData.str)] = .ok (.ow (.lst ((illHungP o liking row).map encW))) none := by
  have h9 := h.o9
  have ef := fruits_ok h.so
  show finR none (g_ill_hung [some (.fr (encO o)), some (.fr L), some (.fr (.list (row.map PyData.str))), none, none, none]) = _
  generalize hR : (PyData.list (row.map PyData.str)) = R
  have ei : fIterS (fCallV d_fruits_of (fCons (fVar 0) fNil)) [some (.fr (encO o)), some (.fr L), some (.fr R), none, none, none] = .ok ((o.map (·.1)).map PyData.str) [some (.fr (encO o)), some (.fr L), some (.fr R), none, none, none] := by
    simp [fIterS, fFz, fCallV, fCons, fVar, fNil, Res.bind, callV, rds, rd, rd0, ef, allFr, isFr, frz, Cn.rd, asS, -List.map_map]
  have e1 := lc_ok (ks := [4]) (it := fIterS (fCallV d_fruits_of (fCons (fVar 0) fNil))) (g := gNm 4) (c := fun ρ => .ok true ρ) (f := fTup (fCons (fVar 4) (fCons (fCallV d_ill_word (fCons (fVar 0) (fCons (fVar 1) (fCons (fVar 2) (fCons (fVar 4) fNil))))) fNil)))
    (ρ := [some (.fr (encO o)), some (.fr L), some (.fr R), none, none, none]) (ρ1 := [some (.fr (encO o)), some (.fr L), some (.fr R), none, none, none]) (ρ0 := [some (.fr (encO o)), some (.fr L), some (.fr R), none, none, none])
    (fun _ => true) (fun d => match d with | .str f => .tuple [.str f, optS (illP o liking row f)] | _ => .none) ei (by simp; omega) (by simp) rfl (fun d hd => by
      obtain ⟨f, hf, rfl⟩ := List.mem_map.mp hd
      obtain ⟨p, hp, rfl⟩ := List.mem_map.mp hf
      have ew := ill_word_ok h hp
      rw [hR] at ew
      refine ⟨_, rfl, _, rfl, fun _ => ⟨[some (.fr (encO o)), some (.fr L), some (.fr R), none, some (.fr (.str p.1)), none], ?_, rfl⟩, fun z => (by cases z)⟩
      simp [fTup, fCons, fVar, fNil, Res.bind, fFz, frz, DL.frs, fCallV, callV, rds, rd, rd0, ew, allFr, isFr])
  have hb1 : backE [some (.fr (encO o)), some (.fr L), some (.fr R), none, none, none] [some (.fr (encO o)), some (.fr L), some (.fr R), none, none, none] [4] = [some (.fr (encO o)), some (.fr L), some (.fr R), none, none, none] := rfl
  have em : ((o.map (·.1)).map PyData.str).map (fun d => match d with | .str f => PyData.tuple [.str f, optS (illP o liking row f)] | _ => .none) = o.map fun p => PyData.tuple [.str p.1, optS (illP o liking row p.1)] := by
    rw [List.map_map, List.map_map]
    rfl
  rw [hb1, filt_true, em] at e1
  generalize hW : (o.map fun p => PyData.tuple [.str p.1, optS (illP o liking row p.1)]) = W at *
  have e2 := lc_ok (ks := [4, 5]) (it := fIterS (fVar 3)) (g := gSeqF 2 (gConsF (gNm 4) (gConsF (gNm 5) gNilF))) (c := fTest (fOp (isN true) (fVar 5) (fC .none))) (f := fTup (fCons (fVar 4) (fCons (fVar 5) fNil)))
    (ρ := [some (.fr (encO o)), some (.fr L), some (.fr R), some (.ow (.lst W)), none, none]) (ρ1 := [some (.fr (encO o)), some (.fr L), some (.fr R), some (.fr (.list W)), none, none]) (ρ0 := [some (.fr (encO o)), some (.fr L), some (.fr R), some (.fr (.list W)), none, none]) (ds := W)
    (fun d => match d with | .tuple [_, .none] => false | _ => true) id rfl (by rw [← hW]; simp; omega) (by simp) rfl (fun d hd => by
      rw [← hW] at hd
      obtain ⟨p, hp, rfl⟩ := List.mem_map.mp hd
      cases hi : illP o liking row p.1 with
      | none => exact ⟨_, rfl, _, rfl, fun z => (by cases z), fun _ => rfl⟩
      | some w => exact ⟨_, rfl, _, rfl, fun _ => ⟨_, rfl, rfl⟩, fun z => (by cases z)⟩)
  have em2 : (W.filter fun d => match d with | .tuple [_, .none] => false | _ => true).map id = (illHungP o liking row).map encW := by
    rw [List.map_id, ← hW]
    unfold illHungP
    clear e1 e2 hW em
    have key : ∀ q : Orch, ((q.map fun p => PyData.tuple [.str p.1, optS (illP o liking row p.1)]).filter fun d => match d with | .tuple [_, .none] => false | _ => true) = (q.filterMap fun p => (illP o liking row p.1).map fun w => (p.1, w)).map encW := by
      intro q
      induction q with
      | nil => rfl
      | cons p q ih =>
        rw [List.map_cons]
        cases hi : illP o liking row p.1 with
        | none =>
          rw [List.filter_cons_of_neg (by simp [optS]), ih, List.filterMap_cons]
          simp [hi]
        | some w =>
          rw [List.filter_cons_of_pos (by simp [optS]), ih, List.filterMap_cons]
          simp [hi, encW, optS]
    exact key o
  rw [em2] at e2
  rw [g_ill_hung, fSeq, fAsg, e1]
  simp only [Res.bind, put1, List.length_cons, List.length_nil]
  rw [if_pos (by decide)]
  simp only [List.set_cons_succ, List.set_cons_zero]
  rw [fRet, e2]
  rfl
end TX

namespace TX
open PySem PySem.Spec PyProof.Rows L2 RZ DL
/-! ### least_hung -/
def encP (q : Str × Int) : PyData := .tuple [.str q.1, .int q.2]
def illN (o : Orch) (liking row : List Str) : List Str := (illHungP o liking row).map (·.1)
def leastP (o : Orch) (liking row : List Str) (fees : List (Str × Int)) : Int := ((fees.filter fun q => mem q.1 (illN o liking row)).map (·.2)).sum
theorem ints_map : ∀ bs : List Int, intsD (bs.map PyData.int) = some bs
  | [] => rfl
  | b :: bs => by simp [intsD, ints_map bs]
theorem illHung_len (o : Orch) (liking row : List Str) : (illHungP o liking row).length ≤ o.length := List.length_filterMap_le _ _
theorem least_ok {o : Orch} {L : PyData} {liking row : List Str} (h : Hung o L liking row) {fees : List (Str × Int)} (hz : fees.length ≤ 1000) :
    d_least_hung none [encO o, L, .list (row.map PyData.str), .list (fees.map encP)] = .ok (.fr (.int (leastP o liking row fees))) none := by
  have h9 := h.o9
  have el := ill_hung_ok h
  have hil := illHung_len o liking row
  show finR none (g_least_hung [some (.fr (encO o)), some (.fr L), some (.fr (.list (row.map PyData.str))), some (.fr (.list (fees.map encP))), none, none, none, none]) = _
  generalize hR : (PyData.list (row.map PyData.str)) = R at *
  generalize hP : (PyData.list (fees.map encP)) = PP
  unfold leastP illN
  generalize illHungP o liking row = I at *
  have e1 := lc_ok (ks := [5, 6]) (it := fIterS (fCallV d_ill_hung (fCons (fVar 0) (fCons (fVar 1) (fCons (fVar 2) fNil))))) (g := gSeqF 2 (gConsF (gNm 5) (gConsF (gNm 6) gNilF))) (c := fun ρ => .ok true ρ) (f := fVar 5)
    (ρ := [some (.fr (encO o)), some (.fr L), some (.fr R), some (.fr PP), none, none, none, none]) (ρ1 := [some (.fr (encO o)), some (.fr L), some (.fr R), some (.fr PP), none, none, none, none]) (ρ0 := [some (.fr (encO o)), some (.fr L), some (.fr R), some (.fr PP), none, none, none, none]) (ds := I.map encW)
    (fun _ => true) lesH (by simp [fIterS, fFz, fCallV, fCons, fVar, fNil, Res.bind, callV, rds, rd, rd0, el, allFr, isFr, frz, Cn.rd, asS]) (by simp; omega) (by simp) rfl (fun d hd => by
      obtain ⟨p, hp, rfl⟩ := List.mem_map.mp hd
      exact ⟨_, rfl, _, rfl, fun _ => ⟨_, rfl, rfl⟩, fun z => (by cases z)⟩)
  have hb1 : backE [some (.fr (encO o)), some (.fr L), some (.fr R), some (.fr PP), none, none, none, none] [some (.fr (encO o)), some (.fr L), some (.fr R), some (.fr PP), none, none, none, none] [5, 6] = [some (.fr (encO o)), some (.fr L), some (.fr R), some (.fr PP), none, none, none, none] := rfl
  have em : (I.map encW).map lesH = (I.map (·.1)).map PyData.str := by
    rw [List.map_map, List.map_map]
    rfl
  rw [hb1, filt_true, em] at e1
  generalize I.map (·.1) = N at *
  have e2 := lc_ok (ks := [5, 7]) (it := fIterS (fVar 3)) (g := gSeqF 2 (gConsF (gNm 5) (gConsF (gNm 7) gNilF))) (c := fTest (fOp (inOp false) (fVar 5) (fVar 4))) (f := fVar 7)
    (ρ := [some (.fr (encO o)), some (.fr L), some (.fr R), some (.fr PP), some (.ow (.lst (N.map PyData.str))), none, none, none]) (ρ1 := [some (.fr (encO o)), some (.fr L), some (.fr R), some (.fr PP), some (.ow (.lst (N.map PyData.str))), none, none, none]) (ρ0 := [some (.fr (encO o)), some (.fr L), some (.fr R), some (.fr PP), some (.ow (.lst (N.map PyData.str))), none, none, none]) (ds := fees.map encP)
    (fun d => match d with | .tuple [.str f, _] => mem f N | _ => false) (fun d => match d with | .tuple [_, x] => x | _ => .none) (by rw [← hP]; rfl) (by simp; omega) (by simp) rfl (fun d hd => by
      obtain ⟨q, hq, rfl⟩ := List.mem_map.mp hd
      refine ⟨_, rfl, [some (.fr (encO o)), some (.fr L), some (.fr R), some (.fr PP), some (.ow (.lst (N.map PyData.str))), some (.fr (.str q.1)), none, some (.fr (.int q.2))], ?_, fun _ => ⟨_, rfl, rfl⟩, fun _ => rfl⟩
      simp [fTest, fOp, fVar, Res.bind, rd, rd0, Sl.own, Cn.rd, in_list (neg := false), ofOpt, asB, encP])
  have em2 : ((fees.map encP).filter fun d => match d with | .tuple [.str f, _] => mem f N | _ => false).map (fun d => match d with | .tuple [_, x] => x | _ => .none) = ((fees.filter fun q => mem q.1 N).map (·.2)).map PyData.int := by
    rw [List.filter_map, List.map_map, List.map_map]
    rfl
  rw [em2] at e2
  rw [g_least_hung, fSeq, fAsg, e1]
  simp only [Res.bind, put1, List.length_cons, List.length_nil]
  rw [if_pos (by decide)]
  simp only [List.set_cons_succ, List.set_cons_zero]
  rw [fRet, fCB, fCons, e2]
  simp only [fNil, Res.bind, rds, rd, rd0, Cn.rd, sumOp, ints_map, Option.map, ofOpt]
  rfl
/-! ### hung_anew -/
def anewOne (ill row : List Str) (p : Str × List (List Str)) : Str × List (List Str) := if mem p.1 ill = true then (if mem p.1 row = true then (p.1, [srt (row.take (pos p.1 row))]) else (p.1, [])) else p
def anewP (o : Orch) (liking row : List Str) : Orch := o.map (anewOne (illN o liking row) row)
def anewBody : Evn → Res Fl := fIfS (fTest (fOp (inOp true) (fVar 5) (fVar 3))) (fDrop (fAppend 4 (fTup (fCons (fVar 5) (fCons (fCB tupleOp (fCons (fLc [8] (fIterS (fVar 7)) (gNm 8) (fun ρ => .ok true ρ) (fCB tupleOp (fCons (fVar 8) fNil))) fNil)) fNil))))) (fIfS (fTest (fOp (inOp false) (fVar 5) (fVar 2))) (fDrop (fAppend 4 (fTup (fCons (fVar 5) (fCons (fTup (fCons (fCallV d_lot_of (fCons (fSl (fCB listOp (fCons (fVar 2) fNil)) fNoPart (fPart (fBL indexOp (fCB listOp (fCons (fVar 2) fNil)) (fVar 5)))) fNil)) fNil)) fNil))))) (fDrop (fAppend 4 (fTup (fCons (fVar 5) (fCons (fTup fNil) fNil))))))
theorem anew_body {O L : PyData} {row N : List Str} {acc : List PyData} {p : Str × List (List Str)} {x6 : Option Sl} (hr : row.length ≤ 1000) (h1 : p.2.length ≤ 1000) (ha : acc.length < 1000) :
    anewBody [some (.fr O), some (.fr L), some (.fr (.list (row.map PyData.str))), some (.ow (.lst (N.map PyData.str))), some (.ow (.lst acc)), some (.fr (.str p.1)), x6, some (.fr (encL p.2)), none]
      = .ok .nx [some (.fr O), some (.fr L), some (.fr (.list (row.map PyData.str))), some (.ow (.lst (N.map PyData.str))), some (.ow (.lst (acc ++ [encF (anewOne N row p)]))), some (.fr (.str p.1)), x6, some (.fr (encL p.2)), none] := by
  have hlen : acc.length < 100000 := by omega
  obtain ⟨f, ls⟩ := p
  unfold anewOne
  cases hm : mem f N with
  | false =>
    have e := lc_ok (ks := [8]) (it := fIterS (fVar 7)) (g := gNm 8) (c := fun ρ => .ok true ρ) (f := fCB tupleOp (fCons (fVar 8) fNil))
      (ρ := [some (.fr O), some (.fr L), some (.fr (.list (row.map PyData.str))), some (.ow (.lst (N.map PyData.str))), some (.ow (.lst acc)), some (.fr (.str f)), x6, some (.fr (encL ls)), none]) (ρ1 := [some (.fr O), some (.fr L), some (.fr (.list (row.map PyData.str))), some (.ow (.lst (N.map PyData.str))), some (.ow (.lst acc)), some (.fr (.str f)), x6, some (.fr (encL ls)), none]) (ρ0 := [some (.fr O), some (.fr L), some (.fr (.list (row.map PyData.str))), some (.ow (.lst (N.map PyData.str))), some (.ow (.lst acc)), some (.fr (.str f)), x6, some (.fr (encL ls)), none])
      (ds := ls.map fun l => .tuple (l.map .str)) (fun _ => true) id rfl (by simp at h1 ⊢; omega) (by simp) rfl (fun d hd => by
        obtain ⟨l, hl, rfl⟩ := List.mem_map.mp hd
        exact ⟨_, rfl, _, rfl, fun _ => ⟨_, rfl, rfl⟩, fun z => (by cases z)⟩)
    have hb : backE [some (.fr O), some (.fr L), some (.fr (.list (row.map PyData.str))), some (.ow (.lst (N.map PyData.str))), some (.ow (.lst acc)), some (.fr (.str f)), x6, some (.fr (encL ls)), none] [some (.fr O), some (.fr L), some (.fr (.list (row.map PyData.str))), some (.ow (.lst (N.map PyData.str))), some (.ow (.lst acc)), some (.fr (.str f)), x6, some (.fr (encL ls)), none] [8] = [some (.fr O), some (.fr L), some (.fr (.list (row.map PyData.str))), some (.ow (.lst (N.map PyData.str))), some (.ow (.lst acc)), some (.fr (.str f)), x6, some (.fr (encL ls)), none] := rfl
    rw [hb, filt_true, List.map_id] at e
    have hz : ls.length ≤ 100000 := by simp at h1; omega
    simp [anewBody, fIfS, fTest, fOp, fVar, Res.bind, rd, rd0, Sl.own, Sl.put, Cn.rd, in_list (neg := true), hm, ofOpt, asB, fDrop, fAppend, fTup, fCons, fCB, e, fNil, rds, tupleOp, hz, fFz, frz, DL.frs, hlen, encF]
    rfl
  | true =>
    cases hm2 : mem f row with
    | true =>
      have el := lot_ok (xs := row.take (pos f row)) (by rw [List.length_take]; omega)
      rw [List.map_take] at el
      have hnl : noLst (.tuple ((srt (row.take (pos f row))).map PyData.str)) = true := by rw [noLst]; exact noLsts_str _
      simp [anewBody, fIfS, fTest, fOp, fVar, Res.bind, rd, rd0, Sl.own, Sl.put, Cn.rd, in_list (neg := true), in_list (neg := false), hm, hm2, ofOpt, asB, fDrop, fAppend, fTup, fCons, fCB, fNil, rds, list_seq (xs := row) (.inl rfl), fFz, frz, DL.frs, hlen, encF, encL, fCallV, callV, fSl, fNoPart, fPart, fBL, index_strs hm2, slOp, cut_take, el, allFr, isFr, noLstS, hnl]
    | false =>
      simp [anewBody, fIfS, fTest, fOp, fVar, Res.bind, rd, rd0, Sl.own, Sl.put, Cn.rd, in_list (neg := true), in_list (neg := false), hm, hm2, ofOpt, asB, fDrop, fAppend, fTup, fCons, fCB, fNil, rds, fFz, frz, DL.frs, hlen, encF, encL]
theorem anew_loop {O L : PyData} {row N : List Str} (hr : row.length ≤ 1000) : ∀ (q : Orch) (acc : List PyData) (x5 x6 x7 : Option Sl), SmallO q → acc.length + q.length ≤ 900 → ∃ x5' x7',
    fLoop (gSeqF 2 (gConsF (gNm 5) (gConsF (gNm 7) gNilF))) anewBody (q.map encF) [some (.fr O), some (.fr L), some (.fr (.list (row.map PyData.str))), some (.ow (.lst (N.map PyData.str))), some (.ow (.lst acc)), x5, x6, x7, none]
      = .ok .nx [some (.fr O), some (.fr L), some (.fr (.list (row.map PyData.str))), some (.ow (.lst (N.map PyData.str))), some (.ow (.lst (acc ++ (q.map (anewOne N row)).map encF))), x5', x6, x7', none]
  | [], acc, x5, x6, x7, _, _ => ⟨x5, x7, by simp [fLoop]⟩
  | p :: q, acc, x5, x6, x7, h, ha => by
    have ha' : acc.length + (q.length + 1) ≤ 900 := ha
    have eb := anew_body (O := O) (L := L) (N := N) (acc := acc) (p := p) (x6 := x6) hr (h.m p List.mem_cons_self).1 (by omega)
    obtain ⟨x5', x7', e⟩ := anew_loop (O := O) (L := L) (N := N) hr q (acc ++ [encF (anewOne N row p)]) (some (.fr (.str p.1))) x6 (some (.fr (encL p.2))) h.tail (by simp; omega)
    refine ⟨x5', x7', ?_⟩
    rw [List.map_cons, fLoop]
    have eg : gSeqF 2 (gConsF (gNm 5) (gConsF (gNm 7) gNilF)) (encF p) [some (.fr O), some (.fr L), some (.fr (.list (row.map PyData.str))), some (.ow (.lst (N.map PyData.str))), some (.ow (.lst acc)), x5, x6, x7, none] = some [some (.fr O), some (.fr L), some (.fr (.list (row.map PyData.str))), some (.ow (.lst (N.map PyData.str))), some (.ow (.lst acc)), some (.fr (.str p.1)), x6, some (.fr (encL p.2)), none] := rfl
    rw [eg]
    simp only []
    rw [eb]
    simp only [Res.bind]
    rw [e]
    simp
theorem anew_ok {o : Orch} {L : PyData} {liking row : List Str} (h : Hung o L liking row) : d_hung_anew none [encO o, L, .list (row.map PyData.str)] = .ok (.fr (encO (anewP o liking row))) none := by
  have h9 := h.o9
  have el := ill_hung_ok h
  have hil := illHung_len o liking row
  show finR none (g_hung_anew [some (.fr (encO o)), some (.fr L), some (.fr (.list (row.map PyData.str))), none, none, none, none, none, none]) = _
  unfold anewP illN
  generalize illHungP o liking row = I at *
  have e1 := lc_ok (ks := [5, 6]) (it := fIterS (fCallV d_ill_hung (fCons (fVar 0) (fCons (fVar 1) (fCons (fVar 2) fNil))))) (g := gSeqF 2 (gConsF (gNm 5) (gConsF (gNm 6) gNilF))) (c := fun ρ => .ok true ρ) (f := fVar 5)
    (ρ := [some (.fr (encO o)), some (.fr L), some (.fr (.list (row.map PyData.str))), none, none, none, none, none, none]) (ρ1 := [some (.fr (encO o)), some (.fr L), some (.fr (.list (row.map PyData.str))), none, none, none, none, none, none]) (ρ0 := [some (.fr (encO o)), some (.fr L), some (.fr (.list (row.map PyData.str))), none, none, none, none, none, none]) (ds := I.map encW)
    (fun _ => true) lesH (by simp [fIterS, fFz, fCallV, fCons, fVar, fNil, Res.bind, callV, rds, rd, rd0, el, allFr, isFr, frz, Cn.rd, asS]) (by simp; omega) (by simp) rfl (fun d hd => by
      obtain ⟨p, hp, rfl⟩ := List.mem_map.mp hd
      exact ⟨_, rfl, _, rfl, fun _ => ⟨_, rfl, rfl⟩, fun z => (by cases z)⟩)
  have hb1 : backE [some (.fr (encO o)), some (.fr L), some (.fr (.list (row.map PyData.str))), none, none, none, none, none, none] [some (.fr (encO o)), some (.fr L), some (.fr (.list (row.map PyData.str))), none, none, none, none, none, none] [5, 6] = [some (.fr (encO o)), some (.fr L), some (.fr (.list (row.map PyData.str))), none, none, none, none, none, none] := rfl
  have em : (I.map encW).map lesH = (I.map (·.1)).map PyData.str := by
    rw [List.map_map, List.map_map]
    rfl
  rw [hb1, filt_true, em] at e1
  generalize I.map (·.1) = N at *
  obtain ⟨x5, x7, e2⟩ := anew_loop (O := encO o) (L := L) (N := N) h.rl o [] none none none h.so (by simp; omega)
  unfold anewBody at e2
  have e0 : fPar [3, 4] (fCons (fLc [5, 6] (fIterS (fCallV d_ill_hung (fCons (fVar 0) (fCons (fVar 1) (fCons (fVar 2) fNil))))) (gSeqF 2 (gConsF (gNm 5) (gConsF (gNm 6) gNilF))) (fun ρ => .ok true ρ) (fVar 5)) (fCons (fLst fNil) fNil)) [some (.fr (encO o)), some (.fr L), some (.fr (.list (row.map PyData.str))), none, none, none, none, none, none] = .ok .nx [some (.fr (encO o)), some (.fr L), some (.fr (.list (row.map PyData.str))), some (.ow (.lst (N.map PyData.str))), some (.ow (.lst [])), none, none, none, none] := by
    rw [fPar, fCons, e1]
    rfl
  have ei : fIterS (fVar 0) [some (.fr (encO o)), some (.fr L), some (.fr (.list (row.map PyData.str))), some (.ow (.lst (N.map PyData.str))), some (.ow (.lst [])), none, none, none, none] = .ok (o.map encF) [some (.fr (encO o)), some (.fr L), some (.fr (.list (row.map PyData.str))), some (.ow (.lst (N.map PyData.str))), some (.ow (.lst [])), none, none, none, none] := rfl
  rw [g_hung_anew, fSeq, e0]
  simp only [Res.bind]
  rw [fSeq, fFor, ei]
  simp only [Res.bind]
  rw [e2]
  have hz : o.length ≤ 100000 := by omega
  simp [fRet, fCB, fCons, fVar, fNil, Res.bind, rds, rd, Sl.own, Cn.rd, tupleOp, hz, ofOpt, finR, finC, retS, encO]
end TX

namespace TX
open PySem PySem.Spec PyProof.Rows L2 RZ DL
/-! ### passed_by, pick -/
def passP : Nat → Orch → List Str → List Str → Option (List (Str × List Str))
  | 0, _, _, _ => none
  | n + 1, o, l, gone => match ripeP o gone with
    | [] => some []
    | r :: rs => match (l.filter fun x => mem x (r :: rs)) with
      | [] => none
      | b :: _ => (passP n o l (gone ++ [b])).map fun q => (b, (r :: rs).filter fun x => !(x == b)) :: q
def encB (p : Str × List Str) : PyData := .tuple [.str p.1, .list (p.2.map PyData.str)]
def passBody : Evn → Res Fl := fSeq (fAsg 5 (fOp ixOp (fLc [6] (fIterS (fVar 1)) (gNm 6) (fTest (fOp (inOp false) (fVar 6) (fVar 4))) (fVar 6)) (fC (.int 0))))
    (fSeq (fDrop (fAppend 2 (fTup (fCons (fVar 5) (fCons (fFz (fLc [6] (fIterS (fVar 4)) (gNm 6) (fTest (fOp (eqOp true) (fVar 6) (fVar 5))) (fVar 6))) fNil)))))
    (fSeq (fDrop (fAppend 3 (fVar 5)))
    (fAsg 4 (fCallV d_ripe (fCons (fVar 0) (fCons (fVar 3) fNil))))))
theorem ripe_len (o : Orch) (gone : List Str) : (ripeP o gone).length ≤ o.length := by
  unfold ripeP
  rw [List.length_map]
  exact List.length_filter_le _ _
theorem ripe_strok {o : Orch} (h : OkO o) {gone : List Str} {x : Str} (hx : x ∈ ripeP o gone) : PyData.strOk x = true := by
  unfold ripeP at hx
  obtain ⟨p, hp, rfl⟩ := List.mem_map.mp hx
  exact h p (List.mem_filter.mp hp).1
def strOf : PyData → Str
  | .str x => x
  | _ => ""
theorem pass_body {o : Orch} {L : PyData} {l gone : List Str} {found : List PyData} {x5 : Option Sl} {b : Str} {bs : List Str} (h : SmallO o) (hk : OkO o) (hL : IsSeq L l) (hl : l.length ≤ 1000) (hlk : ∀ x ∈ l, PyData.strOk x = true) (hf : found.length ≤ 2000) (hg : gone.length ≤ 2000) (hb : (l.filter fun x => mem x (ripeP o gone)) = b :: bs) :
    passBody [some (.fr (encO o)), some (.fr L), some (.ow (.lst found)), some (.ow (.lst (gone.map PyData.str))), some (.ow (.lst ((ripeP o gone).map PyData.str))), x5, none]
      = .ok .nx [some (.fr (encO o)), some (.fr L), some (.ow (.lst (found ++ [encB (b, (ripeP o gone).filter fun x => !(x == b))]))), some (.ow (.lst ((gone ++ [b]).map PyData.str))), some (.ow (.lst ((ripeP o (gone ++ [b])).map PyData.str))), some (.fr (.str b)), none] := by
  have hbl : PyData.strOk b = true := hlk b (List.mem_filter.mp (by rw [hb]; exact List.mem_cons_self : b ∈ l.filter fun x => mem x (ripeP o gone))).1
  have hrl := ripe_len o gone
  have hn := h.n
  have hrk : ∀ x ∈ ripeP o gone, PyData.strOk x = true := fun x hx => ripe_strok hk hx
  have er := ripe_ok h (G := .list ((gone ++ [b]).map PyData.str)) (.inl rfl)
  generalize hO : encO o = O at *
  generalize hS : ripeP o gone = S at *
  generalize hS2 : ripeP o (gone ++ [b]) = S2 at *
  -- best
  have e1 := lc_ok (ks := [6]) (it := fIterS (fVar 1)) (g := gNm 6) (c := fTest (fOp (inOp false) (fVar 6) (fVar 4))) (f := fVar 6)
    (ρ := [some (.fr O), some (.fr L), some (.ow (.lst found)), some (.ow (.lst (gone.map PyData.str))), some (.ow (.lst (S.map PyData.str))), x5, none]) (ρ1 := [some (.fr O), some (.fr L), some (.ow (.lst found)), some (.ow (.lst (gone.map PyData.str))), some (.ow (.lst (S.map PyData.str))), x5, none]) (ρ0 := [some (.fr O), some (.fr L), some (.ow (.lst found)), some (.ow (.lst (gone.map PyData.str))), some (.ow (.lst (S.map PyData.str))), x5, none]) (ds := l.map PyData.str)
    (fun d => mem (strOf d) S) id (iter_seq hL rfl) (by simp; omega) (by simp) rfl (fun d hd => by
      obtain ⟨x, hx, rfl⟩ := List.mem_map.mp hd
      refine ⟨_, rfl, [some (.fr O), some (.fr L), some (.ow (.lst found)), some (.ow (.lst (gone.map PyData.str))), some (.ow (.lst (S.map PyData.str))), x5, some (.fr (.str x))], ?_, fun _ => ⟨_, rfl, rfl⟩, fun _ => rfl⟩
      simp [fTest, fOp, fVar, Res.bind, rd, rd0, Sl.own, Cn.rd, in_list (neg := false), ofOpt, asB, strOf])
  have em1 : ((l.map PyData.str).filter fun d => mem (strOf d) S).map id = PyData.str b :: bs.map PyData.str := by
    rw [List.map_id, List.filter_map]
    show (l.filter fun x => mem x S).map PyData.str = _
    rw [hb]
    rfl
  have hb1 : backE [some (.fr O), some (.fr L), some (.ow (.lst found)), some (.ow (.lst (gone.map PyData.str))), some (.ow (.lst (S.map PyData.str))), x5, none] [some (.fr O), some (.fr L), some (.ow (.lst found)), some (.ow (.lst (gone.map PyData.str))), some (.ow (.lst (S.map PyData.str))), x5, none] [6] = [some (.fr O), some (.fr L), some (.ow (.lst found)), some (.ow (.lst (gone.map PyData.str))), some (.ow (.lst (S.map PyData.str))), x5, none] := rfl
  rw [em1, hb1] at e1
  have ix : ixOp (.list (PyData.str b :: bs.map PyData.str)) (.int 0) = some (.fr (.str b)) := by
    have : ixD (PyData.str b :: bs.map PyData.str).length 0 = some 0 := by
      unfold ixD
      rw [if_pos (by decide), if_pos (by simp)]
      rfl
    simp only [ixOp, this]
    rfl
  -- others
  have e2 := lc_ok (ks := [6]) (it := fIterS (fVar 4)) (g := gNm 6) (c := fTest (fOp (eqOp true) (fVar 6) (fVar 5))) (f := fVar 6)
    (ρ := [some (.fr O), some (.fr L), some (.ow (.lst found)), some (.ow (.lst (gone.map PyData.str))), some (.ow (.lst (S.map PyData.str))), some (.fr (.str b)), none]) (ρ1 := [some (.fr O), some (.fr L), some (.ow (.lst found)), some (.ow (.lst (gone.map PyData.str))), some (.fr (.list (S.map PyData.str))), some (.fr (.str b)), none]) (ρ0 := [some (.fr O), some (.fr L), some (.ow (.lst found)), some (.ow (.lst (gone.map PyData.str))), some (.fr (.list (S.map PyData.str))), some (.fr (.str b)), none]) (ds := S.map PyData.str)
    (fun d => !(strOf d == b)) id rfl (by simp; omega) (by simp) rfl (fun d hd => by
      obtain ⟨x, hx, rfl⟩ := List.mem_map.mp hd
      refine ⟨_, rfl, [some (.fr O), some (.fr L), some (.ow (.lst found)), some (.ow (.lst (gone.map PyData.str))), some (.fr (.list (S.map PyData.str))), some (.fr (.str b)), some (.fr (.str x))], ?_, fun _ => ⟨_, rfl, rfl⟩, fun _ => rfl⟩
      simp [fTest, fOp, fVar, Res.bind, rd, rd0, neS (hrk x hx) hbl, ofOpt, asB, strOf])
  have em2 : ((S.map PyData.str).filter fun d => !(strOf d == b)).map id = (S.filter fun x => !(x == b)).map PyData.str := by
    rw [List.map_id, List.filter_map]
    rfl
  have hb2 : backE [some (.fr O), some (.fr L), some (.ow (.lst found)), some (.ow (.lst (gone.map PyData.str))), some (.fr (.list (S.map PyData.str))), some (.fr (.str b)), none] [some (.fr O), some (.fr L), some (.ow (.lst found)), some (.ow (.lst (gone.map PyData.str))), some (.fr (.list (S.map PyData.str))), some (.fr (.str b)), none] [6] = [some (.fr O), some (.fr L), some (.ow (.lst found)), some (.ow (.lst (gone.map PyData.str))), some (.fr (.list (S.map PyData.str))), some (.fr (.str b)), none] := rfl
  rw [em2, hb2] at e2
  have s1 : fAsg 5 (fOp ixOp (fLc [6] (fIterS (fVar 1)) (gNm 6) (fTest (fOp (inOp false) (fVar 6) (fVar 4))) (fVar 6)) (fC (.int 0))) [some (.fr O), some (.fr L), some (.ow (.lst found)), some (.ow (.lst (gone.map PyData.str))), some (.ow (.lst (S.map PyData.str))), x5, none] = .ok .nx [some (.fr O), some (.fr L), some (.ow (.lst found)), some (.ow (.lst (gone.map PyData.str))), some (.ow (.lst (S.map PyData.str))), some (.fr (.str b)), none] := by
    rw [fAsg, fOp, e1]
    simp only [fC, Res.bind, rd, rd0, Cn.rd, ix, ofOpt]
    rfl
  have hfl : found.length < 100000 := by omega
  have hgl : gone.length < 100000 := by omega
  have s2 : fDrop (fAppend 2 (fTup (fCons (fVar 5) (fCons (fFz (fLc [6] (fIterS (fVar 4)) (gNm 6) (fTest (fOp (eqOp true) (fVar 6) (fVar 5))) (fVar 6))) fNil)))) [some (.fr O), some (.fr L), some (.ow (.lst found)), some (.ow (.lst (gone.map PyData.str))), some (.ow (.lst (S.map PyData.str))), some (.fr (.str b)), none] = .ok .nx [some (.fr O), some (.fr L), some (.ow (.lst (found ++ [encB (b, S.filter fun x => !(x == b))]))), some (.ow (.lst (gone.map PyData.str))), some (.fr (.list (S.map PyData.str))), some (.fr (.str b)), none] := by
    simp [fDrop, fAppend, fTup, fCons, fVar, fNil, Res.bind, e2, DL.frs, fFz, frz, Sl.own, Sl.put, hfl, encB, Cn.rd]
  have s3 : fDrop (fAppend 3 (fVar 5)) [some (.fr O), some (.fr L), some (.ow (.lst (found ++ [encB (b, S.filter fun x => !(x == b))]))), some (.ow (.lst (gone.map PyData.str))), some (.fr (.list (S.map PyData.str))), some (.fr (.str b)), none] = .ok .nx [some (.fr O), some (.fr L), some (.ow (.lst (found ++ [encB (b, S.filter fun x => !(x == b))]))), some (.ow (.lst ((gone ++ [b]).map PyData.str))), some (.fr (.list (S.map PyData.str))), some (.fr (.str b)), none] := by
    simp [fDrop, fAppend, fVar, Res.bind, fFz, frz, Sl.own, Sl.put, hgl]
  have s4 : fAsg 4 (fCallV d_ripe (fCons (fVar 0) (fCons (fVar 3) fNil))) [some (.fr O), some (.fr L), some (.ow (.lst (found ++ [encB (b, S.filter fun x => !(x == b))]))), some (.ow (.lst ((gone ++ [b]).map PyData.str))), some (.fr (.list (S.map PyData.str))), some (.fr (.str b)), none] = .ok .nx [some (.fr O), some (.fr L), some (.ow (.lst (found ++ [encB (b, S.filter fun x => !(x == b))]))), some (.ow (.lst ((gone ++ [b]).map PyData.str))), some (.ow (.lst (S2.map PyData.str))), some (.fr (.str b)), none] := by
    generalize (gone ++ [b]).map PyData.str = G2 at *
    simp [fAsg, fCallV, fCons, fVar, fNil, Res.bind, callV, rds, rd, rd0, Sl.own, Cn.rd, er, allFr, isFr, noLstS, noLsts_str, put1]
  rw [passBody, fSeq, s1]
  simp only [Res.bind]
  rw [fSeq, s2]
  simp only [Res.bind]
  rw [fSeq, s3]
  simp only [Res.bind]
  rw [s4]
theorem pass_loop {o : Orch} {L : PyData} {l : List Str} (h : SmallO o) (hk : OkO o) (hL : IsSeq L l) (hl : l.length ≤ 1000) (hlk : ∀ x ∈ l, PyData.strOk x = true) : ∀ (n m : Nat) (gone : List Str) (found : List PyData) (x5 : Option Sl) (q : List (Str × List Str)), passP n o l gone = some q → n ≤ m → found.length + n ≤ 1500 → gone.length + n ≤ 1500 → ∃ r3 r4 r5,
    fWhile m (fTest (fOp gtOp (fCB lenOp (fCons (fVar 4) fNil)) (fC (.int 0)))) passBody [some (.fr (encO o)), some (.fr L), some (.ow (.lst found)), some (.ow (.lst (gone.map PyData.str))), some (.ow (.lst ((ripeP o gone).map PyData.str))), x5, none]
      = .ok .nx [some (.fr (encO o)), some (.fr L), some (.ow (.lst (found ++ q.map encB))), r3, r4, r5, none]
  | 0, _, _, _, _, _, hq, _, _, _ => by cases hq
  | n + 1, 0, _, _, _, _, _, hm, _, _ => by omega
  | n + 1, m + 1, gone, found, x5, q, hq, hm, hf, hg => by
    have hrl := ripe_len o gone
    have hn := h.n
    have e1 : fTest (fOp gtOp (fCB lenOp (fCons (fVar 4) fNil)) (fC (.int 0))) [some (.fr (encO o)), some (.fr L), some (.ow (.lst found)), some (.ow (.lst (gone.map PyData.str))), some (.ow (.lst ((ripeP o gone).map PyData.str))), x5, none] = .ok (decide (0 < (ripeP o gone).length)) [some (.fr (encO o)), some (.fr L), some (.ow (.lst found)), some (.ow (.lst (gone.map PyData.str))), some (.ow (.lst ((ripeP o gone).map PyData.str))), x5, none] := by
      have hz : (ripeP o gone).length ≤ 100000 := by omega
      simp [fTest, fOp, fCB, fCons, fVar, fC, fNil, Res.bind, rds, rd, rd0, Sl.own, Cn.rd, lenOp, hz, ofOpt, gtI, asB]
    rw [fWhile, e1]
    simp only [Res.bind]
    rw [passP] at hq
    cases hr : ripeP o gone with
    | nil =>
      rw [hr] at hq
      cases hq
      exact ⟨some (.ow (.lst (gone.map PyData.str))), some (.ow (.lst [])), x5, by simp⟩
    | cons r rs =>
      rw [hr] at hq
      simp only [] at hq
      cases hb : (l.filter fun x => mem x (r :: rs)) with
      | nil => rw [hb] at hq; cases hq
      | cons b bs =>
        rw [hb] at hq
        simp only [] at hq
        have eb := pass_body (found := found) (gone := gone) (x5 := x5) (b := b) (bs := bs) h hk hL hl hlk (by omega) (by omega) (by rw [hr]; exact hb)
        rw [hr] at eb
        rw [if_pos (by simp), eb]
        simp only []
        cases hp : passP n o l (gone ++ [b]) with
        | none => rw [hp] at hq; cases hq
        | some q' =>
          rw [hp] at hq
          cases hq
          obtain ⟨r3, r4, r5, e2⟩ := pass_loop h hk hL hl hlk n m (gone ++ [b]) (found ++ [encB (b, (r :: rs).filter fun x => !(x == b))]) (some (.fr (.str b))) q' hp (by omega) (by simp; omega) (by simp; omega)
          refine ⟨r3, r4, r5, ?_⟩
          rw [e2]
          simp
theorem pass_ok {o : Orch} {L : PyData} {l : List Str} (h : SmallO o) (hk : OkO o) (hL : IsSeq L l) (hl : l.length ≤ 1000) (hlk : ∀ x ∈ l, PyData.strOk x = true) {n : Nat} {q : List (Str × List Str)} (hn : n ≤ 1000) (hq : passP n o l [] = some q) :
    d_passed_by none [encO o, L] = .ok (.ow (.lst (q.map encB))) none := by
  obtain ⟨r3, r4, r5, e⟩ := pass_loop h hk hL hl hlk n 1000 [] [] none q hq hn (by simp; omega) (by simp; omega)
  have er := ripe_ok h (G := .list []) (gone := []) (.inl rfl)
  show finR none (g_passed_by [some (.fr (encO o)), some (.fr L), none, none, none, none, none]) = _
  have s0 : fPar [2, 3] (fCons (fLst fNil) (fCons (fLst fNil) fNil)) [some (.fr (encO o)), some (.fr L), none, none, none, none, none] = .ok .nx [some (.fr (encO o)), some (.fr L), some (.ow (.lst [])), some (.ow (.lst [])), none, none, none] := rfl
  have s1 : fAsg 4 (fCallV d_ripe (fCons (fVar 0) (fCons (fVar 3) fNil))) [some (.fr (encO o)), some (.fr L), some (.ow (.lst [])), some (.ow (.lst [])), none, none, none] = .ok .nx [some (.fr (encO o)), some (.fr L), some (.ow (.lst [])), some (.ow (.lst [])), some (.ow (.lst ((ripeP o []).map PyData.str))), none, none] := by
    simp [fAsg, fCallV, fCons, fVar, fNil, Res.bind, callV, rds, rd, rd0, Sl.own, Cn.rd, er, allFr, isFr, noLstS, noLsts_str, put1]
  unfold passBody at e
  rw [g_passed_by, fSeq, s0]
  simp only [Res.bind]
  rw [fSeq, s1]
  simp only [Res.bind]
  rw [fSeq]
  have e' := e
  simp only [List.map_nil, List.nil_append] at e'
  rw [e']
  rfl
theorem pick_ok {o : Orch} {L : PyData} {l : List Str} (h : SmallO o) (hk : OkO o) (hL : IsSeq L l) (hl : l.length ≤ 1000) (hlk : ∀ x ∈ l, PyData.strOk x = true) {n : Nat} {q : List (Str × List Str)} (hn : n ≤ 1000) (hql : q.length ≤ 1000) (hq : passP n o l [] = some q) :
    d_pick none [encO o, L] = .ok (.ow (.lst ((q.map (·.1)).map PyData.str))) none := by
  have ep := pass_ok h hk hL hl hlk hn hq
  show finR none (g_pick [some (.fr (encO o)), some (.fr L), none, none]) = _
  have e1 := lc_ok (ks := [2, 3]) (it := fIterS (fCallV d_passed_by (fCons (fVar 0) (fCons (fVar 1) fNil)))) (g := gSeqF 2 (gConsF (gNm 2) (gConsF (gNm 3) gNilF))) (c := fun ρ => .ok true ρ) (f := fVar 2)
    (ρ := [some (.fr (encO o)), some (.fr L), none, none]) (ρ1 := [some (.fr (encO o)), some (.fr L), none, none]) (ρ0 := [some (.fr (encO o)), some (.fr L), none, none]) (ds := q.map encB)
    (fun _ => true) lesH (by simp [fIterS, fFz, fCallV, fCons, fVar, fNil, Res.bind, callV, rds, rd, rd0, ep, allFr, isFr, frz, Cn.rd, asS]) (by simp; omega) (by simp) rfl (fun d hd => by
      obtain ⟨p, hp, rfl⟩ := List.mem_map.mp hd
      exact ⟨_, rfl, _, rfl, fun _ => ⟨_, rfl, rfl⟩, fun z => (by cases z)⟩)
  have em : (q.map encB).map lesH = (q.map (·.1)).map PyData.str := by
    rw [List.map_map, List.map_map]
    rfl
  rw [filt_true, em] at e1
  rw [g_pick, fRet, e1]
  rfl
end TX

namespace TX
open PySem PySem.Spec PyProof.Rows L2 RZ DL
/-! ### _law_same on equal data -/
inductive Gd : Nat → PyData → Prop
  | str {n : Nat} {s : Str} : PyData.strOk s = true → Gd (n + 1) (.str s)
  | int {n : Nat} {i : Int} : Gd (n + 1) (.int i)
  | list {n : Nat} {ds : List PyData} : (∀ d ∈ ds, Gd n d) → ds.length ≤ 100000 → Gd (n + 1) (.list ds)
  | tuple {n : Nat} {ds : List PyData} : (∀ d ∈ ds, Gd n d) → ds.length ≤ 100000 → Gd (n + 1) (.tuple ds)
theorem neB {a b : Bool} : eqOp true (.bool a) (.bool b) = some (.fr (.bool (!(a == b)))) := by
  simp [eqOp, canEq, SeqAt.shaped, PyData.canLay0, PyData.depth, PyData.eqv]
theorem eqB {a b : Bool} : eqOp false (.bool a) (.bool b) = some (.fr (.bool (a == b))) := by
  simp [eqOp, canEq, SeqAt.shaped, PyData.canLay0, PyData.depth, PyData.eqv]
theorem eqI {a b : Int} : eqOp false (.int a) (.int b) = some (.fr (.bool (a == b))) := by
  simp [eqOp, canEq, SeqAt.shaped, PyData.canLay0, PyData.depth, PyData.eqv]
theorem same_seq {n : Nat} {d : PyData} {ds : List PyData} (hd : d = .list ds ∨ d = .tuple ds) (hz : ds.length ≤ 100000) (H : ∀ x ∈ ds, d__law_same n none [x, x] = .ok (.fr (.bool true)) none) : d__law_same (n + 1) none [d, d] = .ok (.fr (.bool true)) none := by
  show finR none (g__law_same (d__law_same n) [some (.fr d), some (.fr d), none, none]) = _
  have e := lc_ok (ks := [2, 3]) (it := fZip (fCons (fFz (fVar 0)) (fCons (fFz (fVar 1)) fNil))) (g := gSeqF 2 (gConsF (gNm 2) (gConsF (gNm 3) gNilF))) (c := fun ρ => .ok true ρ) (f := fCallV (d__law_same n) (fCons (fVar 2) (fCons (fVar 3) fNil)))
    (ρ := [some (.fr d), some (.fr d), none, none]) (ρ1 := [some (.fr d), some (.fr d), none, none]) (ρ0 := [some (.fr d), some (.fr d), none, none]) (ds := ds.map fun x => .tuple [x, x]) (fun _ => true) (fun _ => .bool true)
    (by
      rcases hd with rfl | rfl <;> simp [fZip, fCons, fFz, fVar, fNil, Res.bind, frz, zipD, List.zipWith_self]) (by rw [List.length_map]; exact hz) (by simp) rfl (fun y hy => by
      obtain ⟨x, hx, rfl⟩ := List.mem_map.mp hy
      refine ⟨_, rfl, _, rfl, fun _ => ⟨[some (.fr d), some (.fr d), some (.fr x), some (.fr x)], ?_, rfl⟩, fun z => (by cases z)⟩
      simp [fFz, fCallV, fCons, fVar, fNil, Res.bind, callV, rds, rd, rd0, H x hx, allFr, isFr, frz])
  have em : ((ds.map fun x => PyData.tuple [x, x]).filter fun _ => true).map (fun _ => PyData.bool true) = (ds.map fun _ => true).map PyData.bool := by
    rw [filt_true, List.map_map, List.map_map]
    rfl
  have hb : backE [some (.fr d), some (.fr d), none, none] [some (.fr d), some (.fr d), none, none] [2, 3] = [some (.fr d), some (.fr d), none, none] := rfl
  rw [em, hb] at e
  have hall : (ds.map fun _ => true).all id = true := by simp
  have e2 : fCB allOp (fCons (fLc [2, 3] (fZip (fCons (fFz (fVar 0)) (fCons (fFz (fVar 1)) fNil))) (gSeqF 2 (gConsF (gNm 2) (gConsF (gNm 3) gNilF))) (fun ρ => .ok true ρ) (fCallV (d__law_same n) (fCons (fVar 2) (fCons (fVar 3) fNil)))) fNil) [some (.fr d), some (.fr d), none, none] = .ok (.fr (.bool true)) [some (.fr d), some (.fr d), none, none] := by
    rw [fCB, fCons, e]
    simp only [fNil, Res.bind, rds, rd, rd0, Cn.rd, allOp, bools_map, Option.map, ofOpt, hall]
  have hlen : lenOp [d] = some (.fr (.int ds.length)) := by
    rcases hd with rfl | rfl <;> simp [lenOp, hz]
  have i1 : ∀ i, i = 0 ∨ i = 1 → fIsi "list" (fVar i) [some (.fr d), some (.fr d), none, none] = .ok (.fr (.bool (isTy "list" d))) [some (.fr d), some (.fr d), none, none] := by
    intro i hi
    rcases hi with rfl | rfl <;> rcases hd with rfl | rfl <;> rfl
  have i2 : ∀ i, i = 0 ∨ i = 1 → fIsi "tuple" (fVar i) [some (.fr d), some (.fr d), none, none] = .ok (.fr (.bool (isTy "tuple" d))) [some (.fr d), some (.fr d), none, none] := by
    intro i hi
    rcases hi with rfl | rfl <;> rcases hd with rfl | rfl <;> rfl
  have i3 : fIsi2 "list" "tuple" (fVar 1) [some (.fr d), some (.fr d), none, none] = .ok (.fr (.bool true)) [some (.fr d), some (.fr d), none, none] := by
    rcases hd with rfl | rfl <;> rfl
  have t1 : fTest (fIsi2 "list" "tuple" (fVar 1)) [some (.fr d), some (.fr d), none, none] = .ok true [some (.fr d), some (.fr d), none, none] := by
    rw [fTest, i3]
    rfl
  have t2 : fOr (fTest (fOp (eqOp true) (fIsi "list" (fVar 0)) (fIsi "list" (fVar 1)))) (fTest (fOp (eqOp true) (fIsi "tuple" (fVar 0)) (fIsi "tuple" (fVar 1)))) [some (.fr d), some (.fr d), none, none] = .ok false [some (.fr d), some (.fr d), none, none] := by
    simp [fOr, fTest, fOp, i1, i2, Res.bind, rd, rd0, neB, ofOpt, asB]
  have t3 : fOp (eqOp false) (fCB lenOp (fCons (fVar 0) fNil)) (fCB lenOp (fCons (fVar 1) fNil)) [some (.fr d), some (.fr d), none, none] = .ok (.fr (.bool true)) [some (.fr d), some (.fr d), none, none] := by
    simp [fOp, fCB, fCons, fVar, fNil, Res.bind, rds, rd, rd0, hlen, eqI, ofOpt]
  rw [g__law_same, fSeq, fIfS, t1]
  simp only [Res.bind, if_true]
  rw [fSeq, fIfS, t2]
  simp only [Res.bind, Bool.false_eq_true, if_false, fNext]
  rw [fRet, fAndV, t3]
  simp only [Res.bind, asB, if_true]
  rw [e2]
  rfl
theorem same_atom {n : Nat} {d : PyData} (h1 : ∀ (i : Nat), i = 0 ∨ i = 1 → fIsi2 "list" "tuple" (fVar i) [some (.fr d), some (.fr d), none, none] = .ok (.fr (.bool false)) [some (.fr d), some (.fr d), none, none]) (h : (∃ s, d = .str s ∧ PyData.strOk s = true) ∨ ∃ i, d = .int i) : d__law_same (n + 1) none [d, d] = .ok (.fr (.bool true)) none := by
  show finR none (g__law_same (d__law_same n) [some (.fr d), some (.fr d), none, none]) = _
  have t1 : fTest (fIsi2 "list" "tuple" (fVar 1)) [some (.fr d), some (.fr d), none, none] = .ok false [some (.fr d), some (.fr d), none, none] := by
    rw [fTest, h1 1 (.inr rfl)]
    rfl
  rw [g__law_same, fSeq, fIfS, t1]
  simp only [Res.bind, Bool.false_eq_true, if_false, fNext]
  rcases h with ⟨s, rfl, hs⟩ | ⟨i, rfl⟩
  · have t2 : fOr (fTest (fOp (isN false) (fVar 1) (fC .none))) (fTest (fIsi2 "str" "bool" (fVar 1))) [some (.fr (.str s)), some (.fr (.str s)), none, none] = .ok true [some (.fr (.str s)), some (.fr (.str s)), none, none] := rfl
    have t3 : fOp (eqOp false) (fIsi "bool" (fVar 0)) (fIsi "bool" (fVar 1)) [some (.fr (.str s)), some (.fr (.str s)), none, none] = .ok (.fr (.bool true)) [some (.fr (.str s)), some (.fr (.str s)), none, none] := by
      have i1 : ∀ i, i = 0 ∨ i = 1 → fIsi "bool" (fVar i) [some (.fr (.str s)), some (.fr (.str s)), none, none] = .ok (.fr (.bool false)) [some (.fr (.str s)), some (.fr (.str s)), none, none] := by
        intro i hi
        rcases hi with rfl | rfl <;> rfl
      simp [fOp, i1, Res.bind, rd, rd0, eqB, ofOpt]
    rw [fSeq, fIfS, t2]
    simp only [Res.bind, if_true]
    rw [fRet, fAndV, t3]
    simp only [Res.bind, asB, if_true]
    simp [fOp, fVar, Res.bind, rd, rd0, eqS hs hs, ofOpt, finR, finC, retS]
  · have t2 : fOr (fTest (fOp (isN false) (fVar 1) (fC .none))) (fTest (fIsi2 "str" "bool" (fVar 1))) [some (.fr (.int i)), some (.fr (.int i)), none, none] = .ok false [some (.fr (.int i)), some (.fr (.int i)), none, none] := rfl
    have t3 : fIsi "int" (fVar 0) [some (.fr (.int i)), some (.fr (.int i)), none, none] = .ok (.fr (.bool true)) [some (.fr (.int i)), some (.fr (.int i)), none, none] := rfl
    have t4 : fNotV (fIsi "bool" (fVar 0)) [some (.fr (.int i)), some (.fr (.int i)), none, none] = .ok (.fr (.bool true)) [some (.fr (.int i)), some (.fr (.int i)), none, none] := rfl
    rw [fSeq, fIfS, t2]
    simp only [Res.bind, Bool.false_eq_true, if_false, fNext]
    rw [fRet, fAndV, t3]
    simp only [Res.bind, asB, if_true]
    rw [fAndV, t4]
    simp only [Res.bind, asB, if_true]
    simp [fOp, fVar, Res.bind, rd, rd0, eqI, ofOpt, finR, finC, retS]
theorem same_refl : ∀ (n : Nat) (d : PyData), Gd n d → d__law_same n none [d, d] = .ok (.fr (.bool true)) none := by
  intro n
  induction n with
  | zero => intro d h; cases h
  | succ n ih =>
    intro d h
    cases h with
    | str hs => exact same_atom (fun i hi => by rcases hi with rfl | rfl <;> rfl) (.inl ⟨_, rfl, hs⟩)
    | int => exact same_atom (fun i hi => by rcases hi with rfl | rfl <;> rfl) (.inr ⟨_, rfl⟩)
    | list h1 h2 => exact same_seq (.inl rfl) h2 fun x hx => ih x (h1 x hx)
    | tuple h1 h2 => exact same_seq (.inr rfl) h2 fun x hx => ih x (h1 x hx)
/-! ### sorting, as a set -/
theorem srt_perm (xs : List Str) : (srt xs).Perm xs := List.mergeSort_perm _ _
theorem any_perm {α : Type} {l m : List α} (h : l.Perm m) (p : α → Bool) : l.any p = m.any p := by
  rw [Bool.eq_iff_iff, List.any_eq_true, List.any_eq_true]
  exact ⟨fun ⟨x, hx, hp⟩ => ⟨x, h.mem_iff.mp hx, hp⟩, fun ⟨x, hx, hp⟩ => ⟨x, h.mem_iff.mpr hx, hp⟩⟩
theorem all_perm {α : Type} {l m : List α} (h : l.Perm m) (p : α → Bool) : l.all p = m.all p := by
  rw [Bool.eq_iff_iff, List.all_eq_true, List.all_eq_true]
  exact ⟨fun H x hx => H x (h.mem_iff.mpr hx), fun H x hx => H x (h.mem_iff.mp hx)⟩
theorem mem_srt (x : Str) (ys : List Str) : mem x (srt ys) = mem x ys := any_perm (srt_perm ys) _
theorem within_srt (xs g : List Str) : within (srt xs) g = within xs g := all_perm (srt_perm xs) _
theorem within_srt2 (xs g : List Str) : within xs (srt g) = within xs g := by
  unfold within
  simp only [mem_srt]
theorem srt_eq {xs ys : List Str} (h : ys.Pairwise fun a b => a.cps.toList ≤ b.cps.toList) (hp : xs.Perm ys) : srt xs = ys := by
  have h1 := List.pairwise_mergeSort (le := fun a b : Str => decide (a.cps.toList ≤ b.cps.toList)) (fun a b c h1 h2 => decide_eq_true (List.le_trans (of_decide_eq_true h1) (of_decide_eq_true h2))) (fun a b => by
    rcases List.le_total a.cps.toList b.cps.toList with h | h
    · rw [decide_eq_true h]; rfl
    · rw [decide_eq_true h, Bool.or_true]) xs
  refine List.Perm.eq_of_pairwise (le := fun a b : Str => a.cps.toList ≤ b.cps.toList) (fun a b _ _ h1 h2 => str_ext (List.le_antisymm h1 h2)) (h1.imp fun h => of_decide_eq_true h) h ((srt_perm xs).trans hp)
theorem srt_sorted (xs : List Str) : (srt xs).Pairwise fun a b => a.cps.toList ≤ b.cps.toList := by
  have h1 := List.pairwise_mergeSort (le := fun a b : Str => decide (a.cps.toList ≤ b.cps.toList)) (fun a b c h1 h2 => decide_eq_true (List.le_trans (of_decide_eq_true h1) (of_decide_eq_true h2))) (fun a b => by
    rcases List.le_total a.cps.toList b.cps.toList with h | h
    · rw [decide_eq_true h]; rfl
    · rw [decide_eq_true h, Bool.or_true]) xs
  exact h1.imp fun h => of_decide_eq_true h
end TX

namespace TX
open PySem PySem.Spec PyProof.Rows L2 RZ DL
theorem mem_nil (x : Str) : mem x [] = false := rfl
theorem mem_cons (x y : Str) (ys : List Str) : mem x (y :: ys) = ((y == x) || mem x ys) := rfl
theorem within_nil (g : List Str) : within [] g = true := rfl
theorem within_cons (x : Str) (xs g : List Str) : within (x :: xs) g = (mem x g && within xs g) := rfl
theorem any_nil (g : List Str) : anyIn [] g = false := rfl
theorem any_cons (l : List Str) (ls : List (List Str)) (g : List Str) : anyIn (l :: ls) g = (within l g || anyIn ls g) := rfl
structure Four (a b c d : Str) : Prop where
  ab : (a == b) = false
  ac : (a == c) = false
  ad : (a == d) = false
  ba : (b == a) = false
  bc : (b == c) = false
  bd : (b == d) = false
  ca : (c == a) = false
  cb : (c == b) = false
  cd : (c == d) = false
  da : (d == a) = false
  db : (d == b) = false
  dc : (d == c) = false
theorem Four.pab {a b c d : Str} (H : Four a b c d) : ¬ a = b := fun z => by have := H.ab; rw [z] at this; simp at this
theorem Four.pac {a b c d : Str} (H : Four a b c d) : ¬ a = c := fun z => by have := H.ac; rw [z] at this; simp at this
theorem Four.pad {a b c d : Str} (H : Four a b c d) : ¬ a = d := fun z => by have := H.ad; rw [z] at this; simp at this
theorem Four.pba {a b c d : Str} (H : Four a b c d) : ¬ b = a := fun z => by have := H.ba; rw [z] at this; simp at this
theorem Four.pbc {a b c d : Str} (H : Four a b c d) : ¬ b = c := fun z => by have := H.bc; rw [z] at this; simp at this
theorem Four.pbd {a b c d : Str} (H : Four a b c d) : ¬ b = d := fun z => by have := H.bd; rw [z] at this; simp at this
theorem Four.pca {a b c d : Str} (H : Four a b c d) : ¬ c = a := fun z => by have := H.ca; rw [z] at this; simp at this
theorem Four.pcb {a b c d : Str} (H : Four a b c d) : ¬ c = b := fun z => by have := H.cb; rw [z] at this; simp at this
theorem Four.pcd {a b c d : Str} (H : Four a b c d) : ¬ c = d := fun z => by have := H.cd; rw [z] at this; simp at this
theorem Four.pda {a b c d : Str} (H : Four a b c d) : ¬ d = a := fun z => by have := H.da; rw [z] at this; simp at this
theorem Four.pdb {a b c d : Str} (H : Four a b c d) : ¬ d = b := fun z => by have := H.db; rw [z] at this; simp at this
theorem Four.pdc {a b c d : Str} (H : Four a b c d) : ¬ d = c := fun z => by have := H.dc; rw [z] at this; simp at this
section
variable {a b c d : Str} {p q r s : Int}
abbrev gar (a b c d : Str) : Orch := [(a, [[]]), (b, [[a]]), (c, [[]]), (d, [])]
abbrev lik (a b c d : Str) : List Str := [c, a, d, b]
abbrev fees (a b c d : Str) (p q r s : Int) : List (Str × Int) := [(a, p), (b, q), (c, r), (d, s)]
theorem ill1 (H : Four a b c d) : illHungP (gar a b c d) (lik a b c d) [c, a, b] = [] := by
  simp [illHungP, illP, knownP, lateP, soonP, isRipeP, ripeBits, mem_nil, mem_cons, mem_srt, within_nil, within_cons, within_srt, within_srt2, pos, lesI, H.ab, H.pab, H.ac, H.pac, H.ad, H.pad, H.ba, H.pba, H.bc, H.pbc, H.bd, H.pbd, H.ca, H.pca, H.cb, H.pcb, H.cd, H.pcd, H.da, H.pda, H.db, H.pdb, H.dc, H.pdc]
theorem least1 (H : Four a b c d) : leastP (gar a b c d) (lik a b c d) [c, a, b] (fees a b c d p q r s) = 0 := by
  simp [leastP, illN, ill1 H, mem_nil, mem_cons, H.ab, H.pab, H.ac, H.pac, H.ad, H.pad, H.ba, H.pba, H.bc, H.pbc, H.bd, H.pbd, H.ca, H.pca, H.cb, H.pcb, H.cd, H.pcd, H.da, H.pda, H.db, H.pdb, H.dc, H.pdc]
theorem anew1 (H : Four a b c d) : anewP (gar a b c d) (lik a b c d) [c, a, b] = [(a, [[]]), (b, [[a]]), (c, [[]]), (d, [])] := by
  simp [anewP, illN, ill1 H, anewOne, mem_nil, mem_cons, pos, H.ab, H.pab, H.ac, H.pac, H.ad, H.pad, H.ba, H.pba, H.bc, H.pbc, H.bd, H.pbd, H.ca, H.pca, H.cb, H.pcb, H.cd, H.pcd, H.da, H.pda, H.db, H.pdb, H.dc, H.pdc]
theorem pass1 (H : Four a b c d) : ∃ q, passP 6 [(a, [[]]), (b, [[a]]), (c, [[]]), (d, [])] (lik a b c d) [] = some q ∧ q.map (·.1) = [c, a, b] ∧ q.length ≤ 10 := by
  refine ⟨[(c, [a]), (a, []), (b, [])], ?_, rfl, by simp⟩
  simp [passP, ripeP, any_nil, any_cons, mem_nil, mem_cons, mem_srt, within_nil, within_cons, within_srt, within_srt2, H.ab, H.pab, H.ac, H.pac, H.ad, H.pad, H.ba, H.pba, H.bc, H.pbc, H.bd, H.pbd, H.ca, H.pca, H.cb, H.pcb, H.cd, H.pcd, H.da, H.pda, H.db, H.pdb, H.dc, H.pdc]
theorem ill2 (H : Four a b c d) : illHungP (gar a b c d) (lik a b c d) [a, c, b] = [(c, ("soon" : Str))] := by
  simp [illHungP, illP, knownP, lateP, soonP, isRipeP, ripeBits, mem_nil, mem_cons, mem_srt, within_nil, within_cons, within_srt, within_srt2, pos, lesI, H.ab, H.pab, H.ac, H.pac, H.ad, H.pad, H.ba, H.pba, H.bc, H.pbc, H.bd, H.pbd, H.ca, H.pca, H.cb, H.pcb, H.cd, H.pcd, H.da, H.pda, H.db, H.pdb, H.dc, H.pdc]
theorem least2 (H : Four a b c d) : leastP (gar a b c d) (lik a b c d) [a, c, b] (fees a b c d p q r s) = r := by
  simp [leastP, illN, ill2 H, mem_nil, mem_cons, H.ab, H.pab, H.ac, H.pac, H.ad, H.pad, H.ba, H.pba, H.bc, H.pbc, H.bd, H.pbd, H.ca, H.pca, H.cb, H.pcb, H.cd, H.pcd, H.da, H.pda, H.db, H.pdb, H.dc, H.pdc]
theorem anew2 (H : Four a b c d) : anewP (gar a b c d) (lik a b c d) [a, c, b] = [(a, [[]]), (b, [[a]]), (c, [srt [a]]), (d, [])] := by
  simp [anewP, illN, ill2 H, anewOne, mem_nil, mem_cons, pos, H.ab, H.pab, H.ac, H.pac, H.ad, H.pad, H.ba, H.pba, H.bc, H.pbc, H.bd, H.pbd, H.ca, H.pca, H.cb, H.pcb, H.cd, H.pcd, H.da, H.pda, H.db, H.pdb, H.dc, H.pdc]
theorem pass2 (H : Four a b c d) : ∃ q, passP 6 [(a, [[]]), (b, [[a]]), (c, [srt [a]]), (d, [])] (lik a b c d) [] = some q ∧ q.map (·.1) = [a, c, b] ∧ q.length ≤ 10 := by
  refine ⟨[(a, []), (c, [b]), (b, [])], ?_, rfl, by simp⟩
  simp [passP, ripeP, any_nil, any_cons, mem_nil, mem_cons, mem_srt, within_nil, within_cons, within_srt, within_srt2, H.ab, H.pab, H.ac, H.pac, H.ad, H.pad, H.ba, H.pba, H.bc, H.pbc, H.bd, H.pbd, H.ca, H.pca, H.cb, H.pcb, H.cd, H.pcd, H.da, H.pda, H.db, H.pdb, H.dc, H.pdc]
theorem ill3 (H : Four a b c d) : illHungP (gar a b c d) (lik a b c d) [c, b, a] = [(a, ("soon" : Str)), (b, ("late" : Str))] := by
  simp [illHungP, illP, knownP, lateP, soonP, isRipeP, ripeBits, mem_nil, mem_cons, mem_srt, within_nil, within_cons, within_srt, within_srt2, pos, lesI, H.ab, H.pab, H.ac, H.pac, H.ad, H.pad, H.ba, H.pba, H.bc, H.pbc, H.bd, H.pbd, H.ca, H.pca, H.cb, H.pcb, H.cd, H.pcd, H.da, H.pda, H.db, H.pdb, H.dc, H.pdc]
theorem least3 (H : Four a b c d) : leastP (gar a b c d) (lik a b c d) [c, b, a] (fees a b c d p q r s) = p + q := by
  simp [leastP, illN, ill3 H, mem_nil, mem_cons, H.ab, H.pab, H.ac, H.pac, H.ad, H.pad, H.ba, H.pba, H.bc, H.pbc, H.bd, H.pbd, H.ca, H.pca, H.cb, H.pcb, H.cd, H.pcd, H.da, H.pda, H.db, H.pdb, H.dc, H.pdc]
  try omega
theorem anew3 (H : Four a b c d) : anewP (gar a b c d) (lik a b c d) [c, b, a] = [(a, [srt [c, b]]), (b, [srt [c]]), (c, [[]]), (d, [])] := by
  simp [anewP, illN, ill3 H, anewOne, mem_nil, mem_cons, pos, H.ab, H.pab, H.ac, H.pac, H.ad, H.pad, H.ba, H.pba, H.bc, H.pbc, H.bd, H.pbd, H.ca, H.pca, H.cb, H.pcb, H.cd, H.pcd, H.da, H.pda, H.db, H.pdb, H.dc, H.pdc]
theorem pass3 (H : Four a b c d) : ∃ q, passP 6 [(a, [srt [c, b]]), (b, [srt [c]]), (c, [[]]), (d, [])] (lik a b c d) [] = some q ∧ q.map (·.1) = [c, b, a] ∧ q.length ≤ 10 := by
  refine ⟨[(c, []), (b, []), (a, [])], ?_, rfl, by simp⟩
  simp [passP, ripeP, any_nil, any_cons, mem_nil, mem_cons, mem_srt, within_nil, within_cons, within_srt, within_srt2, H.ab, H.pab, H.ac, H.pac, H.ad, H.pad, H.ba, H.pba, H.bc, H.pbc, H.bd, H.pbd, H.ca, H.pca, H.cb, H.pcb, H.cd, H.pcd, H.da, H.pda, H.db, H.pdb, H.dc, H.pdc]
theorem ill4 (H : Four a b c d) : illHungP (gar a b c d) (lik a b c d) [] = [(a, ("soon" : Str)), (c, ("soon" : Str))] := by
  simp [illHungP, illP, knownP, lateP, soonP, isRipeP, ripeBits, mem_nil, mem_cons, mem_srt, within_nil, within_cons, within_srt, within_srt2, pos, lesI, H.ab, H.pab, H.ac, H.pac, H.ad, H.pad, H.ba, H.pba, H.bc, H.pbc, H.bd, H.pbd, H.ca, H.pca, H.cb, H.pcb, H.cd, H.pcd, H.da, H.pda, H.db, H.pdb, H.dc, H.pdc]
theorem least4 (H : Four a b c d) : leastP (gar a b c d) (lik a b c d) [] (fees a b c d p q r s) = p + r := by
  simp [leastP, illN, ill4 H, mem_nil, mem_cons, H.ab, H.pab, H.ac, H.pac, H.ad, H.pad, H.ba, H.pba, H.bc, H.pbc, H.bd, H.pbd, H.ca, H.pca, H.cb, H.pcb, H.cd, H.pcd, H.da, H.pda, H.db, H.pdb, H.dc, H.pdc]
  try omega
theorem anew4 (H : Four a b c d) : anewP (gar a b c d) (lik a b c d) [] = [(a, []), (b, [[a]]), (c, []), (d, [])] := by
  simp [anewP, illN, ill4 H, anewOne, mem_nil, mem_cons, pos, H.ab, H.pab, H.ac, H.pac, H.ad, H.pad, H.ba, H.pba, H.bc, H.pbc, H.bd, H.pbd, H.ca, H.pca, H.cb, H.pcb, H.cd, H.pcd, H.da, H.pda, H.db, H.pdb, H.dc, H.pdc]
theorem pass4 (H : Four a b c d) : ∃ q, passP 6 [(a, []), (b, [[a]]), (c, []), (d, [])] (lik a b c d) [] = some q ∧ q.map (·.1) = [] ∧ q.length ≤ 10 := by
  refine ⟨[], ?_, rfl, by simp⟩
  simp [passP, ripeP, any_nil, any_cons, mem_nil, mem_cons, mem_srt, within_nil, within_cons, within_srt, within_srt2, H.ab, H.pab, H.ac, H.pac, H.ad, H.pad, H.ba, H.pba, H.bc, H.pbc, H.bd, H.pbd, H.ca, H.pca, H.cb, H.pcb, H.cd, H.pcd, H.da, H.pda, H.db, H.pdb, H.dc, H.pdc]
theorem ill5 (H : Four a b c d) : illHungP (gar a b c d) (lik a b c d) [c, a] = [(b, ("soon" : Str))] := by
  simp [illHungP, illP, knownP, lateP, soonP, isRipeP, ripeBits, mem_nil, mem_cons, mem_srt, within_nil, within_cons, within_srt, within_srt2, pos, lesI, H.ab, H.pab, H.ac, H.pac, H.ad, H.pad, H.ba, H.pba, H.bc, H.pbc, H.bd, H.pbd, H.ca, H.pca, H.cb, H.pcb, H.cd, H.pcd, H.da, H.pda, H.db, H.pdb, H.dc, H.pdc]
theorem least5 (H : Four a b c d) : leastP (gar a b c d) (lik a b c d) [c, a] (fees a b c d p q r s) = q := by
  simp [leastP, illN, ill5 H, mem_nil, mem_cons, H.ab, H.pab, H.ac, H.pac, H.ad, H.pad, H.ba, H.pba, H.bc, H.pbc, H.bd, H.pbd, H.ca, H.pca, H.cb, H.pcb, H.cd, H.pcd, H.da, H.pda, H.db, H.pdb, H.dc, H.pdc]
theorem anew5 (H : Four a b c d) : anewP (gar a b c d) (lik a b c d) [c, a] = [(a, [[]]), (b, []), (c, [[]]), (d, [])] := by
  simp [anewP, illN, ill5 H, anewOne, mem_nil, mem_cons, pos, H.ab, H.pab, H.ac, H.pac, H.ad, H.pad, H.ba, H.pba, H.bc, H.pbc, H.bd, H.pbd, H.ca, H.pca, H.cb, H.pcb, H.cd, H.pcd, H.da, H.pda, H.db, H.pdb, H.dc, H.pdc]
theorem pass5 (H : Four a b c d) : ∃ q, passP 6 [(a, [[]]), (b, []), (c, [[]]), (d, [])] (lik a b c d) [] = some q ∧ q.map (·.1) = [c, a] ∧ q.length ≤ 10 := by
  refine ⟨[(c, [a]), (a, [])], ?_, rfl, by simp⟩
  simp [passP, ripeP, any_nil, any_cons, mem_nil, mem_cons, mem_srt, within_nil, within_cons, within_srt, within_srt2, H.ab, H.pab, H.ac, H.pac, H.ad, H.pad, H.ba, H.pba, H.bc, H.pbc, H.bd, H.pbd, H.ca, H.pca, H.cb, H.pcb, H.cd, H.pcd, H.da, H.pda, H.db, H.pdb, H.dc, H.pdc]
theorem ill6 (H : Four a b c d) : illHungP (gar a b c d) (lik a b c d) [c, a, d, b] = [(d, ("late" : Str))] := by
  simp [illHungP, illP, knownP, lateP, soonP, isRipeP, ripeBits, mem_nil, mem_cons, mem_srt, within_nil, within_cons, within_srt, within_srt2, pos, lesI, H.ab, H.pab, H.ac, H.pac, H.ad, H.pad, H.ba, H.pba, H.bc, H.pbc, H.bd, H.pbd, H.ca, H.pca, H.cb, H.pcb, H.cd, H.pcd, H.da, H.pda, H.db, H.pdb, H.dc, H.pdc]
theorem least6 (H : Four a b c d) : leastP (gar a b c d) (lik a b c d) [c, a, d, b] (fees a b c d p q r s) = s := by
  simp [leastP, illN, ill6 H, mem_nil, mem_cons, H.ab, H.pab, H.ac, H.pac, H.ad, H.pad, H.ba, H.pba, H.bc, H.pbc, H.bd, H.pbd, H.ca, H.pca, H.cb, H.pcb, H.cd, H.pcd, H.da, H.pda, H.db, H.pdb, H.dc, H.pdc]
theorem anew6 (H : Four a b c d) : anewP (gar a b c d) (lik a b c d) [c, a, d, b] = [(a, [[]]), (b, [[a]]), (c, [[]]), (d, [srt [c, a]])] := by
  simp [anewP, illN, ill6 H, anewOne, mem_nil, mem_cons, pos, H.ab, H.pab, H.ac, H.pac, H.ad, H.pad, H.ba, H.pba, H.bc, H.pbc, H.bd, H.pbd, H.ca, H.pca, H.cb, H.pcb, H.cd, H.pcd, H.da, H.pda, H.db, H.pdb, H.dc, H.pdc]
theorem pass6 (H : Four a b c d) : ∃ q, passP 6 [(a, [[]]), (b, [[a]]), (c, [[]]), (d, [srt [c, a]])] (lik a b c d) [] = some q ∧ q.map (·.1) = [c, a, d, b] ∧ q.length ≤ 10 := by
  refine ⟨[(c, [a]), (a, []), (d, [b]), (b, [])], ?_, rfl, by simp⟩
  simp [passP, ripeP, any_nil, any_cons, mem_nil, mem_cons, mem_srt, within_nil, within_cons, within_srt, within_srt2, H.ab, H.pab, H.ac, H.pac, H.ad, H.pad, H.ba, H.pba, H.bc, H.pbc, H.bd, H.pbd, H.ca, H.pca, H.cb, H.pcb, H.cd, H.pcd, H.da, H.pda, H.db, H.pdb, H.dc, H.pdc]
theorem ill7 (H : Four a b c d) : illHungP (gar a b c d) (lik a b c d) [d] = [(a, ("soon" : Str)), (c, ("soon" : Str)), (d, ("late" : Str))] := by
  simp [illHungP, illP, knownP, lateP, soonP, isRipeP, ripeBits, mem_nil, mem_cons, mem_srt, within_nil, within_cons, within_srt, within_srt2, pos, lesI, H.ab, H.pab, H.ac, H.pac, H.ad, H.pad, H.ba, H.pba, H.bc, H.pbc, H.bd, H.pbd, H.ca, H.pca, H.cb, H.pcb, H.cd, H.pcd, H.da, H.pda, H.db, H.pdb, H.dc, H.pdc]
theorem least7 (H : Four a b c d) : leastP (gar a b c d) (lik a b c d) [d] (fees a b c d p q r s) = p + r + s := by
  simp [leastP, illN, ill7 H, mem_nil, mem_cons, H.ab, H.pab, H.ac, H.pac, H.ad, H.pad, H.ba, H.pba, H.bc, H.pbc, H.bd, H.pbd, H.ca, H.pca, H.cb, H.pcb, H.cd, H.pcd, H.da, H.pda, H.db, H.pdb, H.dc, H.pdc]
  try omega
theorem anew7 (H : Four a b c d) : anewP (gar a b c d) (lik a b c d) [d] = [(a, []), (b, [[a]]), (c, []), (d, [srt []])] := by
  simp [anewP, illN, ill7 H, anewOne, mem_nil, mem_cons, pos, H.ab, H.pab, H.ac, H.pac, H.ad, H.pad, H.ba, H.pba, H.bc, H.pbc, H.bd, H.pbd, H.ca, H.pca, H.cb, H.pcb, H.cd, H.pcd, H.da, H.pda, H.db, H.pdb, H.dc, H.pdc]
theorem pass7 (H : Four a b c d) : ∃ q, passP 6 [(a, []), (b, [[a]]), (c, []), (d, [srt []])] (lik a b c d) [] = some q ∧ q.map (·.1) = [d] ∧ q.length ≤ 10 := by
  refine ⟨[(d, [])], ?_, rfl, by simp⟩
  simp [passP, ripeP, any_nil, any_cons, mem_nil, mem_cons, mem_srt, within_nil, within_cons, within_srt, within_srt2, H.ab, H.pab, H.ac, H.pac, H.ad, H.pad, H.ba, H.pba, H.bc, H.pbc, H.bd, H.pbd, H.ca, H.pca, H.cb, H.pcb, H.cd, H.pcd, H.da, H.pda, H.db, H.pdb, H.dc, H.pdc]
theorem ill8 (H : Four a b c d) : illHungP (gar a b c d) (lik a b c d) [a, b, c] = [(c, ("soon" : Str))] := by
  simp [illHungP, illP, knownP, lateP, soonP, isRipeP, ripeBits, mem_nil, mem_cons, mem_srt, within_nil, within_cons, within_srt, within_srt2, pos, lesI, H.ab, H.pab, H.ac, H.pac, H.ad, H.pad, H.ba, H.pba, H.bc, H.pbc, H.bd, H.pbd, H.ca, H.pca, H.cb, H.pcb, H.cd, H.pcd, H.da, H.pda, H.db, H.pdb, H.dc, H.pdc]
theorem least8 (H : Four a b c d) : leastP (gar a b c d) (lik a b c d) [a, b, c] (fees a b c d p q r s) = r := by
  simp [leastP, illN, ill8 H, mem_nil, mem_cons, H.ab, H.pab, H.ac, H.pac, H.ad, H.pad, H.ba, H.pba, H.bc, H.pbc, H.bd, H.pbd, H.ca, H.pca, H.cb, H.pcb, H.cd, H.pcd, H.da, H.pda, H.db, H.pdb, H.dc, H.pdc]
theorem anew8 (H : Four a b c d) : anewP (gar a b c d) (lik a b c d) [a, b, c] = [(a, [[]]), (b, [[a]]), (c, [srt [a, b]]), (d, [])] := by
  simp [anewP, illN, ill8 H, anewOne, mem_nil, mem_cons, pos, H.ab, H.pab, H.ac, H.pac, H.ad, H.pad, H.ba, H.pba, H.bc, H.pbc, H.bd, H.pbd, H.ca, H.pca, H.cb, H.pcb, H.cd, H.pcd, H.da, H.pda, H.db, H.pdb, H.dc, H.pdc]
theorem pass8 (H : Four a b c d) : ∃ q, passP 6 [(a, [[]]), (b, [[a]]), (c, [srt [a, b]]), (d, [])] (lik a b c d) [] = some q ∧ q.map (·.1) = [a, b, c] ∧ q.length ≤ 10 := by
  refine ⟨[(a, []), (b, []), (c, [])], ?_, rfl, by simp⟩
  simp [passP, ripeP, any_nil, any_cons, mem_nil, mem_cons, mem_srt, within_nil, within_cons, within_srt, within_srt2, H.ab, H.pab, H.ac, H.pac, H.ad, H.pad, H.ba, H.pba, H.bc, H.pbc, H.bd, H.pbd, H.ca, H.pca, H.cb, H.pcb, H.cd, H.pcd, H.da, H.pda, H.db, H.pdb, H.dc, H.pdc]
theorem ill9 (H : Four a b c d) : illHungP (gar a b c d) (lik a b c d) [b, c, a] = [(a, ("soon" : Str)), (b, ("late" : Str)), (c, ("soon" : Str))] := by
  simp [illHungP, illP, knownP, lateP, soonP, isRipeP, ripeBits, mem_nil, mem_cons, mem_srt, within_nil, within_cons, within_srt, within_srt2, pos, lesI, H.ab, H.pab, H.ac, H.pac, H.ad, H.pad, H.ba, H.pba, H.bc, H.pbc, H.bd, H.pbd, H.ca, H.pca, H.cb, H.pcb, H.cd, H.pcd, H.da, H.pda, H.db, H.pdb, H.dc, H.pdc]
theorem least9 (H : Four a b c d) : leastP (gar a b c d) (lik a b c d) [b, c, a] (fees a b c d p q r s) = p + q + r := by
  simp [leastP, illN, ill9 H, mem_nil, mem_cons, H.ab, H.pab, H.ac, H.pac, H.ad, H.pad, H.ba, H.pba, H.bc, H.pbc, H.bd, H.pbd, H.ca, H.pca, H.cb, H.pcb, H.cd, H.pcd, H.da, H.pda, H.db, H.pdb, H.dc, H.pdc]
  try omega
theorem anew9 (H : Four a b c d) : anewP (gar a b c d) (lik a b c d) [b, c, a] = [(a, [srt [b, c]]), (b, [srt []]), (c, [srt [b]]), (d, [])] := by
  simp [anewP, illN, ill9 H, anewOne, mem_nil, mem_cons, pos, H.ab, H.pab, H.ac, H.pac, H.ad, H.pad, H.ba, H.pba, H.bc, H.pbc, H.bd, H.pbd, H.ca, H.pca, H.cb, H.pcb, H.cd, H.pcd, H.da, H.pda, H.db, H.pdb, H.dc, H.pdc]
theorem pass9 (H : Four a b c d) : ∃ q, passP 6 [(a, [srt [b, c]]), (b, [srt []]), (c, [srt [b]]), (d, [])] (lik a b c d) [] = some q ∧ q.map (·.1) = [b, c, a] ∧ q.length ≤ 10 := by
  refine ⟨[(b, []), (c, []), (a, [])], ?_, rfl, by simp⟩
  simp [passP, ripeP, any_nil, any_cons, mem_nil, mem_cons, mem_srt, within_nil, within_cons, within_srt, within_srt2, H.ab, H.pab, H.ac, H.pac, H.ad, H.pad, H.ba, H.pba, H.bc, H.pbc, H.bd, H.pbd, H.ca, H.pca, H.cb, H.pcb, H.cd, H.pcd, H.da, H.pda, H.db, H.pdb, H.dc, H.pdc]
end
end TX

namespace TX
open PySem PySem.Spec PyProof.Rows L2 RZ DL
/-! ### data that _law_same takes -/
theorem gd_strs {n : Nat} {xs : List Str} (h : ∀ x ∈ xs, PyData.strOk x = true) (hz : xs.length ≤ 1000) : Gd (n + 2) (.list (xs.map PyData.str)) :=
  .list (fun d hd => by obtain ⟨x, hx, rfl⟩ := List.mem_map.mp hd; exact .str (h x hx)) (by rw [List.length_map]; omega)
theorem gd_tstrs {n : Nat} {xs : List Str} (h : ∀ x ∈ xs, PyData.strOk x = true) (hz : xs.length ≤ 1000) : Gd (n + 2) (.tuple (xs.map PyData.str)) :=
  .tuple (fun d hd => by obtain ⟨x, hx, rfl⟩ := List.mem_map.mp hd; exact .str (h x hx)) (by rw [List.length_map]; omega)
def OkA (o : Orch) : Prop := ∀ p ∈ o, PyData.strOk p.1 = true ∧ ∀ l ∈ p.2, ∀ x ∈ l, PyData.strOk x = true
theorem gd_encO {n : Nat} {o : Orch} (h : OkA o) (hs : SmallO o) : Gd (n + 6) (encO o) := by
  refine .tuple (fun d hd => ?_) (by rw [List.length_map]; have := hs.n; omega)
  obtain ⟨p, hp, rfl⟩ := List.mem_map.mp hd
  refine .tuple (fun d hd => ?_) (by simp)
  rcases List.mem_cons.mp hd with rfl | hd
  · exact .str (h p hp).1
  · rcases List.mem_cons.mp hd with rfl | hd
    · refine .tuple (fun d hd => ?_) (by rw [List.length_map]; have := (hs.m p hp).1; omega)
      obtain ⟨l, hl, rfl⟩ := List.mem_map.mp hd
      exact gd_tstrs ((h p hp).2 l hl) ((hs.m p hp).2 l hl)
    · cases hd
theorem gd_words {n : Nat} {I : List (Str × Str)} (h : ∀ p ∈ I, PyData.strOk p.1 = true ∧ PyData.strOk p.2 = true) (hz : I.length ≤ 1000) : Gd (n + 3) (.list (I.map encW)) := by
  refine .list (fun d hd => ?_) (by rw [List.length_map]; omega)
  obtain ⟨p, hp, rfl⟩ := List.mem_map.mp hd
  refine .tuple (fun d hd => ?_) (by simp)
  rcases List.mem_cons.mp hd with rfl | hd
  · exact .str (h p hp).1
  · rcases List.mem_cons.mp hd with rfl | hd
    · exact .str (h p hp).2
    · cases hd
theorem noLst_encO (o : Orch) : noLst (encO o) = true := by
  have key : ∀ q : Orch, noLsts (q.map encF) = true := by
    intro q
    induction q with
    | nil => rfl
    | cons p q ih =>
      have k2 : ∀ ls : List (List Str), noLsts (ls.map fun l => PyData.tuple (l.map .str)) = true := by
        intro ls
        induction ls with
        | nil => rfl
        | cons l ls ih => rw [List.map_cons, noLsts, noLst, noLsts_str, ih]; rfl
      rw [List.map_cons, noLsts, ih]
      simp [encF, encL, noLst, noLsts, k2]
  rw [encO, noLst]
  exact key o
theorem small_anew {o : Orch} {l row : List Str} (h : SmallO o) (hr : row.length ≤ 1000) : SmallO (anewP o l row) := by
  refine ⟨by rw [anewP, List.length_map]; exact h.n, fun p hp => ?_⟩
  obtain ⟨q, hq, rfl⟩ := List.mem_map.mp hp
  have := h.m q hq
  unfold anewOne
  split
  · split
    · refine ⟨by simp, fun z hz => ?_⟩
      rw [List.mem_singleton] at hz
      subst hz
      unfold srt
      rw [List.length_mergeSort, List.length_take]
      omega
    · exact ⟨by simp, fun z hz => by cases hz⟩
  · exact this
theorem okA_anew {o : Orch} {l row : List Str} (h : OkA o) (hr : ∀ x ∈ row, PyData.strOk x = true) : OkA (anewP o l row) := by
  intro p hp
  obtain ⟨q, hq, rfl⟩ := List.mem_map.mp hp
  have := h q hq
  unfold anewOne
  split
  · split
    · refine ⟨this.1, fun z hz x hx => ?_⟩
      rw [List.mem_singleton] at hz
      subst hz
      exact hr x (List.mem_of_mem_take ((srt_perm _).mem_iff.mp hx))
    · exact ⟨this.1, fun z hz => by cases hz⟩
  · exact this
theorem OkA.ok {o : Orch} (h : OkA o) : OkO o := fun p hp => (h p hp).1
/-! ### prices -/
theorem price_turns {r : Evn} (hr : r.length = 18) (h9 : r.set 9 none = r) : ∀ (ds acc c : List PyData) (T : Int), IsTape T c → T + ds.length < 9999 → ∃ (ps : List Int) (c' : List PyData),
    fTurns [10] (gNm 10) (fun ρ => .ok true ρ) (fCallT d__law_draw (fCons (fVar 0) (fCons (fOp powOp (fC (.int 10)) (fC (.int 6))) fNil))) ds acc (some (.io 0 (.lst c)) :: r) = .ok (acc ++ ps.map PyData.int) (some (.io 0 (.lst c')) :: r) ∧ ps.length = ds.length ∧ IsTape (T + ds.length) c'
  | [], acc, c, T, h, _ => ⟨[], c, by simp [fTurns], rfl, IsTape.mono h (by simp)⟩
  | d :: ds, acc, c, T, h, hT => by
    have hT' : T + (ds.length + 1) < 9999 := by simpa using hT
    have hp : ∀ ρ : Evn, fOp powOp (fC (.int 10)) (fC (.int 6)) ρ = .ok (.fr (.int 1000000)) ρ := fun ρ => by
      have : powOp (.int 10) (.int 6) = some (.fr (.int 1000000)) := powI (by decide)
      simp [fOp, fC, Res.bind, rd, rd0, this, ofOpt]
    obtain ⟨v, c1, e, v0, v1, h1⟩ := ev_draw (r := r.set 9 (some (.fr d))) (f := fOp powOp (fC (.int 10)) (fC (.int 6))) (n := 1000000) (hp _) h (by omega) (by decide) (by decide)
    obtain ⟨ps, c', e2, l2, h2⟩ := price_turns hr h9 ds (acc ++ [.int v]) c1 (T + 1) h1 (by omega)
    refine ⟨v :: ps, c', ?_, by simp [l2], h2.mono (by simp; omega)⟩
    rw [fTurns]
    have eg : gNm 10 d (some (.io 0 (.lst c)) :: r) = some (some (.io 0 (.lst c)) :: r.set 9 (some (.fr d))) := by
      rw [gNm, if_pos (by simp [hr])]
      rfl
    rw [eg]
    simp only [Res.bind, if_true]
    rw [fFz, e]
    simp only [Res.bind, frz]
    have ew : wipeE (some (.io 0 (.lst c1)) :: r.set 9 (some (.fr d))) [10] = some (.io 0 (.lst c1)) :: r := by
      show some (Sl.io 0 (.lst c1)) :: (r.set 9 (some (.fr d))).set 9 none = _
      rw [List.set_set, h9]
    rw [ew, e2]
    simp
/-! ### one row -/
abbrev RowD := List Str × List (Str × Str) × Int
def encRow (x : RowD) : PyData := .tuple [.list (x.1.map PyData.str), .list (x.2.1.map encW), .int x.2.2]
def rowBody : Evn → Res Fl := fSeq (fIfS (fNot (fTest (fCallV (d__law_same 12) (fCons (fLst (fCons (fFz (fCallV d_ill_hung (fCons (fVar 11) (fCons (fVar 12) (fCons (fVar 15) fNil))))) (fCons (fCallV d_least_hung (fCons (fVar 11) (fCons (fVar 12) (fCons (fVar 15) (fCons (fVar 13) fNil))))) fNil))) (fCons (fLst (fCons (fVar 16) (fCons (fVar 17) fNil))) fNil))))) (fRet (fC (.bool false))) fNext)
    (fIfS (fNot (fTest (fCallV (d__law_same 12) (fCons (fCallV d_pick (fCons (fCallV d_hung_anew (fCons (fVar 11) (fCons (fVar 12) (fCons (fVar 15) fNil)))) (fCons (fVar 12) fNil))) (fCons (fVar 15) fNil))))) (fRet (fC (.bool false))) fNext)
/-- what a row must keep -/
structure RowOk (O Lk : PyData) (F : List PyData) (x : RowD) : Prop where
  i : d_ill_hung none [O, Lk, .list (x.1.map PyData.str)] = .ok (.ow (.lst (x.2.1.map encW))) none
  l : d_least_hung none [O, Lk, .list (x.1.map PyData.str), .list F] = .ok (.fr (.int x.2.2)) none
  a : ∃ A, d_hung_anew none [O, Lk, .list (x.1.map PyData.str)] = .ok (.fr A) none ∧ d_pick none [A, Lk] = .ok (.ow (.lst (x.1.map PyData.str))) none
  s1 : d__law_same 12 none [.list [.list (x.2.1.map encW), .int x.2.2], .list [.list (x.2.1.map encW), .int x.2.2]] = .ok (.fr (.bool true)) none
  s2 : d__law_same 12 none [.list (x.1.map PyData.str), .list (x.1.map PyData.str)] = .ok (.fr (.bool true)) none
abbrev envR (z0 z1 z2 z3 z4 z5 z6 z7 z8 z9 : Option Sl) (O Lk : PyData) (F rows : List PyData) (x15 x16 x17 : Option Sl) : Evn := [z0, z1, z2, z3, z4, z5, z6, z7, z8, z9, none, some (.fr O), some (.fr Lk), some (.ow (.lst F)), some (.fr (.list rows)), x15, x16, x17, none]
theorem row_ok {z0 z1 z2 z3 z4 z5 z6 z7 z8 z9 : Option Sl} {O Lk : PyData} {F rows : List PyData} {x : RowD} (h : RowOk O Lk F x) :
    rowBody (envR z0 z1 z2 z3 z4 z5 z6 z7 z8 z9 O Lk F rows (some (.fr (.list (x.1.map PyData.str)))) (some (.fr (.list (x.2.1.map encW)))) (some (.fr (.int x.2.2)))) = .ok .nx (envR z0 z1 z2 z3 z4 z5 z6 z7 z8 z9 O Lk F rows (some (.fr (.list (x.1.map PyData.str)))) (some (.fr (.list (x.2.1.map encW)))) (some (.fr (.int x.2.2)))) := by
  obtain ⟨hi, hl, ⟨A, ha, hp⟩, h1, h2⟩ := h
  generalize x.1.map PyData.str = RR at *
  generalize x.2.1.map encW = I at *
  generalize x.2.2 = P at *
  simp [rowBody, envR, fSeq, fIfS, fNot, fTest, fCallV, fCons, fLst, fVar, fNil, Res.bind, callV, rds, rd, rd0, Sl.own, Cn.rd, hi, hl, ha, hp, h1, h2, allFr, isFr, fFz, frz, DL.frs, asB, fNext, noLstS, noLst]
theorem rows_loop {z0 z1 z2 z3 z4 z5 z6 z7 z8 z9 : Option Sl} {O Lk : PyData} {F rows : List PyData} : ∀ (xs : List RowD) (x15 x16 x17 : Option Sl), (∀ x ∈ xs, RowOk O Lk F x) → ∃ y15 y16 y17,
    fLoop (gSeqF 3 (gConsF (gNm 15) (gConsF (gNm 16) (gConsF (gNm 17) gNilF)))) rowBody (xs.map encRow) (envR z0 z1 z2 z3 z4 z5 z6 z7 z8 z9 O Lk F rows x15 x16 x17) = .ok .nx (envR z0 z1 z2 z3 z4 z5 z6 z7 z8 z9 O Lk F rows y15 y16 y17)
  | [], x15, x16, x17, _ => ⟨x15, x16, x17, rfl⟩
  | x :: xs, x15, x16, x17, h => by
    obtain ⟨y15, y16, y17, e⟩ := rows_loop (z0 := z0) (z1 := z1) (z2 := z2) (z3 := z3) (z4 := z4) (z5 := z5) (z6 := z6) (z7 := z7) (z8 := z8) (z9 := z9) (rows := rows) xs (some (.fr (.list (x.1.map PyData.str)))) (some (.fr (.list (x.2.1.map encW)))) (some (.fr (.int x.2.2))) fun y hy => h y (List.mem_cons_of_mem _ hy)
    refine ⟨y15, y16, y17, ?_⟩
    rw [List.map_cons, fLoop]
    have eg : gSeqF 3 (gConsF (gNm 15) (gConsF (gNm 16) (gConsF (gNm 17) gNilF))) (encRow x) (envR z0 z1 z2 z3 z4 z5 z6 z7 z8 z9 O Lk F rows x15 x16 x17) = some (envR z0 z1 z2 z3 z4 z5 z6 z7 z8 z9 O Lk F rows (some (.fr (.list (x.1.map PyData.str)))) (some (.fr (.list (x.2.1.map encW)))) (some (.fr (.int x.2.2)))) := rfl
    rw [eg]
    simp only []
    rw [row_ok (h x List.mem_cons_self)]
    simp only [Res.bind]
    rw [e]
end TX

namespace TX
open PySem PySem.Spec PyProof.Rows L2 RZ DL
abbrev theRows (a b c d : Str) (p q r s : Int) : List RowD := [([c, a, b], [], 0), ([a, c, b], [(c, "soon")], r), ([c, b, a], [(a, "soon"), (b, "late")], p + q), ([], [(a, "soon"), (c, "soon")], p + r), ([c, a], [(b, "soon")], q),
  ([c, a, d, b], [(d, "late")], s), ([d], [(a, "soon"), (c, "soon"), (d, "late")], p + r + s), ([a, b, c], [(c, "soon")], r), ([b, c, a], [(a, "soon"), (b, "late"), (c, "soon")], p + q + r)]
section
variable {a b c d : Str} {p q r s : Int}
structure Oks (a b c d : Str) : Prop where
  a : PyData.strOk a = true
  b : PyData.strOk b = true
  c : PyData.strOk c = true
  d : PyData.strOk d = true
theorem okA_gar (K : Oks a b c d) : OkA (gar a b c d) := by
  intro x hx
  simp only [gar, List.mem_cons, List.not_mem_nil, or_false] at hx
  rcases hx with rfl | rfl | rfl | rfl
  · exact ⟨K.a, by simp⟩
  · exact ⟨K.b, by simp [K.a]⟩
  · exact ⟨K.c, by simp⟩
  · exact ⟨K.d, by simp⟩
theorem small_gar : SmallO (gar a b c d) := by
  refine ⟨by simp, fun x hx => ?_⟩
  simp only [gar, List.mem_cons, List.not_mem_nil, or_false] at hx
  rcases hx with rfl | rfl | rfl | rfl <;> simp
theorem okl (K : Oks a b c d) : ∀ x ∈ lik a b c d, PyData.strOk x = true := by
  intro x hx
  simp only [lik, List.mem_cons, List.not_mem_nil, or_false] at hx
  rcases hx with rfl | rfl | rfl | rfl
  · exact K.c
  · exact K.a
  · exact K.d
  · exact K.b
abbrev LK (a b c d : Str) : PyData := .tuple ((lik a b c d).map PyData.str)
theorem hung_gar (K : Oks a b c d) {row : List Str} (hr : row.length ≤ 10) : Hung (gar a b c d) (LK a b c d) (lik a b c d) row := by
  refine ⟨small_gar, by simp, (okA_gar K).ok, .inr rfl, by omega, fun x hx => ?_⟩
  simp only [gar, List.mem_cons, List.not_mem_nil, or_false] at hx
  rcases hx with rfl | rfl | rfl | rfl <;> simp [mem, lik]
theorem row_mk (K : Oks a b c d) {row : List Str} {ill : List (Str × Str)} {P : Int} {E : Orch} (hr : row.length ≤ 10) (hk : ∀ x ∈ row, PyData.strOk x = true) (h1 : illHungP (gar a b c d) (lik a b c d) row = ill) (h2 : leastP (gar a b c d) (lik a b c d) row (fees a b c d p q r s) = P)
    (h3 : anewP (gar a b c d) (lik a b c d) row = E) (h4 : ∃ q, passP 6 E (lik a b c d) [] = some q ∧ q.map (·.1) = row ∧ q.length ≤ 10) (hi : ill.length ≤ 10) (hik : ∀ p ∈ ill, PyData.strOk p.1 = true ∧ PyData.strOk p.2 = true) :
    RowOk (encO (gar a b c d)) (LK a b c d) ((fees a b c d p q r s).map encP) (row, ill, P) := by
  have h := hung_gar K hr
  obtain ⟨qq, k1, k2, k3⟩ := h4
  have hs : SmallO E := h3 ▸ small_anew h.so (by omega)
  have ha : OkA E := h3 ▸ okA_anew (okA_gar K) hk
  have ep := pick_ok (L := LK a b c d) hs ha.ok (.inr rfl) (by simp) (okl K) (n := 6) (by decide) (by omega) k1
  rw [k2] at ep
  refine ⟨?_, ?_, ⟨encO E, ?_, ep⟩, ?_, ?_⟩
  · have := ill_hung_ok h
    rw [h1] at this
    exact this
  · have := least_ok h (fees := fees a b c d p q r s) (by simp)
    rw [h2] at this
    exact this
  · have := anew_ok h
    rw [h3] at this
    exact this
  · refine same_refl 12 _ (.list (fun x hx => ?_) (by simp))
    rcases List.mem_cons.mp hx with rfl | hx
    · exact gd_words hik (show ill.length ≤ 1000 by omega)
    · rcases List.mem_cons.mp hx with rfl | hx
      · exact .int
      · cases hx
  · exact same_refl 12 _ (gd_strs hk (show row.length ≤ 1000 by omega))
theorem rows_ok (H : Four a b c d) (K : Oks a b c d) : ∀ x ∈ theRows a b c d p q r s, RowOk (encO (gar a b c d)) (LK a b c d) ((fees a b c d p q r s).map encP) x := by
  have ks : PyData.strOk "soon" = true := by decide +kernel
  have kl : PyData.strOk "late" = true := by decide +kernel
  intro x hx
  simp only [theRows, List.mem_cons, List.not_mem_nil, or_false] at hx
  rcases hx with rfl | rfl | rfl | rfl | rfl | rfl | rfl | rfl | rfl
  · exact row_mk K (by simp) (by simp [K.a, K.b, K.c, K.d]) (ill1 H) (least1 H) (anew1 H) (pass1 H) (by simp) (by simp [K.a, K.b, K.c, K.d, ks, kl])
  · exact row_mk K (by simp) (by simp [K.a, K.b, K.c, K.d]) (ill2 H) (least2 H) (anew2 H) (pass2 H) (by simp) (by simp [K.a, K.b, K.c, K.d, ks, kl])
  · exact row_mk K (by simp) (by simp [K.a, K.b, K.c, K.d]) (ill3 H) (least3 H) (anew3 H) (pass3 H) (by simp) (by simp [K.a, K.b, K.c, K.d, ks, kl])
  · exact row_mk K (by simp) (by simp [K.a, K.b, K.c, K.d]) (ill4 H) (least4 H) (anew4 H) (pass4 H) (by simp) (by simp [K.a, K.b, K.c, K.d, ks, kl])
  · exact row_mk K (by simp) (by simp [K.a, K.b, K.c, K.d]) (ill5 H) (least5 H) (anew5 H) (pass5 H) (by simp) (by simp [K.a, K.b, K.c, K.d, ks, kl])
  · exact row_mk K (by simp) (by simp [K.a, K.b, K.c, K.d]) (ill6 H) (least6 H) (anew6 H) (pass6 H) (by simp) (by simp [K.a, K.b, K.c, K.d, ks, kl])
  · exact row_mk K (by simp) (by simp [K.a, K.b, K.c, K.d]) (ill7 H) (least7 H) (anew7 H) (pass7 H) (by simp) (by simp [K.a, K.b, K.c, K.d, ks, kl])
  · exact row_mk K (by simp) (by simp [K.a, K.b, K.c, K.d]) (ill8 H) (least8 H) (anew8 H) (pass8 H) (by simp) (by simp [K.a, K.b, K.c, K.d, ks, kl])
  · exact row_mk K (by simp) (by simp [K.a, K.b, K.c, K.d]) (ill9 H) (least9 H) (anew9 H) (pass9 H) (by simp) (by simp [K.a, K.b, K.c, K.d, ks, kl])
/-! ### the two orchards asked at the end -/
abbrev due1 (a b c d : Str) : Orch := [(a, [[b, c]]), (b, [[c]]), (c, [[]]), (d, [])]
abbrev due2 (a b c d : Str) : Orch := [(a, []), (b, [[a]]), (c, []), (d, [[]])]
theorem srt0 : srt [] = [] := List.mergeSort_nil
theorem srt1 (x : Str) : srt [x] = [x] := List.mergeSort_singleton _
theorem srt2 {x y : Str} (h : x.cps.toList ≤ y.cps.toList) : srt [y, x] = [x, y] := srt_eq (.cons (fun z hz => by rw [List.mem_singleton] at hz; rw [hz]; exact h) (.cons (fun z hz => by cases hz) .nil)) (List.Perm.swap _ _ _)
theorem end1 (H : Four a b c d) (K : Oks a b c d) (hbc : b.cps.toList ≤ c.cps.toList) : d_hung_anew none [encO (gar a b c d), LK a b c d, .list ([c, b, a].map PyData.str)] = .ok (.fr (encO (due1 a b c d))) none ∧ d__law_same 12 none [encO (due1 a b c d), encO (due1 a b c d)] = .ok (.fr (.bool true)) none := by
  have h := hung_gar K (row := [c, b, a]) (by simp)
  have e := anew_ok h
  have ea : anewP (gar a b c d) (lik a b c d) [c, b, a] = due1 a b c d := by rw [anew3 H, srt1, srt2 hbc]
  rw [ea] at e
  refine ⟨e, same_refl 12 _ (gd_encO (ea ▸ okA_anew (okA_gar K) (by simp [K.a, K.b, K.c])) (ea ▸ small_anew small_gar (by simp)))⟩
theorem end2 (H : Four a b c d) (K : Oks a b c d) : d_hung_anew none [encO (gar a b c d), LK a b c d, .list ([d].map PyData.str)] = .ok (.fr (encO (due2 a b c d))) none ∧ d__law_same 12 none [encO (due2 a b c d), encO (due2 a b c d)] = .ok (.fr (.bool true)) none := by
  have h := hung_gar K (row := [d]) (by simp)
  have e := anew_ok h
  have ea : anewP (gar a b c d) (lik a b c d) [d] = due2 a b c d := by rw [anew7 H, srt0]
  rw [ea] at e
  refine ⟨e, same_refl 12 _ (gd_encO (ea ▸ okA_anew (okA_gar K) (by simp [K.d])) (ea ▸ small_anew small_gar (by simp)))⟩
end
end TX

namespace TX
open PySem PySem.Spec PyProof.Rows L2 RZ DL
def st1 : Evn → Res Fl := (fAsg 1 (fCallT d__law_names (fCons (fVar 0) (fCons (fC (.int 4)) fNil))))
def st2 : Evn → Res Fl := (fUnp (gSeqF 4 (gConsF (gNm 2) (gConsF (gNm 3) (gConsF (gNm 4) (gConsF (gNm 5) gNilF))))) (fCB sortOp (fCons (fVar 1) fNil)))
def st3 : Evn → Res Fl := (fUnp (gSeqF 4 (gConsF (gNm 6) (gConsF (gNm 7) (gConsF (gNm 8) (gConsF (gNm 9) gNilF))))) (fLc [10] (fRange1 (fCons (fC (.int 4)) fNil)) (gNm 10) (fun ρ => .ok true ρ) (fCallT d__law_draw (fCons (fVar 0) (fCons (fOp powOp (fC (.int 10)) (fC (.int 6))) fNil)))))
def st4 : Evn → Res Fl := (fPar [11, 12] (fCons (fTup (fCons (fTup (fCons (fVar 2) (fCons (fTup (fCons (fTup fNil) fNil)) fNil))) (fCons (fTup (fCons (fVar 3) (fCons (fTup (fCons (fTup (fCons (fVar 2) fNil)) fNil)) fNil))) (fCons (fTup (fCons (fVar 4) (fCons (fTup (fCons (fTup fNil) fNil)) fNil))) (fCons (fTup (fCons (fVar 5) (fCons (fTup fNil) fNil))) fNil))))) (fCons (fTup (fCons (fVar 4) (fCons (fVar 2) (fCons (fVar 5) (fCons (fVar 3) fNil))))) fNil)))
def st5 : Evn → Res Fl := (fAsg 13 (fLst (fCons (fTup (fCons (fVar 2) (fCons (fVar 6) fNil))) (fCons (fTup (fCons (fVar 3) (fCons (fVar 7) fNil))) (fCons (fTup (fCons (fVar 4) (fCons (fVar 8) fNil))) (fCons (fTup (fCons (fVar 5) (fCons (fVar 9) fNil))) fNil))))))
def st6 : Evn → Res Fl := (fAsg 14 (fLst (fCons (fTup (fCons (fFz (fLst (fCons (fVar 4) (fCons (fVar 2) (fCons (fVar 3) fNil))))) (fCons (fFz (fLst fNil)) (fCons (fC (.int 0)) fNil)))) (fCons (fTup (fCons (fFz (fLst (fCons (fVar 2) (fCons (fVar 4) (fCons (fVar 3) fNil))))) (fCons (fFz (fLst (fCons (fTup (fCons (fVar 4) (fCons (fC (.str "soon")) fNil))) fNil))) (fCons (fVar 8) fNil)))) (fCons (fTup (fCons (fFz (fLst (fCons (fVar 4) (fCons (fVar 3) (fCons (fVar 2) fNil))))) (fCons (fFz (fLst (fCons (fTup (fCons (fVar 2) (fCons (fC (.str "soon")) fNil))) (fCons (fTup (fCons (fVar 3) (fCons (fC (.str "late")) fNil))) fNil)))) (fCons (fOp addOp (fVar 6) (fVar 7)) fNil)))) fNil)))))
def st7 : Evn → Res Fl := (fAsg 14 (fOp addOp (fVar 14) (fLst (fCons (fTup (fCons (fFz (fLst fNil)) (fCons (fFz (fLst (fCons (fTup (fCons (fVar 2) (fCons (fC (.str "soon")) fNil))) (fCons (fTup (fCons (fVar 4) (fCons (fC (.str "soon")) fNil))) fNil)))) (fCons (fOp addOp (fVar 6) (fVar 8)) fNil)))) (fCons (fTup (fCons (fFz (fLst (fCons (fVar 4) (fCons (fVar 2) fNil)))) (fCons (fFz (fLst (fCons (fTup (fCons (fVar 3) (fCons (fC (.str "soon")) fNil))) fNil))) (fCons (fVar 7) fNil)))) fNil)))))
def st8 : Evn → Res Fl := (fAsg 14 (fOp addOp (fVar 14) (fLst (fCons (fTup (fCons (fFz (fLst (fCons (fVar 4) (fCons (fVar 2) (fCons (fVar 5) (fCons (fVar 3) fNil)))))) (fCons (fFz (fLst (fCons (fTup (fCons (fVar 5) (fCons (fC (.str "late")) fNil))) fNil))) (fCons (fVar 9) fNil)))) (fCons (fTup (fCons (fFz (fLst (fCons (fVar 5) fNil))) (fCons (fFz (fLst (fCons (fTup (fCons (fVar 2) (fCons (fC (.str "soon")) fNil))) (fCons (fTup (fCons (fVar 4) (fCons (fC (.str "soon")) fNil))) (fCons (fTup (fCons (fVar 5) (fCons (fC (.str "late")) fNil))) fNil))))) (fCons (fOp addOp (fOp addOp (fVar 6) (fVar 8)) (fVar 9)) fNil)))) fNil)))))
def st9 : Evn → Res Fl := (fAsg 14 (fOp addOp (fVar 14) (fLst (fCons (fTup (fCons (fFz (fLst (fCons (fVar 2) (fCons (fVar 3) (fCons (fVar 4) fNil))))) (fCons (fFz (fLst (fCons (fTup (fCons (fVar 4) (fCons (fC (.str "soon")) fNil))) fNil))) (fCons (fVar 8) fNil)))) (fCons (fTup (fCons (fFz (fLst (fCons (fVar 3) (fCons (fVar 4) (fCons (fVar 2) fNil))))) (fCons (fFz (fLst (fCons (fTup (fCons (fVar 2) (fCons (fC (.str "soon")) fNil))) (fCons (fTup (fCons (fVar 3) (fCons (fC (.str "late")) fNil))) (fCons (fTup (fCons (fVar 4) (fCons (fC (.str "soon")) fNil))) fNil))))) (fCons (fOp addOp (fOp addOp (fVar 6) (fVar 7)) (fVar 8)) fNil)))) fNil)))))
def st10 : Evn → Res Fl := (fFor (fIterS (fVar 14)) (gSeqF 3 (gConsF (gNm 15) (gConsF (gNm 16) (gConsF (gNm 17) gNilF)))) (fSeq (fIfS (fNot (fTest (fCallV (d__law_same 12) (fCons (fLst (fCons (fFz (fCallV d_ill_hung (fCons (fVar 11) (fCons (fVar 12) (fCons (fVar 15) fNil))))) (fCons (fCallV d_least_hung (fCons (fVar 11) (fCons (fVar 12) (fCons (fVar 15) (fCons (fVar 13) fNil))))) fNil))) (fCons (fLst (fCons (fVar 16) (fCons (fVar 17) fNil))) fNil))))) (fRet (fC (.bool false))) fNext)
    (fIfS (fNot (fTest (fCallV (d__law_same 12) (fCons (fCallV d_pick (fCons (fCallV d_hung_anew (fCons (fVar 11) (fCons (fVar 12) (fCons (fVar 15) fNil)))) (fCons (fVar 12) fNil))) (fCons (fVar 15) fNil))))) (fRet (fC (.bool false))) fNext)))
def st11 : Evn → Res Fl := (fAsg 18 (fTup (fCons (fTup (fCons (fVar 2) (fCons (fTup (fCons (fTup (fCons (fVar 3) (fCons (fVar 4) fNil))) fNil)) fNil))) (fCons (fTup (fCons (fVar 3) (fCons (fTup (fCons (fTup (fCons (fVar 4) fNil)) fNil)) fNil))) (fCons (fTup (fCons (fVar 4) (fCons (fTup (fCons (fTup fNil) fNil)) fNil))) (fCons (fTup (fCons (fVar 5) (fCons (fTup fNil) fNil))) fNil))))))
def st12 : Evn → Res Fl := (fIfS (fNot (fTest (fCallV (d__law_same 12) (fCons (fCallV d_hung_anew (fCons (fVar 11) (fCons (fVar 12) (fCons (fLst (fCons (fVar 4) (fCons (fVar 3) (fCons (fVar 2) fNil)))) fNil)))) (fCons (fVar 18) fNil))))) (fRet (fC (.bool false))) fNext)
def st13 : Evn → Res Fl := (fAsg 18 (fTup (fCons (fTup (fCons (fVar 2) (fCons (fTup fNil) fNil))) (fCons (fTup (fCons (fVar 3) (fCons (fTup (fCons (fTup (fCons (fVar 2) fNil)) fNil)) fNil))) (fCons (fTup (fCons (fVar 4) (fCons (fTup fNil) fNil))) (fCons (fTup (fCons (fVar 5) (fCons (fTup (fCons (fTup fNil) fNil)) fNil))) fNil))))))
def st14 : Evn → Res Fl := (fRet (fCallV (d__law_same 12) (fCons (fCallV d_hung_anew (fCons (fVar 11) (fCons (fVar 12) (fCons (fLst (fCons (fVar 5) fNil)) fNil)))) (fCons (fVar 18) fNil))))
theorem right_eq : g__law_right = fSeq st1 (fSeq st2 (fSeq st3 (fSeq st4 (fSeq st5 (fSeq st6 (fSeq st7 (fSeq st8 (fSeq st9 (fSeq st10 (fSeq st11 (fSeq st12 (fSeq st13 st14)))))))))))) := rfl
section
variable {a b c d : Str} {p q r s : Int} {z0 z1 : Sl}
theorem e4 : st4 [some z0, some z1, some (.fr (.str a)), some (.fr (.str b)), some (.fr (.str c)), some (.fr (.str d)), some (.fr (.int p)), some (.fr (.int q)), some (.fr (.int r)), some (.fr (.int s)), none, none, none, none, none, none, none, none, none] = .ok .nx [some z0, some z1, some (.fr (.str a)), some (.fr (.str b)), some (.fr (.str c)), some (.fr (.str d)), some (.fr (.int p)), some (.fr (.int q)), some (.fr (.int r)), some (.fr (.int s)), none, some (.fr (encO (gar a b c d))), some (.fr (LK a b c d)), none, none, none, none, none, none] := rfl
theorem e5 : st5 [some z0, some z1, some (.fr (.str a)), some (.fr (.str b)), some (.fr (.str c)), some (.fr (.str d)), some (.fr (.int p)), some (.fr (.int q)), some (.fr (.int r)), some (.fr (.int s)), none, some (.fr (encO (gar a b c d))), some (.fr (LK a b c d)), none, none, none, none, none, none] = .ok .nx [some z0, some z1, some (.fr (.str a)), some (.fr (.str b)), some (.fr (.str c)), some (.fr (.str d)), some (.fr (.int p)), some (.fr (.int q)), some (.fr (.int r)), some (.fr (.int s)), none, some (.fr (encO (gar a b c d))), some (.fr (LK a b c d)), some (.ow (.lst ((fees a b c d p q r s).map encP))), none, none, none, none, none] := rfl
theorem e6 {Ga La Fa : Sl} : st6 [some z0, some z1, some (.fr (.str a)), some (.fr (.str b)), some (.fr (.str c)), some (.fr (.str d)), some (.fr (.int p)), some (.fr (.int q)), some (.fr (.int r)), some (.fr (.int s)), none, some Ga, some La, some Fa, none, none, none, none, none] = .ok .nx [some z0, some z1, some (.fr (.str a)), some (.fr (.str b)), some (.fr (.str c)), some (.fr (.str d)), some (.fr (.int p)), some (.fr (.int q)), some (.fr (.int r)), some (.fr (.int s)), none, some Ga, some La, some Fa, some (.ow (.lst (([([c, a, b], [], 0), ([a, c, b], [(c, "soon")], r), ([c, b, a], [(a, "soon"), (b, "late")], p + q)] : List RowD).map encRow))), none, none, none, none] := rfl
theorem e7 {Ga La Fa : Sl} : st7 [some z0, some z1, some (.fr (.str a)), some (.fr (.str b)), some (.fr (.str c)), some (.fr (.str d)), some (.fr (.int p)), some (.fr (.int q)), some (.fr (.int r)), some (.fr (.int s)), none, some Ga, some La, some Fa, some (.ow (.lst (([([c, a, b], [], 0), ([a, c, b], [(c, "soon")], r), ([c, b, a], [(a, "soon"), (b, "late")], p + q)] : List RowD).map encRow))), none, none, none, none] = .ok .nx [some z0, some z1, some (.fr (.str a)), some (.fr (.str b)), some (.fr (.str c)), some (.fr (.str d)), some (.fr (.int p)), some (.fr (.int q)), some (.fr (.int r)), some (.fr (.int s)), none, some Ga, some La, some Fa, some (.ow (.lst (([([c, a, b], [], 0), ([a, c, b], [(c, "soon")], r), ([c, b, a], [(a, "soon"), (b, "late")], p + q), ([], [(a, "soon"), (c, "soon")], p + r), ([c, a], [(b, "soon")], q)] : List RowD).map encRow))), none, none, none, none] := rfl
theorem e8 {Ga La Fa : Sl} : st8 [some z0, some z1, some (.fr (.str a)), some (.fr (.str b)), some (.fr (.str c)), some (.fr (.str d)), some (.fr (.int p)), some (.fr (.int q)), some (.fr (.int r)), some (.fr (.int s)), none, some Ga, some La, some Fa, some (.ow (.lst (([([c, a, b], [], 0), ([a, c, b], [(c, "soon")], r), ([c, b, a], [(a, "soon"), (b, "late")], p + q), ([], [(a, "soon"), (c, "soon")], p + r), ([c, a], [(b, "soon")], q)] : List RowD).map encRow))), none, none, none, none] = .ok .nx [some z0, some z1, some (.fr (.str a)), some (.fr (.str b)), some (.fr (.str c)), some (.fr (.str d)), some (.fr (.int p)), some (.fr (.int q)), some (.fr (.int r)), some (.fr (.int s)), none, some Ga, some La, some Fa, some (.ow (.lst (([([c, a, b], [], 0), ([a, c, b], [(c, "soon")], r), ([c, b, a], [(a, "soon"), (b, "late")], p + q), ([], [(a, "soon"), (c, "soon")], p + r), ([c, a], [(b, "soon")], q), ([c, a, d, b], [(d, "late")], s), ([d], [(a, "soon"), (c, "soon"), (d, "late")], p + r + s)] : List RowD).map encRow))), none, none, none, none] := rfl
theorem e9 {Ga La Fa : Sl} : st9 [some z0, some z1, some (.fr (.str a)), some (.fr (.str b)), some (.fr (.str c)), some (.fr (.str d)), some (.fr (.int p)), some (.fr (.int q)), some (.fr (.int r)), some (.fr (.int s)), none, some Ga, some La, some Fa, some (.ow (.lst (([([c, a, b], [], 0), ([a, c, b], [(c, "soon")], r), ([c, b, a], [(a, "soon"), (b, "late")], p + q), ([], [(a, "soon"), (c, "soon")], p + r), ([c, a], [(b, "soon")], q), ([c, a, d, b], [(d, "late")], s), ([d], [(a, "soon"), (c, "soon"), (d, "late")], p + r + s)] : List RowD).map encRow))), none, none, none, none] = .ok .nx [some z0, some z1, some (.fr (.str a)), some (.fr (.str b)), some (.fr (.str c)), some (.fr (.str d)), some (.fr (.int p)), some (.fr (.int q)), some (.fr (.int r)), some (.fr (.int s)), none, some Ga, some La, some Fa, some (.ow (.lst (([([c, a, b], [], 0), ([a, c, b], [(c, "soon")], r), ([c, b, a], [(a, "soon"), (b, "late")], p + q), ([], [(a, "soon"), (c, "soon")], p + r), ([c, a], [(b, "soon")], q), ([c, a, d, b], [(d, "late")], s), ([d], [(a, "soon"), (c, "soon"), (d, "late")], p + r + s), ([a, b, c], [(c, "soon")], r), ([b, c, a], [(a, "soon"), (b, "late"), (c, "soon")], p + q + r)] : List RowD).map encRow))), none, none, none, none] := rfl
end
section
variable {a b c0 d : Str} {p q r s : Int} {z0 z1 : Sl} {O L D1 D2 : PyData} {W13 W14 y15 y16 y17 z : Option Sl}
theorem e11 : st11 [some z0, some z1, some (.fr (.str a)), some (.fr (.str b)), some (.fr (.str c0)), some (.fr (.str d)), some (.fr (.int p)), some (.fr (.int q)), some (.fr (.int r)), some (.fr (.int s)), none, some (.fr O), some (.fr L), W13, W14, y15, y16, y17, none] = .ok .nx [some z0, some z1, some (.fr (.str a)), some (.fr (.str b)), some (.fr (.str c0)), some (.fr (.str d)), some (.fr (.int p)), some (.fr (.int q)), some (.fr (.int r)), some (.fr (.int s)), none, some (.fr O), some (.fr L), W13, W14, y15, y16, y17, some (.fr (encO (due1 a b c0 d)))] := rfl
theorem e13 : st13 [some z0, some z1, some (.fr (.str a)), some (.fr (.str b)), some (.fr (.str c0)), some (.fr (.str d)), some (.fr (.int p)), some (.fr (.int q)), some (.fr (.int r)), some (.fr (.int s)), none, some (.fr O), some (.fr L), W13, W14, y15, y16, y17, z] = .ok .nx [some z0, some z1, some (.fr (.str a)), some (.fr (.str b)), some (.fr (.str c0)), some (.fr (.str d)), some (.fr (.int p)), some (.fr (.int q)), some (.fr (.int r)), some (.fr (.int s)), none, some (.fr O), some (.fr L), W13, W14, y15, y16, y17, some (.fr (encO (due2 a b c0 d)))] := rfl
theorem e12 (n1 : d_hung_anew none [O, L, .list [.str c0, .str b, .str a]] = .ok (.fr D1) none) (n2 : d__law_same 12 none [D1, D1] = .ok (.fr (.bool true)) none) (l1 : noLst D1 = true) : st12 [some z0, some z1, some (.fr (.str a)), some (.fr (.str b)), some (.fr (.str c0)), some (.fr (.str d)), some (.fr (.int p)), some (.fr (.int q)), some (.fr (.int r)), some (.fr (.int s)), none, some (.fr O), some (.fr L), W13, W14, y15, y16, y17, some (.fr D1)] = .ok .nx [some z0, some z1, some (.fr (.str a)), some (.fr (.str b)), some (.fr (.str c0)), some (.fr (.str d)), some (.fr (.int p)), some (.fr (.int q)), some (.fr (.int r)), some (.fr (.int s)), none, some (.fr O), some (.fr L), W13, W14, y15, y16, y17, some (.fr D1)] := by
  simp [st12, fIfS, fNot, fTest, fCallV, fCons, fLst, fVar, fNil, Res.bind, callV, rds, rd, rd0, Sl.own, Cn.rd, n1, n2, l1, allFr, isFr, fFz, frz, DL.frs, asB, fNext, noLstS, noLst]
theorem e14 (m1 : d_hung_anew none [O, L, .list [.str d]] = .ok (.fr D2) none) (m2 : d__law_same 12 none [D2, D2] = .ok (.fr (.bool true)) none) (l2 : noLst D2 = true) : st14 [some z0, some z1, some (.fr (.str a)), some (.fr (.str b)), some (.fr (.str c0)), some (.fr (.str d)), some (.fr (.int p)), some (.fr (.int q)), some (.fr (.int r)), some (.fr (.int s)), none, some (.fr O), some (.fr L), W13, W14, y15, y16, y17, some (.fr D2)] = .ok (.rt (.fr (.bool true))) [some z0, some z1, some (.fr (.str a)), some (.fr (.str b)), some (.fr (.str c0)), some (.fr (.str d)), some (.fr (.int p)), some (.fr (.int q)), some (.fr (.int r)), some (.fr (.int s)), none, some (.fr O), some (.fr L), W13, W14, y15, y16, y17, some (.fr D2)] := by
  simp [st14, fRet, fCallV, fCons, fLst, fVar, fNil, Res.bind, callV, rds, rd, rd0, Sl.own, Cn.rd, m1, m2, l2, allFr, isFr, fFz, frz, DL.frs, noLstS, noLst]
theorem e10 {Lk : PyData} {F : List PyData} {xs : List RowD} (h : ∀ x ∈ xs, RowOk O Lk F x) {z2 z3 z4 z5 z6 z7 z8 z9 : Option Sl} : ∃ y15 y16 y17, st10 [some z0, some z1, z2, z3, z4, z5, z6, z7, z8, z9, none, some (.fr O), some (.fr Lk), some (.ow (.lst F)), some (.ow (.lst (xs.map encRow))), none, none, none, none]
    = .ok .nx [some z0, some z1, z2, z3, z4, z5, z6, z7, z8, z9, none, some (.fr O), some (.fr Lk), some (.ow (.lst F)), some (.fr (.list (xs.map encRow))), y15, y16, y17, none] := by
  obtain ⟨y15, y16, y17, e⟩ := rows_loop (z0 := some z0) (z1 := some z1) (z2 := z2) (z3 := z3) (z4 := z4) (z5 := z5) (z6 := z6) (z7 := z7) (z8 := z8) (z9 := z9) (rows := xs.map encRow) xs none none none h
  refine ⟨y15, y16, y17, ?_⟩
  have ei : fIterS (fVar 14) [some z0, some z1, z2, z3, z4, z5, z6, z7, z8, z9, none, some (.fr O), some (.fr Lk), some (.ow (.lst F)), some (.ow (.lst (xs.map encRow))), none, none, none, none]
    = .ok (xs.map encRow) (envR (some z0) (some z1) z2 z3 z4 z5 z6 z7 z8 z9 O Lk F (xs.map encRow) none none none) := by
    simp [fIterS, fFz, fVar, Res.bind, frz, Cn.rd, asS]
  unfold rowBody at e
  rw [st10, fFor, ei]
  simp only [Res.bind]
  rw [e]
end
end TX

namespace TX
open PySem PySem.Spec PyProof.Rows L2 RZ DL
theorem q1 {c c1 : List PyData} {ns : List Str} (e1 : d__law_names (some (.lst c)) [.int 4] = .ok (.ow (.lst (ns.map PyData.str))) (some (.lst c1))) : st1 [some (.io 0 (.lst c)), none, none, none, none, none, none, none, none, none, none, none, none, none, none, none, none, none, none] = .ok .nx [some (.io 0 (.lst c1)), some (.ow (.lst (ns.map PyData.str))), none, none, none, none, none, none, none, none, none, none, none, none, none, none, none, none, none] := by
  simp [st1, fAsg, fCallT, fCons, fVar, fC, fNil, Res.bind, callT, Sl.own, rds, rd, rd0, noBr, e1, allFr, isFr, Sl.put, put1]
theorem q2 {c1 : List PyData} {ns : List Str} {a b c0 d : Str} (esort : sortOp [.list (ns.map PyData.str)] = some (.ow (.lst ([a, b, c0, d].map PyData.str)))) : st2 [some (.io 0 (.lst c1)), some (.ow (.lst (ns.map PyData.str))), none, none, none, none, none, none, none, none, none, none, none, none, none, none, none, none, none] = .ok .nx [some (.io 0 (.lst c1)), some (.ow (.lst (ns.map PyData.str))), some (.fr (.str a)), some (.fr (.str b)), some (.fr (.str c0)), some (.fr (.str d)), none, none, none, none, none, none, none, none, none, none, none, none, none] := by
    rw [st2, fUnp, fFz]
    have : fCB sortOp (fCons (fVar 1) fNil) [some (.io 0 (.lst c1)), some (.ow (.lst (ns.map PyData.str))), none, none, none, none, none, none, none, none, none, none, none, none, none, none, none, none, none] = .ok (.ow (.lst ([a, b, c0, d].map PyData.str))) [some (.io 0 (.lst c1)), some (.ow (.lst (ns.map PyData.str))), none, none, none, none, none, none, none, none, none, none, none, none, none, none, none, none, none] := by
      simp only [fCB, fCons, fVar, fNil, Res.bind, List.getElem?_cons_succ, List.getElem?_cons_zero, rds, rd, rd0, Sl.own, Option.map, Cn.rd, esort, ofOpt]
    rw [this]
    rfl
theorem q3 {c1 c2 : List PyData} {a b c0 d : Str} {z1 : Option Sl} {p q r s : Int} (e3 : fTurns [10] (gNm 10) (fun ρ => .ok true ρ) (fCallT d__law_draw (fCons (fVar 0) (fCons (fOp powOp (fC (.int 10)) (fC (.int 6))) fNil))) (rng 0 4) [] [some (.io 0 (.lst c1)), z1, some (.fr (.str a)), some (.fr (.str b)), some (.fr (.str c0)), some (.fr (.str d)), none, none, none, none, none, none, none, none, none, none, none, none, none] = .ok ([] ++ [p, q, r, s].map PyData.int) [some (.io 0 (.lst c2)), z1, some (.fr (.str a)), some (.fr (.str b)), some (.fr (.str c0)), some (.fr (.str d)), none, none, none, none, none, none, none, none, none, none, none, none, none]) :
    st3 [some (.io 0 (.lst c1)), z1, some (.fr (.str a)), some (.fr (.str b)), some (.fr (.str c0)), some (.fr (.str d)), none, none, none, none, none, none, none, none, none, none, none, none, none] = .ok .nx [some (.io 0 (.lst c2)), z1, some (.fr (.str a)), some (.fr (.str b)), some (.fr (.str c0)), some (.fr (.str d)), some (.fr (.int p)), some (.fr (.int q)), some (.fr (.int r)), some (.fr (.int s)), none, none, none, none, none, none, none, none, none] := by
  have er : fRange1 (fCons (fC (.int 4)) fNil) [some (.io 0 (.lst c1)), z1, some (.fr (.str a)), some (.fr (.str b)), some (.fr (.str c0)), some (.fr (.str d)), none, none, none, none, none, none, none, none, none, none, none, none, none] = .ok (rng 0 4) [some (.io 0 (.lst c1)), z1, some (.fr (.str a)), some (.fr (.str b)), some (.fr (.str c0)), some (.fr (.str d)), none, none, none, none, none, none, none, none, none, none, none, none, none] := rfl
  have ew : wipeE [some (.io 0 (.lst c1)), z1, some (.fr (.str a)), some (.fr (.str b)), some (.fr (.str c0)), some (.fr (.str d)), none, none, none, none, none, none, none, none, none, none, none, none, none] [10] = [some (.io 0 (.lst c1)), z1, some (.fr (.str a)), some (.fr (.str b)), some (.fr (.str c0)), some (.fr (.str d)), none, none, none, none, none, none, none, none, none, none, none, none, none] := rfl
  have e : fLc [10] (fRange1 (fCons (fC (.int 4)) fNil)) (gNm 10) (fun ρ => .ok true ρ) (fCallT d__law_draw (fCons (fVar 0) (fCons (fOp powOp (fC (.int 10)) (fC (.int 6))) fNil))) [some (.io 0 (.lst c1)), z1, some (.fr (.str a)), some (.fr (.str b)), some (.fr (.str c0)), some (.fr (.str d)), none, none, none, none, none, none, none, none, none, none, none, none, none] = .ok (.ow (.lst ([p, q, r, s].map PyData.int))) [some (.io 0 (.lst c2)), z1, some (.fr (.str a)), some (.fr (.str b)), some (.fr (.str c0)), some (.fr (.str d)), none, none, none, none, none, none, none, none, none, none, none, none, none] := by
    rw [fLc, er]
    simp only [Res.bind]
    rw [if_pos ⟨by simp [rng], by simp⟩, ew, e3]
    simp only [noExc, Res.bind, List.nil_append]
    rfl
  rw [st3, fUnp, fFz, e]
  rfl
end TX

namespace TX
open PySem PySem.Spec PyProof.Rows L2 RZ DL
theorem tail_ok {c c2 : List PyData} {z1 : Sl} {a b c0 d : Str} {p q r s : Int} (s3 : ∀ k, fSeq st1 (fSeq st2 (fSeq st3 k)) [some (.io 0 (.lst c)), none, none, none, none, none, none, none, none, none, none, none, none, none, none, none, none, none, none] = k [some (.io 0 (.lst c2)), some z1, some (.fr (.str a)), some (.fr (.str b)), some (.fr (.str c0)), some (.fr (.str d)), some (.fr (.int p)), some (.fr (.int q)), some (.fr (.int r)), some (.fr (.int s)), none, none, none, none, none, none, none, none, none])
    (ro : ∀ x ∈ theRows a b c0 d p q r s, RowOk (encO (gar a b c0 d)) (LK a b c0 d) ((fees a b c0 d p q r s).map encP) x)
    (n1 : d_hung_anew none [encO (gar a b c0 d), LK a b c0 d, .list [.str c0, .str b, .str a]] = .ok (.fr (encO (due1 a b c0 d))) none) (n2 : d__law_same 12 none [encO (due1 a b c0 d), encO (due1 a b c0 d)] = .ok (.fr (.bool true)) none)
    (m1 : d_hung_anew none [encO (gar a b c0 d), LK a b c0 d, .list [.str d]] = .ok (.fr (encO (due2 a b c0 d))) none) (m2 : d__law_same 12 none [encO (due2 a b c0 d), encO (due2 a b c0 d)] = .ok (.fr (.bool true)) none) :
    finR (some (.lst c)) (g__law_right [some (.io 0 (.lst c)), none, none, none, none, none, none, none, none, none, none, none, none, none, none, none, none, none, none]) = .ok (.fr (.bool true)) (some (.lst c2)) := by
  have l1 := noLst_encO (due1 a b c0 d)
  have l2 := noLst_encO (due2 a b c0 d)
  obtain ⟨y15, y16, y17, s10⟩ := e10 (z0 := .io 0 (.lst c2)) (z1 := z1) (z2 := some (.fr (.str a))) (z3 := some (.fr (.str b))) (z4 := some (.fr (.str c0))) (z5 := some (.fr (.str d))) (z6 := some (.fr (.int p))) (z7 := some (.fr (.int q))) (z8 := some (.fr (.int r))) (z9 := some (.fr (.int s))) ro
  rw [right_eq, s3]
  rw [fSeq, e4]
  simp only [Res.bind]
  rw [fSeq, e5]
  simp only [Res.bind]
  rw [fSeq, e6]
  simp only [Res.bind]
  rw [fSeq, e7]
  simp only [Res.bind]
  rw [fSeq, e8]
  simp only [Res.bind]
  rw [fSeq, e9]
  simp only [Res.bind]
  rw [fSeq, s10]
  simp only [Res.bind]
  rw [fSeq, e11]
  simp only [Res.bind]
  rw [fSeq, e12 n1 n2 l1]
  simp only [Res.bind]
  rw [fSeq, e13]
  simp only [Res.bind]
  rw [e14 m1 m2 l2]
  simp only [finR, finC, retS, List.getElem?_cons_zero]
end TX

namespace TX
open PySem PySem.Spec PyProof.Rows L2 RZ DL
theorem four_of {ns : List Str} (nl : ns.length = 4) (nd : ns.Nodup) (nk : ∀ s ∈ ns, PyData.strOk s = true) : ∃ a b c0 d, srt ns = [a, b, c0, d] ∧ Four a b c0 d ∧ Oks a b c0 d ∧ b.cps.toList ≤ c0.cps.toList := by
  have sp := srt_perm ns
  have ssrt := srt_sorted ns
  have sl : (srt ns).length = 4 := by rw [sp.length_eq, nl]
  have snd : (srt ns).Nodup := sp.nodup_iff.mpr nd
  have sk : ∀ x ∈ srt ns, PyData.strOk x = true := fun x hx => nk x (sp.mem_iff.mp hx)
  generalize srt ns = S4' at *
  match S4', sl with
  | [a, b, c0, d], _ =>
  have K : Oks a b c0 d := ⟨sk a (by simp), sk b (by simp), sk c0 (by simp), sk d (by simp)⟩
  simp only [List.nodup_cons, List.mem_cons, List.not_mem_nil, or_false, not_or] at snd
  obtain ⟨⟨nab, nac, nad⟩, ⟨nbc, nbd⟩, ncd, _⟩ := snd
  have H : Four a b c0 d := ⟨beq_eq_false_iff_ne.mpr nab, beq_eq_false_iff_ne.mpr nac, beq_eq_false_iff_ne.mpr nad, beq_eq_false_iff_ne.mpr (Ne.symm nab), beq_eq_false_iff_ne.mpr nbc, beq_eq_false_iff_ne.mpr nbd, beq_eq_false_iff_ne.mpr (Ne.symm nac), beq_eq_false_iff_ne.mpr (Ne.symm nbc), beq_eq_false_iff_ne.mpr ncd, beq_eq_false_iff_ne.mpr (Ne.symm nad), beq_eq_false_iff_ne.mpr (Ne.symm nbd), beq_eq_false_iff_ne.mpr (Ne.symm ncd)⟩
  have hbc : b.cps.toList ≤ c0.cps.toList := by
    simp only [List.pairwise_cons] at ssrt
    exact ssrt.2.1 c0 (by simp)
  exact ⟨a, b, c0, d, rfl, H, K, hbc⟩
theorem names4 {c : List PyData} (h : IsTape 0 c) : ∃ (ns : List Str) (c' : List PyData), d__law_names (some (.lst c)) [.int 4] = .ok (.ow (.lst (ns.map PyData.str))) (some (.lst c')) ∧ ns.length = 4 ∧ ns.Nodup ∧ (∀ s ∈ ns, s.length ≤ 17 ∧ PyData.strOk s = true) ∧ IsTape 12 c' := by
  obtain ⟨ns, c1, e1, nl, nd, nk, h1⟩ := names_ok (n := 4) h (by omega) (by omega)
  refine ⟨ns, c1, ?_, nl, nd, nk, h1.mono (by omega)⟩
  have e4 : (((4 : Nat) : Int)) = 4 := rfl
  rw [e4] at e1
  exact e1
theorem prices4 {c : List PyData} {r : Evn} (hr : r.length = 18) (h9 : r.set 9 none = r) (h : IsTape 12 c) : ∃ (p q r1 s : Int) (c' : List PyData), fTurns [10] (gNm 10) (fun ρ => .ok true ρ) (fCallT d__law_draw (fCons (fVar 0) (fCons (fOp powOp (fC (.int 10)) (fC (.int 6))) fNil))) (rng 0 4) [] (some (.io 0 (.lst c)) :: r) = .ok ([] ++ [p, q, r1, s].map PyData.int) (some (.io 0 (.lst c')) :: r) := by
  have hl : (rng 0 4).length = 4 := by simp [rng]
  obtain ⟨ps, c2, e3, pl, _⟩ := price_turns hr h9 (rng 0 4) [] c 12 h (by rw [hl]; omega)
  rw [hl] at pl
  match ps, pl with
  | [p, q, r1, s], _ => exact ⟨p, q, r1, s, c2, e3⟩
theorem right_ok {c : List PyData} (h : IsTape 0 c) : ∃ c', d__law_right (some (.lst c)) [] = .ok (.fr (.bool true)) (some (.lst c')) := by
  obtain ⟨ns, c1, e1, nl, nd, nk, h1⟩ := names4 h
  obtain ⟨a, b, c0, d, es, H, K, hbc⟩ := four_of nl nd fun s hs => (nk s hs).2
  have esort := sort_strs (xs := ns) (by omega)
  rw [es] at esort
  obtain ⟨p, q, r, s, c2, e3⟩ := prices4 (r := [some (.ow (.lst (ns.map PyData.str))), some (.fr (.str a)), some (.fr (.str b)), some (.fr (.str c0)), some (.fr (.str d)), none, none, none, none, none, none, none, none, none, none, none, none, none]) rfl rfl h1
  have t1 := q1 e1
  have t2 := q2 (c1 := c1) esort
  have t3 := q3 e3
  have s3 : ∀ k, fSeq st1 (fSeq st2 (fSeq st3 k)) [some (.io 0 (.lst c)), none, none, none, none, none, none, none, none, none, none, none, none, none, none, none, none, none, none] = k [some (.io 0 (.lst c2)), some (.ow (.lst (ns.map PyData.str))), some (.fr (.str a)), some (.fr (.str b)), some (.fr (.str c0)), some (.fr (.str d)), some (.fr (.int p)), some (.fr (.int q)), some (.fr (.int r)), some (.fr (.int s)), none, none, none, none, none, none, none, none, none] := fun k => by
    rw [fSeq, t1]
    simp only [Res.bind]
    rw [fSeq, t2]
    simp only [Res.bind]
    rw [fSeq, t3]
    simp only [Res.bind]
  obtain ⟨n1, n2⟩ := end1 H K hbc
  obtain ⟨m1, m2⟩ := end2 H K
  exact ⟨c2, tail_ok s3 (rows_ok H K) n1 n2 m1 m2⟩
end TX

namespace TX
open PySem PySem.Spec PyProof.Rows L2 RZ DL
theorem law_math : ∀ ms : List Int, 1 ≤ ms.length → ms.length ≤ 3 → ∃ ρ1, g_law (ini1 3 (ms.map PyData.int)) = .ok (.rt (.fr (.bool true))) ρ1 := by
  intro ms h1 h3
  have hlen : lenOp [.list (ms.map PyData.int)] = some (.fr (.int ms.length)) := by
    simp [lenOp]
  have e0 : ini1 3 (ms.map PyData.int) = [none, some (.ow (.lst (ms.map PyData.int))), none] := rfl
  have er : fRange1 (fCons (fCB lenOp (fCons (fVar 1) fNil)) fNil) [none, some (.ow (.lst (ms.map PyData.int))), none] = .ok (rng 0 ms.length) [none, some (.ow (.lst (ms.map PyData.int))), none] := by
    simp [fRange1, fCons, fCB, fVar, fNil, Res.bind, rds, rd, rd0, Sl.own, Cn.rd, hlen, ofOpt]
    omega
  have e := lc_ok (ks := [2]) (it := fRange1 (fCons (fCB lenOp (fCons (fVar 1) fNil)) fNil)) (g := gNm 2) (c := fun ρ => .ok true ρ) (f := fCallO d__law_right (fCons (fCallV d__law_tape (fCons (fVar 1) (fCons (fVar 2) fNil))) fNil))
    (ρ := [none, some (.ow (.lst (ms.map PyData.int))), none]) (ρ0 := [none, some (.ow (.lst (ms.map PyData.int))), none]) (fun _ => true) (fun _ => .bool true) er (by simp [rng]; omega) (by simp) rfl (fun d hd => by
      obtain ⟨k, hk, rfl⟩ := List.mem_map.mp hd
      rw [List.mem_range] at hk
      refine ⟨_, rfl, _, rfl, fun _ => ⟨[none, some (.ow (.lst (ms.map PyData.int))), some (.fr (.int (0 + (k : Int))))], ?_, rfl⟩, fun z => (by cases z)⟩
      obtain ⟨c, e1, ht⟩ := tape_ok ms k (by omega) (by omega)
      obtain ⟨c', e2⟩ := right_ok ht
      have hn : noLsts c = true := by
        obtain ⟨x, y, t, rfl, _⟩ := ht
        rfl
      rw [Int.zero_add]
      simp [fFz, fCallO, fCallV, fCons, fVar, fNil, Res.bind, callV, callO, rds, rd, rd0, Sl.own, Cn.rd, e1, e2, allFr, isFr, noLstS, hn, frz])
  have em : ((rng 0 ms.length).filter fun _ => true).map (fun _ => PyData.bool true) = ((List.range ms.length).map fun _ => true).map PyData.bool := by
    rw [filt_true, rng, List.map_map, List.map_map]
    rfl
  have hall : (((List.range ms.length).map fun _ => true)).all id = true := by simp
  rw [em] at e
  refine ⟨[none, some (.ow (.lst (ms.map PyData.int))), none], ?_⟩
  rw [e0, g_law, fRet, fCB, fCons, e]
  simp only [fNil, Res.bind, rds, rd, rd0, Cn.rd, allOp, bools_map, Option.map, ofOpt, hall]
  rfl
end TX

namespace TX
open PySem PySem.Spec PyProof.Rows L2 RZ DL
theorem all_mk {l : PySem.W.OpenLaw} {w : World} {K : PySem.W.Frag} {h : Heap} {mg : Str → Option Value} {fa : Addr} (X : K.In h) (G : h.Ns mainGlobals mg) (hfa : mg "law" = some (.ref fa))
    {f__law_draw : Addr} {od__law_draw an__law_draw : Option Addr} {sl__law_draw : Array (Option Value)} {oc__law_draw kV__law_draw dc__law_draw pm__law_draw cd__law_draw ct__law_draw : Value}
    (a__law_draw : PySem.W.nsIn K mainGlobals "_law_draw" = some (some (.ref f__law_draw))) (l__law_draw : K.lookup f__law_draw = some ⟨oc__law_draw, od__law_draw, .func (PySem.W.fnOf "_law_draw" "_law_draw" (defArgs s__law_draw) (defBody s__law_draw) (defScope s__law_draw) .none kV__law_draw dc__law_draw pm__law_draw an__law_draw cd__law_draw ct__law_draw), sl__law_draw⟩) (c__law_draw : PySem.W.codeIn K cd__law_draw "_law_draw" = true) (k__law_draw : PySem.W.keepIn K (.ref f__law_draw) = true)
    {f__law_names : Addr} {od__law_names an__law_names : Option Addr} {sl__law_names : Array (Option Value)} {oc__law_names kV__law_names dc__law_names pm__law_names cd__law_names ct__law_names : Value}
    (a__law_names : PySem.W.nsIn K mainGlobals "_law_names" = some (some (.ref f__law_names))) (l__law_names : K.lookup f__law_names = some ⟨oc__law_names, od__law_names, .func (PySem.W.fnOf "_law_names" "_law_names" (defArgs s__law_names) (defBody s__law_names) (defScope s__law_names) .none kV__law_names dc__law_names pm__law_names an__law_names cd__law_names ct__law_names), sl__law_names⟩) (c__law_names : PySem.W.codeIn K cd__law_names "_law_names" = true) (k__law_names : PySem.W.keepIn K (.ref f__law_names) = true)
    {f__law_same : Addr} {od__law_same an__law_same : Option Addr} {sl__law_same : Array (Option Value)} {oc__law_same kV__law_same dc__law_same pm__law_same cd__law_same ct__law_same : Value}
    (a__law_same : PySem.W.nsIn K mainGlobals "_law_same" = some (some (.ref f__law_same))) (l__law_same : K.lookup f__law_same = some ⟨oc__law_same, od__law_same, .func (PySem.W.fnOf "_law_same" "_law_same" (defArgs s__law_same) (defBody s__law_same) (defScope s__law_same) .none kV__law_same dc__law_same pm__law_same an__law_same cd__law_same ct__law_same), sl__law_same⟩) (c__law_same : PySem.W.codeIn K cd__law_same "_law_same" = true) (k__law_same : PySem.W.keepIn K (.ref f__law_same) = true)
    {f_fruits_of : Addr} {od_fruits_of an_fruits_of : Option Addr} {sl_fruits_of : Array (Option Value)} {oc_fruits_of kV_fruits_of dc_fruits_of pm_fruits_of cd_fruits_of ct_fruits_of : Value}
    (a_fruits_of : PySem.W.nsIn K mainGlobals "fruits_of" = some (some (.ref f_fruits_of))) (l_fruits_of : K.lookup f_fruits_of = some ⟨oc_fruits_of, od_fruits_of, .func (PySem.W.fnOf "fruits_of" "fruits_of" (defArgs s_fruits_of) (defBody s_fruits_of) (defScope s_fruits_of) .none kV_fruits_of dc_fruits_of pm_fruits_of an_fruits_of cd_fruits_of ct_fruits_of), sl_fruits_of⟩) (c_fruits_of : PySem.W.codeIn K cd_fruits_of "fruits_of" = true) (k_fruits_of : PySem.W.keepIn K (.ref f_fruits_of) = true)
    {f_lot_of : Addr} {od_lot_of an_lot_of : Option Addr} {sl_lot_of : Array (Option Value)} {oc_lot_of kV_lot_of dc_lot_of pm_lot_of cd_lot_of ct_lot_of : Value}
    (a_lot_of : PySem.W.nsIn K mainGlobals "lot_of" = some (some (.ref f_lot_of))) (l_lot_of : K.lookup f_lot_of = some ⟨oc_lot_of, od_lot_of, .func (PySem.W.fnOf "lot_of" "lot_of" (defArgs s_lot_of) (defBody s_lot_of) (defScope s_lot_of) .none kV_lot_of dc_lot_of pm_lot_of an_lot_of cd_lot_of ct_lot_of), sl_lot_of⟩) (c_lot_of : PySem.W.codeIn K cd_lot_of "lot_of" = true) (k_lot_of : PySem.W.keepIn K (.ref f_lot_of) = true)
    {f_known : Addr} {od_known an_known : Option Addr} {sl_known : Array (Option Value)} {oc_known kV_known dc_known pm_known cd_known ct_known : Value}
    (a_known : PySem.W.nsIn K mainGlobals "known" = some (some (.ref f_known))) (l_known : K.lookup f_known = some ⟨oc_known, od_known, .func (PySem.W.fnOf "known" "known" (defArgs s_known) (defBody s_known) (defScope s_known) .none kV_known dc_known pm_known an_known cd_known ct_known), sl_known⟩) (c_known : PySem.W.codeIn K cd_known "known" = true) (k_known : PySem.W.keepIn K (.ref f_known) = true)
    {f_look_fruit : Addr} {od_look_fruit an_look_fruit : Option Addr} {sl_look_fruit : Array (Option Value)} {oc_look_fruit kV_look_fruit dc_look_fruit pm_look_fruit cd_look_fruit ct_look_fruit : Value}
    (a_look_fruit : PySem.W.nsIn K mainGlobals "look_fruit" = some (some (.ref f_look_fruit))) (l_look_fruit : K.lookup f_look_fruit = some ⟨oc_look_fruit, od_look_fruit, .func (PySem.W.fnOf "look_fruit" "look_fruit" (defArgs s_look_fruit) (defBody s_look_fruit) (defScope s_look_fruit) .none kV_look_fruit dc_look_fruit pm_look_fruit an_look_fruit cd_look_fruit ct_look_fruit), sl_look_fruit⟩) (c_look_fruit : PySem.W.codeIn K cd_look_fruit "look_fruit" = true) (k_look_fruit : PySem.W.keepIn K (.ref f_look_fruit) = true)
    {f_is_within : Addr} {od_is_within an_is_within : Option Addr} {sl_is_within : Array (Option Value)} {oc_is_within kV_is_within dc_is_within pm_is_within cd_is_within ct_is_within : Value}
    (a_is_within : PySem.W.nsIn K mainGlobals "is_within" = some (some (.ref f_is_within))) (l_is_within : K.lookup f_is_within = some ⟨oc_is_within, od_is_within, .func (PySem.W.fnOf "is_within" "is_within" (defArgs s_is_within) (defBody s_is_within) (defScope s_is_within) .none kV_is_within dc_is_within pm_is_within an_is_within cd_is_within ct_is_within), sl_is_within⟩) (c_is_within : PySem.W.codeIn K cd_is_within "is_within" = true) (k_is_within : PySem.W.keepIn K (.ref f_is_within) = true)
    {f_is_ripe : Addr} {od_is_ripe an_is_ripe : Option Addr} {sl_is_ripe : Array (Option Value)} {oc_is_ripe kV_is_ripe dc_is_ripe pm_is_ripe cd_is_ripe ct_is_ripe : Value}
    (a_is_ripe : PySem.W.nsIn K mainGlobals "is_ripe" = some (some (.ref f_is_ripe))) (l_is_ripe : K.lookup f_is_ripe = some ⟨oc_is_ripe, od_is_ripe, .func (PySem.W.fnOf "is_ripe" "is_ripe" (defArgs s_is_ripe) (defBody s_is_ripe) (defScope s_is_ripe) .none kV_is_ripe dc_is_ripe pm_is_ripe an_is_ripe cd_is_ripe ct_is_ripe), sl_is_ripe⟩) (c_is_ripe : PySem.W.codeIn K cd_is_ripe "is_ripe" = true) (k_is_ripe : PySem.W.keepIn K (.ref f_is_ripe) = true)
    {f_ill_word : Addr} {od_ill_word an_ill_word : Option Addr} {sl_ill_word : Array (Option Value)} {oc_ill_word kV_ill_word dc_ill_word pm_ill_word cd_ill_word ct_ill_word : Value}
    (a_ill_word : PySem.W.nsIn K mainGlobals "ill_word" = some (some (.ref f_ill_word))) (l_ill_word : K.lookup f_ill_word = some ⟨oc_ill_word, od_ill_word, .func (PySem.W.fnOf "ill_word" "ill_word" (defArgs s_ill_word) (defBody s_ill_word) (defScope s_ill_word) .none kV_ill_word dc_ill_word pm_ill_word an_ill_word cd_ill_word ct_ill_word), sl_ill_word⟩) (c_ill_word : PySem.W.codeIn K cd_ill_word "ill_word" = true) (k_ill_word : PySem.W.keepIn K (.ref f_ill_word) = true)
    {f_ill_hung : Addr} {od_ill_hung an_ill_hung : Option Addr} {sl_ill_hung : Array (Option Value)} {oc_ill_hung kV_ill_hung dc_ill_hung pm_ill_hung cd_ill_hung ct_ill_hung : Value}
    (a_ill_hung : PySem.W.nsIn K mainGlobals "ill_hung" = some (some (.ref f_ill_hung))) (l_ill_hung : K.lookup f_ill_hung = some ⟨oc_ill_hung, od_ill_hung, .func (PySem.W.fnOf "ill_hung" "ill_hung" (defArgs s_ill_hung) (defBody s_ill_hung) (defScope s_ill_hung) .none kV_ill_hung dc_ill_hung pm_ill_hung an_ill_hung cd_ill_hung ct_ill_hung), sl_ill_hung⟩) (c_ill_hung : PySem.W.codeIn K cd_ill_hung "ill_hung" = true) (k_ill_hung : PySem.W.keepIn K (.ref f_ill_hung) = true)
    {f_least_hung : Addr} {od_least_hung an_least_hung : Option Addr} {sl_least_hung : Array (Option Value)} {oc_least_hung kV_least_hung dc_least_hung pm_least_hung cd_least_hung ct_least_hung : Value}
    (a_least_hung : PySem.W.nsIn K mainGlobals "least_hung" = some (some (.ref f_least_hung))) (l_least_hung : K.lookup f_least_hung = some ⟨oc_least_hung, od_least_hung, .func (PySem.W.fnOf "least_hung" "least_hung" (defArgs s_least_hung) (defBody s_least_hung) (defScope s_least_hung) .none kV_least_hung dc_least_hung pm_least_hung an_least_hung cd_least_hung ct_least_hung), sl_least_hung⟩) (c_least_hung : PySem.W.codeIn K cd_least_hung "least_hung" = true) (k_least_hung : PySem.W.keepIn K (.ref f_least_hung) = true)
    {f_ripe : Addr} {od_ripe an_ripe : Option Addr} {sl_ripe : Array (Option Value)} {oc_ripe kV_ripe dc_ripe pm_ripe cd_ripe ct_ripe : Value}
    (a_ripe : PySem.W.nsIn K mainGlobals "ripe" = some (some (.ref f_ripe))) (l_ripe : K.lookup f_ripe = some ⟨oc_ripe, od_ripe, .func (PySem.W.fnOf "ripe" "ripe" (defArgs s_ripe) (defBody s_ripe) (defScope s_ripe) .none kV_ripe dc_ripe pm_ripe an_ripe cd_ripe ct_ripe), sl_ripe⟩) (c_ripe : PySem.W.codeIn K cd_ripe "ripe" = true) (k_ripe : PySem.W.keepIn K (.ref f_ripe) = true)
    {f_passed_by : Addr} {od_passed_by an_passed_by : Option Addr} {sl_passed_by : Array (Option Value)} {oc_passed_by kV_passed_by dc_passed_by pm_passed_by cd_passed_by ct_passed_by : Value}
    (a_passed_by : PySem.W.nsIn K mainGlobals "passed_by" = some (some (.ref f_passed_by))) (l_passed_by : K.lookup f_passed_by = some ⟨oc_passed_by, od_passed_by, .func (PySem.W.fnOf "passed_by" "passed_by" (defArgs s_passed_by) (defBody s_passed_by) (defScope s_passed_by) .none kV_passed_by dc_passed_by pm_passed_by an_passed_by cd_passed_by ct_passed_by), sl_passed_by⟩) (c_passed_by : PySem.W.codeIn K cd_passed_by "passed_by" = true) (k_passed_by : PySem.W.keepIn K (.ref f_passed_by) = true)
    {f_pick : Addr} {od_pick an_pick : Option Addr} {sl_pick : Array (Option Value)} {oc_pick kV_pick dc_pick pm_pick cd_pick ct_pick : Value}
    (a_pick : PySem.W.nsIn K mainGlobals "pick" = some (some (.ref f_pick))) (l_pick : K.lookup f_pick = some ⟨oc_pick, od_pick, .func (PySem.W.fnOf "pick" "pick" (defArgs s_pick) (defBody s_pick) (defScope s_pick) .none kV_pick dc_pick pm_pick an_pick cd_pick ct_pick), sl_pick⟩) (c_pick : PySem.W.codeIn K cd_pick "pick" = true) (k_pick : PySem.W.keepIn K (.ref f_pick) = true)
    {f_hung_anew : Addr} {od_hung_anew an_hung_anew : Option Addr} {sl_hung_anew : Array (Option Value)} {oc_hung_anew kV_hung_anew dc_hung_anew pm_hung_anew cd_hung_anew ct_hung_anew : Value}
    (a_hung_anew : PySem.W.nsIn K mainGlobals "hung_anew" = some (some (.ref f_hung_anew))) (l_hung_anew : K.lookup f_hung_anew = some ⟨oc_hung_anew, od_hung_anew, .func (PySem.W.fnOf "hung_anew" "hung_anew" (defArgs s_hung_anew) (defBody s_hung_anew) (defScope s_hung_anew) .none kV_hung_anew dc_hung_anew pm_hung_anew an_hung_anew cd_hung_anew ct_hung_anew), sl_hung_anew⟩) (c_hung_anew : PySem.W.codeIn K cd_hung_anew "hung_anew" = true) (k_hung_anew : PySem.W.keepIn K (.ref f_hung_anew) = true)
    {f__law_right : Addr} {od__law_right an__law_right : Option Addr} {sl__law_right : Array (Option Value)} {oc__law_right kV__law_right dc__law_right pm__law_right cd__law_right ct__law_right : Value}
    (a__law_right : PySem.W.nsIn K mainGlobals "_law_right" = some (some (.ref f__law_right))) (l__law_right : K.lookup f__law_right = some ⟨oc__law_right, od__law_right, .func (PySem.W.fnOf "_law_right" "_law_right" (defArgs s__law_right) (defBody s__law_right) (defScope s__law_right) .none kV__law_right dc__law_right pm__law_right an__law_right cd__law_right ct__law_right), sl__law_right⟩) (c__law_right : PySem.W.codeIn K cd__law_right "_law_right" = true) (k__law_right : PySem.W.keepIn K (.ref f__law_right) = true)
    {f__law_tape : Addr} {od__law_tape an__law_tape : Option Addr} {sl__law_tape : Array (Option Value)} {oc__law_tape kV__law_tape dc__law_tape pm__law_tape cd__law_tape ct__law_tape : Value}
    (a__law_tape : PySem.W.nsIn K mainGlobals "_law_tape" = some (some (.ref f__law_tape))) (l__law_tape : K.lookup f__law_tape = some ⟨oc__law_tape, od__law_tape, .func (PySem.W.fnOf "_law_tape" "_law_tape" (defArgs s__law_tape) (defBody s__law_tape) (defScope s__law_tape) .none kV__law_tape dc__law_tape pm__law_tape an__law_tape cd__law_tape ct__law_tape), sl__law_tape⟩) (c__law_tape : PySem.W.codeIn K cd__law_tape "_law_tape" = true) (k__law_tape : PySem.W.keepIn K (.ref f__law_tape) = true)
    {f__law_folded : Addr} {od__law_folded an__law_folded : Option Addr} {sl__law_folded : Array (Option Value)} {oc__law_folded kV__law_folded dc__law_folded pm__law_folded cd__law_folded ct__law_folded : Value}
    (a__law_folded : PySem.W.nsIn K mainGlobals "_law_folded" = some (some (.ref f__law_folded))) (l__law_folded : K.lookup f__law_folded = some ⟨oc__law_folded, od__law_folded, .func (PySem.W.fnOf "_law_folded" "_law_folded" (defArgs s__law_folded) (defBody s__law_folded) (defScope s__law_folded) .none kV__law_folded dc__law_folded pm__law_folded an__law_folded cd__law_folded ct__law_folded), sl__law_folded⟩) (c__law_folded : PySem.W.codeIn K cd__law_folded "_law_folded" = true) (k__law_folded : PySem.W.keepIn K (.ref f__law_folded) = true)
    {f__law_cells : Addr} {od__law_cells an__law_cells : Option Addr} {sl__law_cells : Array (Option Value)} {oc__law_cells kV__law_cells dc__law_cells pm__law_cells cd__law_cells ct__law_cells : Value}
    (a__law_cells : PySem.W.nsIn K mainGlobals "_law_cells" = some (some (.ref f__law_cells))) (l__law_cells : K.lookup f__law_cells = some ⟨oc__law_cells, od__law_cells, .func (PySem.W.fnOf "_law_cells" "_law_cells" (defArgs s__law_cells) (defBody s__law_cells) (defScope s__law_cells) .none kV__law_cells dc__law_cells pm__law_cells an__law_cells cd__law_cells ct__law_cells), sl__law_cells⟩) (c__law_cells : PySem.W.codeIn K cd__law_cells "_law_cells" = true) (k__law_cells : PySem.W.keepIn K (.ref f__law_cells) = true)
    {f_law : Addr} {od_law an_law : Option Addr} {sl_law : Array (Option Value)} {oc_law kV_law dc_law pm_law cd_law ct_law : Value}
    (a_law : PySem.W.nsIn K mainGlobals "law" = some (some (.ref f_law))) (l_law : K.lookup f_law = some ⟨oc_law, od_law, .func (PySem.W.fnOf "law" "law" (defArgs s_law) (defBody s_law) (defScope s_law) .none kV_law dc_law pm_law an_law cd_law ct_law), sl_law⟩) (c_law : PySem.W.codeIn K cd_law "law" = true) (k_law : PySem.W.keepIn K (.ref f_law) = true)
    (z_abs : PySem.W.nsIn K mainGlobals "abs" = some none)
    (z_all : PySem.W.nsIn K mainGlobals "all" = some none)
    (z_any : PySem.W.nsIn K mainGlobals "any" = some none)
    (z_bool : PySem.W.nsIn K mainGlobals "bool" = some none)
    (z_enumerate : PySem.W.nsIn K mainGlobals "enumerate" = some none)
    (z_int : PySem.W.nsIn K mainGlobals "int" = some none)
    (z_isinstance : PySem.W.nsIn K mainGlobals "isinstance" = some none)
    (z_len : PySem.W.nsIn K mainGlobals "len" = some none)
    (z_list : PySem.W.nsIn K mainGlobals "list" = some none)
    (z_range : PySem.W.nsIn K mainGlobals "range" = some none)
    (z_sorted : PySem.W.nsIn K mainGlobals "sorted" = some none)
    (z_str : PySem.W.nsIn K mainGlobals "str" = some none)
    (z_sum : PySem.W.nsIn K mainGlobals "sum" = some none)
    (z_tuple : PySem.W.nsIn K mainGlobals "tuple" = some none)
    (z_zip : PySem.W.nsIn K mainGlobals "zip" = some none)
    {t_LATE : Tok} (z_LATE : PySem.W.nsIn K mainGlobals "LATE" = some (some (.str "late" t_LATE)))
    {t_SOON : Tok} (z_SOON : PySem.W.nsIn K mainGlobals "SOON" = some (some (.str "soon" t_SOON))) :
    ∃ fd : FuncData, (∀ (s : Shared) (v : Value), BindsTo s fd ⟨[v], []⟩ [("_law_script", v)]) ∧ ∀ base : Heap, K.In base → base.Ns mainGlobals mg → FnOk l.prog w K mg base (L2.CX l.prog w) 15 fa fd ["_law_script"] (spLaw K) := by
  have m_abs := PySem.W.mg_none_of X G z_abs
  have m_all := PySem.W.mg_none_of X G z_all
  have m_any := PySem.W.mg_none_of X G z_any
  have m_bool := PySem.W.mg_none_of X G z_bool
  have m_enumerate := PySem.W.mg_none_of X G z_enumerate
  have m_int := PySem.W.mg_none_of X G z_int
  have m_isinstance := PySem.W.mg_none_of X G z_isinstance
  have m_len := PySem.W.mg_none_of X G z_len
  have m_list := PySem.W.mg_none_of X G z_list
  have m_range := PySem.W.mg_none_of X G z_range
  have m_sorted := PySem.W.mg_none_of X G z_sorted
  have m_str := PySem.W.mg_none_of X G z_str
  have m_sum := PySem.W.mg_none_of X G z_sum
  have m_tuple := PySem.W.mg_none_of X G z_tuple
  have m_zip := PySem.W.mg_none_of X G z_zip
  have m_LATE := PySem.W.mg_of X G z_LATE
  have m_SOON := PySem.W.mg_of X G z_SOON
  have F__law_draw := fun_mk (st := s__law_draw) l__law_draw c__law_draw k__law_draw
  have b__law_draw := F__law_draw.binds (ps := ["_law_tape_here", "_law_count"]) fun _ _ _ _ _ _ us hl => match us, hl with | [_, _], _ => rfl
  have F__law_names := fun_mk (st := s__law_names) l__law_names c__law_names k__law_names
  have b__law_names := F__law_names.binds (ps := ["_law_tape_here", "_law_count"]) fun _ _ _ _ _ _ us hl => match us, hl with | [_, _], _ => rfl
  have F__law_same := fun_mk (st := s__law_same) l__law_same c__law_same k__law_same
  have b__law_same := F__law_same.binds (ps := ["_law_found", "_law_due"]) fun _ _ _ _ _ _ us hl => match us, hl with | [_, _], _ => rfl
  have F_fruits_of := fun_mk (st := s_fruits_of) l_fruits_of c_fruits_of k_fruits_of
  have b_fruits_of := F_fruits_of.binds (ps := ["orchard"]) fun _ _ _ _ _ _ us hl => match us, hl with | [_], _ => rfl
  have F_lot_of := fun_mk (st := s_lot_of) l_lot_of c_lot_of k_lot_of
  have b_lot_of := F_lot_of.binds (ps := ["names"]) fun _ _ _ _ _ _ us hl => match us, hl with | [_], _ => rfl
  have F_known := fun_mk (st := s_known) l_known c_known k_known
  have b_known := F_known.binds (ps := ["picking", "fruit"]) fun _ _ _ _ _ _ us hl => match us, hl with | [_, _], _ => rfl
  have F_look_fruit := fun_mk (st := s_look_fruit) l_look_fruit c_look_fruit k_look_fruit
  have b_look_fruit := F_look_fruit.binds (ps := ["orchard", "fruit"]) fun _ _ _ _ _ _ us hl => match us, hl with | [_, _], _ => rfl
  have F_is_within := fun_mk (st := s_is_within) l_is_within c_is_within k_is_within
  have b_is_within := F_is_within.binds (ps := ["one", "other"]) fun _ _ _ _ _ _ us hl => match us, hl with | [_, _], _ => rfl
  have F_is_ripe := fun_mk (st := s_is_ripe) l_is_ripe c_is_ripe k_is_ripe
  have b_is_ripe := F_is_ripe.binds (ps := ["orchard", "fruit", "gone"]) fun _ _ _ _ _ _ us hl => match us, hl with | [_, _, _], _ => rfl
  have F_ill_word := fun_mk (st := s_ill_word) l_ill_word c_ill_word k_ill_word
  have b_ill_word := F_ill_word.binds (ps := ["orchard", "liking", "row", "fruit"]) fun _ _ _ _ _ _ us hl => match us, hl with | [_, _, _, _], _ => rfl
  have F_ill_hung := fun_mk (st := s_ill_hung) l_ill_hung c_ill_hung k_ill_hung
  have b_ill_hung := F_ill_hung.binds (ps := ["orchard", "liking", "row"]) fun _ _ _ _ _ _ us hl => match us, hl with | [_, _, _], _ => rfl
  have F_least_hung := fun_mk (st := s_least_hung) l_least_hung c_least_hung k_least_hung
  have b_least_hung := F_least_hung.binds (ps := ["orchard", "liking", "row", "prices"]) fun _ _ _ _ _ _ us hl => match us, hl with | [_, _, _, _], _ => rfl
  have F_ripe := fun_mk (st := s_ripe) l_ripe c_ripe k_ripe
  have b_ripe := F_ripe.binds (ps := ["orchard", "gone"]) fun _ _ _ _ _ _ us hl => match us, hl with | [_, _], _ => rfl
  have F_passed_by := fun_mk (st := s_passed_by) l_passed_by c_passed_by k_passed_by
  have b_passed_by := F_passed_by.binds (ps := ["orchard", "liking"]) fun _ _ _ _ _ _ us hl => match us, hl with | [_, _], _ => rfl
  have F_pick := fun_mk (st := s_pick) l_pick c_pick k_pick
  have b_pick := F_pick.binds (ps := ["orchard", "liking"]) fun _ _ _ _ _ _ us hl => match us, hl with | [_, _], _ => rfl
  have F_hung_anew := fun_mk (st := s_hung_anew) l_hung_anew c_hung_anew k_hung_anew
  have b_hung_anew := F_hung_anew.binds (ps := ["orchard", "liking", "row"]) fun _ _ _ _ _ _ us hl => match us, hl with | [_, _, _], _ => rfl
  have F__law_right := fun_mk (st := s__law_right) l__law_right c__law_right k__law_right
  have b__law_right := F__law_right.binds (ps := ["_law_tape_here"]) fun _ _ _ _ _ _ us hl => match us, hl with | [_], _ => rfl
  have F__law_tape := fun_mk (st := s__law_tape) l__law_tape c__law_tape k__law_tape
  have b__law_tape := F__law_tape.binds (ps := ["_law_script", "_law_k"]) fun _ _ _ _ _ _ us hl => match us, hl with | [_, _], _ => rfl
  have F__law_folded := fun_mk (st := s__law_folded) l__law_folded c__law_folded k__law_folded
  have b__law_folded := F__law_folded.binds (ps := ["_law_script", "_law_count"]) fun _ _ _ _ _ _ us hl => match us, hl with | [_, _], _ => rfl
  have F__law_cells := fun_mk (st := s__law_cells) l__law_cells c__law_cells k__law_cells
  have b__law_cells := F__law_cells.binds (ps := ["_law_script", "_law_count"]) fun _ _ _ _ _ _ us hl => match us, hl with | [_, _], _ => rfl
  have F_law := fun_mk (st := s_law) l_law c_law k_law
  have e := hfa.symm.trans (PySem.W.mg_of X G a_law)
  cases e
  refine ⟨PySem.W.fnOf "law" "law" (defArgs s_law) (defBody s_law) (defScope s_law) .none kV_law dc_law pm_law an_law cd_law ct_law, fun s v => .of_eq rfl, fun base _ _ => ?_⟩
  have C__law_draw := cal_mk F__law_draw (PySem.W.mg_of X G a__law_draw) b__law_draw (ok__law_draw (P := l.prog) (w := w) (mg := mg) (base := base) (k := 0) F__law_draw)
  have C__law_names := cal_mk F__law_names (PySem.W.mg_of X G a__law_names) b__law_names (ok__law_names (P := l.prog) (w := w) (mg := mg) (base := base) (k := 1) F__law_names C__law_draw (by decide) m_range m_len m_int)
  have D__law_same : ∀ n, Cal l.prog w K mg base "_law_same" ["_law_found", "_law_due"] (1 + n) (spD K mg 2 (d__law_same n)) := fun n => by
    induction n with
    | zero => exact cal_mk F__law_same (PySem.W.mg_of X G a__law_same) b__law_same (F__law_same.okX (k := 0) sc__law_same (fun vs H Q E h => by obtain ⟨_, _, _, _, _, _, _, _, _, _, z⟩ := h; exact z.elim) fun cdv A outer s H vs Q E hr h => by obtain ⟨_, _, _, _, _, _, _, _, _, _, z⟩ := h; exact z.elim)
    | succ n ih => exact cal_mk F__law_same (PySem.W.mg_of X G a__law_same) b__law_same (ok__law_same (k := 1 + n) F__law_same m_isinstance m_list m_tuple m_len m_all m_zip m_str m_bool m_int ih)
  have C__law_same := D__law_same 12
  have C_fruits_of := cal_mk F_fruits_of (PySem.W.mg_of X G a_fruits_of) b_fruits_of (ok_fruits_of (P := l.prog) (w := w) (mg := mg) (base := base) (k := 0) F_fruits_of)
  have C_lot_of := cal_mk F_lot_of (PySem.W.mg_of X G a_lot_of) b_lot_of (ok_lot_of (P := l.prog) (w := w) (mg := mg) (base := base) (k := 0) F_lot_of m_tuple m_sorted)
  have C_known := cal_mk F_known (PySem.W.mg_of X G a_known) b_known (ok_known (P := l.prog) (w := w) (mg := mg) (base := base) (k := 1) F_known C_lot_of (by decide) m_list m_enumerate m_len)
  have C_look_fruit := cal_mk F_look_fruit (PySem.W.mg_of X G a_look_fruit) b_look_fruit (ok_look_fruit (P := l.prog) (w := w) (mg := mg) (base := base) (k := 1) F_look_fruit C_fruits_of (by decide))
  have C_is_within := cal_mk F_is_within (PySem.W.mg_of X G a_is_within) b_is_within (ok_is_within (P := l.prog) (w := w) (mg := mg) (base := base) (k := 0) F_is_within m_all)
  have C_is_ripe := cal_mk F_is_ripe (PySem.W.mg_of X G a_is_ripe) b_is_ripe (ok_is_ripe (P := l.prog) (w := w) (mg := mg) (base := base) (k := 2) F_is_ripe C_look_fruit (by decide) C_is_within (by decide) m_any)
  have C_ill_word := cal_mk F_ill_word (PySem.W.mg_of X G a_ill_word) b_ill_word (ok_ill_word (P := l.prog) (w := w) (mg := mg) (base := base) (k := 3) F_ill_word C_known (by decide) C_is_ripe (by decide) m_LATE m_SOON)
  have C_ill_hung := cal_mk F_ill_hung (PySem.W.mg_of X G a_ill_hung) b_ill_hung (ok_ill_hung (P := l.prog) (w := w) (mg := mg) (base := base) (k := 4) F_ill_hung C_fruits_of (by decide) C_ill_word (by decide))
  have C_least_hung := cal_mk F_least_hung (PySem.W.mg_of X G a_least_hung) b_least_hung (ok_least_hung (P := l.prog) (w := w) (mg := mg) (base := base) (k := 5) F_least_hung C_ill_hung (by decide) m_sum)
  have C_ripe := cal_mk F_ripe (PySem.W.mg_of X G a_ripe) b_ripe (ok_ripe (P := l.prog) (w := w) (mg := mg) (base := base) (k := 1) F_ripe C_is_within (by decide) m_any)
  have C_passed_by := cal_mk F_passed_by (PySem.W.mg_of X G a_passed_by) b_passed_by (ok_passed_by (P := l.prog) (w := w) (mg := mg) (base := base) (k := 2) F_passed_by C_ripe (by decide) m_len)
  have C_pick := cal_mk F_pick (PySem.W.mg_of X G a_pick) b_pick (ok_pick (P := l.prog) (w := w) (mg := mg) (base := base) (k := 3) F_pick C_passed_by (by decide))
  have C_hung_anew := cal_mk F_hung_anew (PySem.W.mg_of X G a_hung_anew) b_hung_anew (ok_hung_anew (P := l.prog) (w := w) (mg := mg) (base := base) (k := 5) F_hung_anew C_ill_hung (by decide) C_lot_of (by decide) m_tuple m_list)
  have C__law_right := cal_mk F__law_right (PySem.W.mg_of X G a__law_right) b__law_right (ok__law_right (P := l.prog) (w := w) (mg := mg) (base := base) (k := 13) F__law_right C__law_names (by decide) C__law_draw (by decide) C__law_same (by decide) C_least_hung (by decide) C_ill_hung (by decide) C_pick (by decide) C_hung_anew (by decide) m_sorted m_range)
  have C__law_tape := cal_mk F__law_tape (PySem.W.mg_of X G a__law_tape) b__law_tape (ok__law_tape (P := l.prog) (w := w) (mg := mg) (base := base) (k := 0) F__law_tape m_len m_abs m_int)
  have C__law_folded := cal_mk F__law_folded (PySem.W.mg_of X G a__law_folded) b__law_folded (ok__law_folded (P := l.prog) (w := w) (mg := mg) (base := base) (k := 0) F__law_folded m_list m_enumerate)
  have C__law_cells := cal_mk F__law_cells (PySem.W.mg_of X G a__law_cells) b__law_cells (ok__law_cells (P := l.prog) (w := w) (mg := mg) (base := base) (k := 1) F__law_cells C__law_folded (by decide))
  exact ok_law (k := 14) F_law C__law_cells (by decide) C__law_right (by decide) C__law_tape (by decide) m_all m_range m_len law_math
end TX
open PySem PySem.W PyProof.Rows
set_option maxHeartbeats 0 in
theorem PySem.Challenge.cw_ripepicks_k41_hung_anew_known_by_hand_holds : PySem.Challenge.rw_ripepicks_k41_hung_anew_known_by_hand.Holds := by
  w_on; o_law; k_head; (case hw => w_witness2)
  k_fill
  refine L2.walk_of (l := PySem.Challenge.rw_ripepicks_k41_hung_anew_known_by_hand) (n := 63) (k := 15) (x := "_law_script") (CX := fun w => L2.CX PySem.Challenge.rw_ripepicks_k41_hung_anew_known_by_hand.prog w) (sp := fun w => DL.spLaw _) rfl (by decide) rfl ⟨rfl, by decide, by decide⟩ (fun w h Y => PySem.W.kIn_of Y) ?F (fun _ _ a ns hl _ hS => ⟨a, ns, rfl, hS, hl, fun _ => rfl⟩) (fun _ _ _ _ _ h => by
    obtain ⟨_, _, _, _, _, _, _, _, _, _, _, _, z⟩ := h
    exact z.elim)
  case F =>
    intro w mg fa h KX G hmg
    refine' TX.all_mk KX G hmg ?a__law_draw ?l__law_draw ?c__law_draw ?k__law_draw ?a__law_names ?l__law_names ?c__law_names ?k__law_names ?a__law_same ?l__law_same ?c__law_same ?k__law_same ?a_fruits_of ?l_fruits_of ?c_fruits_of ?k_fruits_of ?a_lot_of ?l_lot_of ?c_lot_of ?k_lot_of ?a_known ?l_known ?c_known ?k_known ?a_look_fruit ?l_look_fruit ?c_look_fruit ?k_look_fruit ?a_is_within ?l_is_within ?c_is_within ?k_is_within ?a_is_ripe ?l_is_ripe ?c_is_ripe ?k_is_ripe ?a_ill_word ?l_ill_word ?c_ill_word ?k_ill_word ?a_ill_hung ?l_ill_hung ?c_ill_hung ?k_ill_hung ?a_least_hung ?l_least_hung ?c_least_hung ?k_least_hung ?a_ripe ?l_ripe ?c_ripe ?k_ripe ?a_passed_by ?l_passed_by ?c_passed_by ?k_passed_by ?a_pick ?l_pick ?c_pick ?k_pick ?a_hung_anew ?l_hung_anew ?c_hung_anew ?k_hung_anew ?a__law_right ?l__law_right ?c__law_right ?k__law_right ?a__law_tape ?l__law_tape ?c__law_tape ?k__law_tape ?a__law_folded ?l__law_folded ?c__law_folded ?k__law_folded ?a__law_cells ?l__law_cells ?c__law_cells ?k__law_cells ?a_law ?l_law ?c_law ?k_law ?z_abs ?z_all ?z_any ?z_bool ?z_enumerate ?z_int ?z_isinstance ?z_len ?z_list ?z_range ?z_sorted ?z_str ?z_sum ?z_tuple ?z_zip ?z_LATE ?z_SOON
    (case a__law_draw => k_is); (case l__law_draw => k_is); (case c__law_draw => k_is); (case k__law_draw => k_is); (case a__law_names => k_is); (case l__law_names => k_is); (case c__law_names => k_is); (case k__law_names => k_is); (case a__law_same => k_is); (case l__law_same => k_is); (case c__law_same => k_is); (case k__law_same => k_is); (case a_fruits_of => k_is); (case l_fruits_of => k_is); (case c_fruits_of => k_is); (case k_fruits_of => k_is); (case a_lot_of => k_is); (case l_lot_of => k_is); (case c_lot_of => k_is); (case k_lot_of => k_is); (case a_known => k_is); (case l_known => k_is); (case c_known => k_is); (case k_known => k_is); (case a_look_fruit => k_is); (case l_look_fruit => k_is); (case c_look_fruit => k_is); (case k_look_fruit => k_is); (case a_is_within => k_is); (case l_is_within => k_is); (case c_is_within => k_is); (case k_is_within => k_is); (case a_is_ripe => k_is); (case l_is_ripe => k_is); (case c_is_ripe => k_is); (case k_is_ripe => k_is); (case a_ill_word => k_is); (case l_ill_word => k_is); (case c_ill_word => k_is); (case k_ill_word => k_is); (case a_ill_hung => k_is); (case l_ill_hung => k_is); (case c_ill_hung => k_is); (case k_ill_hung => k_is); (case a_least_hung => k_is); (case l_least_hung => k_is); (case c_least_hung => k_is); (case k_least_hung => k_is); (case a_ripe => k_is); (case l_ripe => k_is); (case c_ripe => k_is); (case k_ripe => k_is); (case a_passed_by => k_is); (case l_passed_by => k_is); (case c_passed_by => k_is); (case k_passed_by => k_is); (case a_pick => k_is); (case l_pick => k_is); (case c_pick => k_is); (case k_pick => k_is); (case a_hung_anew => k_is); (case l_hung_anew => k_is); (case c_hung_anew => k_is); (case k_hung_anew => k_is); (case a__law_right => k_is); (case l__law_right => k_is); (case c__law_right => k_is); (case k__law_right => k_is); (case a__law_tape => k_is); (case l__law_tape => k_is); (case c__law_tape => k_is); (case k__law_tape => k_is); (case a__law_folded => k_is); (case l__law_folded => k_is); (case c__law_folded => k_is); (case k__law_folded => k_is); (case a__law_cells => k_is); (case l__law_cells => k_is); (case c__law_cells => k_is); (case k__law_cells => k_is); (case a_law => k_is); (case l_law => k_is); (case c_law => k_is); (case k_law => k_is); (case z_abs => k_is); (case z_all => k_is); (case z_any => k_is); (case z_bool => k_is); (case z_enumerate => k_is); (case z_int => k_is); (case z_isinstance => k_is); (case z_len => k_is); (case z_list => k_is); (case z_range => k_is); (case z_sorted => k_is); (case z_str => k_is); (case z_sum => k_is); (case z_tuple => k_is); (case z_zip => k_is); (case z_LATE => k_is); (case z_SOON => k_is)

