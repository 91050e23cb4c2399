import PyProof.Rows.All
import Wide.All
import OpenK.AllK
import Wide.FinOn
import HandS.ForMost
import HandS.Exc
import HandS.WordsExc
import HandS.CallSlots
import HandS.Wide
import HandS.TupAny
import HandS.IsInst
import HandS.Style
import HandS.TryOnly
import KE.SortData
import KE.LtSeq
import HandS.Zip
import PyProof.StrOps2
import KE.KEqSeq
import HandS.TupSets
import KE.KeyNested
import HandS.RaiseMore
import HandS.SetFor
import PyProof.ReprRoads
import HandS.SetBool
import HandS.StrMore
import KE.GoesEnumKw
import HandS.Strs
import HandS.Dict
import KE.KDictPairs
import KE.KExcInit
import KE.KTryMore
import HandS.ExcInit
import HandS.ExcField
import HandS.ExcIs
import KE.KExcIs
import PySem.Challenge.RW_ripepicks_k43_what_a_picking_tells
import PyProof.StrLawsRepr
import PyProof.ReprLen
set_option Elab.async false
set_option linter.all false
set_option maxRecDepth 100000
set_option maxHeartbeats 16000000
/-! DL: defs as functions of data. Data are PyData, told of the heap by Dp; a frozen part F of the heap, lists that a slot alone holds. -/
namespace DL
open PySem PySem.Spec PyProof.Rows L2

abbrev D := PyData
/-- what is held by one slot alone -/
inductive Cn where
  | lst (ds : List D)
/-- a slot, or a value on the way: frozen data | held alone | handed in to be changed (the j-th such) | what slot i holds -/
inductive Sl where
  | fr (d : D) | ow (c : Cn) | io (j : Nat) (c : Cn) | br (i : Nat)
abbrev Evn := List (Option Sl)
def Sl.own : Sl → Option Cn
  | .ow c => some c
  | .io _ c => some c
  | _ => none
/-- a tuple made at run time -/
abbrev tupO (its : Array Value) : Obj := { cls := .type "tuple", data := .seq its }
/-- a tuple at a, made at run time: its object is known, it has no dict -/
def SqN (F : Hp) (a : Addr) (xs : List V) : Prop := ∃ its : Array Value, F a = some (.frz (tupO its) (.tup xs))
theorem SqN.sq {K : PySem.W.Frag} {F : Hp} {a : Addr} {xs : List V} (h : SqN F a xs) : SqT K F a xs := by
  obtain ⟨its, h⟩ := h
  exact .inl (.inr ⟨_, h⟩)
mutual
/-- v is the data d: its lists stand in F itself -/
inductive Dt (K : PySem.W.Frag) (F : Hp) : V → D → Prop
  | non : Dt K F .non .none
  | bl (b : Bool) : Dt K F (.bl b) (.bool b)
  | int (i : Int) : Dt K F (.int i) (.int i)
  | str (x : Str) : Dt K F (.str x) (.str x)
  | lst {a : Addr} {xs : List V} {ds : List D} : F a = some (.lst xs) → DtAll K F xs ds → Dt K F (.ref a) (.list ds)
  | tup {a : Addr} {xs : List V} {ds : List D} : SqN F a xs → DtAll K F xs ds → Dt K F (.ref a) (.tuple ds)
inductive DtAll (K : PySem.W.Frag) (F : Hp) : List V → List D → Prop
  | nil : DtAll K F [] []
  | cons {v : V} {vs : List V} {d : D} {ds : List D} : Dt K F v d → DtAll K F vs ds → DtAll K F (v :: vs) (d :: ds)
end
mutual
theorem dt_dp {K : PySem.W.Frag} {F : Hp} : ∀ (d : D) (v : V), Dt K F v d → Dp K F v d
  | .none, _, h => by cases h; exact .non
  | .bool b, _, h => by cases h; exact .bl b
  | .int i, _, h => by cases h; exact .int i
  | .str x, _, h => by cases h; exact .str x
  | .list ds, _, h => by
    cases h with
    | lst hs ha => exact .lst (.of hs) (dtAll_dp ds _ ha)
  | .tuple ds, _, h => by
    cases h with
    | tup hs ha => exact .tup hs.sq (dtAll_dp ds _ ha)
  | .dict _, _, h => by cases h
theorem dtAll_dp {K : PySem.W.Frag} {F : Hp} : ∀ (ds : List D) (vs : List V), DtAll K F vs ds → DpAll K F vs ds
  | [], _, h => by cases h; exact .nil
  | d :: ds, _, h => by
    cases h with
    | cons h1 h2 => exact .cons (dt_dp d _ h1) (dtAll_dp ds _ h2)
end
def CRep (K : PySem.W.Frag) (F H : Hp) (p : Addr) : Cn → Prop
  | .lst ds => ∃ vs, H p = some (.lst vs) ∧ DtAll K F vs ds

section
variable {K : PySem.W.Frag} {F F' H H' : Hp} {p q : Addr} {c : Cn} {v : V} {d : D} {vs : List V} {ds : List D}
theorem same_sqT {xs : List V} (e : Same F F') (h : SqT K F p xs) : SqT K F' p xs := by
  rcases h with (h | ⟨o, h⟩) | h
  · exact .inl (.inl (e _ _ h))
  · exact .inl (.inr ⟨o, e _ _ h⟩)
  · exact .inr h
theorem same_sqN {xs : List V} (e : Same F F') (h : SqN F p xs) : SqN F' p xs := by
  obtain ⟨its, h⟩ := h
  exact ⟨its, e _ _ h⟩
mutual
theorem dp_mono (e : Same F F') : ∀ (d : D) (v : V), Dt K F v d → Dt K F' v d
  | .none, _, h => by cases h; exact .non
  | .bool b, _, h => by cases h; exact .bl b
  | .int i, _, h => by cases h; exact .int i
  | .str x, _, h => by cases h; exact .str x
  | .list ds, _, h => by
    cases h with
    | lst hs ha => exact .lst (e _ _ hs) (dpAll_mono e ds _ ha)
  | .tuple ds, _, h => by
    cases h with
    | tup hs ha => exact .tup (same_sqN e hs) (dpAll_mono e ds _ ha)
  | .dict _, _, h => by cases h
theorem dpAll_mono (e : Same F F') : ∀ (ds : List D) (vs : List V), DtAll K F vs ds → DtAll K F' vs ds
  | [], _, h => by cases h; exact .nil
  | d :: ds, _, h => by
    cases h with
    | cons h1 h2 => exact .cons (dp_mono e d _ h1) (dpAll_mono e ds _ h2)
end
theorem dpAll_len : ∀ {vs : List V} {ds : List D}, DtAll K F vs ds → vs.length = ds.length
  | _, _, .nil => rfl
  | _, _, .cons _ t => congrArg (· + 1) (dpAll_len t)
theorem dpAll_get : ∀ {vs : List V} {ds : List D} {i : Nat} {d : D}, DtAll K F vs ds → ds[i]? = some d → ∃ v, vs[i]? = some v ∧ Dt K F v d
  | _, _, _, _, .nil, e => by simp at e
  | _, _, 0, _, .cons r _, e => by simp at e; subst e; exact ⟨_, rfl, r⟩
  | _, _, i + 1, d, .cons _ t, e => by
    obtain ⟨v, h1, h2⟩ := dpAll_get (i := i) (d := d) t (by simpa using e)
    exact ⟨v, by simpa using h1, h2⟩
theorem dpAll_get' : ∀ {vs : List V} {ds : List D} {i : Nat} {v : V}, DtAll K F vs ds → vs[i]? = some v → ∃ d, ds[i]? = some d ∧ Dt K F v d
  | _, _, _, _, .nil, e => by simp at e
  | _, _, 0, _, .cons r _, e => by simp at e; subst e; exact ⟨_, rfl, r⟩
  | _, _, i + 1, v, .cons _ t, e => by
    obtain ⟨d, h1, h2⟩ := dpAll_get' (i := i) (v := v) t (by simpa using e)
    exact ⟨d, by simpa using h1, h2⟩
theorem dpAll_app : ∀ {vs us : List V} {ds es : List D}, DtAll K F vs ds → DtAll K F us es → DtAll K F (vs ++ us) (ds ++ es)
  | _, _, _, _, .nil, s => s
  | _, _, _, _, .cons r t, s => .cons r (dpAll_app t s)
theorem dpAll_take : ∀ {vs : List V} {ds : List D} (n : Nat), DtAll K F vs ds → DtAll K F (vs.take n) (ds.take n)
  | _, _, 0, _ => .nil
  | _, _, _ + 1, .nil => .nil
  | _, _, n + 1, .cons r t => .cons r (dpAll_take n t)
theorem dpAll_drop : ∀ {vs : List V} {ds : List D} (n : Nat), DtAll K F vs ds → DtAll K F (vs.drop n) (ds.drop n)
  | _, _, 0, h => h
  | _, _, _ + 1, .nil => .nil
  | _, _, n + 1, .cons _ t => dpAll_drop n t
theorem dpAll_set : ∀ {vs : List V} {ds : List D} (n : Nat) {v : V} {d : D}, DtAll K F vs ds → Dt K F v d → DtAll K F (vs.set n v) (ds.set n d)
  | _, _, _, _, _, .nil, _ => .nil
  | _, _, 0, _, _, .cons _ t, h => .cons h t
  | _, _, n + 1, _, _, .cons r t, h => .cons r (dpAll_set n t h)
theorem dpAll_erase : ∀ {vs : List V} {ds : List D} (n : Nat), DtAll K F vs ds → DtAll K F (vs.eraseIdx n) (ds.eraseIdx n)
  | _, _, _, .nil => .nil
  | _, _, 0, .cons _ t => t
  | _, _, n + 1, .cons r t => .cons r (dpAll_erase n t)
theorem dpAll_rev {vs : List V} {ds : List D} (h : DtAll K F vs ds) : DtAll K F vs.reverse ds.reverse := by
  induction ds generalizing vs with
  | nil => cases h; exact .nil
  | cons d ds ih =>
    cases h with
    | cons r t =>
      rw [List.reverse_cons, List.reverse_cons]
      exact dpAll_app (ih t) (.cons r .nil)
theorem crep_ne (h : CRep K F H p c) : H p ≠ none := by
  cases c with
  | lst ds => obtain ⟨vs, e, _⟩ := h; rw [e]; exact fun z => nomatch z
theorem crep_mono (e : Same F F') (hp : H' p = H p) (h : CRep K F H p c) : CRep K F' H' p c := by
  cases c with
  | lst ds =>
    obtain ⟨vs, h1, h2⟩ := h
    exact ⟨vs, hp.trans h1, dpAll_mono e _ _ h2⟩
end

/-- THE STATE. N: how many slots; io: the addresses of what is handed in to be changed; F0, B: frozen part and heap at the def's entry; F, H: now; σ, ρ: slots, then what is on the way -/
structure SR (K : PySem.W.Frag) (N : Nat) (ios : List Addr) (F0 B F H : Hp) (σ : L2.St) (ρ : Evn) : Prop where
  len : σ.length = ρ.length
  fh : Same F H
  f0 : Same F0 F
  fn : ∀ (a : Addr), F a ≠ none → F0 a ≠ none ∨ B a = none
  bh : ∀ (a : Addr) (o : HO), B a = some o → a ∉ ios → H a = some o
  bs : ∀ (a : Addr), B a ≠ none → H a ≠ none
  fr : ∀ (i : Nat) (d : D), ρ[i]? = some (some (Sl.fr d)) → ∃ v, σ[i]? = some (some v) ∧ Dt K F v d
  ow : ∀ (i : Nat) (c : Cn), ρ[i]? = some (some (Sl.ow c)) → ∃ p, σ[i]? = some (some (V.ref p)) ∧ B p = none ∧ F p = none ∧ CRep K F H p c
  io : ∀ (i j : Nat) (c : Cn), ρ[i]? = some (some (Sl.io j c)) → ∃ p, ios[j]? = some p ∧ σ[i]? = some (some (V.ref p)) ∧ F p = none ∧ CRep K F H p c
  br : ∀ (i j : Nat), ρ[i]? = some (some (Sl.br j)) → N ≤ i ∧ j < N ∧ ∀ (s : Sl), ρ[j]? = some (some s) → s.own ≠ none → σ[i]? = σ[j]?
  sep : ∀ (i j : Nat) (s t : Sl) (p : Addr), ρ[i]? = some (some s) → ρ[j]? = some (some t) → s.own ≠ none → t.own ≠ none → σ[i]? = some (some (V.ref p)) → σ[j]? = some (some (V.ref p)) → i = j

/-- heaps that grow by new objects alone -/
structure Grow (F H F' H' : Hp) : Prop where
  ff : Same F F'
  hh : Same H H'
  fh : Same F' H'
  fn : ∀ a, F' a ≠ none → F a ≠ none ∨ H a = none
theorem Grow.refl {F H : Hp} (h : Same F H) : Grow F H F H := ⟨Same.refl _, Same.refl _, h, fun _ z => .inl z⟩
theorem Same.upd_new {H : Hp} {p : Addr} {o : HO} (h : H p = none) : Same H (upd H p o) := fun b x e => by
  rw [upd_ne (ne_of_none e h)]
  exact e
theorem Same.upd2 {F H : Hp} {p : Addr} {o : HO} (h : Same F H) : Same (upd F p o) (upd H p o) := fun b x e => by
  by_cases hb : b = p
  · subst hb; rw [upd_same] at e ⊢; exact e
  · rw [upd_ne hb] at e ⊢; exact h _ _ e
/-- a new object beside the frozen part -/
theorem Grow.laid {F H : Hp} {p : Addr} {o : HO} (fh : Same F H) (h : H p = none) : Grow F H F (upd H p o) :=
  ⟨Same.refl _, Same.upd_new h, fun b x e => Same.upd_new h b x (fh b x e), fun _ z => .inl z⟩
/-- a new object, frozen at once -/
theorem Grow.froze {F H : Hp} {p : Addr} {o : HO} (fh : Same F H) (h : H p = none) : Grow F H (upd F p o) (upd H p o) := by
  have hF : F p = none := Same.free fh h
  refine ⟨Same.upd_new hF, Same.upd_new h, Same.upd2 fh, fun a z => ?_⟩
  by_cases ha : a = p
  · subst ha; exact .inr h
  · rw [upd_ne ha] at z; exact .inl z
theorem Grow.trans {F H F1 H1 F2 H2 : Hp} (a : Grow F H F1 H1) (b : Grow F1 H1 F2 H2) : Grow F H F2 H2 := by
  refine ⟨a.ff.trans b.ff, a.hh.trans b.hh, b.fh, fun x z => ?_⟩
  rcases b.fn x z with h | h
  · exact a.fn x h
  · exact .inr (Same.free a.hh h)

section
variable {K : PySem.W.Frag} {N : Nat} {ios : List Addr} {F0 B F H F' H' : Hp} {σ tv : L2.St} {ρ ρ' tr : Evn} {v : V} {d : D} {s : Sl} {c : Cn} {p : Addr}
theorem SR.bfree (S : SR K N ios F0 B F H σ ρ) {a : Addr} (h : H a = none) : B a = none := by
  cases e : B a with
  | none => rfl
  | some o => exact absurd h (S.bs a (by rw [e]; exact fun z => nomatch z))
/-- the address of what is held alone -/
theorem SR.own_at (S : SR K N ios F0 B F H σ ρ) {i : Nat} (h : ρ[i]? = some (some s)) (ho : s.own = some c) : ∃ p, σ[i]? = some (some (.ref p)) ∧ F p = none ∧ CRep K F H p c := by
  cases s with
  | fr d => cases ho
  | br j => cases ho
  | ow c' =>
    cases ho
    obtain ⟨p, h1, _, h3, h4⟩ := S.ow i _ h
    exact ⟨p, h1, h3, h4⟩
  | io j c' =>
    cases ho
    obtain ⟨p, _, h1, h3, h4⟩ := S.io i _ _ h
    exact ⟨p, h1, h3, h4⟩
theorem SR.grow (S : SR K N ios F0 B F H σ ρ) (g : Grow F H F' H') : SR K N ios F0 B F' H' σ ρ := by
  have keep : ∀ {p : Addr} {c : Cn}, F p = none → CRep K F H p c → F' p = none ∧ CRep K F' H' p c := fun {p c} h1 h2 => by
    have hne := crep_ne h2
    constructor
    · cases e : F' p with
      | none => rfl
      | some o =>
        rcases g.fn p (by rw [e]; exact fun z => nomatch z) with z | z
        · exact absurd h1 z
        · exact absurd z hne
    · refine crep_mono g.ff ?_ h2
      cases e : H p with
      | none => exact absurd e hne
      | some o => exact g.hh p o e
  refine ⟨S.len, g.fh, S.f0.trans g.ff, fun a z => ?_, fun a o e n => g.hh a o (S.bh a o e n), fun a z => ?_, fun i d e => ?_, fun i c e => ?_, fun i j c e => ?_, S.br, S.sep⟩
  · rcases g.fn a z with h | h
    · exact S.fn a h
    · exact .inr (S.bfree h)
  · have h := S.bs a z
    cases e : H a with
    | none => exact absurd e h
    | some o => rw [g.hh a o e]; exact fun z => nomatch z
  · obtain ⟨v, h1, h2⟩ := S.fr i d e
    exact ⟨v, h1, dp_mono g.ff _ _ h2⟩
  · obtain ⟨p, h1, h2, h3, h4⟩ := S.ow i c e
    obtain ⟨h5, h6⟩ := keep h3 h4
    exact ⟨p, h1, h2, h5, h6⟩
  · obtain ⟨p, h0, h1, h3, h4⟩ := S.io i j c e
    obtain ⟨h5, h6⟩ := keep h3 h4
    exact ⟨p, h0, h1, h5, h6⟩
theorem get_push {α : Type} {l : List α} {x y : α} {i : Nat} (h : (l ++ [x])[i]? = some y) : (l[i]? = some y ∧ i < l.length) ∨ (i = l.length ∧ y = x) := by
  by_cases hi : i < l.length
  · rw [List.getElem?_append_left hi] at h
    exact .inl ⟨h, hi⟩
  · have e : i = l.length := by
      have := (List.getElem?_eq_some_iff.mp h).1
      simp at this
      omega
    subst e
    simp at h
    exact .inr ⟨rfl, h.symm⟩
theorem push_old {α : Type} {l : List α} {x y : α} {i : Nat} (h : l[i]? = some y) : (l ++ [x])[i]? = some y := by
  rw [List.getElem?_append_left (List.getElem?_eq_some_iff.mp h).1]
  exact h
theorem push_new {α : Type} {l : List α} {x : α} {n : Nat} (h : l.length = n) : (l ++ [x])[n]? = some x := by
  subst h; simp
theorem SR.push_fr (S : SR K N ios F0 B F H σ ρ) (h : Dt K F v d) : SR K N ios F0 B F H (σ ++ [some v]) (ρ ++ [some (.fr d)]) := by
  refine ⟨by simp [S.len], S.fh, S.f0, S.fn, S.bh, S.bs, fun i d' e => ?_, fun i c e => ?_, fun i j c e => ?_, fun i j e => ?_, fun i j s t p e1 e2 o1 o2 e3 e4 => ?_⟩
  · rcases get_push e with ⟨e, _⟩ | ⟨rfl, ez⟩
    · obtain ⟨v', h1, h2⟩ := S.fr i d' e
      exact ⟨v', push_old h1, h2⟩
    · cases ez
      exact ⟨v, push_new S.len, h⟩
  · rcases get_push e with ⟨e, _⟩ | ⟨rfl, ez⟩
    · obtain ⟨p, h1, h2⟩ := S.ow i c e
      exact ⟨p, push_old h1, h2⟩
    · cases ez
  · rcases get_push e with ⟨e, _⟩ | ⟨rfl, ez⟩
    · obtain ⟨p, h0, h1, h2⟩ := S.io i j c e
      exact ⟨p, h0, push_old h1, h2⟩
    · cases ez
  · rcases get_push e with ⟨e, hi⟩ | ⟨rfl, ez⟩
    · obtain ⟨h1, h2, h3⟩ := S.br i j e
      refine ⟨h1, h2, fun s es ho => ?_⟩
      have hj : j < ρ.length := Nat.lt_of_lt_of_le h2 (Nat.le_trans h1 (Nat.le_of_lt hi))
      rw [List.getElem?_append_left hj] at es
      rw [List.getElem?_append_left (by rw [S.len]; exact hi), List.getElem?_append_left (by rw [S.len]; exact hj)]
      exact h3 s es ho
    · cases ez
  · rcases get_push e1 with ⟨e1, l1⟩ | ⟨rfl, e1z⟩
    · rcases get_push e2 with ⟨e2, l2⟩ | ⟨rfl, e2z⟩
      · rw [List.getElem?_append_left (by rw [S.len]; exact l1)] at e3
        rw [List.getElem?_append_left (by rw [S.len]; exact l2)] at e4
        exact S.sep i j s t p e1 e2 o1 o2 e3 e4
      · cases e2z; exact absurd rfl o2
    · cases e1z; exact absurd rfl o1
/-- what a slot holds, taken to hand -/
theorem SR.push_br (S : SR K N ios F0 B F H σ ρ) {i : Nat} (hN : N ≤ ρ.length) (hi : i < N) (hv : σ[i]? = some (some v)) : SR K N ios F0 B F H (σ ++ [some v]) (ρ ++ [some (.br i)]) := by
  refine ⟨by simp [S.len], S.fh, S.f0, S.fn, S.bh, S.bs, fun i d' e => ?_, fun i c e => ?_, fun i j c e => ?_, fun k j e => ?_, fun i j s t p e1 e2 o1 o2 e3 e4 => ?_⟩
  · rcases get_push e with ⟨e, _⟩ | ⟨rfl, ez⟩
    · obtain ⟨v', h1, h2⟩ := S.fr i d' e
      exact ⟨v', push_old h1, h2⟩
    · cases ez
  · rcases get_push e with ⟨e, _⟩ | ⟨rfl, ez⟩
    · obtain ⟨p, h1, h2⟩ := S.ow i c e
      exact ⟨p, push_old h1, h2⟩
    · cases ez
  · rcases get_push e with ⟨e, _⟩ | ⟨rfl, ez⟩
    · obtain ⟨p, h0, h1, h2⟩ := S.io i j c e
      exact ⟨p, h0, push_old h1, h2⟩
    · cases ez
  · rcases get_push e with ⟨e, hi⟩ | ⟨rfl, ez⟩
    · obtain ⟨h1, h2, h3⟩ := S.br k j e
      refine ⟨h1, h2, fun s es ho => ?_⟩
      have hj : j < ρ.length := Nat.lt_of_lt_of_le h2 hN
      rw [List.getElem?_append_left hj] at es
      rw [List.getElem?_append_left (by rw [S.len]; exact hi), List.getElem?_append_left (by rw [S.len]; exact hj)]
      exact h3 s es ho
    · cases ez
      refine ⟨hN, hi, fun s es ho => ?_⟩
      rw [push_new S.len, push_old hv]
  · rcases get_push e1 with ⟨e1, l1⟩ | ⟨rfl, e1z⟩
    · rcases get_push e2 with ⟨e2, l2⟩ | ⟨rfl, e2z⟩
      · rw [List.getElem?_append_left (by rw [S.len]; exact l1)] at e3
        rw [List.getElem?_append_left (by rw [S.len]; exact l2)] at e4
        exact S.sep i j s t p e1 e2 o1 o2 e3 e4
      · cases e2z; exact absurd rfl o2
    · cases e1z; exact absurd rfl o1
/-- a new object, held alone -/
theorem SR.push_ow (S : SR K N ios F0 B F H σ ρ) (g : Grow F H F' H') (hp : H p = none) (hf : F' p = none) (hc : CRep K F' H' p c) : SR K N ios F0 B F' H' (σ ++ [some (.ref p)]) (ρ ++ [some (.ow c)]) := by
  have S' := S.grow g
  have nold : ∀ (i : Nat) (s : Sl), ρ[i]? = some (some s) → s.own ≠ none → σ[i]? ≠ some (some (.ref p)) := fun i s e o z => by
    cases ho : s.own with
    | none => exact o ho
    | some c' =>
      obtain ⟨q, h1, _, h3⟩ := S.own_at e ho
      rw [h1] at z
      cases z
      exact crep_ne h3 hp
  refine ⟨by simp [S'.len], S'.fh, S'.f0, S'.fn, S'.bh, S'.bs, fun i d' e => ?_, fun i c' e => ?_, fun i j c' e => ?_, fun k j e => ?_, fun i j s t q e1 e2 o1 o2 e3 e4 => ?_⟩
  · rcases get_push e with ⟨e, _⟩ | ⟨rfl, ez⟩
    · obtain ⟨v', h1, h2⟩ := S'.fr i d' e
      exact ⟨v', push_old h1, h2⟩
    · cases ez
  · rcases get_push e with ⟨e, _⟩ | ⟨rfl, ez⟩
    · obtain ⟨p, h1, h2⟩ := S'.ow i c' e
      exact ⟨p, push_old h1, h2⟩
    · cases ez
      exact ⟨p, push_new S.len, S.bfree hp, hf, hc⟩
  · rcases get_push e with ⟨e, _⟩ | ⟨rfl, ez⟩
    · obtain ⟨p, h0, h1, h2⟩ := S'.io i j c' e
      exact ⟨p, h0, push_old h1, h2⟩
    · cases ez
  · rcases get_push e with ⟨e, hi⟩ | ⟨rfl, ez⟩
    · obtain ⟨h1, h2, h3⟩ := S'.br k j e
      refine ⟨h1, h2, fun s es ho => ?_⟩
      have hj : j < ρ.length := Nat.lt_of_lt_of_le h2 (Nat.le_trans h1 (Nat.le_of_lt hi))
      rw [List.getElem?_append_left hj] at es
      rw [List.getElem?_append_left (by rw [S.len]; exact hi), List.getElem?_append_left (by rw [S.len]; exact hj)]
      exact h3 s es ho
    · cases ez
  · rcases get_push e1 with ⟨e1, l1⟩ | ⟨rfl, e1z⟩
    · rw [List.getElem?_append_left (by rw [S.len]; exact l1)] at e3
      rcases get_push e2 with ⟨e2, l2⟩ | ⟨rfl, e2z⟩
      · rw [List.getElem?_append_left (by rw [S.len]; exact l2)] at e4
        exact S.sep i j s t q e1 e2 o1 o2 e3 e4
      · rw [push_new S.len] at e4
        cases e4
        exact absurd e3 (nold i s e1 o1)
    · rw [push_new S.len] at e3
      cases e3
      rcases get_push e2 with ⟨e2, l2⟩ | ⟨rfl, e2z⟩
      · rw [List.getElem?_append_left (by rw [S.len]; exact l2)] at e4
        exact absurd e4 (nold j t e2 o2)
      · rfl
/-- the last one is let go -/
theorem SR.pop {x : Option V} {y : Option Sl} (S : SR K N ios F0 B F H (σ ++ [x]) (ρ ++ [y])) (hN : N ≤ ρ.length) : SR K N ios F0 B F H σ ρ := by
  have hl : σ.length = ρ.length := by have := S.len; simp at this; exact this
  have up : ∀ {i : Nat} {a : Option Sl}, ρ[i]? = some a → (ρ ++ [y])[i]? = some a ∧ (σ ++ [x])[i]? = σ[i]? := fun {i a} e => by
    have hi := (List.getElem?_eq_some_iff.mp e).1
    exact ⟨push_old e, List.getElem?_append_left (by omega)⟩
  refine ⟨hl, S.fh, S.f0, S.fn, S.bh, S.bs, fun i d' e => ?_, fun i c' e => ?_, fun i j c' e => ?_, fun k j e => ?_, fun i j s t q e1 e2 o1 o2 e3 e4 => ?_⟩
  · have u := up e
    obtain ⟨v, h1, h2⟩ := S.fr i d' u.1
    exact ⟨v, u.2 ▸ h1, h2⟩
  · have u := up e
    obtain ⟨v, h1, h2⟩ := S.ow i c' u.1
    exact ⟨v, u.2 ▸ h1, h2⟩
  · have u := up e
    obtain ⟨v, h0, h1, h2⟩ := S.io i j c' u.1
    exact ⟨v, h0, u.2 ▸ h1, h2⟩
  · have u := up e
    obtain ⟨h1, h2, h3⟩ := S.br k j u.1
    refine ⟨h1, h2, fun s es ho => ?_⟩
    have w := up es
    have q := h3 s w.1 ho
    rw [u.2, w.2] at q
    exact q
  · have u := up e1
    have w := up e2
    exact S.sep i j s t q u.1 w.1 o1 o2 (u.2 ▸ e3) (w.2 ▸ e4)

/-- what is read of a value at hand -/
def Cn.rd : Cn → D
  | .lst ds => .list ds
def rd0 : Sl → Option D
  | .fr d => some d
  | .ow c => some c.rd
  | .io _ c => some c.rd
  | .br _ => none
def rd (ρ : Evn) : Sl → Option D
  | .br i => match ρ[i]? with
    | some (some s) => s.own.map Cn.rd
    | _ => none
  | s => rd0 s
/-- v is d as the heap stands, its items frozen -/
def RepC (K : PySem.W.Frag) (F H : Hp) (v : V) (d : D) : Prop := Dt K F v d ∨ ∃ p vs ds, v = .ref p ∧ d = .list ds ∧ H p = some (.lst vs) ∧ F p = none ∧ DtAll K F vs ds
theorem RepC.lst {ds : List D} (fh : Same F H) (h : RepC K F H v (.list ds)) : ∃ p vs, v = .ref p ∧ H p = some (.lst vs) ∧ DtAll K F vs ds := by
  rcases h with h | ⟨p, vs, ds', e1, e2, e3, _, e4⟩
  · cases h with
    | lst hs ha => exact ⟨_, _, rfl, fh _ _ hs, ha⟩
  · cases e2
    exact ⟨p, vs, e1, e3, e4⟩
theorem RepC.tup {ds : List D} (fh : Same F H) (h : RepC K F H v (.tuple ds)) : ∃ p vs, v = .ref p ∧ SqT K H p vs ∧ DtAll K F vs ds ∧ Dt K F v (.tuple ds) := by
  rcases h with h | ⟨p, vs, ds', e1, e2, e3, _, e4⟩
  · have h0 := h
    cases h with
    | tup hs ha => exact ⟨_, _, rfl, (same_sqN fh hs).sq, ha, h0⟩
  · cases e2
theorem RepC.tupN {ds : List D} (fh : Same F H) (h : RepC K F H v (.tuple ds)) : ∃ p vs, v = .ref p ∧ SqN H p vs ∧ DtAll K F vs ds := by
  rcases h with h | ⟨p, vs, ds', e1, e2, e3, _, e4⟩
  · cases h with
    | tup hs ha => exact ⟨_, _, rfl, same_sqN fh hs, ha⟩
  · cases e2
theorem RepC.int {i : Int} (h : RepC K F H v (.int i)) : v = .int i := by
  rcases h with h | ⟨p, vs, ds', e1, e2, e3, _, e4⟩
  · cases h; rfl
  · cases e2
theorem RepC.bl {i : Bool} (h : RepC K F H v (.bool i)) : v = .bl i := by
  rcases h with h | ⟨p, vs, ds', e1, e2, e3, _, e4⟩
  · cases h; rfl
  · cases e2
theorem RepC.str {i : Str} (h : RepC K F H v (.str i)) : v = .str i := by
  rcases h with h | ⟨p, vs, ds', e1, e2, e3, _, e4⟩
  · cases h; rfl
  · cases e2
theorem RepC.non (h : RepC K F H v .none) : v = .non := by
  rcases h with h | ⟨p, vs, ds', e1, e2, e3, _, e4⟩
  · cases h; rfl
  · cases e2
/-- as data of the whole heap -/
theorem RepC.dp (fh : Same F H) (h : RepC K F H v d) : Dp K H v d := by
  rcases h with h | ⟨p, vs, ds', e1, e2, e3, _, e4⟩
  · exact dt_dp _ _ (dp_mono fh _ _ h)
  · subst e1 e2
    exact .lst (.of e3) (dtAll_dp _ _ (dpAll_mono fh _ _ e4))
theorem SR.read0 (S : SR K N ios F0 B F H σ ρ) {k : Nat} (h : ρ[k]? = some (some s)) (hd : rd0 s = some d) : ∃ v, σ[k]? = some (some v) ∧ RepC K F H v d := by
  have own : ∀ {c : Cn}, s.own = some c → d = c.rd → ∃ v, σ[k]? = some (some v) ∧ RepC K F H v d := fun {c} ho e => by
    obtain ⟨p, h1, h2, h3⟩ := S.own_at h ho
    cases c with
    | lst ds =>
      obtain ⟨vs, h4, h5⟩ := h3
      exact ⟨_, h1, .inr ⟨p, vs, ds, rfl, e, h4, h2, h5⟩⟩
  cases s with
  | fr d' =>
    cases hd
    obtain ⟨v, h1, h2⟩ := S.fr k _ h
    exact ⟨v, h1, .inl h2⟩
  | ow c => cases hd; exact own rfl rfl
  | io j c => cases hd; exact own rfl rfl
  | br j => cases hd
theorem SR.read (S : SR K N ios F0 B F H σ (ρ ++ tr)) (hN : ρ.length = N) {k : Nat} (h : (ρ ++ tr)[k]? = some (some s)) (hv : σ[k]? = some (some v)) (hd : rd ρ s = some d) : RepC K F H v d := by
  have fin : rd0 s = some d → RepC K F H v d := fun hd => by
    obtain ⟨v', h1, h2⟩ := S.read0 h hd
    rw [hv] at h1; cases h1; exact h2
  cases s with
  | fr d' => exact fin hd
  | ow c => exact fin hd
  | io j c => exact fin hd
  | br j =>
    obtain ⟨_, h2, h3⟩ := S.br k j h
    have hj : (ρ ++ tr)[j]? = ρ[j]? := List.getElem?_append_left (by omega)
    rw [hj] at h3
    have hd : (match ρ[j]? with | some (some s) => s.own.map Cn.rd | _ => none) = some d := hd
    cases e : ρ[j]? with
    | none => rw [e] at hd; cases hd
    | some o =>
      cases o with
      | none => rw [e] at hd; cases hd
      | some s' =>
        rw [e] at hd
        have hd : s'.own.map Cn.rd = some d := hd
        have ho : s'.own ≠ none := fun z => by rw [z] at hd; cases hd
        have q := h3 s' e ho
        obtain ⟨v', h4, h5⟩ := S.read0 (d := d) (hj.trans e) (by
          cases s' with
          | fr d' => exact absurd rfl ho
          | br j' => exact absurd rfl ho
          | ow c => exact hd
          | io j' c => exact hd)
        rw [hv, h4] at q
        cases q
        exact h5
end
end DL

namespace DL
open PySem PySem.Spec PyProof.Rows L2

/-! ### more on the state -/
section
variable {K : PySem.W.Frag} {N : Nat} {ios : List Addr} {F0 B F H F' H' : Hp} {σ tv us : L2.St} {ρ ρ' tr ss : Evn} {v : V} {d : D} {s : Sl} {c c' : Cn} {p : Addr} {i : Nat}
theorem SR.cut (S : SR K N ios F0 B F H (σ ++ us) (ρ ++ ss)) (hl : σ.length = ρ.length) (hN : N ≤ ρ.length) : SR K N ios F0 B F H σ ρ := by
  have up : ∀ {i : Nat} {a : Option Sl}, ρ[i]? = some a → (ρ ++ ss)[i]? = some a ∧ (σ ++ us)[i]? = σ[i]? := fun {i a} e => by
    have hi := (List.getElem?_eq_some_iff.mp e).1
    exact ⟨by rw [List.getElem?_append_left hi]; exact e, List.getElem?_append_left (by omega)⟩
  refine ⟨hl, S.fh, S.f0, S.fn, S.bh, S.bs, fun i d' e => ?_, fun i c' e => ?_, fun i j c' e => ?_, fun k j e => ?_, fun i j s t q e1 e2 o1 o2 e3 e4 => ?_⟩
  · have u := up e
    obtain ⟨v, h1, h2⟩ := S.fr i d' u.1
    exact ⟨v, u.2 ▸ h1, h2⟩
  · have u := up e
    obtain ⟨v, h1, h2⟩ := S.ow i c' u.1
    exact ⟨v, u.2 ▸ h1, h2⟩
  · have u := up e
    obtain ⟨v, h0, h1, h2⟩ := S.io i j c' u.1
    exact ⟨v, h0, u.2 ▸ h1, h2⟩
  · have u := up e
    obtain ⟨h1, h2, h3⟩ := S.br k j u.1
    refine ⟨h1, h2, fun s es ho => ?_⟩
    have w := up es
    have q := h3 s w.1 ho
    rw [u.2, w.2] at q
    exact q
  · have u := up e1
    have w := up e2
    exact S.sep i j s t q u.1 w.1 o1 o2 (u.2 ▸ e3) (w.2 ▸ e4)
/-- the frozen part as it stands now in the entry's place, and back -/
theorem SR.rebase (S : SR K N ios F0 B F H σ ρ) : SR K N ios F B F H σ ρ :=
  ⟨S.len, S.fh, Same.refl _, fun _ z => .inl z, S.bh, S.bs, S.fr, S.ow, S.io, S.br, S.sep⟩
theorem SR.unbase {F1 H1 : Hp} {σ1 : L2.St} {ρ1 : Evn} (S0 : SR K N ios F0 B F1 H1 σ1 ρ1) (S : SR K N ios F1 B F H σ ρ) : SR K N ios F0 B F H σ ρ :=
  ⟨S.len, S.fh, S0.f0.trans S.f0, fun a z => (S.fn a z).elim (fun h => S0.fn a h) .inr, S.bh, S.bs, S.fr, S.ow, S.io, S.br, S.sep⟩

def Sl.put : Sl → Cn → Sl
  | .ow _, c => .ow c
  | .io j _, c => .io j c
  | s, _ => s
theorem set_get {α : Type} {l : List α} {i j : Nat} {x y : α} (h : (l.set i x)[j]? = some y) : (j = i ∧ i < l.length ∧ y = x) ∨ (j ≠ i ∧ l[j]? = some y) := by
  by_cases hj : i = j
  · subst hj
    by_cases hi : i < l.length
    · rw [List.getElem?_set_self hi] at h
      exact .inl ⟨rfl, hi, (Option.some.inj h).symm⟩
    · rw [List.getElem?_eq_none (by simp; omega)] at h
      cases h
  · rw [List.getElem?_set_ne hj] at h
    exact .inr ⟨fun e => hj e.symm, h⟩
/-- what a slot holds alone is frozen -/
theorem SR.freeze {ds : List D} (S : SR K N ios F0 B F H σ ρ) (h : ρ[i]? = some (some (Sl.ow (.lst ds)))) :
    ∃ F', Same F F' ∧ SR K N ios F0 B F' H σ (ρ.set i (some (Sl.fr (.list ds)))) := by
  obtain ⟨p, h1, h2, h3, vs, h4, h5⟩ := S.ow i _ h
  have ff : Same F (upd F p (.lst vs)) := Same.upd_new h3
  have other : ∀ {j : Nat} {s : Sl} {q : Addr}, j ≠ i → ρ[j]? = some (some s) → s.own ≠ none → σ[j]? = some (some (V.ref q)) → F q = none → (upd F p (.lst vs)) q = none := fun {j s q} hj e o hq hf => by
    have hq' : q ≠ p := fun z => by
      subst z
      exact hj (S.sep j i s _ q e h o (fun z => nomatch z) hq h1)
    rw [upd_ne hq']
    exact hf
  refine ⟨upd F p (.lst vs), ff, by rw [List.length_set]; exact S.len, fun b x e => ?_, S.f0.trans ff, fun a z => ?_, S.bh, S.bs, fun j d e => ?_, fun j c e => ?_, fun j k c e => ?_, fun k j e => ?_, fun j k s t q e1 e2 o1 o2 e3 e4 => ?_⟩
  · by_cases hb : b = p
    · subst hb; rw [upd_same] at e; cases e; exact h4
    · rw [upd_ne hb] at e; exact S.fh b x e
  · by_cases ha : a = p
    · subst ha; exact .inr h2
    · rw [upd_ne ha] at z; exact S.fn a z
  · rcases set_get e with ⟨rfl, _, e⟩ | ⟨hj, e⟩
    · cases e
      exact ⟨.ref p, h1, .lst upd_same (dpAll_mono ff _ _ h5)⟩
    · obtain ⟨v, h6, h7⟩ := S.fr j d e
      exact ⟨v, h6, dp_mono ff _ _ h7⟩
  · rcases set_get e with ⟨rfl, _, e⟩ | ⟨hj, e⟩
    · cases e
    · obtain ⟨q, q1, q2, q3, q4⟩ := S.ow j c e
      exact ⟨q, q1, q2, other hj e (fun z => nomatch z) q1 q3, crep_mono ff rfl q4⟩
  · rcases set_get e with ⟨rfl, _, e⟩ | ⟨hj, e⟩
    · cases e
    · obtain ⟨q, q0, q1, q3, q4⟩ := S.io j k c e
      exact ⟨q, q0, q1, other hj e (fun z => nomatch z) q1 q3, crep_mono ff rfl q4⟩
  · rcases set_get e with ⟨rfl, _, e⟩ | ⟨hk, e⟩
    · cases e
    · obtain ⟨q1, q2, q3⟩ := S.br k j e
      refine ⟨q1, q2, fun s es ho => ?_⟩
      rcases set_get es with ⟨rfl, _, es⟩ | ⟨hj, es⟩
      · cases es; exact absurd rfl ho
      · exact q3 s es ho
  · rcases set_get e1 with ⟨rfl, _, e1⟩ | ⟨hj, e1⟩
    · cases e1; exact absurd rfl o1
    · rcases set_get e2 with ⟨rfl, _, e2⟩ | ⟨hk, e2⟩
      · cases e2; exact absurd rfl o2
      · exact S.sep j k s t q e1 e2 o1 o2 e3 e4
/-- what a slot holds alone is changed -/
theorem SR.mut (S : SR K N ios F0 B F H σ ρ) (h : ρ[i]? = some (some s)) (ho : s.own = some c) (hp : σ[i]? = some (some (V.ref p)))
    (hh : ∀ a, a ≠ p → H' a = H a) (hc : CRep K F H' p c') : SR K N ios F0 B F H' σ (ρ.set i (some (s.put c'))) := by
  have own : s.own ≠ none := by rw [ho]; exact fun z => nomatch z
  obtain ⟨p', h1, hF, hcr⟩ := S.own_at h ho
  rw [hp] at h1
  cases h1
  have other : ∀ {j : Nat} {t : Sl} {q : Addr}, j ≠ i → ρ[j]? = some (some t) → t.own ≠ none → σ[j]? = some (some (V.ref q)) → q ≠ p := fun {j t q} hj e o hq z => hj (S.sep j i t s p e h o own (z ▸ hq) hp)
  refine ⟨by rw [List.length_set]; exact S.len, fun b x e => ?_, S.f0, S.fn, fun a o e n => ?_, fun a z => ?_, fun j d e => ?_, fun j c e => ?_, fun j k c e => ?_, fun k j e => ?_, fun j k s1 t q e1 e2 o1 o2 e3 e4 => ?_⟩
  · rw [hh b fun z => by rw [z, hF] at e; cases e]
    exact S.fh b x e
  · rw [hh a fun z => ?_]
    · exact S.bh a o e n
    · subst z
      cases s with
      | fr d => cases ho
      | br j => cases ho
      | ow c0 =>
        obtain ⟨q, q1, q2, _⟩ := S.ow i _ h
        rw [hp] at q1; cases q1
        rw [q2] at e; cases e
      | io j c0 =>
        obtain ⟨q, q0, q1, _⟩ := S.io i j _ h
        rw [hp] at q1; cases q1
        exact n (List.mem_of_getElem? q0)
  · by_cases ha : a = p
    · subst ha; exact crep_ne hc
    · rw [hh a ha]; exact S.bs a z
  · rcases set_get e with ⟨rfl, _, e⟩ | ⟨hj, e⟩
    · cases s <;> cases e <;> cases ho
    · exact S.fr j d e
  · rcases set_get e with ⟨rfl, _, e⟩ | ⟨hj, e⟩
    · cases s with
      | fr d => cases ho
      | br j => cases ho
      | io j c0 => cases e
      | ow c0 =>
        cases e
        obtain ⟨q, q1, q2, _⟩ := S.ow j _ h
        rw [hp] at q1; cases q1
        exact ⟨p, hp, q2, hF, hc⟩
    · obtain ⟨q, q1, q2, q3, q4⟩ := S.ow j c e
      exact ⟨q, q1, q2, q3, crep_mono (Same.refl _) (hh q (other hj e (fun z => nomatch z) q1)) q4⟩
  · rcases set_get e with ⟨rfl, _, e⟩ | ⟨hj, e⟩
    · cases s with
      | fr d => cases ho
      | br j => cases ho
      | ow c0 => cases e
      | io j0 c0 =>
        cases e
        obtain ⟨q, q0, q1, q2⟩ := S.io j _ _ h
        rw [hp] at q1; cases q1
        exact ⟨p, q0, hp, hF, hc⟩
    · obtain ⟨q, q0, q1, q3, q4⟩ := S.io j k c e
      exact ⟨q, q0, q1, q3, crep_mono (Same.refl _) (hh q (other hj e (fun z => nomatch z) q1)) q4⟩
  · have nb : ∀ {x : Sl}, s.put c' = x → x.own ≠ none := fun {x} e => by
      subst e
      cases s with
      | fr d => cases ho
      | br j => cases ho
      | ow c0 => exact fun z => nomatch z
      | io j c0 => exact fun z => nomatch z
    rcases set_get e with ⟨rfl, _, e⟩ | ⟨hk, e⟩
    · exact absurd rfl (nb (Option.some.inj e).symm)
    · obtain ⟨q1, q2, q3⟩ := S.br k j e
      refine ⟨q1, q2, fun t es ot => ?_⟩
      rcases set_get es with ⟨rfl, _, es⟩ | ⟨hj, es⟩
      · exact q3 s h own
      · exact q3 t es ot
  · have back : ∀ {j : Nat} {t : Sl}, (ρ.set i (some (s.put c')))[j]? = some (some t) → t.own ≠ none → ∃ t', ρ[j]? = some (some t') ∧ t'.own ≠ none := fun {j t} e o => by
      rcases set_get e with ⟨rfl, _, e⟩ | ⟨_, e⟩
      · exact ⟨s, h, own⟩
      · exact ⟨t, e, o⟩
    obtain ⟨a, a1, a2⟩ := back e1 o1
    obtain ⟨b, b1, b2⟩ := back e2 o2
    exact S.sep j k a b q a1 b1 a2 b2 e3 e4
/-- a slot is given frozen data -/
theorem SR.set_fr (S : SR K N ios F0 B F H σ ρ) (h : Dt K F v d) (hi : i < N) : SR K N ios F0 B F H (σ.set i (some v)) (ρ.set i (some (Sl.fr d))) := by
  have oldσ : ∀ {j : Nat}, j ≠ i → (σ.set i (some v))[j]? = σ[j]? := fun {j} hj => List.getElem?_set_ne fun z => hj z.symm
  refine ⟨by rw [List.length_set, List.length_set]; exact S.len, S.fh, S.f0, S.fn, S.bh, S.bs, fun j d' e => ?_, fun j c e => ?_, fun j k c e => ?_, fun k j e => ?_, fun j k s t q e1 e2 o1 o2 e3 e4 => ?_⟩
  · rcases set_get e with ⟨rfl, hl, e⟩ | ⟨hj, e⟩
    · cases e
      exact ⟨v, List.getElem?_set_self (by rw [S.len]; exact hl), h⟩
    · rw [oldσ hj]; exact S.fr j d' e
  · rcases set_get e with ⟨rfl, _, e⟩ | ⟨hj, e⟩
    · cases e
    · rw [oldσ hj]; exact S.ow j c e
  · rcases set_get e with ⟨rfl, _, e⟩ | ⟨hj, e⟩
    · cases e
    · rw [oldσ hj]; exact S.io j k c e
  · rcases set_get e with ⟨rfl, _, e⟩ | ⟨hk, e⟩
    · cases e
    · obtain ⟨q1, q2, q3⟩ := S.br k j e
      refine ⟨q1, q2, fun s es ho => ?_⟩
      rcases set_get es with ⟨rfl, _, es⟩ | ⟨hj, es⟩
      · cases es; exact absurd rfl ho
      · rw [oldσ hk, oldσ hj]; exact q3 s es ho
  · rcases set_get e1 with ⟨rfl, _, e1⟩ | ⟨hj, e1⟩
    · cases e1; exact absurd rfl o1
    · rcases set_get e2 with ⟨rfl, _, e2⟩ | ⟨hk, e2⟩
      · cases e2; exact absurd rfl o2
      · rw [oldσ hj] at e3
        rw [oldσ hk] at e4
        exact S.sep j k s t q e1 e2 o1 o2 e3 e4
/-- a slot is given what was made and is held alone (nothing else is on the way) -/
theorem SR.set_ow (S : SR K N ios F0 B F H (σ ++ [some v]) (ρ ++ [some (Sl.ow c)])) (hl : N ≤ ρ.length) (hi : i < N) (nb : ∀ (k j : Nat), ρ[k]? ≠ some (some (Sl.br j))) : SR K N ios F0 B F H (σ.set i (some v)) (ρ.set i (some (Sl.ow c))) := by
  have lσ : σ.length = ρ.length := by have := S.len; simp at this; exact this
  have T : SR K N ios F0 B F H σ ρ := S.cut lσ (by omega)
  obtain ⟨p, h1, h2, h3, h4⟩ := S.ow ρ.length c (push_new rfl)
  rw [push_new lσ] at h1
  cases h1
  have nobr : ∀ {k j : Nat}, ρ[k]? = some (some (Sl.br j)) → False := fun {k j} e => nb k j e
  have apart : ∀ {j : Nat} {t : Sl}, ρ[j]? = some (some t) → t.own ≠ none → σ[j]? ≠ some (some (V.ref p)) := fun {j t} e o z => by
    have hj := (List.getElem?_eq_some_iff.mp e).1
    have := S.sep j ρ.length t _ p (push_old e) (push_new rfl) o (fun z => nomatch z) (push_old z) (push_new lσ)
    omega
  have oldσ : ∀ {j : Nat}, j ≠ i → (σ.set i (some (V.ref p)))[j]? = σ[j]? := fun {j} hj => List.getElem?_set_ne fun z => hj z.symm
  have newσ : i < ρ.length → (σ.set i (some (V.ref p)))[i]? = some (some (V.ref p)) := fun hl => List.getElem?_set_self (by rw [lσ]; exact hl)
  refine ⟨by rw [List.length_set, List.length_set]; exact lσ, S.fh, S.f0, S.fn, S.bh, S.bs, fun j d' e => ?_, fun j c' e => ?_, fun j k c' e => ?_, fun k j e => ?_, fun j k s t q e1 e2 o1 o2 e3 e4 => ?_⟩
  · rcases set_get e with ⟨rfl, hl, e⟩ | ⟨hj, e⟩
    · cases e
    · rw [oldσ hj]; exact T.fr j d' e
  · rcases set_get e with ⟨rfl, hl, e⟩ | ⟨hj, e⟩
    · cases e
      exact ⟨p, newσ hl, h2, h3, h4⟩
    · rw [oldσ hj]; exact T.ow j c' e
  · rcases set_get e with ⟨rfl, _, e⟩ | ⟨hj, e⟩
    · cases e
    · rw [oldσ hj]; exact T.io j k c' e
  · rcases set_get e with ⟨rfl, _, e⟩ | ⟨hk, e⟩
    · cases e
    · exact (nobr e).elim
  · rcases set_get e1 with ⟨rfl, l1, e1⟩ | ⟨hj, e1⟩
    · rcases set_get e2 with ⟨rfl, _, e2⟩ | ⟨hk, e2⟩
      · rfl
      · rw [newσ l1] at e3
        cases e3
        rw [oldσ hk] at e4
        exact absurd e4 (apart e2 o2)
    · rw [oldσ hj] at e3
      have a1 := apart e1 o1
      rcases set_get e2 with ⟨rfl, l2, e2⟩ | ⟨hk, e2⟩
      · rw [newσ l2] at e4
        cases e4
        exact absurd e3 a1
      · rw [oldσ hk] at e4
        exact T.sep j k s t q e1 e2 o1 o2 e3 e4
/-- slots forgotten -/
theorem SR.forget (S : SR K N ios F0 B F H σ ρ) : SR K N ios F0 B F H (σ.set i none) (ρ.set i none) := by
  have oldσ : ∀ {j : Nat}, j ≠ i → (σ.set i none)[j]? = σ[j]? := fun {j} hj => List.getElem?_set_ne fun z => hj z.symm
  have old : ∀ {j : Nat} {t : Sl}, (ρ.set i none)[j]? = some (some t) → j ≠ i ∧ ρ[j]? = some (some t) := fun {j t} e => by
    rcases set_get e with ⟨rfl, _, e⟩ | ⟨hj, e⟩
    · cases e
    · exact ⟨hj, e⟩
  refine ⟨by rw [List.length_set, List.length_set]; exact S.len, S.fh, S.f0, S.fn, S.bh, S.bs, fun j d' e => ?_, fun j c e => ?_, fun j k c e => ?_, fun k j e => ?_, fun j k s t q e1 e2 o1 o2 e3 e4 => ?_⟩
  · obtain ⟨hj, e⟩ := old e
    rw [oldσ hj]; exact S.fr j d' e
  · obtain ⟨hj, e⟩ := old e
    rw [oldσ hj]; exact S.ow j c e
  · obtain ⟨hj, e⟩ := old e
    rw [oldσ hj]; exact S.io j k c e
  · obtain ⟨hk, e⟩ := old e
    obtain ⟨q1, q2, q3⟩ := S.br k j e
    refine ⟨q1, q2, fun s es ho => ?_⟩
    obtain ⟨hj, es⟩ := old es
    rw [oldσ hk, oldσ hj]; exact q3 s es ho
  · obtain ⟨hj, e1⟩ := old e1
    obtain ⟨hk, e2⟩ := old e2
    rw [oldσ hj] at e3
    rw [oldσ hk] at e4
    exact S.sep j k s t q e1 e2 o1 o2 e3 e4
end
end DL

namespace DL
open PySem PySem.Spec PyProof.Rows L2

/-! ### outcomes -/
inductive Res (α : Type) where
  | ok (a : α) (ρ : Evn)
  | exc (c : Str) (d : D) (ρ : Evn)
  | bad
def Res.bind {α β : Type} (r : Res α) (k : α → Evn → Res β) : Res β := match r with
  | .ok a ρ => k a ρ
  | .exc c d ρ => .exc c d ρ
  | .bad => .bad
def ofOpt (ρ : Evn) : Option Sl → Res Sl
  | some s => .ok s ρ
  | none => .bad
abbrev XW := L2.St → XK
structure Wd where
  N : Nat
  ios : List Addr
  F0 : Hp
  B : Hp
abbrev S4 (K : PySem.W.Frag) (W : Wd) (F H : Hp) (σ tv : L2.St) (ρ tr : Evn) : Prop := SR K W.N W.ios W.F0 W.B F H (σ ++ tv) (ρ ++ tr)
structure Ln (W : Wd) (σ tv : L2.St) (ρ tr : Evn) : Prop where
  s : σ.length = W.N
  r : ρ.length = W.N
  t : tv.length = tr.length
/-- what is wanted of an exception -/
def Fly (K : PySem.W.Frag) (mg : Str → Option Value) (E : XW) (W : Wd) (σ tv : L2.St) (tr : Evn) (c : Str) (d : D) (ρ' : Evn) : Prop :=
  ∀ C dx v F' H', mg c = some (Value.ref C) → H' dx = some (.xd [("what", v)]) → Dt K F' v d → S4 K W F' H' σ tv ρ' tr → E σ (.ref C) (some dx) H'
def Wants {α : Type} (Fl : Str → D → Evn → Prop) (P : α → Evn → Prop) : Res α → Prop
  | .ok a ρ => P a ρ
  | .exc c d ρ => Fl c d ρ
  | .bad => False

section
variable {K : PySem.W.Frag} {mg : Str → Option Value} {E : XW} {W : Wd} {F0 B F H F' H' : Hp} {σ tv us vs : L2.St} {ρ ρ' tr ss : Evn} {v : V} {d : D} {s : Sl} {c c' : Cn} {p : Addr} {i : Nat} {α β : Type}
theorem Ln.next (L : Ln W σ tv ρ tr) (S : S4 K W F H σ us ρ' ss) (h : us.length = ss.length) : Ln W σ us ρ' ss := by
  have := S.len
  simp at this
  exact ⟨L.s, by have := L.s; omega, h⟩
theorem Fly.push (L : Ln W σ tv ρ tr) (h : us.length = ss.length) {c : Str} {d : D} {ρ' : Evn} (q : Fly K mg E W σ tv tr c d ρ') : Fly K mg E W σ (tv ++ us) (tr ++ ss) c d ρ' := by
  intro C dx v F' H' h1 h2 h3 S
  refine q C dx v F' H' h1 h2 h3 ?_
  have hl := S.len
  simp at hl
  have l1 := L.s
  have l2 := L.t
  have S' : SR K W.N W.ios W.F0 W.B F' H' (σ ++ tv ++ us) (ρ' ++ tr ++ ss) := by rw [List.append_assoc, List.append_assoc]; exact S
  exact S'.cut (by simp; omega) (by simp; omega)
/-- the last ones are let go -/
theorem S4.cut (L : Ln W σ (tv ++ us) ρ (tr ++ ss)) (S : S4 K W F H σ (tv ++ us) ρ (tr ++ ss)) (h : us.length = ss.length) : S4 K W F H σ tv ρ tr := by
  have S' : SR K W.N W.ios W.F0 W.B F H (σ ++ tv ++ us) (ρ ++ tr ++ ss) := by rw [List.append_assoc, List.append_assoc]; exact S
  have l1 := L.s
  have l2 := L.t
  have l3 := L.r
  simp at l2
  exact S'.cut (by simp; omega) (by simp; omega)
theorem Ln.cut (L : Ln W σ (tv ++ us) ρ (tr ++ ss)) (h : us.length = ss.length) : Ln W σ tv ρ tr := by
  have l2 := L.t
  simp at l2
  exact ⟨L.s, L.r, by omega⟩
theorem Wants.imp {Fl Fl' : Str → D → Evn → Prop} {P P' : α → Evn → Prop} {r : Res α} (h : Wants Fl P r) (h1 : ∀ c d ρ, Fl c d ρ → Fl' c d ρ) (h2 : ∀ a ρ, P a ρ → P' a ρ) : Wants Fl' P' r := by
  cases r with
  | ok a ρ => exact h2 a ρ h
  | exc c d ρ => exact h1 c d ρ h
  | bad => exact h

/-- an expression's reading is f -/
def TJ (K : PySem.W.Frag) (mg : Str → Option Value) (E : XW) (t : TE) (f : Evn → Res Sl) : Prop :=
  ∀ (W : Wd) (F H : Hp) (σ tv : L2.St) (ρ tr : Evn) (Q : VK), Ln W σ tv ρ tr → S4 K W F H σ tv ρ tr →
    Wants (Fly K mg E W σ tv tr) (fun s ρ' => ∀ v F' H', S4 K W F' H' σ (tv ++ [some v]) ρ' (tr ++ [some s]) → Q v H') (f ρ) → t σ H Q
def TTJ (K : PySem.W.Frag) (mg : Str → Option Value) (E : XW) (t : TT) (f : Evn → Res Bool) : Prop :=
  ∀ (W : Wd) (F H : Hp) (σ tv : L2.St) (ρ tr : Evn) (Q : Bool → Hp → Prop), Ln W σ tv ρ tr → S4 K W F H σ tv ρ tr →
    Wants (Fly K mg E W σ tv tr) (fun b ρ' => ∀ F' H', S4 K W F' H' σ tv ρ' tr → Q b H') (f ρ) → t σ H Q
def TAJ (K : PySem.W.Frag) (mg : Str → Option Value) (E : XW) (t : TA) (f : Evn → Res (List Sl)) : Prop :=
  ∀ (W : Wd) (F H : Hp) (σ tv : L2.St) (ρ tr : Evn) (Q : List V → Hp → Prop), Ln W σ tv ρ tr → S4 K W F H σ tv ρ tr →
    Wants (Fly K mg E W σ tv tr) (fun ss ρ' => ∀ vs F' H', vs.length = ss.length → S4 K W F' H' σ (tv ++ vs.map some) ρ' (tr ++ ss.map some) → Q vs H') (f ρ) → t σ H Q

theorem TJ.run {ta : TE} {f : Evn → Res Sl} (ha : TJ K mg E ta f) (L : Ln W σ tv ρ tr) (S : S4 K W F H σ tv ρ tr) {Fl : Str → D → Evn → Prop} {P : β → Evn → Prop} {k : Sl → Evn → Res β}
    (hF : ∀ c d ρ', Fl c d ρ' → Fly K mg E W σ tv tr c d ρ') (hW : Wants Fl P ((f ρ).bind k)) {Q : VK}
    (h : ∀ s ρ1 v F1 H1, Ln W σ (tv ++ [some v]) ρ1 (tr ++ [some s]) → S4 K W F1 H1 σ (tv ++ [some v]) ρ1 (tr ++ [some s]) → Wants Fl P (k s ρ1) → Q v H1) : ta σ H Q := by
  refine ha W F H σ tv ρ tr Q L S ?_
  cases e : f ρ with
  | bad => rw [e] at hW; exact hW
  | exc c d ρ' => rw [e] at hW; exact hF _ _ _ hW
  | ok s ρ1 =>
    rw [e] at hW
    intro v F1 H1 S1
    exact h s ρ1 v F1 H1 (L.next S1 (by simp [L.t])) S1 hW
theorem TTJ.run {ta : TT} {f : Evn → Res Bool} (ha : TTJ K mg E ta f) (L : Ln W σ tv ρ tr) (S : S4 K W F H σ tv ρ tr) {Fl : Str → D → Evn → Prop} {P : β → Evn → Prop} {k : Bool → Evn → Res β}
    (hF : ∀ c d ρ', Fl c d ρ' → Fly K mg E W σ tv tr c d ρ') (hW : Wants Fl P ((f ρ).bind k)) {Q : Bool → Hp → Prop}
    (h : ∀ b ρ1 F1 H1, Ln W σ tv ρ1 tr → S4 K W F1 H1 σ tv ρ1 tr → Wants Fl P (k b ρ1) → Q b H1) : ta σ H Q := by
  refine ha W F H σ tv ρ tr Q L S ?_
  cases e : f ρ with
  | bad => rw [e] at hW; exact hW
  | exc c d ρ' => rw [e] at hW; exact hF _ _ _ hW
  | ok s ρ1 =>
    rw [e] at hW
    intro F1 H1 S1
    exact h s ρ1 F1 H1 (L.next S1 L.t) S1 hW
theorem TAJ.run {ta : TA} {f : Evn → Res (List Sl)} (ha : TAJ K mg E ta f) (L : Ln W σ tv ρ tr) (S : S4 K W F H σ tv ρ tr) {Fl : Str → D → Evn → Prop} {P : β → Evn → Prop} {k : List Sl → Evn → Res β}
    (hF : ∀ c d ρ', Fl c d ρ' → Fly K mg E W σ tv tr c d ρ') (hW : Wants Fl P ((f ρ).bind k)) {Q : List V → Hp → Prop}
    (h : ∀ ss ρ1 vs F1 H1, vs.length = ss.length → Ln W σ (tv ++ vs.map some) ρ1 (tr ++ ss.map some) → S4 K W F1 H1 σ (tv ++ vs.map some) ρ1 (tr ++ ss.map some) → Wants Fl P (k ss ρ1) → Q vs H1) : ta σ H Q := by
  refine ha W F H σ tv ρ tr Q L S ?_
  cases e : f ρ with
  | bad => rw [e] at hW; exact hW
  | exc c d ρ' => rw [e] at hW; exact hF _ _ _ hW
  | ok ss ρ1 =>
    rw [e] at hW
    intro vs F1 H1 hl S1
    exact h ss ρ1 vs F1 H1 hl (L.next S1 (by simp [L.t, hl])) S1 hW

/-! ### values by values -/
def ROk (K : PySem.W.Frag) (F' H H' : Hp) (v : V) : Sl → Prop
  | .fr d => Dt K F' v d
  | .ow c => ∃ p, v = .ref p ∧ H p = none ∧ F' p = none ∧ CRep K F' H' p c
  | _ => False
def VR2 (K : PySem.W.Frag) (r : R2) (g : D → D → Option Sl) : Prop :=
  ∀ (F H : Hp) (x y : V) (dx dy : D) (s : Sl) (Q : VK), Same F H → RepC K F H x dx → RepC K F H y dy → g dx dy = some s → (∀ v F' H', Grow F H F' H' → ROk K F' H H' v s → Q v H') → r x y H Q
def VR1 (K : PySem.W.Frag) (r : V → Hp → VK → Prop) (g : D → Option Sl) : Prop :=
  ∀ (F H : Hp) (x : V) (dx : D) (s : Sl) (Q : VK), Same F H → RepC K F H x dx → g dx = some s → (∀ v F' H', Grow F H F' H' → ROk K F' H H' v s → Q v H') → r x H Q
abbrev RepCs (K : PySem.W.Frag) (F H : Hp) : List V → List D → Prop := Paired (RepC K F H)
def VRn (K : PySem.W.Frag) (r : List V → Hp → VK → Prop) (g : List D → Option Sl) : Prop :=
  ∀ (F H : Hp) (xs : List V) (ds : List D) (s : Sl) (Q : VK), Same F H → RepCs K F H xs ds → g ds = some s → (∀ v F' H', Grow F H F' H' → ROk K F' H H' v s → Q v H') → r xs H Q
theorem S4.result (S : S4 K W F H σ tv ρ tr) (g : Grow F H F' H') (h : ROk K F' H H' v s) : S4 K W F' H' σ (tv ++ [some v]) ρ (tr ++ [some s]) := by
  show SR _ _ _ _ _ _ _ (σ ++ (tv ++ [some v])) (ρ ++ (tr ++ [some s]))
  rw [← List.append_assoc, ← List.append_assoc]
  cases s with
  | fr d => exact (SR.grow S g).push_fr h
  | ow c =>
    obtain ⟨p, rfl, h1, h2, h3⟩ := h
    exact SR.push_ow S g h1 h2 h3
  | io j c => exact h.elim
  | br j => exact h.elim
/-- the top of what is on the way, read -/
theorem S4.read (L : Ln W σ tv ρ tr) {x : V} (S : S4 K W F H σ (tv ++ [some x] ++ us) ρ (tr ++ [some s] ++ ss)) (hd : rd ρ s = some d) : RepC K F H x d := by
  have l1 := L.s
  have l2 := L.r
  have l3 := L.t
  refine SR.read (tr := tr ++ [some s] ++ ss) S L.r (k := ρ.length + tr.length) ?_ ?_ hd
  · rw [List.getElem?_append_right (by omega), List.append_assoc, List.getElem?_append_right (by omega)]
    simp
  · have e : ρ.length + tr.length = σ.length + tv.length := by omega
    rw [e, List.getElem?_append_right (by omega), List.append_assoc, List.getElem?_append_right (by omega)]
    simp
def rds (ρ : Evn) : List Sl → Option (List D)
  | [] => some []
  | s :: ss => match rd ρ s, rds ρ ss with
    | some d, some ds => some (d :: ds)
    | _, _ => none
theorem S4.reads : ∀ {ss : List Sl} {vs : List V} {ds : List D} {tv : L2.St} {tr : Evn}, Ln W σ tv ρ tr → S4 K W F H σ (tv ++ vs.map some) ρ (tr ++ ss.map some) → vs.length = ss.length → rds ρ ss = some ds → RepCs K F H vs ds
  | [], vs, ds, tv, tr, L, S, hl, hd => by
    cases hd
    cases vs with
    | nil => exact .nil
    | cons => simp at hl
  | s :: ss, vs, ds, tv, tr, L, S, hl, hd => by
    cases vs with
    | nil => simp at hl
    | cons v vs =>
      unfold rds at hd
      cases e1 : rd ρ s with
      | none => rw [e1] at hd; cases hd
      | some d =>
        cases e2 : rds ρ ss with
        | none => rw [e1, e2] at hd; cases hd
        | some ds' =>
          rw [e1, e2] at hd
          cases hd
          have S' : S4 K W F H σ (tv ++ [some v] ++ vs.map some) ρ (tr ++ [some s] ++ ss.map some) := by
            rw [List.append_assoc, List.append_assoc]; exact S
          exact .cons (S4.read L S' e1) (S4.reads (tv := tv ++ [some v]) (tr := tr ++ [some s]) ⟨L.s, L.r, by simp [L.t]⟩ S' (by simpa using hl) e2)

/-! ### names, constants -/
def fVar (i : Nat) (ρ : Evn) : Res Sl := match ρ[i]? with
  | some (some (.fr d)) => .ok (.fr d) ρ
  | some (some (.ow _)) => .ok (.br i) ρ
  | some (some (.io _ _)) => .ok (.br i) ρ
  | _ => .bad
theorem tj_var (i : Nat) : TJ K mg E (tVar i) (fVar i) := by
  intro W F H σ tv ρ tr Q L S hW
  have hσ : ∀ {v : V}, (σ ++ tv)[i]? = some (some v) → i < ρ.length → σ[i]? = some (some v) := fun {v} e hi => by
    rw [List.getElem?_append_left (by rw [L.s, ← L.r]; exact hi)] at e
    exact e
  unfold fVar at hW
  cases e : ρ[i]? with
  | none => rw [e] at hW; exact hW.elim
  | some o =>
    cases o with
    | none => rw [e] at hW; exact hW.elim
    | some s =>
      rw [e] at hW
      have hi := (List.getElem?_eq_some_iff.mp e).1
      have e' : (ρ ++ tr)[i]? = some (some s) := by rw [List.getElem?_append_left hi]; exact e
      have own : ∀ {c : Cn}, s.own = some c → Wants (Fly K mg E W σ tv tr) (fun s ρ' => ∀ v F' H', S4 K W F' H' σ (tv ++ [some v]) ρ' (tr ++ [some s]) → Q v H') (.ok (.br i) ρ) → tVar i σ H Q := fun {c} ho hW => by
        obtain ⟨p, h1, _⟩ := SR.own_at S e' ho
        refine ⟨.ref p, hσ h1 hi, hW _ F H ?_⟩
        show SR _ _ _ _ _ _ _ (σ ++ (tv ++ _)) (ρ ++ (tr ++ _))
        rw [← List.append_assoc, ← List.append_assoc]
        exact SR.push_br S (by simp; have := L.r; omega) (by rw [← L.r]; exact hi) h1
      cases s with
      | fr d =>
        obtain ⟨v, h1, h2⟩ := S.fr i d e'
        refine ⟨v, hσ h1 hi, hW v F H (S4.result S (.refl S.fh) ?_)⟩
        exact h2
      | ow c => exact own rfl hW
      | io j c => exact own rfl hW
      | br j => exact hW.elim
def fC (d : D) (ρ : Evn) : Res Sl := .ok (.fr d) ρ
theorem tj_c {v : V} {d : D} (h : ∀ F, Dt K F v d) : TJ K mg E (tC v) (fC d) := by
  intro W F H σ tv ρ tr Q L S hW
  exact hW v F H (S4.result (s := .fr d) S (.refl S.fh) (h F))
theorem tj_int {i : Int} : TJ K mg E (tC (.int i)) (fC (.int i)) := tj_c fun _ => .int i
theorem tj_bl {i : Bool} : TJ K mg E (tC (.bl i)) (fC (.bool i)) := tj_c fun _ => .bl i
theorem tj_str {i : Str} : TJ K mg E (tC (.str i)) (fC (.str i)) := tj_c fun _ => .str i
theorem tj_non : TJ K mg E (tC .non) (fC .none) := tj_c fun _ => .non

/-! ### operators -/
def fOp (op : D → D → Option Sl) (f g : Evn → Res Sl) (ρ : Evn) : Res Sl :=
  (f ρ).bind fun s1 ρ1 => (g ρ1).bind fun s2 ρ2 => ofOpt ρ2 (match rd ρ2 s1, rd ρ2 s2 with
    | some d1, some d2 => op d1 d2
    | _, _ => none)
theorem tj_op {ta tb : TE} {f g : Evn → Res Sl} {r : R2} {op : D → D → Option Sl} (hr : VR2 K r op) (ha : TJ K mg E ta f) (hb : TJ K mg E tb g) : TJ K mg E (tOp r ta tb) (fOp op f g) := by
  intro W F H σ tv ρ tr Q L S hW
  refine ha.run L S (fun _ _ _ h => h) hW fun s1 ρ1 x F1 H1 L1 S1 hW1 => ?_
  refine hb.run L1 S1 (fun _ _ _ h => h.push L (by simp)) hW1 fun s2 ρ2 y F2 H2 L2 S2 hW2 => ?_
  have La : Ln W σ tv ρ2 tr := (L2.cut (by simp)).cut (by simp)
  have Sa : S4 K W F2 H2 σ tv ρ2 tr := S4.cut (L2.cut (by simp)) (S4.cut L2 S2 (by simp)) (by simp)
  cases e1 : rd ρ2 s1 with
  | none => rw [e1] at hW2; exact hW2.elim
  | some d1 =>
    cases e2 : rd ρ2 s2 with
    | none => rw [e1, e2] at hW2; exact hW2.elim
    | some d2 =>
      rw [e1, e2] at hW2
      have r1 : RepC K F2 H2 x d1 := S4.read La (us := [some y]) (ss := [some s2]) (by simpa using S2) e1
      have r2 : RepC K F2 H2 y d2 := S4.read (L2.cut (by simp)) (us := []) (ss := []) (by simpa using S2) e2
      show r x y H2 Q
      cases eo : op d1 d2 with
      | none => rw [show (match some d1, some d2 with | some d1, some d2 => op d1 d2 | _, _ => none) = op d1 d2 from rfl, eo] at hW2; exact hW2.elim
      | some s =>
        rw [show (match some d1, some d2 with | some d1, some d2 => op d1 d2 | _, _ => none) = op d1 d2 from rfl, eo] at hW2
        exact hr F2 H2 x y d1 d2 s Q Sa.fh r1 r2 eo fun v F' H' g ok => hW2 v F' H' (S4.result Sa g ok)
def fUn (op : D → Option Sl) (f : Evn → Res Sl) (ρ : Evn) : Res Sl :=
  (f ρ).bind fun s1 ρ1 => ofOpt ρ1 (match rd ρ1 s1 with
    | some d1 => op d1
    | _ => none)
theorem tj_un {ta : TE} {f : Evn → Res Sl} {r : V → Hp → VK → Prop} {op : D → Option Sl} (hr : VR1 K r op) (ha : TJ K mg E ta f) : TJ K mg E (tUn r ta) (fUn op f) := by
  intro W F H σ tv ρ tr Q L S hW
  refine ha.run L S (fun _ _ _ h => h) hW fun s1 ρ1 x F1 H1 L1 S1 hW1 => ?_
  have La : Ln W σ tv ρ1 tr := L1.cut (by simp)
  have Sa : S4 K W F1 H1 σ tv ρ1 tr := S4.cut L1 S1 (by simp)
  cases e1 : rd ρ1 s1 with
  | none => rw [e1] at hW1; exact hW1.elim
  | some d1 =>
    rw [e1] at hW1
    have r1 : RepC K F1 H1 x d1 := S4.read La (us := []) (ss := []) (by simpa using S1) e1
    show r x H1 Q
    cases eo : op d1 with
    | none => rw [show (match some d1 with | some d1 => op d1 | _ => none) = op d1 from rfl, eo] at hW1; exact hW1.elim
    | some s =>
      rw [show (match some d1 with | some d1 => op d1 | _ => none) = op d1 from rfl, eo] at hW1
      exact hr F1 H1 x d1 s Q Sa.fh r1 eo fun v F' H' g ok => hW1 v F' H' (S4.result Sa g ok)

/-! ### argument lists, displays -/
def fNil (ρ : Evn) : Res (List Sl) := .ok [] ρ
theorem taj_nil : TAJ K mg E tNil fNil := by
  intro W F H σ tv ρ tr Q L S hW
  exact hW [] F H rfl (by simpa using S)
def fCons (f : Evn → Res Sl) (g : Evn → Res (List Sl)) (ρ : Evn) : Res (List Sl) := (f ρ).bind fun s ρ1 => (g ρ1).bind fun ss ρ2 => .ok (s :: ss) ρ2
theorem taj_cons {ta : TE} {tb : TA} {f : Evn → Res Sl} {g : Evn → Res (List Sl)} (ha : TJ K mg E ta f) (hb : TAJ K mg E tb g) : TAJ K mg E (tCons ta tb) (fCons f g) := by
  intro W F H σ tv ρ tr Q L S hW
  refine ha.run L S (fun _ _ _ h => h) hW fun s1 ρ1 x F1 H1 L1 S1 hW1 => ?_
  refine hb.run L1 S1 (fun _ _ _ h => h.push L (by simp)) hW1 fun ss ρ2 vs F2 H2 hl L2 S2 hW2 => ?_
  exact hW2 (x :: vs) F2 H2 (by simp [hl]) (by simpa using S2)
/-- frozen as it is made -/
def frz (ρ : Evn) : Sl → Option (D × Evn)
  | .fr d => some (d, ρ)
  | .ow c => some (c.rd, ρ)
  | .br i => match ρ[i]? with
    | some (some (.ow c)) => some (c.rd, ρ.set i (some (.fr c.rd)))
    | _ => none
  | .io _ _ => none
def fFz (f : Evn → Res Sl) (ρ : Evn) : Res Sl := (f ρ).bind fun s ρ1 => match frz ρ1 s with
  | some (d, ρ2) => .ok (.fr d) ρ2
  | none => .bad
theorem S4.frz (L : Ln W σ tv ρ tr) (S : S4 K W F H σ (tv ++ [some v]) ρ (tr ++ [some s])) (h : frz ρ s = some (d, ρ')) : ∃ F', Same F F' ∧ S4 K W F' H σ (tv ++ [some v]) ρ' (tr ++ [some (.fr d)]) := by
  have l1 := L.s
  have l2 := L.r
  have l3 := L.t
  have top : (ρ ++ (tr ++ [some s]))[ρ.length + tr.length]? = some (some s) := by
    rw [List.getElem?_append_right (by omega), List.getElem?_append_right (by omega)]
    simp
  have setTop : ∀ x : Option Sl, (ρ ++ (tr ++ [some s])).set (ρ.length + tr.length) x = ρ ++ (tr ++ [x]) := fun x => by
    rw [List.set_append_right _ _ (by omega), List.set_append_right _ _ (by omega)]
    simp
  cases s with
  | fr d' => cases h; exact ⟨F, Same.refl _, S⟩
  | io j c => cases h
  | ow c =>
    cases h
    cases c with
    | lst ds =>
      obtain ⟨F', ff, S'⟩ := SR.freeze S top
      rw [setTop] at S'
      exact ⟨F', ff, S'⟩
  | br i =>
    have h : (match ρ[i]? with | some (some (.ow c)) => some (c.rd, ρ.set i (some (.fr c.rd))) | _ => none) = some (d, ρ') := h
    cases e : ρ[i]? with
    | none => rw [e] at h; cases h
    | some o =>
      rw [e] at h
      cases o with
      | none => cases h
      | some t =>
        cases t with
        | fr _ => cases h
        | io _ _ => cases h
        | br _ => cases h
        | ow c =>
          cases h
          cases c with
          | lst ds =>
            have hi := (List.getElem?_eq_some_iff.mp e).1
            have e' : (ρ ++ (tr ++ [some (Sl.br i)]))[i]? = some (some (.ow (.lst ds))) := by rw [List.getElem?_append_left hi]; exact e
            obtain ⟨_, _, hb⟩ := S.br _ _ top
            have hv := hb _ e' (fun z => nomatch z)
            obtain ⟨F', ff, S'⟩ := SR.freeze S e'
            rw [List.set_append_left _ _ hi] at S'
            refine ⟨F', ff, ?_⟩
            have hlen : (ρ.set i (some (Sl.fr (.list ds)))).length = ρ.length := by simp
            have La : Ln W σ (tv ++ [some v]) (ρ.set i (some (Sl.fr (.list ds)))) (tr ++ [some (Sl.br i)]) := ⟨l1, by rw [hlen]; exact l2, by simp [l3]⟩
            have Sa : S4 K W F' H σ tv (ρ.set i (some (Sl.fr (.list ds)))) tr := S4.cut La S' (by simp)
            have ei : (ρ.set i (some (Sl.fr (.list ds))) ++ tr)[i]? = some (some (.fr (.list ds))) := by
              rw [List.getElem?_append_left (by rw [hlen]; exact hi), List.getElem?_set_self hi]
            obtain ⟨w, w1, w2⟩ := Sa.fr i _ ei
            have hσi : (σ ++ (tv ++ [some v]))[i]? = some (some w) := by
              rw [← List.append_assoc]; exact push_old w1
            rw [hσi] at hv
            have tk : (σ ++ (tv ++ [some v]))[ρ.length + tr.length]? = some (some v) := by
              have e : ρ.length + tr.length = σ.length + tv.length := by omega
              rw [e, List.getElem?_append_right (by omega), List.getElem?_append_right (by omega)]
              simp
            rw [tk] at hv
            cases hv
            exact S4.result (s := .fr (.list ds)) Sa (.refl Sa.fh) w2
theorem tj_fz {ta : TE} {f : Evn → Res Sl} (ha : TJ K mg E ta f) : TJ K mg E ta (fFz f) := by
  intro W F H σ tv ρ tr Q L S hW
  refine ha.run L S (fun _ _ _ h => h) hW fun s1 ρ1 x F1 H1 L1 S1 hW1 => ?_
  cases e : frz ρ1 s1 with
  | none => rw [e] at hW1; exact hW1.elim
  | some q =>
    obtain ⟨d, ρ2⟩ := q
    rw [e] at hW1
    obtain ⟨F', _, S'⟩ := S4.frz (L1.cut (by simp)) S1 e
    exact hW1 x F' H1 S'
def frs : List Sl → Option (List D)
  | [] => some []
  | .fr d :: ss => match frs ss with
    | some ds => some (d :: ds)
    | none => none
  | _ :: _ => none
theorem S4.frs : ∀ {ss : List Sl} {vs : List V} {ds : List D} {tv : L2.St} {tr : Evn}, Ln W σ tv ρ tr → S4 K W F H σ (tv ++ vs.map some) ρ (tr ++ ss.map some) → vs.length = ss.length → frs ss = some ds → DtAll K F vs ds
  | [], vs, ds, tv, tr, L, S, hl, hd => by
    cases hd
    cases vs with
    | nil => exact .nil
    | cons => simp at hl
  | s :: ss, vs, ds, tv, tr, L, S, hl, hd => by
    cases vs with
    | nil => simp at hl
    | cons v vs =>
      cases s with
      | ow _ => cases hd
      | io _ _ => cases hd
      | br _ => cases hd
      | fr d =>
        unfold DL.frs at hd
        cases e2 : DL.frs ss with
        | none => rw [e2] at hd; cases hd
        | some ds' =>
          rw [e2] at hd
          cases hd
          have S' : S4 K W F H σ (tv ++ [some v] ++ vs.map some) ρ (tr ++ [some (Sl.fr d)] ++ ss.map some) := by
            rw [List.append_assoc, List.append_assoc]; exact S
          refine .cons ?_ (S4.frs (tv := tv ++ [some v]) (tr := tr ++ [some (Sl.fr d)]) ⟨L.s, L.r, by simp [L.t]⟩ S' (by simpa using hl) e2)
          have l1 := L.s
          have l2 := L.r
          have l3 := L.t
          obtain ⟨w, w1, w2⟩ := S'.fr (ρ.length + tr.length) d (by
            rw [List.getElem?_append_right (by omega), List.append_assoc, List.getElem?_append_right (by omega)]
            simp)
          have e : ρ.length + tr.length = σ.length + tv.length := by omega
          rw [e, List.getElem?_append_right (by omega), List.append_assoc, List.getElem?_append_right (by omega)] at w1
          simp at w1
          rw [w1]
          exact w2
theorem line5 {n : Nat} (h : n ≤ 100000) : n ≤ sizeLine := Nat.le_trans h (by decide)
def fTup (f : Evn → Res (List Sl)) (ρ : Evn) : Res Sl := (f ρ).bind fun ss ρ1 => match frs ss with
  | some ds => if ds.length ≤ 100000 then .ok (.fr (.tuple ds)) ρ1 else .bad
  | none => .bad
def fLst (f : Evn → Res (List Sl)) (ρ : Evn) : Res Sl := (f ρ).bind fun ss ρ1 => match frs ss with
  | some ds => if ds.length ≤ 100000 then .ok (.ow (.lst ds)) ρ1 else .bad
  | none => .bad
/-- a tuple, a list of written items: its object is known -/
def tTupN (t : TA) : TE := fun σ H Q => t σ H fun xs H1 => xs.length ≤ sizeLine ∧ ∀ p its, H1 p = none → Q (.ref p) (upd H1 p (.frz (tupO its) (.tup xs)))
theorem pe_tupN {X : Cx} {es : List Expr} {t : TA} {pos : Pos} {x1} (h : PA X es t) : PE X (.Tuple es x1 pos) (tTupN t) := by
  refine ⟨fun pins s σ H Q I hq => ?_⟩
  refine wpAny_Tuple_spliced (thn (h.run pos pins s σ H _ I hq) fun us s1 ⟨xs, H1, I1, r, z, q⟩ => ⟨by rw [← r.length]; exact z, ?_⟩)
  have hf : H1 s1.heap.objs.size = none := I1.hok.fresh (Nat.le_refl _)
  refine ⟨.ref s1.heap.objs.size, upd H1 s1.heap.objs.size (.frz (tupO us.toArray) (.tup xs)), I1.laid (t' := s1.toks) (fun b u e => Heap.get?_push_of_some _ e) (Nat.le_refl _) ?_, rfl, q _ _ hf⟩
  exact ⟨Heap.get?_push_size _ rfl, z, us, r, ⟨_, Heap.get?_push_size _ rfl, rfl, _, rfl⟩⟩
theorem tj_tup {ta : TA} {f : Evn → Res (List Sl)} (ha : TAJ K mg E ta f) : TJ K mg E (tTupN ta) (fTup f) := by
  intro W F H σ tv ρ tr Q L S hW
  refine ha.run L S (fun _ _ _ h => h) hW fun ss ρ1 vs F1 H1 hl L1 S1 hW1 => ?_
  cases e : frs ss with
  | none => rw [e] at hW1; exact hW1.elim
  | some ds =>
    rw [e] at hW1
    have La := L1.cut (by simp [hl])
    have hd := S4.frs La S1 hl e
    have Sa := S4.cut L1 S1 (by simp [hl])
    by_cases hz : ds.length ≤ 100000
    · have hW1 : Wants _ _ (if ds.length ≤ 100000 then Res.ok (Sl.fr (.tuple ds)) ρ1 else .bad) := hW1
      rw [if_pos hz] at hW1
      refine ⟨by rw [dpAll_len hd]; exact line5 hz, fun p its hp => hW1 _ _ _ (S4.result Sa (.froze Sa.fh hp) ?_)⟩
      exact .tup ⟨its, upd_same⟩ (dpAll_mono (Same.upd_new (Same.free Sa.fh hp)) _ _ hd)
    · have hW1 : Wants _ _ (if ds.length ≤ 100000 then Res.ok (Sl.fr (.tuple ds)) ρ1 else .bad) := hW1
      rw [if_neg hz] at hW1
      exact hW1.elim
theorem tj_lst {ta : TA} {f : Evn → Res (List Sl)} (ha : TAJ K mg E ta f) : TJ K mg E (tLst ta) (fLst f) := by
  intro W F H σ tv ρ tr Q L S hW
  refine ha.run L S (fun _ _ _ h => h) hW fun ss ρ1 vs F1 H1 hl L1 S1 hW1 => ?_
  cases e : frs ss with
  | none => rw [e] at hW1; exact hW1.elim
  | some ds =>
    rw [e] at hW1
    have La := L1.cut (by simp [hl])
    have hd := S4.frs La S1 hl e
    have Sa := S4.cut L1 S1 (by simp [hl])
    by_cases hz : ds.length ≤ 100000
    · have hW1 : Wants _ _ (if ds.length ≤ 100000 then Res.ok (Sl.ow (.lst ds)) ρ1 else .bad) := hW1
      rw [if_pos hz] at hW1
      refine ⟨by rw [dpAll_len hd]; exact line5 hz, fun p hp => hW1 _ _ _ (S4.result Sa (.laid Sa.fh hp) ?_)⟩
      exact ⟨p, rfl, hp, Same.free Sa.fh hp, vs, upd_same, hd⟩
    · have hW1 : Wants _ _ (if ds.length ≤ 100000 then Res.ok (Sl.ow (.lst ds)) ρ1 else .bad) := hW1
      rw [if_neg hz] at hW1
      exact hW1.elim
/-! ### a builtin's call by values -/
def fCB (op : List D → Option Sl) (f : Evn → Res (List Sl)) (ρ : Evn) : Res Sl := (f ρ).bind fun ss ρ1 => ofOpt ρ1 (match rds ρ1 ss with
  | some ds => op ds
  | none => none)
theorem tj_cb {ta : TA} {f : Evn → Res (List Sl)} {r : List V → Hp → VK → Prop} {op : List D → Option Sl} (hr : VRn K r op) (ha : TAJ K mg E ta f) : TJ K mg E (tCB r ta) (fCB op f) := by
  intro W F H σ tv ρ tr Q L S hW
  refine ha.run L S (fun _ _ _ h => h) hW fun ss ρ1 vs F1 H1 hl L1 S1 hW1 => ?_
  have La := L1.cut (by simp [hl])
  have Sa := S4.cut L1 S1 (by simp [hl])
  cases e : rds ρ1 ss with
  | none => rw [e] at hW1; exact hW1.elim
  | some ds =>
    rw [e] at hW1
    have hd := S4.reads La S1 hl e
    have hW1 : Wants _ _ (ofOpt ρ1 (op ds)) := hW1
    cases eo : op ds with
    | none => rw [eo] at hW1; exact hW1.elim
    | some s =>
      rw [eo] at hW1
      exact hr F1 H1 vs ds s Q Sa.fh hd eo fun v F' H' g ok => hW1 v F' H' (S4.result Sa g ok)
end
end DL

namespace DL
open PySem PySem.Spec PyProof.Rows L2

section
variable {K : PySem.W.Frag} {mg : Str → Option Value} {E : XW} {W : Wd} {F0 B F H F' H' : Hp} {σ tv us vs : L2.St} {ρ ρ' tr ss : Evn} {v : V} {d : D} {s : Sl} {c c' : Cn} {p : Addr} {i : Nat} {α β : Type}

/-! ### tests -/
def asB (ρ : Evn) : Sl → Res Bool
  | .fr (.bool b) => .ok b ρ
  | _ => .bad
def fTest (f : Evn → Res Sl) (ρ : Evn) : Res Bool := (f ρ).bind fun s ρ1 => asB ρ1 s
theorem asB_ok {Fl : Str → D → Evn → Prop} {P : Bool → Evn → Prop} (h : Wants Fl P (asB ρ s)) : ∃ b, s = .fr (.bool b) ∧ P b ρ := by
  cases s with
  | fr d => cases d with
    | bool b => exact ⟨b, rfl, h⟩
    | none => exact h.elim
    | int _ => exact h.elim
    | str _ => exact h.elim
    | list _ => exact h.elim
    | tuple _ => exact h.elim
    | dict _ => exact h.elim
  | ow _ => exact h.elim
  | io _ _ => exact h.elim
  | br _ => exact h.elim
/-- the last one on the way, a truth -/
theorem S4.top_bl {b : Bool} (L : Ln W σ (tv ++ [some v]) ρ (tr ++ [some (.fr (.bool b))])) (S : S4 K W F H σ (tv ++ [some v]) ρ (tr ++ [some (.fr (.bool b))])) : v = .bl b :=
  RepC.bl (S4.read (L.cut (by simp)) (us := []) (ss := []) (by simpa using S) (show rd ρ (.fr (.bool b)) = some (.bool b) from rfl))
theorem ttj_val {ta : TE} {f : Evn → Res Sl} (ha : TJ K mg E ta f) : TTJ K mg E (tTest ta) (fTest f) := by
  intro W F H σ tv ρ tr Q L S hW
  refine ha.run L S (fun _ _ _ h => h) hW fun s1 ρ1 x F1 H1 L1 S1 hW1 => ?_
  obtain ⟨b, rfl, hW1⟩ := asB_ok hW1
  exact ⟨b, S4.top_bl L1 S1, hW1 F1 H1 (S4.cut L1 S1 (by simp))⟩
theorem ttj_B {ta : TE} {f : Evn → Res Sl} (ha : TJ K mg E ta f) : TTJ K mg E (tB ta) (fTest f) := ttj_val ha
def fAnd (f g : Evn → Res Bool) (ρ : Evn) : Res Bool := (f ρ).bind fun b ρ1 => if b then g ρ1 else .ok false ρ1
def fOr (f g : Evn → Res Bool) (ρ : Evn) : Res Bool := (f ρ).bind fun b ρ1 => if b then .ok true ρ1 else g ρ1
def fNot (f : Evn → Res Bool) (ρ : Evn) : Res Bool := (f ρ).bind fun b ρ1 => .ok (!b) ρ1
theorem ttj_and {ta tb : TT} {f g : Evn → Res Bool} (ha : TTJ K mg E ta f) (hb : TTJ K mg E tb g) : TTJ K mg E (tAnd ta tb) (fAnd f g) := by
  intro W F H σ tv ρ tr Q L S hW
  refine ha.run L S (fun _ _ _ h => h) hW fun b ρ1 F1 H1 L1 S1 hW1 => ?_
  cases b with
  | true => exact hb W F1 H1 σ tv ρ1 tr Q L1 S1 hW1
  | false => exact hW1 F1 H1 S1
theorem ttj_or {ta tb : TT} {f g : Evn → Res Bool} (ha : TTJ K mg E ta f) (hb : TTJ K mg E tb g) : TTJ K mg E (tOr ta tb) (fOr f g) := by
  intro W F H σ tv ρ tr Q L S hW
  refine ha.run L S (fun _ _ _ h => h) hW fun b ρ1 F1 H1 L1 S1 hW1 => ?_
  cases b with
  | true => exact hW1 F1 H1 S1
  | false => exact hb W F1 H1 σ tv ρ1 tr Q L1 S1 hW1
theorem ttj_not {ta : TT} {f : Evn → Res Bool} (ha : TTJ K mg E ta f) : TTJ K mg E (tNot ta) (fNot f) := by
  intro W F H σ tv ρ tr Q L S hW
  exact ha.run L S (fun _ _ _ h => h) hW fun b ρ1 F1 H1 L1 S1 hW1 => hW1 F1 H1 S1
def fAndV (f g : Evn → Res Sl) (ρ : Evn) : Res Sl := (f ρ).bind fun s ρ1 => (asB ρ1 s).bind fun b ρ1 => if b then g ρ1 else .ok (.fr (.bool false)) ρ1
def fOrV (f g : Evn → Res Sl) (ρ : Evn) : Res Sl := (f ρ).bind fun s ρ1 => (asB ρ1 s).bind fun b ρ1 => if b then .ok (.fr (.bool true)) ρ1 else g ρ1
def fNotV (f : Evn → Res Sl) (ρ : Evn) : Res Sl := (f ρ).bind fun s ρ1 => (asB ρ1 s).bind fun b ρ1 => .ok (.fr (.bool !b)) ρ1
theorem asB_bind {Fl : Str → D → Evn → Prop} {P : β → Evn → Prop} {k : Bool → Evn → Res β} (h : Wants Fl P ((asB ρ s).bind k)) : ∃ b, s = .fr (.bool b) ∧ Wants Fl P (k b ρ) := by
  cases s with
  | fr d => cases d with
    | bool b => exact ⟨b, rfl, h⟩
    | none => exact h.elim
    | int _ => exact h.elim
    | str _ => exact h.elim
    | list _ => exact h.elim
    | tuple _ => exact h.elim
    | dict _ => exact h.elim
  | ow _ => exact h.elim
  | io _ _ => exact h.elim
  | br _ => exact h.elim
theorem tj_andV {ta tb : TE} {f g : Evn → Res Sl} (ha : TJ K mg E ta f) (hb : TJ K mg E tb g) : TJ K mg E (tAndV ta tb) (fAndV f g) := by
  intro W F H σ tv ρ tr Q L S hW
  refine ha.run L S (fun _ _ _ h => h) hW fun s ρ1 x F1 H1 L1 S1 hW1 => ?_
  obtain ⟨b, rfl, hW1⟩ := asB_bind hW1
  refine ⟨b, S4.top_bl L1 S1, ?_⟩
  have La := L1.cut (us := [some x]) (ss := [some (Sl.fr (.bool b))]) (by simp)
  have Sa := S4.cut L1 S1 (by simp)
  cases b with
  | true => exact hb W F1 H1 σ tv ρ1 tr Q La Sa hW1
  | false => exact hW1 _ F1 H1 (S4.result (s := .fr (.bool false)) Sa (.refl Sa.fh) (.bl false))
theorem tj_orV {ta tb : TE} {f g : Evn → Res Sl} (ha : TJ K mg E ta f) (hb : TJ K mg E tb g) : TJ K mg E (tOrV ta tb) (fOrV f g) := by
  intro W F H σ tv ρ tr Q L S hW
  refine ha.run L S (fun _ _ _ h => h) hW fun s ρ1 x F1 H1 L1 S1 hW1 => ?_
  obtain ⟨b, rfl, hW1⟩ := asB_bind hW1
  refine ⟨b, S4.top_bl L1 S1, ?_⟩
  have La := L1.cut (us := [some x]) (ss := [some (Sl.fr (.bool b))]) (by simp)
  have Sa := S4.cut L1 S1 (by simp)
  cases b with
  | true => exact hW1 _ F1 H1 (S4.result (s := .fr (.bool true)) Sa (.refl Sa.fh) (.bl true))
  | false => exact hb W F1 H1 σ tv ρ1 tr Q La Sa hW1
theorem tj_notV {ta : TE} {f : Evn → Res Sl} (ha : TJ K mg E ta f) : TJ K mg E (tNotV ta) (fNotV f) := by
  intro W F H σ tv ρ tr Q L S hW
  refine ha.run L S (fun _ _ _ h => h) hW fun s ρ1 x F1 H1 L1 S1 hW1 => ?_
  obtain ⟨b, rfl, hW1⟩ := asB_bind hW1
  refine ⟨b, S4.top_bl L1 S1, ?_⟩
  have Sa := S4.cut L1 S1 (by simp)
  exact hW1 _ F1 H1 (S4.result (s := .fr (.bool !b)) Sa (.refl Sa.fh) (.bl _))
def fIf (c : Evn → Res Bool) (f g : Evn → Res Sl) (ρ : Evn) : Res Sl := (c ρ).bind fun b ρ1 => if b then f ρ1 else g ρ1
theorem tj_if {tc : TT} {ta tb : TE} {c : Evn → Res Bool} {f g : Evn → Res Sl} (hc : TTJ K mg E tc c) (ha : TJ K mg E ta f) (hb : TJ K mg E tb g) : TJ K mg E (tIf tc ta tb) (fIf c f g) := by
  intro W F H σ tv ρ tr Q L S hW
  refine hc.run L S (fun _ _ _ h => h) hW fun b ρ1 F1 H1 L1 S1 hW1 => ?_
  cases b with
  | true => exact ha W F1 H1 σ tv ρ1 tr Q L1 S1 hW1
  | false => exact hb W F1 H1 σ tv ρ1 tr Q L1 S1 hW1

/-! ### a builtin's method by values -/
def VRm (K : PySem.W.Frag) (T : String) (r : V → List V → Hp → VK → Prop) (g : D → List D → Option Sl) : Prop :=
  (∀ F H x dx ds s, Same F H → RepC K F H x dx → g dx ds = some s → tyV K T x H) ∧
  ∀ (F H : Hp) (x : V) (dx : D) (xs : List V) (ds : List D) (s : Sl) (Q : VK), Same F H → RepC K F H x dx → RepCs K F H xs ds → g dx ds = some s → (∀ v F' H', Grow F H F' H' → ROk K F' H H' v s → Q v H') → r x xs H Q
/-- the receiver is read ahead of the arguments, too (for its kind) -/
def fBM (op : D → List D → Option Sl) (f : Evn → Res Sl) (g : Evn → Res (List Sl)) (ρ : Evn) : Res Sl :=
  (f ρ).bind fun s ρ1 => (g ρ1).bind fun ss ρ2 => ofOpt ρ2 (match rd ρ1 s, rd ρ2 s, rds ρ2 ss with
    | some d1, some d2, some ds => match op d1 ds with
      | some _ => op d2 ds
      | none => none
    | _, _, _ => none)
theorem Res.of_bind {r : Res α} {k : α → Evn → Res β} {Fl : Str → D → Evn → Prop} {P : β → Evn → Prop} (h : Wants Fl P (r.bind k)) : (∃ a ρ, r = .ok a ρ ∧ Wants Fl P (k a ρ)) ∨ ∃ c d ρ, r = .exc c d ρ ∧ Fl c d ρ := by
  cases r with
  | ok a ρ => exact .inl ⟨a, ρ, rfl, h⟩
  | exc c d ρ => exact .inr ⟨c, d, ρ, rfl, h⟩
  | bad => exact h.elim

/-! ### a list that a slot holds alone, changed -/
/-- xs.append(e) -/
def fAppend (i : Nat) (f : Evn → Res Sl) (ρ : Evn) : Res Sl := match ρ[i]? with
  | some (some t) => match t.own with
    | some _ => (fFz f ρ).bind fun s ρ1 => match s, ρ1[i]? with
      | .fr d, some (some t1) => match t1.own with
        | some (.lst ds) => if ds.length < 100000 then .ok (.fr .none) (ρ1.set i (some (t1.put (.lst (ds ++ [d]))))) else .bad
        | _ => .bad
      | _, _ => .bad
    | none => .bad
  | _ => .bad
theorem line5' {n : Nat} (h : n < 100000) : n < sizeLine := Nat.lt_of_lt_of_le h (by decide)
/-- what stands at a slot that holds alone -/
theorem S4.own_at (L : Ln W σ tv ρ tr) (S : S4 K W F H σ tv ρ tr) (h : ρ[i]? = some (some s)) (ho : s.own = some c) : ∃ p, σ[i]? = some (some (.ref p)) ∧ F p = none ∧ CRep K F H p c := by
  have hi := (List.getElem?_eq_some_iff.mp h).1
  obtain ⟨p, h1, h2⟩ := SR.own_at S (i := i) (by rw [List.getElem?_append_left hi]; exact h) ho
  rw [List.getElem?_append_left (by rw [L.s, ← L.r]; exact hi)] at h1
  exact ⟨p, h1, h2⟩
theorem S4.mut (L : Ln W σ tv ρ tr) (S : S4 K W F H σ tv ρ tr) (h : ρ[i]? = some (some s)) (ho : s.own = some c) (hp : σ[i]? = some (some (V.ref p)))
    (hh : ∀ a, a ≠ p → H' a = H a) (hc : CRep K F H' p c') : S4 K W F H' σ tv (ρ.set i (some (s.put c'))) tr := by
  have hi := (List.getElem?_eq_some_iff.mp h).1
  have := SR.mut S (i := i) (by rw [List.getElem?_append_left hi]; exact h) ho (by rw [List.getElem?_append_left (by rw [L.s, ← L.r]; exact hi)]; exact hp) hh hc
  rw [List.set_append_left _ _ hi] at this
  exact this
theorem S4.push_non (S : S4 K W F H σ tv ρ tr) : S4 K W F H σ (tv ++ [some .non]) ρ (tr ++ [some (.fr .none)]) := S4.result S (.refl S.fh) .non
theorem S4.top_fr (L : Ln W σ (tv ++ [some v]) ρ (tr ++ [some (.fr d)])) (S : S4 K W F H σ (tv ++ [some v]) ρ (tr ++ [some (.fr d)])) : Dt K F v d := by
  have l1 := L.s
  have l2 := L.r
  have l3 := L.t
  simp at l3
  obtain ⟨w, w1, w2⟩ := S.fr (ρ.length + tr.length) d (by
    rw [List.getElem?_append_right (by omega), List.getElem?_append_right (by omega)]
    simp)
  have e : ρ.length + tr.length = σ.length + tv.length := by omega
  rw [e, List.getElem?_append_right (by omega), List.getElem?_append_right (by omega)] at w1
  simp at w1
  rw [w1]; exact w2
theorem tj_append {i : Nat} {te : TE} {f : Evn → Res Sl} (hf : TJ K mg E te f) : TJ K mg E (tBM K "list" rAppend (tVar i) (tCons te tNil)) (fAppend i f) := by
  intro W F H σ tv ρ tr Q L S hW
  unfold fAppend at hW
  split at hW
  · rename_i t e
    split at hW
    · rename_i c ho
      cases c with
      | lst ds =>
        obtain ⟨p, h1, h2, ws, h3, h4⟩ := S4.own_at L S e ho
        refine ⟨.ref p, h1, .inl ⟨rfl, ws, .of h3⟩, ?_⟩
        refine (tj_fz hf).run L S (fun _ _ _ h => h) hW fun s1 ρ1 x F1 H1 L1 S1 hW1 => ?_
        split at hW1
        · rename_i d t1 e1
          split at hW1
          · rename_i ds1 ho1
            split at hW1
            · rename_i hz
              obtain ⟨p1, g1, g2, ws1, g3, g4⟩ := S4.own_at L1 S1 e1 ho1
              rw [h1] at g1
              cases g1
              have La := L1.cut (us := [some x]) (ss := [some (Sl.fr d)]) (by simp)
              have Sa := S4.cut L1 S1 (by simp)
              refine ⟨p, ws1, x, rfl, rfl, g3, by rw [dpAll_len g4]; exact line5' hz, hW1 .non F1 _ ?_⟩
              exact S4.push_non (S4.mut La Sa e1 ho1 h1 (fun a ha => upd_ne ha) ⟨_, upd_same, dpAll_app g4 (.cons (S4.top_fr L1 S1) .nil)⟩)
            · exact hW1.elim
          · exact hW1.elim
        · exact hW1.elim
    · exact hW.elim
  · exact hW.elim
/-- xs.pop(e) -/
def fPopAt (i : Nat) (f : Evn → Res Sl) (ρ : Evn) : Res Sl := match ρ[i]? with
  | some (some t) => match t.own with
    | some _ => (f ρ).bind fun s ρ1 => match s, ρ1[i]? with
      | .fr (.int k), some (some t1) => match t1.own with
        | some (.lst ds) => if 0 ≤ k ∧ k < (ds.length : Int) ∧ ds.length ≤ 100000 then match ds[k.toNat]? with
            | some d => .ok (.fr d) (ρ1.set i (some (t1.put (.lst (ds.eraseIdx k.toNat)))))
            | none => .bad
          else .bad
        | _ => .bad
      | _, _ => .bad
    | none => .bad
  | _ => .bad
theorem tj_popAt {i : Nat} {te : TE} {f : Evn → Res Sl} (hf : TJ K mg E te f) : TJ K mg E (tBM K "list" rPopAt (tVar i) (tCons te tNil)) (fPopAt i f) := by
  intro W F H σ tv ρ tr Q L S hW
  unfold fPopAt at hW
  cases e : ρ[i]? with
  | none => rw [e] at hW; exact hW.elim
  | some o =>
    cases o with
    | none => rw [e] at hW; exact hW.elim
    | some t =>
      simp only [e] at hW
      cases ho : t.own with
      | none => simp only [ho] at hW; exact hW.elim
      | some c =>
        simp only [ho] at hW
        cases c with
        | lst ds =>
          obtain ⟨p, h1, h2, ws, h3, h4⟩ := S4.own_at L S e ho
          refine ⟨.ref p, h1, .inl ⟨rfl, ws, .of h3⟩, ?_⟩
          refine hf.run L S (fun _ _ _ h => h) hW fun s1 ρ1 x F1 H1 L1 S1 hW1 => ?_
          split at hW1
          · rename_i k t1 e1
            split at hW1
            · rename_i ds1 ho1
              split at hW1
              · rename_i hk
                split at hW1
                · rename_i dd ed
                  obtain ⟨p1, g1, g2, ws1, g3, g4⟩ := S4.own_at L1 S1 e1 ho1
                  rw [h1] at g1
                  cases g1
                  have La := L1.cut (us := [some x]) (ss := [some (Sl.fr (.int k))]) (by simp)
                  have Sa := S4.cut L1 S1 (by simp)
                  have hx : x = .int k := RepC.int (S4.read La (us := []) (ss := []) (by simpa using S1) (show rd ρ1 (.fr (.int k)) = some (.int k) from rfl))
                  obtain ⟨w, w1, w2⟩ := dpAll_get g4 ed
                  have hl := dpAll_len g4
                  have hn := line63
                  refine ⟨p, ws1, k, k.toNat, w, rfl, by rw [hx], g3, by omega, ?_, ?_, w1, hW1 w F1 _ ?_⟩
                  · have : ds1.length ≤ sizeLine := line5 hk.2.2
                    omega
                  · rw [hl]
                    exact seqIndex_of hk.1 hk.2.1
                  · have Sm := S4.mut La Sa e1 ho1 h1 (H' := upd H1 p (.lst (ws1.eraseIdx k.toNat))) (c' := .lst (ds1.eraseIdx k.toNat)) (fun a ha => upd_ne ha) ⟨_, upd_same, dpAll_erase _ g4⟩
                    exact S4.result (s := .fr dd) Sm (.refl Sm.fh) w2
                · exact hW1.elim
              · exact hW1.elim
            · exact hW1.elim
          · exact hW1.elim
end
end DL

namespace DL
open PySem PySem.Spec PyProof.Rows L2

section
variable {K : PySem.W.Frag} {mg : Str → Option Value} {E : XW} {W : Wd} {F0 B F H F' H' : Hp} {σ tv us vs : L2.St} {ρ ρ' tr ss : Evn} {v : V} {d : D} {s : Sl} {c c' : Cn} {p : Addr} {i : Nat} {α β : Type}

/-! ### what is walked -/
/-- what an item is, to data -/
abbrev Rl := PySem.W.Frag → Hp → V → D → Prop
/-- data, or a pair that an iterator made: of its own object nothing is told -/
def Dw (K : PySem.W.Frag) (F : Hp) (v : V) (d : D) : Prop := Dt K F v d ∨ ∃ p vs ds, v = .ref p ∧ d = .tuple ds ∧ F p = some (.tup vs) ∧ DtAll K F vs ds
class Wk (Re : Rl) : Prop where
  wk : ∀ {K : PySem.W.Frag} {F : Hp} {v : V} {d : D}, Re K F v d → Dw K F v d
instance : Wk Dt := ⟨.inl⟩
instance : Wk Dw := ⟨id⟩
def Walks (Re : Rl) (K : PySem.W.Frag) (F : Hp) (J : It) (ds : List D) : Prop :=
  ∀ (i : Nat) (F1 H1 : Hp), Same F F1 → Same F1 H1 → (∀ d, ds[i]? = some d → J.go i H1 ∧ ∀ x H', J.yld i H1 x H' → ∃ F2, Grow F1 H1 F2 H' ∧ Re K F2 x d) ∧ (ds.length ≤ i → J.stop i H1)
theorem Walks.mono {Re : Rl} {J : It} {ds : List D} (e : Same F F') (h : Walks Re K F J ds) : Walks Re K F' J ds := fun i F1 H1 a b => h i F1 H1 (e.trans a) b
def TIJ (Re : Rl) (K : PySem.W.Frag) (mg : Str → Option Value) (E : XW) (wi : TI) (f : Evn → Res (List D)) : Prop :=
  ∀ (W : Wd) (F H : Hp) (σ tv : L2.St) (ρ tr : Evn) (R : It → Hp → Prop), Ln W σ tv ρ tr → S4 K W F H σ tv ρ tr →
    Wants (Fly K mg E W σ tv tr) (fun ds ρ' => ∀ J F' H', S4 K W F' H' σ tv ρ' tr → Walks Re K F' J ds → R J H') (f ρ) → wi σ H R
def asL (ρ : Evn) : Sl → Res (List D)
  | .fr (.list ds) => .ok ds ρ
  | _ => .bad
def asT (ρ : Evn) : Sl → Res (List D)
  | .fr (.tuple ds) => .ok ds ρ
  | _ => .bad
theorem asL_ok {Fl : Str → D → Evn → Prop} {P : List D → Evn → Prop} (h : Wants Fl P (asL ρ s)) : ∃ ds, s = .fr (.list ds) ∧ P ds ρ := by
  cases s with
  | fr d => cases d <;> first | exact ⟨_, rfl, h⟩ | exact h.elim
  | ow _ => exact h.elim
  | io _ _ => exact h.elim
  | br _ => exact h.elim
theorem asT_ok {Fl : Str → D → Evn → Prop} {P : List D → Evn → Prop} (h : Wants Fl P (asT ρ s)) : ∃ ds, s = .fr (.tuple ds) ∧ P ds ρ := by
  cases s with
  | fr d => cases d <;> first | exact ⟨_, rfl, h⟩ | exact h.elim
  | ow _ => exact h.elim
  | io _ _ => exact h.elim
  | br _ => exact h.elim
def fIterL (f : Evn → Res Sl) (ρ : Evn) : Res (List D) := (fFz f ρ).bind fun s ρ1 => asL ρ1 s
def fIterT (f : Evn → Res Sl) (ρ : Evn) : Res (List D) := (fFz f ρ).bind fun s ρ1 => asT ρ1 s
theorem walks_list {ds : List D} {a : Addr} {vs : List V} (hs : SqL K F a vs) (ha : DtAll K F vs ds) : Walks Dt K F (Itl K a) ds := by
  intro i F1 H1 e1 e2
  have h1 : SqL K H1 a vs := (e1.trans e2).seq hs
  have uniq : ∀ {ys : List V}, True := trivial
  refine ⟨fun d hd => ?_, fun hi => ⟨vs, h1, by rw [dpAll_len ha]; exact hi⟩⟩
  obtain ⟨x, hx, hdx⟩ := dpAll_get ha hd
  refine ⟨⟨vs, x, h1, hx⟩, fun y H' hy => ?_⟩
  obtain ⟨rfl, hy⟩ := hy
  have := hy vs h1
  rw [hx] at this
  cases this
  exact ⟨F1, .refl e2, dp_mono e1 _ _ hdx⟩
theorem walks_tup {ds : List D} {a : Addr} {vs : List V} (hs : SqT K F a vs) (ha : DtAll K F vs ds) : Walks Dt K F (Itt K a) ds := by
  intro i F1 H1 e1 e2
  have h1 : SqT K H1 a vs := same_sqT (e1.trans e2) hs
  refine ⟨fun d hd => ?_, fun hi => ⟨vs, h1, by rw [dpAll_len ha]; exact hi⟩⟩
  obtain ⟨x, hx, hdx⟩ := dpAll_get ha hd
  refine ⟨⟨vs, x, h1, hx⟩, fun y H' hy => ?_⟩
  obtain ⟨rfl, hy⟩ := hy
  have := hy vs h1
  rw [hx] at this
  cases this
  exact ⟨F1, .refl e2, dp_mono e1 _ _ hdx⟩
theorem tij_list {te : TE} {f : Evn → Res Sl} (h : TJ K mg E te f) : TIJ Dt K mg E (iList K te) (fIterL f) := by
  intro W F H σ tv ρ tr R L S hW
  refine (tj_fz h).run L S (fun _ _ _ h => h) hW fun s ρ1 x F1 H1 L1 S1 hW1 => ?_
  obtain ⟨ds, rfl, hW1⟩ := asL_ok hW1
  have hd := S4.top_fr L1 S1
  have Sa := S4.cut L1 S1 (by simp)
  cases hd with
  | lst hs ha => exact ⟨_, rfl, ⟨_, .of (Sa.fh _ _ hs)⟩, hW1 _ F1 H1 Sa (walks_list (.of hs) ha)⟩
theorem tij_tup {te : TE} {f : Evn → Res Sl} (h : TJ K mg E te f) : TIJ Dt K mg E (iTup K te) (fIterT f) := by
  intro W F H σ tv ρ tr R L S hW
  refine (tj_fz h).run L S (fun _ _ _ h => h) hW fun s ρ1 x F1 H1 L1 S1 hW1 => ?_
  obtain ⟨ds, rfl, hW1⟩ := asT_ok hW1
  have hd := S4.top_fr L1 S1
  have Sa := S4.cut L1 S1 (by simp)
  cases hd with
  | tup hs ha => exact ⟨_, rfl, ⟨_, same_sqT Sa.fh hs.sq⟩, hW1 _ F1 H1 Sa (walks_tup hs.sq ha)⟩
def rng (lo : Int) (n : Nat) : List D := (List.range n).map fun (k : Nat) => PyData.int (lo + k)
theorem walks_range {lo : Int} {n : Nat} : Walks Dt K F (Itr lo n) (rng lo n) := by
  intro i F1 H1 e1 e2
  refine ⟨fun d hd => ?_, fun hi => ?_⟩
  · unfold rng at hd
    rw [List.getElem?_map] at hd
    cases e : (List.range n)[i]? with
    | none => rw [e] at hd; cases hd
    | some k =>
      rw [e] at hd
      have hi : i < n := by
        have := (List.getElem?_eq_some_iff.mp e).1
        simpa using this
      rw [List.getElem?_range hi] at e
      cases e
      cases hd
      refine ⟨hi, fun y H' hy => ?_⟩
      obtain ⟨rfl, rfl⟩ := hy
      exact ⟨F1, .refl e2, .int _⟩
  · unfold rng at hi
    have hi : n ≤ i := by simpa using hi
    exact hi
def fRange1 (f : Evn → Res (List Sl)) (ρ : Evn) : Res (List D) := (f ρ).bind fun ss ρ1 => match rds ρ1 ss with
  | some [.int n] => if n ≤ 1000000 ∧ -1000000 ≤ n then .ok (rng 0 n.toNat) ρ1 else .bad
  | _ => .bad
theorem tij_range1 {ta : TA} {f : Evn → Res (List Sl)} (h : TAJ K mg E ta f) : TIJ Dt K mg E (iRng1 ta) (fRange1 f) := by
  intro W F H σ tv ρ tr R L S hW
  refine h.run L S (fun _ _ _ h => h) hW fun ss ρ1 vs F1 H1 hl L1 S1 hW1 => ?_
  have La := L1.cut (by simp [hl])
  have Sa := S4.cut L1 S1 (by simp [hl])
  split at hW1
  · rename_i n e
    split at hW1
    · rename_i hn
      have hd := S4.reads La S1 hl e
      cases hd with
      | cons r t =>
        cases t
        rw [RepC.int r]
        refine ⟨n, rfl, by omega, by omega, hW1 _ F1 H1 Sa ?_⟩
        exact walks_range
    · exact hW1.elim
  · exact hW1.elim
def fRange2 (f : Evn → Res (List Sl)) (ρ : Evn) : Res (List D) := (f ρ).bind fun ss ρ1 => match rds ρ1 ss with
  | some [.int m, .int n] => if n ≤ 1000000 ∧ -1000000 ≤ n ∧ m ≤ 1000000 ∧ -1000000 ≤ m then .ok (rng m (n - m).toNat) ρ1 else .bad
  | _ => .bad
theorem tij_range2 {ta : TA} {f : Evn → Res (List Sl)} (h : TAJ K mg E ta f) : TIJ Dt K mg E (iRng2 ta) (fRange2 f) := by
  intro W F H σ tv ρ tr R L S hW
  refine h.run L S (fun _ _ _ h => h) hW fun ss ρ1 vs F1 H1 hl L1 S1 hW1 => ?_
  have La := L1.cut (by simp [hl])
  have Sa := S4.cut L1 S1 (by simp [hl])
  split at hW1
  · rename_i m n e
    split at hW1
    · rename_i hn
      have hd := S4.reads La S1 hl e
      cases hd with
      | cons r t =>
        cases t with
        | cons r2 t =>
          cases t
          rw [RepC.int r, RepC.int r2]
          refine ⟨m, n, rfl, ⟨by omega, by omega, by omega, by omega⟩, hW1 _ F1 H1 Sa ?_⟩
          exact walks_range
    · exact hW1.elim
  · exact hW1.elim

/-! ### targets -/
theorem S4.set_fr (L : Ln W σ tv ρ tr) (S : S4 K W F H σ tv ρ tr) (h : Dt K F v d) (hi : i < ρ.length) : S4 K W F H (σ.set i (some v)) tv (ρ.set i (some (.fr d))) tr := by
  have := SR.set_fr S h (i := i) (by rw [← L.r]; exact hi)
  rw [List.set_append_left _ _ hi, List.set_append_left _ _ (by rw [L.s, ← L.r]; exact hi)] at this
  exact this
def TGJ (Re : Rl) (K : PySem.W.Frag) (g : TG) (is : List Nat) (f : D → Evn → Option Evn) : Prop :=
  ∀ (W : Wd) (F H : Hp) (σ tv : L2.St) (ρ tr : Evn) (x : V) (d : D) (ρ' : Evn) (Q : L2.St → Hp → Prop), Ln W σ tv ρ tr → S4 K W F H σ tv ρ tr → Re K F x d → f d ρ = some ρ' →
    (∀ σ', (∀ k, k ∉ is → σ'[k]? = σ[k]?) → Ln W σ' tv ρ' tr → S4 K W F H σ' tv ρ' tr → Q σ' H) → g x σ H Q
def TGsJ (K : PySem.W.Frag) (g : TGs) (is : List Nat) (f : List D → Evn → Option Evn) : Prop :=
  ∀ (W : Wd) (F H : Hp) (σ tv : L2.St) (ρ tr : Evn) (xs : List V) (ds : List D) (ρ' : Evn) (Q : L2.St → Hp → Prop), Ln W σ tv ρ tr → S4 K W F H σ tv ρ tr → DtAll K F xs ds → f ds ρ = some ρ' →
    (∀ σ', (∀ k, k ∉ is → σ'[k]? = σ[k]?) → Ln W σ' tv ρ' tr → S4 K W F H σ' tv ρ' tr → Q σ' H) → g xs σ H Q
def gNm (i : Nat) (d : D) (ρ : Evn) : Option Evn := if i < ρ.length then some (ρ.set i (some (.fr d))) else none
theorem tgj_name (i : Nat) : TGJ Dt K (gName i) [i] (gNm i) := by
  intro W F H σ tv ρ tr x d ρ' Q L S hx hf q
  unfold gNm at hf
  split at hf
  · rename_i hi
    cases hf
    refine q _ (fun k hk => List.getElem?_set_ne fun z => hk (by simp [z])) ⟨by simp [L.s], by simp [L.r], L.t⟩ (S4.set_fr L S hx hi)
  · cases hf
def gNilF (ds : List D) (ρ : Evn) : Option Evn := match ds with
  | [] => some ρ
  | _ => none
theorem tgsj_nil : TGsJ K gNil [] gNilF := by
  intro W F H σ tv ρ tr xs ds ρ' Q L S hx hf q
  unfold gNilF at hf
  cases hx with
  | nil => cases hf; exact ⟨rfl, q σ (fun _ _ => rfl) L S⟩
  | cons _ _ => cases hf
def gConsF (f : D → Evn → Option Evn) (g : List D → Evn → Option Evn) (ds : List D) (ρ : Evn) : Option Evn := match ds with
  | d :: r => match f d ρ with
    | some ρ1 => g r ρ1
    | none => none
  | [] => none
theorem tgsj_cons {g : TG} {gs : TGs} {is js : List Nat} {f : D → Evn → Option Evn} {fs : List D → Evn → Option Evn} (h1 : TGJ Dt K g is f) (h2 : TGsJ K gs js fs) : TGsJ K (gCons g gs) (is ++ js) (gConsF f fs) := by
  intro W F H σ tv ρ tr xs ds ρ' Q L S hx hf q
  unfold gConsF at hf
  cases hx with
  | nil => cases hf
  | cons hx ht =>
    rename_i v vs d ds
    simp only at hf
    split at hf
    · rename_i ρ1 e
      refine ⟨v, vs, rfl, h1 W F H σ tv ρ tr v d ρ1 _ L S hx e fun σ1 k1 L1 S1 => ?_⟩
      exact h2 W F H σ1 tv ρ1 tr vs ds ρ' _ L1 S1 ht hf fun σ2 k2 L2 S2 => q σ2 (fun k hk => by
        simp only [List.mem_append, not_or] at hk
        rw [k2 k hk.2, k1 k hk.1]) L2 S2
    · cases hf
def gTupF (n : Nat) (g : List D → Evn → Option Evn) (d : D) (ρ : Evn) : Option Evn := match d with
  | .tuple ds => if ds.length = n then g ds ρ else none
  | _ => none
theorem tgj_tup {Re : Rl} [Wk Re] {gs : TGs} {is : List Nat} {n : Nat} {fs : List D → Evn → Option Evn} (h : TGsJ K gs is fs) : TGJ Re K (gTup K n gs) is (gTupF n fs) := by
  intro W F H σ tv ρ tr x d ρ' Q L S hx hf q
  unfold gTupF at hf
  split at hf
  · rename_i ds
    split at hf
    · rename_i hn
      rcases Wk.wk hx with hx | ⟨p, vs, ds', rfl, e2, e3, ha⟩
      · cases hx with
        | tup hs ha => exact ⟨_, _, rfl, same_sqT S.fh hs.sq, by rw [dpAll_len ha]; exact hn, h W F H σ tv ρ tr _ ds ρ' Q L S ha hf q⟩
      · cases e2
        exact ⟨_, _, rfl, .of (S.fh _ _ e3), by rw [dpAll_len ha]; exact hn, h W F H σ tv ρ tr _ ds ρ' Q L S ha hf q⟩
    · cases hf
  · cases hf

/-! ### statements -/
inductive Fl where
  | nx | bk | ct | rt (s : Sl)
def FlyS (K : PySem.W.Frag) (mg : Str → Option Value) (E : XW) (W : Wd) (c : Str) (d : D) (ρ' : Evn) : Prop :=
  ∀ C dx v F' H' σ', σ'.length = W.N → mg c = some (Value.ref C) → H' dx = some (.xd [("what", v)]) → Dt K F' v d → S4 K W F' H' σ' [] ρ' [] → E σ' (.ref C) (some dx) H'
theorem FlyS.fly (L : Ln W σ [] ρ []) {c : Str} (h : FlyS K mg E W c d ρ') : Fly K mg E W σ [] [] c d ρ' := fun C dx v F' H' h1 h2 h3 h4 => h C dx v F' H' σ L.s h1 h2 h3 h4
def EndsOk (K : PySem.W.Frag) (W : Wd) (D : Ends) : Fl → Evn → Prop
  | .nx, ρ' => ∀ σ' F' H', Ln W σ' [] ρ' [] → S4 K W F' H' σ' [] ρ' [] → D.nx σ' H'
  | .bk, ρ' => ∀ σ' F' H', Ln W σ' [] ρ' [] → S4 K W F' H' σ' [] ρ' [] → D.bk σ' H'
  | .ct, ρ' => ∀ σ' F' H', Ln W σ' [] ρ' [] → S4 K W F' H' σ' [] ρ' [] → D.ct σ' H'
  | .rt s, ρ' => ∀ v σ' F' H', Ln W σ' [some v] ρ' [some s] → S4 K W F' H' σ' [some v] ρ' [some s] → D.rt v H'
def TSJ (K : PySem.W.Frag) (mg : Str → Option Value) (E : XW) (t : TS) (f : Evn → Res Fl) : Prop :=
  ∀ (W : Wd) (F H : Hp) (σ : L2.St) (ρ : Evn) (D : Ends), Ln W σ [] ρ [] → S4 K W F H σ [] ρ [] → Wants (FlyS K mg E W) (EndsOk K W D) (f ρ) → t D σ H
def fNext (ρ : Evn) : Res Fl := .ok .nx ρ
theorem tsj_next : TSJ K mg E tNext fNext := fun W F H σ ρ D L S hW => hW σ F H L S
def fSeq (f g : Evn → Res Fl) (ρ : Evn) : Res Fl := (f ρ).bind fun fl ρ1 => match fl with
  | .nx => g ρ1
  | .bk => .ok .bk ρ1
  | .ct => .ok .ct ρ1
  | .rt s => .ok (.rt s) ρ1
theorem tsj_seq {t u : TS} {f g : Evn → Res Fl} (h1 : TSJ K mg E t f) (h2 : TSJ K mg E u g) : TSJ K mg E (tSeq t u) (fSeq f g) := by
  intro W F H σ ρ D L S hW
  refine h1 W F H σ ρ _ L S ?_
  unfold fSeq at hW
  cases e : f ρ with
  | bad => rw [e] at hW; exact hW
  | exc c d ρ' => rw [e] at hW; exact hW
  | ok fl ρ1 =>
    rw [e] at hW
    cases fl with
    | nx => exact fun σ' F' H' L' S' => h2 W F' H' σ' ρ1 D L' S' hW
    | bk => exact hW
    | ct => exact hW
    | rt s => exact hW
def fDrop (f : Evn → Res Sl) (ρ : Evn) : Res Fl := (f ρ).bind fun _ ρ1 => .ok .nx ρ1
theorem tsj_drop {te : TE} {f : Evn → Res Sl} (h : TJ K mg E te f) : TSJ K mg E (tDrop te) (fDrop f) := by
  intro W F H σ ρ D L S hW
  refine h.run L S (fun _ _ _ h => h.fly L) hW fun s ρ1 x F1 H1 L1 S1 hW1 => ?_
  exact hW1 σ F1 H1 (L1.cut (tv := []) (tr := []) (us := [some x]) (ss := [some s]) (by simp)) (S4.cut (tv := []) (tr := []) L1 S1 (by simp))
def fRet (f : Evn → Res Sl) (ρ : Evn) : Res Fl := (f ρ).bind fun s ρ1 => .ok (.rt s) ρ1
theorem tsj_ret {te : TE} {f : Evn → Res Sl} (h : TJ K mg E te f) : TSJ K mg E (tRet te) (fRet f) := by
  intro W F H σ ρ D L S hW
  exact h.run L S (fun _ _ _ h => h.fly L) hW fun s ρ1 x F1 H1 L1 S1 hW1 => hW1 x σ F1 H1 L1 S1
def fRetN (ρ : Evn) : Res Fl := .ok (.rt (.fr .none)) ρ
theorem tsj_retN : TSJ K mg E tRetN fRetN := fun W F H σ ρ D L S hW => hW .non σ F H ⟨L.s, L.r, rfl⟩ (S4.push_non S)
def fIfS (c : Evn → Res Bool) (f g : Evn → Res Fl) (ρ : Evn) : Res Fl := (c ρ).bind fun b ρ1 => if b then f ρ1 else g ρ1
theorem tsj_if {tc : TT} {t u : TS} {c : Evn → Res Bool} {f g : Evn → Res Fl} (hc : TTJ K mg E tc c) (h1 : TSJ K mg E t f) (h2 : TSJ K mg E u g) : TSJ K mg E (tIfS tc t u) (fIfS c f g) := by
  intro W F H σ ρ D L S hW
  refine hc.run L S (fun _ _ _ h => h.fly L) hW fun b ρ1 F1 H1 L1 S1 hW1 => ?_
  cases b with
  | true => exact h1 W F1 H1 σ ρ1 D L1 S1 hW1
  | false => exact h2 W F1 H1 σ ρ1 D L1 S1 hW1
def fBrk (ρ : Evn) : Res Fl := .ok .bk ρ
def fCt (ρ : Evn) : Res Fl := .ok .ct ρ
theorem tsj_break : TSJ K mg E tBreak fBrk := fun W F H σ ρ D L S hW => hW σ F H L S
theorem tsj_cont : TSJ K mg E tCont fCt := fun W F H σ ρ D L S hW => hW σ F H L S
theorem Ln.set (L : Ln W σ tv ρ tr) {x : Option V} {y : Option Sl} : Ln W (σ.set i x) tv (ρ.set i y) tr := ⟨by simp [L.s], by simp [L.r], L.t⟩
/-- a slot is given what is made: frozen, or held alone -/
def put1 (i : Nat) (ρ : Evn) : Sl → Res Fl
  | .fr d => if i < ρ.length then .ok .nx (ρ.set i (some (.fr d))) else .bad
  | .ow c => if i < ρ.length then .ok .nx (ρ.set i (some (.ow c))) else .bad
  | .br j => match frz ρ (.br j) with
    | some (d, ρ1) => if i < ρ1.length then .ok .nx (ρ1.set i (some (.fr d))) else .bad
    | none => .bad
  | .io _ _ => .bad
def fAsg (i : Nat) (f : Evn → Res Sl) (ρ : Evn) : Res Fl := (f ρ).bind fun s ρ1 => put1 i ρ1 s
theorem S4.nobr (L : Ln W σ [] ρ []) (S : S4 K W F H σ [] ρ []) : ∀ (k j : Nat), ρ[k]? ≠ some (some (Sl.br j)) := fun k j e => by
  have hk := (List.getElem?_eq_some_iff.mp e).1
  have h := (S.br k j (by rw [List.append_nil]; exact e)).1
  have := L.r
  omega
theorem put1_ok {D : Ends} {Fl : Str → PyData → Evn → Prop} (L : Ln W σ [some v] ρ [some s]) (S : S4 K W F H σ [some v] ρ [some s]) (h : Wants Fl (EndsOk K W D) (put1 i ρ s)) : D.nx (σ.set i (some v)) H := by
  have La : Ln W σ [] ρ [] := L.cut (tv := []) (tr := []) (us := [some v]) (ss := [some s]) (by simp)
  have Sa : S4 K W F H σ [] ρ [] := S4.cut (tv := []) (tr := []) L S (by simp)
  unfold put1 at h
  split at h
  · rename_i d
    split at h
    · rename_i hi
      exact h _ F H La.set (S4.set_fr La Sa (S4.top_fr (tv := []) (tr := []) L S) hi)
    · exact h.elim
  · rename_i c
    split at h
    · rename_i hi
      refine h _ F H La.set ?_
      have := SR.set_ow S (i := i) (by have := L.r; omega) (by rw [← L.r]; exact hi) (S4.nobr La Sa)
      show SR _ _ _ _ _ _ _ (_ ++ []) (_ ++ [])
      rw [List.append_nil, List.append_nil]
      exact this
    · exact h.elim
  · rename_i j
    split at h
    · rename_i d ρ1 e
      split at h
      · rename_i hi
        obtain ⟨F', _, S'⟩ := S4.frz (tv := []) (tr := []) La S e
        have L' : Ln W σ [some v] ρ1 [some (.fr d)] := L.next S' (by simp)
        have Lb : Ln W σ [] ρ1 [] := L'.cut (tv := []) (tr := []) (us := [some v]) (ss := [some (.fr d)]) (by simp)
        exact h _ F' H Lb.set (S4.set_fr Lb (S4.cut (tv := []) (tr := []) L' S' (by simp)) (S4.top_fr (tv := []) (tr := []) L' S') hi)
      · exact h.elim
    · exact h.elim
  · exact h.elim
theorem tsj_asg {te : TE} {f : Evn → Res Sl} (h : TJ K mg E te f) : TSJ K mg E (tAsg te (gName i)) (fAsg i f) := by
  intro W F H σ ρ D L S hW
  refine h.run L S (fun _ _ _ h => h.fly L) hW fun s ρ1 x F1 H1 L1 S1 hW1 => ?_
  exact put1_ok L1 S1 hW1
/-- (a, b, ..) = e, e a tuple of frozen data -/
def fUnp (g : D → Evn → Option Evn) (f : Evn → Res Sl) (ρ : Evn) : Res Fl := (fFz f ρ).bind fun s ρ1 => match s with
  | .fr d => match g d ρ1 with
    | some ρ2 => .ok .nx ρ2
    | none => .bad
  | _ => .bad
theorem tsj_unp {te : TE} {g : TG} {is : List Nat} {gf : D → Evn → Option Evn} {f : Evn → Res Sl} (h : TJ K mg E te f) (hg : TGJ Dt K g is gf) : TSJ K mg E (tAsg te g) (fUnp gf f) := by
  intro W F H σ ρ D L S hW
  refine (tj_fz h).run L S (fun _ _ _ h => h.fly L) hW fun s ρ1 x F1 H1 L1 S1 hW1 => ?_
  split at hW1
  · rename_i d
    split at hW1
    · rename_i ρ2 e
      have La : Ln W σ [] ρ1 [] := L1.cut (tv := []) (tr := []) (us := [some x]) (ss := [some (.fr d)]) (by simp)
      exact hg W F1 H1 σ [] ρ1 [] x d ρ2 _ La (S4.cut (tv := []) (tr := []) L1 S1 (by simp)) (S4.top_fr (tv := []) (tr := []) L1 S1) e fun σ' _ L' S' => hW1 σ' F1 H1 L' S'
    · exact hW1.elim
  · exact hW1.elim
/-- x op= e, x frozen -/
def fAug (i : Nat) (op : D → D → Option Sl) (f : Evn → Res Sl) (ρ : Evn) : Res Fl := match ρ[i]? with
  | some (some (.fr d0)) => (f ρ).bind fun s ρ1 => match rd ρ1 s with
    | some d1 => match op d0 d1 with
      | some (.fr d2) => if i < ρ1.length then .ok .nx (ρ1.set i (some (.fr d2))) else .bad
      | _ => .bad
    | none => .bad
  | _ => .bad
theorem tsj_aug {te : TE} {ti : TIp} {f : Evn → Res Sl} {op : D → D → Option Sl} (hr : VR2 K ti op) (h : TJ K mg E te f) : TSJ K mg E (tAug i te ti) (fAug i op f) := by
  intro W F H σ ρ D L S hW
  unfold fAug at hW
  split at hW
  · rename_i d0 e0
    have hi := (List.getElem?_eq_some_iff.mp e0).1
    obtain ⟨x, h1, h2⟩ := S.fr i d0 (by rw [List.append_nil]; exact e0)
    rw [List.append_nil] at h1
    refine ⟨x, h1, ?_⟩
    have Sx : S4 K W F H σ [some x] ρ [some (.fr d0)] := S4.result (tv := []) (tr := []) (s := .fr d0) S (.refl S.fh) h2
    have Lx : Ln W σ [some x] ρ [some (.fr d0)] := ⟨L.s, L.r, rfl⟩
    refine h.run Lx Sx (fun _ _ _ h => (h.fly L).push L (us := [some x]) (ss := [some (Sl.fr d0)]) (by simp)) hW fun s ρ1 y F1 H1 L1 S1 hW1 => ?_
    split at hW1
    · rename_i d1 e1
      split at hW1
      · rename_i d2 e2
        split at hW1
        · rename_i hi1
          have Lb : Ln W σ [some x] ρ1 [some (Sl.fr d0)] := L1.cut (tv := [some x]) (tr := [some (Sl.fr d0)]) (by simp)
          have Sb : S4 K W F1 H1 σ [some x] ρ1 [some (Sl.fr d0)] := S4.cut L1 S1 (by simp)
          have La : Ln W σ [] ρ1 [] := Lb.cut (tv := []) (tr := []) (us := [some x]) (ss := [some (Sl.fr d0)]) (by simp)
          have Sa : S4 K W F1 H1 σ [] ρ1 [] := S4.cut (tv := []) (tr := []) Lb Sb (by simp)
          have r1 : RepC K F1 H1 y d1 := S4.read Lb (us := []) (ss := []) (by simpa using S1) e1
          refine hr F1 H1 x y d0 d1 _ _ Sa.fh (.inl (S4.top_fr (tv := []) (tr := []) Lb Sb)) r1 e2 fun z F2 H2 g ok => ?_
          exact hW1 _ F2 H2 La.set (S4.set_fr La (SR.grow Sa g) ok hi1)
        · exact hW1.elim
      · exact hW1.elim
    · exact hW1.elim
  · exact hW.elim
/-- xs[e] = x, xs held alone -/
def fSetAt (i : Nat) (f g : Evn → Res Sl) (ρ : Evn) : Res Fl := (fFz f ρ).bind fun s ρ1 => match ρ1[i]? with
  | some (some t) => match t.own with
    | some _ => (g ρ1).bind fun s2 ρ2 => match s, s2, ρ2[i]? with
      | .fr d, .fr (.int k), some (some t2) => match t2.own with
        | some (.lst ds) => if 0 ≤ k ∧ k < (ds.length : Int) then .ok .nx (ρ2.set i (some (t2.put (.lst (ds.set k.toNat d))))) else .bad
        | _ => .bad
      | _, _, _ => .bad
    | none => .bad
  | _ => .bad
theorem tsj_setAt {te tx : TE} {f g : Evn → Res Sl} (hf : TJ K mg E te f) (hg : TJ K mg E tx g) : TSJ K mg E (tAsg te (gSub (tVar i) tx rSetL)) (fSetAt i f g) := by
  intro W F H σ ρ D L S hW
  refine (tj_fz hf).run L S (fun _ _ _ h => h.fly L) hW fun s ρ1 x F1 H1 L1 S1 hW1 => ?_
  split at hW1
  · rename_i t e
    split at hW1
    · rename_i c ho
      obtain ⟨p, h1, _⟩ := S4.own_at L1 S1 e ho
      refine ⟨.ref p, h1, ?_⟩
      refine hg.run L1 S1 (fun _ _ _ h => (h.fly L).push L (us := [some x]) (ss := [some s]) (by simp)) hW1 fun s2 ρ2 y F2 H2 L2 S2 hW2 => ?_
      split at hW2
      · rename_i d k t2 e2
        split at hW2
        · rename_i ds ho2
          split at hW2
          · rename_i hk
            have Lb := L2.cut (tv := [some x]) (tr := [some (Sl.fr d)]) (us := [some y]) (ss := [some (Sl.fr (.int k))]) (by simp)
            have Sb : S4 K W F2 H2 σ [some x] ρ2 [some (Sl.fr d)] := S4.cut L2 S2 (by simp)
            have La : Ln W σ [] ρ2 [] := Lb.cut (tv := []) (tr := []) (us := [some x]) (ss := [some (Sl.fr d)]) (by simp)
            have Sa : S4 K W F2 H2 σ [] ρ2 [] := S4.cut (tv := []) (tr := []) Lb Sb (by simp)
            have hy : y = .int k := by
              cases S4.top_fr (tv := [some x]) (tr := [some (Sl.fr d)]) L2 S2
              rfl
            have hx := S4.top_fr (tv := []) (tr := []) Lb Sb
            obtain ⟨p2, g1, g2, ws, g3, g4⟩ := S4.own_at La Sa e2 ho2
            rw [h1] at g1
            cases g1
            have hl := dpAll_len g4
            refine ⟨p, ws, k, k.toNat, rfl, hy, g3, ?_, hW2 σ F2 _ ⟨La.s, by rw [List.length_set]; exact La.r, rfl⟩ ?_⟩
            · unfold ixN
              rw [if_pos hk.1, if_pos (by omega)]
            · exact S4.mut La Sa e2 ho2 h1 (fun a ha => upd_ne ha) ⟨_, upd_same, dpAll_set _ g4 hx⟩
          · exact hW2.elim
        · exact hW2.elim
      · exact hW2.elim
    · exact hW1.elim
  · exact hW1.elim
end
end DL

namespace DL
open PySem PySem.Spec PyProof.Rows L2

section
variable {K : PySem.W.Frag} {mg : Str → Option Value} {E : XW} {W : Wd} {F0 B F H F' H' : Hp} {σ tv us vs : L2.St} {ρ ρ' tr ss : Evn} {v : V} {d : D} {s : Sl} {c c' : Cn} {p : Addr} {i : Nat} {α β : Type}

/-! ### for -/
def fLoop (g : D → Evn → Option Evn) (f : Evn → Res Fl) : List D → Evn → Res Fl
  | [], ρ => .ok .nx ρ
  | d :: r, ρ => match g d ρ with
    | none => .bad
    | some ρ1 => (f ρ1).bind fun fl ρ2 => match fl with
      | .nx => fLoop g f r ρ2
      | .ct => fLoop g f r ρ2
      | .bk => .ok .nx ρ2
      | .rt s => .ok (.rt s) ρ2
def fFor (it : Evn → Res (List D)) (g : D → Evn → Option Evn) (f : Evn → Res Fl) (ρ : Evn) : Res Fl := (it ρ).bind fun ds ρ1 => fLoop g f ds ρ1
def Wd.rebase (W : Wd) (F : Hp) : Wd := { W with F0 := F }
theorem S4.rebase (S : S4 K W F H σ tv ρ tr) : S4 K (W.rebase F) F H σ tv ρ tr := SR.rebase S
theorem S4.unbase {F1 H1 : Hp} {σ1 tv1 : L2.St} {ρ1 tr1 : Evn} (S0 : S4 K W F1 H1 σ1 tv1 ρ1 tr1) (S : S4 K (W.rebase F1) F H σ tv ρ tr) : S4 K W F H σ tv ρ tr := SR.unbase S0 S
theorem tsj_for {Re : Rl} {wi : TI} {g : TG} {tb : TS} {it : Evn → Res (List D)} {is : List Nat} {gf : D → Evn → Option Evn} {f : Evn → Res Fl} (hi : TIJ Re K mg E wi it) (hg : TGJ Re K g is gf) (hb : TSJ K mg E tb f) : TSJ K mg E (tFor wi g tb) (fFor it gf f) := by
  intro W F H σ ρ D L S hW
  refine hi W F H σ [] ρ [] _ L S ?_
  unfold fFor at hW
  cases e : it ρ with
  | bad => rw [e] at hW; exact hW
  | exc c d ρ' => rw [e] at hW; exact hW.fly L
  | ok ds ρ1 =>
    rw [e] at hW
    have hW : Wants (FlyS K mg E W) (EndsOk K W D) (fLoop gf f ds ρ1) := hW
    intro J F1 H1 S1 walk
    refine ⟨fun i m σ' H' => m = ds.length - i ∧ i ≤ ds.length ∧ ∃ F2 ρ2, Ln W σ' [] ρ2 [] ∧ S4 K (W.rebase F1) F2 H' σ' [] ρ2 [] ∧ Wants (FlyS K mg E W) (EndsOk K W D) (fLoop gf f (ds.drop i) ρ2),
      ⟨ds.length, by omega, by omega, F1, ρ1, L.next S1 rfl, S1.rebase, by simpa using hW⟩, ?_⟩
    rintro i m σ2 H2 ⟨rfl, hle, F2, ρ2, L2, S2, hW2⟩
    have hw := walk i F2 H2 S2.f0 S2.fh
    by_cases hlt : i < ds.length
    · have ed : ds.drop i = ds[i] :: ds.drop (i + 1) := List.drop_eq_getElem_cons hlt
      rw [ed] at hW2
      obtain ⟨go, yld⟩ := hw.1 ds[i] (List.getElem?_eq_getElem hlt)
      refine .inr ⟨go, fun σ' H' => ∃ F3 ρ3, Ln W σ' [] ρ3 [] ∧ S4 K (W.rebase F1) F3 H' σ' [] ρ3 [] ∧ Wants (FlyS K mg E W) (EndsOk K W D) (fLoop gf f (ds.drop (i + 1)) ρ3),
        fun σ' H' ⟨F3, ρ3, h1, h2, h3⟩ => ⟨ds.length - (i + 1), by omega, rfl, hlt, F3, ρ3, h1, h2, h3⟩, fun x H' hy => ?_⟩
      obtain ⟨F3, gr, hx⟩ := yld x H' hy
      have S3 : S4 K (W.rebase F1) F3 H' σ2 [] ρ2 [] := SR.grow S2 gr
      unfold fLoop at hW2
      cases eg : gf ds[i] ρ2 with
      | none => rw [eg] at hW2; exact hW2.elim
      | some ρ3 =>
        rw [eg] at hW2
        refine hg (W.rebase F1) F3 H' σ2 [] ρ2 [] x ds[i] ρ3 _ ⟨L2.s, L2.r, L2.t⟩ S3 hx eg fun σ3 _ L3 S3' => ?_
        refine hb (W.rebase F1) F3 H' σ3 ρ3 _ L3 S3' ?_
        have hW2 : Wants (FlyS K mg E W) (EndsOk K W D) ((f ρ3).bind fun fl ρ2 => match fl with
          | .nx => fLoop gf f (ds.drop (i + 1)) ρ2
          | .ct => fLoop gf f (ds.drop (i + 1)) ρ2
          | .bk => .ok .nx ρ2
          | .rt s => .ok (.rt s) ρ2) := hW2
        have flyR : ∀ {c : Str} {d : PyData} {ρ' : Evn}, FlyS K mg E W c d ρ' → FlyS K mg E (W.rebase F1) c d ρ' := fun h C dx v F' H' σ' h1 h2 h3 h4 h5 => h C dx v F' H' σ' h1 h2 h3 h4 (S1.unbase h5)
        cases ef : f ρ3 with
        | bad => rw [ef] at hW2; exact hW2
        | exc c d ρ' => rw [ef] at hW2; exact flyR hW2
        | ok fl ρ4 =>
          rw [ef] at hW2
          cases fl with
          | nx => exact fun σ' F' H' L' S' => ⟨F', ρ4, ⟨L'.s, L'.r, L'.t⟩, S', hW2⟩
          | ct => exact fun σ' F' H' L' S' => ⟨F', ρ4, ⟨L'.s, L'.r, L'.t⟩, S', hW2⟩
          | bk => exact fun σ' F' H' L' S' => hW2 σ' F' H' ⟨L'.s, L'.r, L'.t⟩ (S1.unbase S')
          | rt s => exact fun v σ' F' H' L' S' => hW2 v σ' F' H' ⟨L'.s, L'.r, L'.t⟩ (S1.unbase S')
    · have ei : i = ds.length := by omega
      refine .inl ⟨hw.2 (by omega), ?_⟩
      rw [List.drop_eq_nil_of_le (by omega)] at hW2
      exact hW2 σ2 F2 H2 L2 (S1.unbase S2)

/-! ### while -/
def fWhile : Nat → (Evn → Res Bool) → (Evn → Res Fl) → Evn → Res Fl
  | 0, _, _, _ => .bad
  | n + 1, c, f, ρ => (c ρ).bind fun b ρ1 => if b then (f ρ1).bind fun fl ρ2 => match fl with
      | .nx => fWhile n c f ρ2
      | .ct => fWhile n c f ρ2
      | .bk => .ok .nx ρ2
      | .rt s => .ok (.rt s) ρ2
    else .ok .nx ρ1
theorem tsj_while {tc : TT} {tb : TS} {c : Evn → Res Bool} {f : Evn → Res Fl} (n : Nat) (hc : TTJ K mg E tc c) (hb : TSJ K mg E tb f) : TSJ K mg E (tWhile tc tb) (fWhile n c f) := by
  intro W F H σ ρ D L S hW
  refine ⟨fun m σ' H' => ∃ F2 ρ2, Ln W σ' [] ρ2 [] ∧ S4 K W F2 H' σ' [] ρ2 [] ∧ Wants (FlyS K mg E W) (EndsOk K W D) (fWhile m c f ρ2), ⟨n, F, ρ, L, S, hW⟩, ?_⟩
  rintro m σ2 H2 ⟨F2, ρ2, L2, S2, hW2⟩
  cases m with
  | zero => exact hW2.elim
  | succ m =>
    refine hc.run L2 S2 (fun _ _ _ h => h.fly L2) (show Wants (FlyS K mg E W) (EndsOk K W D) _ from hW2) fun b ρ3 F3 H3 L3 S3 hW3 => ?_
    cases b with
    | false => exact hW3 σ2 F3 H3 L3 S3
    | true =>
      refine ⟨fun σ' H' => ∃ F4 ρ4, Ln W σ' [] ρ4 [] ∧ S4 K W F4 H' σ' [] ρ4 [] ∧ Wants (FlyS K mg E W) (EndsOk K W D) (fWhile m c f ρ4), fun σ' H' h => ⟨m, by omega, h⟩, ?_⟩
      refine hb W F3 H3 σ2 ρ3 _ L3 S3 ?_
      have hW3 : Wants (FlyS K mg E W) (EndsOk K W D) ((f ρ3).bind fun fl ρ2 => match fl with
          | .nx => fWhile m c f ρ2
          | .ct => fWhile m c f ρ2
          | .bk => .ok .nx ρ2
          | .rt s => .ok (.rt s) ρ2) := hW3
      cases ef : f ρ3 with
      | bad => rw [ef] at hW3; exact hW3
      | exc c d ρ' => rw [ef] at hW3; exact hW3
      | ok fl ρ4 =>
        rw [ef] at hW3
        cases fl with
        | nx => exact fun σ' F' H' L' S' => ⟨F', ρ4, L', S', hW3⟩
        | ct => exact fun σ' F' H' L' S' => ⟨F', ρ4, L', S', hW3⟩
        | bk => exact hW3
        | rt s => exact hW3

/-! ### a list comprehension -/
def wipeE (ρ : Evn) : List Nat → Evn
  | [] => ρ
  | k :: ks => (wipeE ρ ks).set k none
theorem wipeE_len : ∀ (ks : List Nat), (wipeE ρ ks).length = ρ.length
  | [] => rfl
  | k :: ks => by unfold wipeE; rw [List.length_set, wipeE_len ks]
theorem S4.wipe (L : Ln W σ tv ρ tr) (S : S4 K W F H σ tv ρ tr) : ∀ (ks : List Nat), (∀ k ∈ ks, k < W.N) → S4 K W F H (wipe σ ks) tv (wipeE ρ ks) tr
  | [], _ => S
  | k :: ks, h => by
    have S' := S4.wipe L S ks fun j hj => h j (List.mem_cons_of_mem _ hj)
    have hk := h k List.mem_cons_self
    have := SR.forget S' (i := k)
    rw [List.set_append_left _ _ (by rw [wipe_length, L.s]; exact hk), List.set_append_left _ _ (by rw [wipeE_len, L.r]; exact hk)] at this
    exact this
theorem Ln.wipe (L : Ln W σ tv ρ tr) (ks : List Nat) : Ln W (wipe σ ks) tv (wipeE ρ ks) tr := ⟨by rw [wipe_length]; exact L.s, by rw [wipeE_len]; exact L.r, L.t⟩
/-- the block's own slots as they stood ahead of it -/
def backE (ρ ρw : Evn) : List Nat → Evn
  | [] => ρw
  | k :: ks => (backE ρ ρw ks).set k (match ρ[k]? with
    | some (some (.fr d)) => some (.fr d)
    | _ => none)
theorem backE_len {ρw : Evn} : ∀ (ks : List Nat), (backE ρ ρw ks).length = ρw.length
  | [] => rfl
  | k :: ks => by unfold backE; rw [List.length_set, backE_len ks]
def backS (σ σw : L2.St) : List Nat → L2.St
  | [] => σw
  | k :: ks => (backS σ σw ks).set k (σ[k]?.getD none)
theorem backS_len {σw : L2.St} : ∀ (ks : List Nat), (backS σ σw ks).length = σw.length
  | [] => rfl
  | k :: ks => by unfold backS; rw [List.length_set, backS_len ks]
theorem wipe_get {σ : L2.St} {j : Nat} : ∀ {ks : List Nat}, j ∉ ks → (wipe σ ks)[j]? = σ[j]?
  | [], _ => rfl
  | k :: ks, h => by
    simp only [List.mem_cons, not_or] at h
    unfold wipe
    rw [List.getElem?_set_ne fun z => h.1 z.symm]
    exact wipe_get h.2
theorem backS_eq {σ : L2.St} (ks : List Nat) (h : ∀ k ∈ ks, k < σ.length) : ∀ {js : List Nat}, (∀ k, k ∈ ks → k ∈ js ∨ False) → backS σ (wipe σ ks) js = σ := fun {js} hj => by
  have key : ∀ (js : List Nat) (j : Nat), (backS σ (wipe σ ks) js)[j]? = if j ∈ js then σ[j]? else (wipe σ ks)[j]? := by
    intro js
    induction js with
    | nil => intro j; simp [backS]
    | cons k js ih =>
      intro j
      unfold backS
      by_cases e : j = k
      · subst e
        by_cases hl : j < σ.length
        · rw [List.getElem?_set_self (by rw [backS_len, wipe_length]; exact hl)]
          simp [List.getElem?_eq_getElem hl]
        · rw [List.getElem?_eq_none (by rw [List.length_set, backS_len, wipe_length]; omega)]
          simp [List.getElem?_eq_none (Nat.le_of_not_lt hl)]
      · rw [List.getElem?_set_ne fun z => e z.symm, ih j]
        simp [e]
  apply List.ext_getElem?
  intro j
  rw [key js j]
  by_cases hm : j ∈ js
  · rw [if_pos hm]
  · rw [if_neg hm]
    exact wipe_get fun z => (hj j z).elim hm id
theorem S4.back {F1 H1 : Hp} {ρ1 tr1 : Evn} {tv1 σw : L2.St} {ρw : Evn} (L1 : Ln W σ tv1 ρ1 tr1) (S1 : S4 K W F1 H1 σ tv1 ρ1 tr1) (Lw : Ln W σw tv ρw tr) (S : S4 K (W.rebase F1) F H σw tv ρw tr) :
    ∀ (ks : List Nat), (∀ k ∈ ks, k < W.N) → S4 K (W.rebase F1) F H (backS σ σw ks) tv (backE ρ1 ρw ks) tr
  | [], _ => S
  | k :: ks, h => by
    have hk := h k List.mem_cons_self
    have S' := S4.back L1 S1 Lw S ks fun j hj => h j (List.mem_cons_of_mem _ hj)
    have L' : Ln (W.rebase F1) (backS σ σw ks) tv (backE ρ1 ρw ks) tr := ⟨by rw [backS_len]; exact Lw.s, by rw [backE_len]; exact Lw.r, Lw.t⟩
    unfold backS backE
    have lose : ∀ {x : Option V}, S4 K (W.rebase F1) F H ((backS σ σw ks).set k x) tv ((backE ρ1 ρw ks).set k none) tr := fun {x} => by
      have S0 := SR.forget S' (i := k)
      rw [List.set_append_left _ _ (by rw [backS_len, Lw.s]; exact hk), List.set_append_left _ _ (by rw [backE_len, Lw.r]; exact hk)] at S0
      have lt : k < (backS σ σw ks).length := by rw [backS_len, Lw.s]; exact hk
      have hole : ∀ (t : Option Sl), (((backE ρ1 ρw ks).set k none) ++ tr)[k]? = some t → t = none := fun t e => by
        rw [List.getElem?_append_left (by rw [List.length_set, backE_len, Lw.r]; exact hk), List.getElem?_set_self (by rw [backE_len, Lw.r]; exact hk)] at e
        exact (Option.some.inj e).symm
      have eqσ : ∀ {j : Nat}, j ≠ k → (((backS σ σw ks).set k x) ++ tv)[j]? = (((backS σ σw ks).set k none) ++ tv)[j]? := fun {j} hj => by
        by_cases hl : j < (backS σ σw ks).length
        · rw [List.getElem?_append_left (by simpa using hl), List.getElem?_append_left (by simpa using hl), List.getElem?_set_ne (Ne.symm hj), List.getElem?_set_ne (Ne.symm hj)]
        · rw [List.getElem?_append_right (by simpa using hl), List.getElem?_append_right (by simpa using hl)]
          simp
      have ne : ∀ {j : Nat} {t : Sl}, (((backE ρ1 ρw ks).set k none) ++ tr)[j]? = some (some t) → j ≠ k := fun {j t} e z => by
        subst z
        exact nomatch hole _ e
      refine ⟨by simp [backS_len, backE_len, Lw.s, Lw.r, Lw.t], S0.fh, S0.f0, S0.fn, S0.bh, S0.bs, fun j d e => ?_, fun j c e => ?_, fun j q c e => ?_, fun j q e => ?_, fun j q a b pp e1 e2 o1 o2 e3 e4 => ?_⟩
      · rw [eqσ (ne e)]; exact S0.fr j d e
      · rw [eqσ (ne e)]; exact S0.ow j c e
      · rw [eqσ (ne e)]; exact S0.io j q c e
      · obtain ⟨q1, q2, q3⟩ := S0.br j q e
        refine ⟨q1, q2, fun t et ot => ?_⟩
        rw [eqσ (ne e), eqσ (ne et)]; exact q3 t et ot
      · rw [eqσ (ne e1)] at e3
        rw [eqσ (ne e2)] at e4
        exact S0.sep j q a b pp e1 e2 o1 o2 e3 e4
    cases e : ρ1[k]? with
    | none => exact lose
    | some o =>
      cases o with
      | none => exact lose
      | some t =>
        cases t with
        | ow c => exact lose
        | io j c => exact lose
        | br j => exact lose
        | fr d =>
          obtain ⟨v, h1, h2⟩ := S1.fr k d (by rw [List.getElem?_append_left (List.getElem?_eq_some_iff.mp e).1]; exact e)
          rw [List.getElem?_append_left (by rw [L1.s]; exact hk)] at h1
          rw [h1]
          exact S4.set_fr L' S' (dp_mono S.f0 _ _ h2) (by rw [backE_len, Lw.r]; exact hk)

/-- the turns: the target, the test, the element (frozen) -/
def fTurns (ks : List Nat) (g : D → Evn → Option Evn) (c : Evn → Res Bool) (f : Evn → Res Sl) : List D → List D → Evn → Res (List D)
  | [], acc, ρ => .ok acc ρ
  | d :: r, acc, ρ => match g d ρ with
    | none => .bad
    | some ρ1 => (c ρ1).bind fun b ρ2 => if b then (fFz f ρ2).bind fun s ρ3 => match s with
        | .fr x => fTurns ks g c f r (acc ++ [x]) (wipeE ρ3 ks)
        | _ => .bad
      else fTurns ks g c f r acc (wipeE ρ2 ks)
def noExc (r : Res α) : Res α := match r with
  | .ok a ρ => .ok a ρ
  | _ => .bad
theorem Res.bind_assoc {γ : Type} (r : Res α) (k : α → Evn → Res β) (l : β → Evn → Res γ) : (r.bind k).bind l = r.bind fun a ρ => (k a ρ).bind l := by cases r <;> rfl
theorem wants_noExc {Fl Fl' : Str → D → Evn → Prop} {P : β → Evn → Prop} {r : Res α} {k : α → Evn → β} {e : α → Evn → Evn} (h : Wants Fl P ((noExc r).bind fun a ρ => .ok (k a ρ) (e a ρ))) : Wants Fl' P (r.bind fun a ρ => .ok (k a ρ) (e a ρ)) := by
  cases r with
  | ok a ρ => exact h
  | exc c d ρ => exact h.elim
  | bad => exact h.elim
def fLc (ks : List Nat) (it : Evn → Res (List D)) (g : D → Evn → Option Evn) (c : Evn → Res Bool) (f : Evn → Res Sl) (ρ : Evn) : Res Sl :=
  (it ρ).bind fun ds ρ1 => if ds.length ≤ 100000 ∧ ∀ k ∈ ks, k < ρ1.length then (noExc (fTurns ks g c f ds [] (wipeE ρ1 ks))).bind fun xs ρ2 => Res.ok (Sl.ow (.lst xs)) (backE ρ1 ρ2 ks) else .bad
theorem SR.mutTop {ds es : List D} {ws : List V} (L : Ln W σ (tv ++ [some (.ref p)]) ρ (tr ++ [some (.ow (.lst ds))])) (S : S4 K W F H σ (tv ++ [some (.ref p)]) ρ (tr ++ [some (.ow (.lst ds))])) (hw : DtAll K F ws es) :
    S4 K W F (upd H p (.lst ws)) σ (tv ++ [some (.ref p)]) ρ (tr ++ [some (.ow (.lst es))]) := by
  have l1 := L.s
  have l2 := L.r
  have l3 := L.t
  simp at l3
  have top : (ρ ++ (tr ++ [some (Sl.ow (.lst ds))]))[ρ.length + tr.length]? = some (some (Sl.ow (.lst ds))) := by
    rw [List.getElem?_append_right (by omega), List.getElem?_append_right (by omega)]
    simp
  have topσ : (σ ++ (tv ++ [some (V.ref p)]))[ρ.length + tr.length]? = some (some (V.ref p)) := by
    have e : ρ.length + tr.length = σ.length + tv.length := by omega
    rw [e, List.getElem?_append_right (by omega), List.getElem?_append_right (by omega)]
    simp
  have := SR.mut S top (c := .lst ds) rfl topσ (H' := upd H p (.lst ws)) (c' := .lst es) (fun a ha => upd_ne ha) ⟨ws, upd_same, hw⟩
  rw [List.set_append_right _ _ (by omega), List.set_append_right _ _ (by omega), show ρ.length + tr.length - ρ.length - tr.length = 0 by omega] at this
  exact this
theorem S4.top_ow {ds : List D} (L : Ln W σ (tv ++ [some v]) ρ (tr ++ [some (.ow (.lst ds))])) (S : S4 K W F H σ (tv ++ [some v]) ρ (tr ++ [some (.ow (.lst ds))])) : ∃ p vs, v = .ref p ∧ H p = some (.lst vs) ∧ DtAll K F vs ds ∧ F p = none := by
  have l1 := L.s
  have l2 := L.r
  have l3 := L.t
  simp at l3
  obtain ⟨p, h1, _, h3, vs, h4, h5⟩ := S.ow (ρ.length + tr.length) (.lst ds) (by
    rw [List.getElem?_append_right (by omega), List.getElem?_append_right (by omega)]
    simp)
  have e : ρ.length + tr.length = σ.length + tv.length := by omega
  rw [e, List.getElem?_append_right (by omega), List.getElem?_append_right (by omega)] at h1
  simp at h1
  exact ⟨p, vs, h1, h4, h5, h3⟩
theorem wipe_same {σ σ' : L2.St} {is ks : List Nat} (h : ∀ k, k ∉ is → σ'[k]? = σ[k]?) (hs : ∀ k ∈ is, k ∈ ks) (hl : σ'.length = σ.length) : wipe σ' ks = wipe σ ks := by
  have key : ∀ (τ : L2.St) (ks : List Nat) (j : Nat), (∀ k ∈ ks, k < τ.length ∨ True) → (wipe τ ks)[j]? = if j ∈ ks ∧ j < τ.length then some none else τ[j]? := by
    intro τ ks
    induction ks with
    | nil => intro j _; simp [wipe]
    | cons k ks ih =>
      intro j _
      unfold wipe
      by_cases e : j = k
      · subst e
        by_cases hl : j < τ.length
        · rw [List.getElem?_set_self (by rw [wipe_length]; exact hl)]
          simp [hl]
        · rw [List.getElem?_eq_none (by rw [List.length_set, wipe_length]; omega)]
          simp [hl, List.getElem?_eq_none (Nat.le_of_not_lt hl)]
      · rw [List.getElem?_set_ne fun z => e z.symm, ih j (fun _ _ => .inr trivial)]
        simp [e]
  apply List.ext_getElem?
  intro j
  rw [key σ' ks j (fun _ _ => .inr trivial), key σ ks j (fun _ _ => .inr trivial), hl]
  by_cases hj : j ∈ ks ∧ j < σ.length
  · rw [if_pos hj, if_pos hj]
  · rw [if_neg hj, if_neg hj]
    by_cases hi : j ∈ is
    · have : ¬ j < σ.length := fun z => hj ⟨hs j hi, z⟩
      rw [List.getElem?_eq_none (by omega), List.getElem?_eq_none (by omega)]
    · exact h j hi
theorem wipe_wipe {σ : L2.St} (ks : List Nat) : wipe (wipe σ ks) ks = wipe σ ks :=
  wipe_same (is := ks) (fun k hk => wipe_get hk) (fun _ h => h) (wipe_length _ _)
theorem tj_lc {Re : Rl} {wi : TI} {g : TG} {tt : TT} {te : TE} {ks is : List Nat} {it : Evn → Res (List D)} {gf : D → Evn → Option Evn} {c : Evn → Res Bool} {f : Evn → Res Sl} (hi : TIJ Re K mg E wi it) (hg : TGJ Re K g is gf) (hc : TTJ K mg (fun _ _ _ _ => False) tt c) (hf : TJ K mg (fun _ _ _ _ => False) te f) (hs : ∀ k ∈ is, k ∈ ks) : TJ K mg E (tLc wi g tt te ks) (fLc ks it gf c f) := by
  intro W F H σ tv ρ tr Q L S hW
  refine hi W F H σ tv ρ tr _ L S ?_
  unfold fLc at hW
  cases e : it ρ with
  | bad => rw [e] at hW; exact hW
  | exc c d ρ' => rw [e] at hW; exact hW
  | ok ds ρ1 =>
    rw [e] at hW
    have hW : Wants (Fly K mg E W σ tv tr) _ (if ds.length ≤ 100000 ∧ ∀ k ∈ ks, k < ρ1.length then (noExc (fTurns ks gf c f ds [] (wipeE ρ1 ks))).bind fun xs ρ2 => Res.ok (Sl.ow (.lst xs)) (backE ρ1 ρ2 ks) else .bad) := hW
    split at hW
    · rename_i hz
      obtain ⟨hz, hks⟩ := hz
      have hW := wants_noExc (Fl' := fun _ _ _ => False) hW
      intro J F1 H1 S1 walk Dn hDn
      have L1 : Ln W σ tv ρ1 tr := L.next S1 L.t
      have hks : ∀ k ∈ ks, k < W.N := fun k hk => by rw [← L1.r]; exact hks k hk
      refine ⟨fun i m H' => m = ds.length - i ∧ i ≤ ds.length ∧ ∃ F2 ρ2 acc, Ln W (wipe σ ks) (tv ++ [some (.ref Dn)]) ρ2 (tr ++ [some (.ow (.lst acc))]) ∧ S4 K (W.rebase F1) F2 H' (wipe σ ks) (tv ++ [some (.ref Dn)]) ρ2 (tr ++ [some (.ow (.lst acc))]) ∧ acc.length ≤ i ∧
          Wants (fun _ _ _ => False) (fun s ρ' => ∀ v F' H', S4 K W F' H' σ (tv ++ [some v]) ρ' (tr ++ [some s]) → Q v H') ((fTurns ks gf c f (ds.drop i) acc ρ2).bind fun xs ρ2 => Res.ok (Sl.ow (.lst xs)) (backE ρ1 ρ2 ks)),
        ⟨ds.length, by omega, by omega, F1, wipeE ρ1 ks, [], ?_, ?_, Nat.zero_le _, by simpa using hW⟩, ?_⟩
      · exact (Ln.wipe (tv := tv ++ [some (.ref Dn)]) (tr := tr ++ [some (.ow (.lst []))]) ⟨L1.s, L1.r, by simp [L1.t]⟩ ks)
      · have S2 : S4 K (W.rebase F1) F1 (upd H1 Dn (.lst [])) σ (tv ++ [some (.ref Dn)]) ρ1 (tr ++ [some (.ow (.lst []))]) :=
          S4.result S1.rebase (.laid S1.fh hDn) ⟨Dn, rfl, hDn, Same.free S1.fh hDn, [], upd_same, .nil⟩
        exact S4.wipe (W := W.rebase F1) ⟨L1.s, L1.r, by simp [L1.t]⟩ S2 ks hks
      · rintro i m H2 ⟨rfl, hle, F2, ρ2, acc, L2, S2, hacc, hW2⟩
        have hw := walk i F2 H2 S2.f0 S2.fh
        by_cases hlt : i < ds.length
        · have ed : ds.drop i = ds[i] :: ds.drop (i + 1) := List.drop_eq_getElem_cons hlt
          rw [ed] at hW2
          obtain ⟨go, yld⟩ := hw.1 ds[i] (List.getElem?_eq_getElem hlt)
          refine .inr ⟨go, fun H' => ∃ F2 ρ2 acc, Ln W (wipe σ ks) (tv ++ [some (.ref Dn)]) ρ2 (tr ++ [some (.ow (.lst acc))]) ∧ S4 K (W.rebase F1) F2 H' (wipe σ ks) (tv ++ [some (.ref Dn)]) ρ2 (tr ++ [some (.ow (.lst acc))]) ∧ acc.length ≤ i + 1 ∧
              Wants (fun _ _ _ => False) (fun s ρ' => ∀ v F' H', S4 K W F' H' σ (tv ++ [some v]) ρ' (tr ++ [some s]) → Q v H') ((fTurns ks gf c f (ds.drop (i + 1)) acc ρ2).bind fun xs ρ2 => Res.ok (Sl.ow (.lst xs)) (backE ρ1 ρ2 ks)),
            fun H' h => ⟨ds.length - (i + 1), by omega, rfl, hlt, h⟩, fun x H' hy => ?_⟩
          obtain ⟨F3, gr, hx⟩ := yld x H' hy
          have S3 : S4 K (W.rebase F1) F3 H' (wipe σ ks) (tv ++ [some (.ref Dn)]) ρ2 (tr ++ [some (.ow (.lst acc))]) := SR.grow S2 gr
          unfold fTurns at hW2
          cases eg : gf ds[i] ρ2 with
          | none => rw [eg] at hW2; exact hW2.elim
          | some ρ3 =>
            rw [eg] at hW2
            refine hg (W.rebase F1) F3 H' (wipe σ ks) _ ρ2 _ x ds[i] ρ3 _ ⟨L2.s, L2.r, L2.t⟩ S3 hx eg fun σ3 k3 L3 S3' => ?_
            have ew : wipe σ3 ks = wipe σ ks := by
              rw [wipe_same k3 hs (by rw [L3.s]; exact L2.s.symm), wipe_wipe]
            refine ⟨ew, ?_⟩
            have hW3 : Wants (fun _ _ _ => False) (fun s ρ' => ∀ v F' H', S4 K W F' H' σ (tv ++ [some v]) ρ' (tr ++ [some s]) → Q v H') (((c ρ3).bind fun b ρ2 => if b then (fFz f ρ2).bind fun s ρ3 => match s with
                | .fr x => fTurns ks gf c f (ds.drop (i + 1)) (acc ++ [x]) (wipeE ρ3 ks)
                | _ => .bad
              else fTurns ks gf c f (ds.drop (i + 1)) acc (wipeE ρ2 ks)).bind fun xs ρ2 => Res.ok (Sl.ow (.lst xs)) (backE ρ1 ρ2 ks)) := hW2
            rw [Res.bind_assoc] at hW3
            refine hc.run L3 S3' (fun _ _ _ h => h.elim) hW3 fun b ρ4 F4 H4 L4 S4' hW4 => ?_
            have fin : ∀ {F5 H5 : Hp} {ρ5 : Evn} {acc' : List D}, Ln (W.rebase F1) σ3 (tv ++ [some (.ref Dn)]) ρ5 (tr ++ [some (.ow (.lst acc'))]) → S4 K (W.rebase F1) F5 H5 σ3 (tv ++ [some (.ref Dn)]) ρ5 (tr ++ [some (.ow (.lst acc'))]) → acc'.length ≤ i + 1 →
                Wants (fun _ _ _ => False) (fun s ρ' => ∀ v F' H', S4 K W F' H' σ (tv ++ [some v]) ρ' (tr ++ [some s]) → Q v H') ((fTurns ks gf c f (ds.drop (i + 1)) acc' (wipeE ρ5 ks)).bind fun xs ρ2 => Res.ok (Sl.ow (.lst xs)) (backE ρ1 ρ2 ks)) →
                ∃ F2 ρ2 acc, Ln W (wipe σ ks) (tv ++ [some (.ref Dn)]) ρ2 (tr ++ [some (.ow (.lst acc))]) ∧ S4 K (W.rebase F1) F2 H5 (wipe σ ks) (tv ++ [some (.ref Dn)]) ρ2 (tr ++ [some (.ow (.lst acc))]) ∧ acc.length ≤ i + 1 ∧
                  Wants (fun _ _ _ => False) (fun s ρ' => ∀ v F' H', S4 K W F' H' σ (tv ++ [some v]) ρ' (tr ++ [some s]) → Q v H') ((fTurns ks gf c f (ds.drop (i + 1)) acc ρ2).bind fun xs ρ2 => Res.ok (Sl.ow (.lst xs)) (backE ρ1 ρ2 ks)) := by
              intro F5 H5 ρ5 acc' L5 S5 ha hW5
              refine ⟨F5, wipeE ρ5 ks, acc', ?_, ?_, ha, hW5⟩
              · have := L5.wipe ks
                rw [ew] at this
                exact ⟨this.s, this.r, this.t⟩
              · have := S4.wipe L5 S5 ks hks
                rw [ew] at this
                exact this
            cases b with
            | false => exact fin L4 S4' (by omega) hW4
            | true =>
              have hW4 : Wants (fun _ _ _ => False) (fun s ρ' => ∀ v F' H', S4 K W F' H' σ (tv ++ [some v]) ρ' (tr ++ [some s]) → Q v H') (((fFz f ρ4).bind fun s ρ3 => match s with
                | .fr x => fTurns ks gf c f (ds.drop (i + 1)) (acc ++ [x]) (wipeE ρ3 ks)
                | _ => .bad).bind fun xs ρ2 => Res.ok (Sl.ow (.lst xs)) (backE ρ1 ρ2 ks)) := hW4
              rw [Res.bind_assoc] at hW4
              refine (tj_fz hf).run L4 S4' (fun _ _ _ h => h.elim) hW4 fun s ρ5 y F5 H5 L5 S5 hW5 => ?_
              split at hW5
              · rename_i z
                have La := L5.cut (us := [some y]) (ss := [some (.fr z)]) (by simp)
                have Sa := S4.cut L5 S5 (by simp)
                obtain ⟨p, ws, e1, e2, e3, e4⟩ := S4.top_ow La Sa
                cases e1
                have hy := S4.top_fr L5 S5
                refine ⟨ws, e2, ?_, fin ⟨La.s, La.r, by simpa using La.t⟩ (SR.mutTop La Sa (dpAll_app e3 (.cons hy .nil))) (by simp; omega) hW5⟩
                rw [dpAll_len e3]
                exact line5' (by omega)
              · exact hW5.elim
        · have ei : i = ds.length := by omega
          refine .inl ⟨hw.2 (by omega), ?_⟩
          rw [List.drop_eq_nil_of_le (by omega)] at hW2
          have S3 := S4.back L1 S1 L2 S2 ks hks
          rw [backS_eq ks (fun k hk => by rw [L1.s]; exact hks k hk) (fun k hk => .inl hk)] at S3
          exact hW2 (.ref Dn) F2 H2 (S1.unbase S3)
    · exact hW.elim
end
end DL

/-! A def's promise as FnOk has it, for calls around which no repr is under way (repr asks that); calls by keywords alone. -/
namespace DL
open PySem PySem.Spec PyProof.Rows L2

structure RoomG (k : Nat) (A : Around) : Prop where
  r : Room k A
  g : A.guards = some []
theorem RoomG.mono {j k : Nat} {A : Around} (x : RoomG k A) (h : j ≤ k) : RoomG j A := ⟨x.r.mono h, x.g⟩
theorem RoomG.deeper {k : Nat} {A : Around} (x : RoomG (k + 1) A) (env : PySem.Env) : RoomG k (A.deeper env) := ⟨x.r.deeper env, x.g⟩
theorem RoomG.units {k : Nat} {A : Around} (x : RoomG k A) : A.units + 64 < cLine := by
  have := x.r.un
  omega
/-- what a def promises -/
structure FnG (P : Program) (w : World) (K : PySem.W.Frag) (mg : Str → Option Value) (base : Heap) (CX : CXT) (k : Nat) (f : Addr) (fd : FuncData) (ps : List Str) (sp : Sp) : Prop where
  len : ∀ vs H Q E, sp vs H Q E → vs.length = ps.length
  run : ∀ (A : Around) (outer : List PySem.Env) (s : Shared) (H : Hp) (args : Args) (us : List Value) (vs : List V) (Q : VK) (E : XK), RoomG k A → Env0 P w K mg base A outer s H → BindsTo s fd args (ps.zip us) → Vals vs us → sp vs H Q E →
    codeAny (model P w) A (.call (.ref f) args) (CR CX outer P w H s Q E) s

section
variable {P : Program} {w : World} {K : PySem.W.Frag} {mg : Str → Option Value} {base : Heap} {CX : CXT} {k : Nat}
/-- a def by its body -/
theorem fn_ofG {f : Addr} {name qual : Str} {params : Arguments} {body : List Stmt} {scope : Scope} {dV kV doc pm cdv ct oc : Value} {an od : Option Addr} {osl : Array (Option Value)} {N ps : List Str} {sp : Sp}
    (lk : K.lookup f = some ⟨oc, od, .func (PySem.W.fnOf name qual params body scope dV kV doc pm an cdv ct), osl⟩) (hcd : PySem.W.codeIn K cdv qual = true) (S : FnScope N ps scope) (len : ∀ vs H Q E, sp vs H Q E → vs.length = ps.length)
    (hbody : ∀ (A : Around) (outer : List PySem.Env) (s : Shared) (H : Hp) (vs : List V) (Q : VK) (E : XK), RoomG k (A.deeper (envOfC qual scope s.heap.objs.size f cdv)) → sp vs H Q E →
      ∃ t, PSs (cxOf CX P w K mg base N qual scope f cdv A outer s H E) body t ∧ t { nx := fun _ H' => Q .non H', rt := Q } (start N vs) H) :
    FnG P w K mg base CX (k + 1) f (PySem.W.fnOf name qual params body scope dV kV doc pm an cdv ct) ps sp := by
  refine ⟨len, fun A outer s H args us vs Q E room e0 bnd rv want => ?_⟩
  have n0 := len _ _ _ _ want
  have KX : K.In s.heap := e0.mod.kin.keeps fun b o e => (e0.bs b o e).1
  have nolim : s.heap.NoLimit := e0.mod.nolimit.keeps fun b o e => (e0.bs b o e).1
  have kinds : ∀ y ∈ ps.zip us, scope.names.lookup y.1 = some .local ∨ (scope.names.lookup y.1 = some .cell ∧ ((cellsFrom (s.heap.objs.size + 1) scope.names []).lookup y.1).isSome = true) := by
    rintro ⟨nm, v⟩ hy
    rcases S.par nm (List.of_mem_zip hy).1 with z | z
    · exact .inl z
    · exact .inr ⟨z, PySem.W.cellsFrom_some _ _ _ (.inl z)⟩
  refine codeAny_call_function room.r.depth (KX _ _ lk) rfl S.co S.gen rfl (PySem.W.codeRec_of KX hcd) (bnd _ _ _ _ ?_)
  refine wpAny_newFunctionEnv_cells S.kind kinds fun env eq s1 made => ?_
  subst eq
  refine ⟨nolim.keeps made.toInCall.keep, codeAny_func ?_⟩
  obtain ⟨t, ht, hq⟩ := hbody A outer s H vs Q E (room.deeper _) want
  have I : Inv (cxOf CX P w K mg base N qual scope f cdv A outer s H E) [] (start N vs) H s1 := inv_start S room.r.hd e0 n0 rv made
  refine wpAny_mono (ht.run [] s1 (start N vs) H _ I hq) (fun fl s' z => ?_) fun _ _ z => z
  have back : ∀ {σ' : L2.St} {H' : Hp} {v : V} {u : Value}, Inv (cxOf CX P w K mg base N qual scope f cdv A outer s H E) [] σ' H' s' → RelV v u → Q v H' → CE outer P w H s Q u s' :=
    fun {σ' H' v u} J rv q => ⟨v, H', J.os, J.bare, J.base, J.hok, rv, q⟩
  cases fl with
  | ret u =>
    obtain ⟨v, σ', H', J, r, q⟩ := z
    exact back J r q
  | next =>
    obtain ⟨σ', H', J, q⟩ := z
    exact back (v := V.non) (u := Value.none) J rfl q
  | brk =>
    obtain ⟨_, _, _, q⟩ := z
    exact q.elim
  | cont =>
    obtain ⟨_, _, _, q⟩ := z
    exact q.elim
theorem okG {x qual : Str} {st : Stmt} {f : Addr} {fd : FuncData} {N ps : List Str} {sp : Sp} (F : Fun K x qual st f fd) (S : FnScope N ps (defScope st)) (len : ∀ vs H Q E, sp vs H Q E → vs.length = ps.length)
    (hbody : ∀ (cdv : Value) (A : Around) (outer : List PySem.Env) (s : Shared) (H : Hp) (vs : List V) (Q : VK) (E : XK), RoomG k (A.deeper (envOfC qual (defScope st) s.heap.objs.size f cdv)) → sp vs H Q E →
      ∃ t, PSs (cxOf (L2.CX P w) P w K mg base N qual (defScope st) f cdv A outer s H E) (defBody st) t ∧ t { nx := fun _ H' => Q .non H', rt := Q } (start N vs) H) : FnG P w K mg base (L2.CX P w) (k + 1) f fd ps sp := by
  obtain ⟨oc, od, kV, doc, pm, an, cdv, ct, osl, rfl, lk, hcd⟩ := F.ex
  exact fn_ofG lk hcd S len fun A outer s H vs Q E room want => hbody cdv A outer s H vs Q E room want
end

section
variable {X : Cx} {CX : CXT} {k : Nat} {f : Addr} {fd : FuncData} {ps : List Str} {sp : Sp} {E : L2.St → XK} {x : Str} {p pos : Pos} {e : Expr} {es : List Expr} {t : TA}
theorem run_G {pins : List (Addr × Obj)} {σ : L2.St} {H : Hp} {s : Shared} {Q : VK} {us : List Value} {vs : List V} {args : Args} (F : FnG X.prog X.w X.K X.mg X.base CX k f fd ps sp) (room : RoomG k X.A) (hx : PassesAt CX X σ (E σ)) (I : Inv X pins σ H s)
    (hb : BindsTo s fd args (ps.zip us)) (r : Vals vs us) (h : sp vs H Q (E σ)) : codeAny (model X.prog X.w) X.A (.call (.ref f) args) (fun r s' => match r with | .error e => X.xe e s' | .ok (.ret u) => EP X pins σ Q u s' | _ => False) s := by
  refine codeAny_mono (F.run X.A X.stack s H args us vs Q (E σ) room I.env0 hb r h) fun r s' z => ?_
  cases r with
  | error e => exact hx pins H s e s' I z
  | ok fl =>
    cases fl with
    | ret u => exact I.after z
    | next => exact z.elim
    | brk => exact z.elim
    | cont => exact z.elim
theorem pe_callG (F : FnG X.prog X.w X.K X.mg X.base CX k f fd ps sp) (room : RoomG k X.A) (hg : Gl X x) (hm : X.mg x = some (.ref f)) (hk : PySem.W.keepIn X.K (.ref f) = true) (hb : Binds X.K fd ps []) (hx : ∀ σ, PassesAt CX X σ (E σ))
    (ha : PA X (e :: es) t) (hdb : (x == ("__debug__" : Str)) = false := by decide) (he : starEach (e :: es) X.env = (false, eval e X.env) :: starEach es X.env := by rfl) (hpl : (backTo pos (starEach es X.env)).any (·.1) = false := by rfl) :
    PE X (.Call (.Name x p) (e :: es) [] pos) (tCallSD sp [] E t) := by
  refine ⟨fun pins s σ H Q I h => ?_⟩
  refine wpAny_Call_Name_kw (ld_glob I hg hm ?_ hdb)
  refine PySem.W.callWith_K (h₀ := X.base) I.ok.mod.kin hk (thn (ha.run pos pins s σ H _ I h) fun us s1 ⟨vs, H1, I1, r, q⟩ => ⟨I1.kIn, ?_⟩) he hpl
  have q' : sp vs H1 Q (E σ) := by
    have z : sp (vs ++ []) H1 Q (E σ) := q
    rw [List.append_nil] at z
    exact z
  have hl : (us ++ []).length = ps.length := by rw [List.append_nil, ← r.length]; exact F.len _ _ _ _ q'
  have bt := hb s1 us I1.kIn hl
  rw [List.append_nil] at bt
  refine wpAny_call (codeAny_mono (run_G F room (hx σ) I1 bt r q') fun r s' z => ?_)
  cases r with
  | error e => exact z
  | ok fl => cases fl <;> first | exact z | exact z.elim
/-- the order in which the parameters stand: the i-th parameter is the (is i)-th value -/
def byIx {α : Type} (is : List Nat) (l : List α) : List α := is.filterMap fun i => l[i]?
theorem byIx_len {α : Type} {is : List Nat} {l : List α} (h : ∀ i ∈ is, i < l.length) : (byIx is l).length = is.length := by
  induction is with
  | nil => rfl
  | cons i is ih =>
    unfold byIx
    rw [List.filterMap_cons_some (List.getElem?_eq_getElem (h i (.head _))), List.length_cons, List.length_cons]
    exact congrArg (· + 1) (ih fun j hj => h j (.tail _ hj))
theorem vals_at : ∀ {vs : List V} {us : List Value} (i : Nat), Vals vs us → (vs[i]? = none ∧ us[i]? = none) ∨ ∃ v u, vs[i]? = some v ∧ us[i]? = some u ∧ RelV v u
  | _, _, _, .nil => .inl ⟨by simp, by simp⟩
  | _, _, 0, .cons r t => .inr ⟨_, _, rfl, rfl, r⟩
  | _, _, i + 1, .cons r t => by
    rcases vals_at i t with ⟨a, b⟩ | ⟨v, u, a, b, c⟩
    · exact .inl ⟨by simpa using a, by simpa using b⟩
    · exact .inr ⟨v, u, by simpa using a, by simpa using b, c⟩
theorem vals_byIx (is : List Nat) {vs : List V} {us : List Value} (r : Vals vs us) : Vals (byIx is vs) (byIx is us) := by
  induction is with
  | nil => exact .nil
  | cons i is ih =>
    unfold byIx
    rcases vals_at i r with ⟨a, b⟩ | ⟨v, u, a, b, c⟩
    · rw [List.filterMap_cons_none a, List.filterMap_cons_none b]
      exact ih
    · rw [List.filterMap_cons_some a, List.filterMap_cons_some b]
      exact .cons c ih
/-- how a call by keywords alone binds -/
def BindsK (K : PySem.W.Frag) (fd : FuncData) (ps ks : List Str) (is : List Nat) : Prop :=
  ∀ (s : Shared) (ws : List Value), K.In s.heap → ws.length = ks.length → BindsTo s fd ⟨[], ks.zip ws⟩ (ps.zip (byIx is ws))
theorem pe_callKG {kws : List Keyword} {ks : List Str} {is : List Nat} (F : FnG X.prog X.w X.K X.mg X.base CX k f fd ps sp) (room : RoomG k X.A) (hg : Gl X x) (hm : X.mg x = some (.ref f)) (hk : PySem.W.keepIn X.K (.ref f) = true) (hb : BindsK X.K fd ps ks is) (hx : ∀ σ, PassesAt CX X σ (E σ))
    (hkw : PK X kws t) (hall : (backToKw pos (keywordEach kws X.env)).all (·.1.isSome) = true := by rfl) (hks : (backToKw pos (keywordEach kws X.env)).filterMap (·.1) = ks := by rfl)
    (hdb : (x == ("__debug__" : Str)) = false := by decide) (hpl : ((backTo pos (starEach [] X.env)).any (·.1) || (backToKw pos (keywordEach kws X.env)).any (·.1.isNone)) = false := by rfl) :
    PE X (.Call (.Name x p) [] kws pos) (tCallSD (fun vs H Q E => vs.length = ks.length ∧ sp (byIx is vs) H Q E) [] E t) := by
  refine ⟨fun pins s σ H Q I h => ?_⟩
  refine wpAny_Call_Name_kw (ld_glob I hg hm ?_ hdb)
  refine PySem.W.callWith_KW0 (h₀ := X.base) I.ok.mod.kin hk hall ?_ hpl
  refine thn (hkw.run pos pins s σ H _ I h) fun ws s2 ⟨zs, H2, I2, rz, q⟩ => ⟨I2.kIn, ?_⟩
  rw [hks]
  have q' : zs.length = ks.length ∧ sp (byIx is zs) H2 Q (E σ) := by
    have z : (zs ++ []).length = ks.length ∧ sp (byIx is (zs ++ [])) H2 Q (E σ) := q
    rw [List.append_nil] at z
    exact z
  refine wpAny_call (codeAny_mono (run_G F room (hx σ) I2 (hb s2 ws I2.kIn (by rw [← rz.length]; exact q'.1)) (vals_byIx is rz) q'.2) fun r s' z => ?_)
  cases r with
  | error e => exact z
  | ok fl => cases fl <;> first | exact z | exact z.elim
end

/-! ### the head -/
/-- the law's promise where the top has run -/
theorem law_callG {P : Program} {w : World} {K : PySem.W.Frag} {mg mb : Str → Option Value} {CX : CXT} {k : Nat} {fa a : Addr} {fd : FuncData} {x : Str} {sp : Sp} {s0 : Shared} {vs : List Value} {ns : List Int}
    (KX : K.In s0.heap) (hns : s0.heap.Ns mainGlobals mg) (hb : s0.heap.Ns builtinsNs mb) (hbb : ∀ x : Str, x ≠ "__name__" → mb x = bootBuiltins x) (nolim : s0.heap.NoLimit) (nogen : s0.gens = #[])
    (ha : s0.heap.get? a = some { cls := .type "list", data := .seq vs.toArray }) (hi : IntsAre vs ns) (hl : ns.length ≤ sizeLine) (room : RoomG k callerA)
    (F : ∀ base : Heap, K.In base → base.Ns mainGlobals mg → FnG P w K mg base CX k fa fd [x] sp) (bnd : ∀ (s : Shared) (u : Value), BindsTo s fd ⟨[u], []⟩ [(x, u)])
    (want : ∀ H : Hp, Only H → SqL K H a (ns.map V.int) → sp [.ref a] H (fun v _ => v = .bl true) fun _ _ _ => False) (noX : ∀ H e s', CX [] H s0 (fun _ _ _ => False) e s' → False) :
    codeAny (model P w) callerA (.call (.ref fa) ⟨[.ref a], []⟩) (fun r s' => r = .ok (.ret (.bool true)) ∧ OldK s0.heap s'.heap ∧ s'.os = s0.os ∧ AllBare s'.gens) s0 := by
  have rv := vals_ints hi
  have cnt := hi.length
  -- H tracks the script at most
  have main : ∀ H : Hp, Only H → SqL K H a (ns.map V.int) → HOk P w H s0.heap → (∀ b, H b ≠ none → b = a) → (H a ≠ none → K.lookup a = none) →
      codeAny (model P w) callerA (.call (.ref fa) ⟨[.ref a], []⟩) (fun r s' => r = .ok (.ret (.bool true)) ∧ OldK s0.heap s'.heap ∧ s'.os = s0.os ∧ AllBare s'.gens) s0 := by
    intro H only sq hok at_a nK
    have isA : ∀ {b : Addr} {u : HO}, H b = some u → b = a := fun {b u} e => at_a b (by rw [e]; exact fun z => nomatch z)
    have free : ∀ {b : Addr} {o : Obj} {es : Array DictEntry} {ep : Nat}, s0.heap.get? b = some o → o.data = .dict es ep → H b = none := fun {b o es ep} e d => by
      cases q : H b with
      | none => rfl
      | some u =>
        have z := isA q
        subst z
        rw [ha] at e
        cases e
        exact nomatch (show Data.seq vs.toArray _ = Data.dict es ep from d)
    have nsK : ∀ {b : Addr} {m : Str → Option Value}, s0.heap.Ns b m → (hidT s0.heap H).Ns b m := fun {b m} ⟨o, es, ep, e, d, r⟩ => ⟨o, es, ep, hidT_get e (free e d), d, r⟩
    have inK : K.In (hidT s0.heap H) := fun b o e => hidT_get (KX b o e) (by
      cases q : H b with
      | none => rfl
      | some u =>
        have z := isA q
        subst z
        rw [nK (by rw [q]; exact fun z => nomatch z)] at e
        cases e)
    have md : Mod K mg (hidT s0.heap H) := by
      obtain ⟨mc, l1, l2⟩ := nolim
      exact ⟨inK, nsK hns, ⟨mb, nsK hb, hbb⟩, mc, nsK l1, l2⟩
    have e0 : Env0 P w K mg (hidT s0.heap H) callerA [] s0 H :=
      ⟨rfl, md, fun b o e => of_hidT e, Nat.le_of_eq (hidT_size _ _), trivial, fun b z => absurd (show b ∈ ([] : List Addr) from z) (by simp), hok, .of_eq nogen⟩
    refine codeAny_mono ((F _ inK (nsK hns)).run callerA [] s0 H ⟨[.ref a], []⟩ [.ref a] [.ref a] _ _ room e0 (bnd s0 (.ref a)) (.cons rfl .nil) (want H only sq)) fun r s' z => ?_
    cases r with
    | error e => exact (noX H e s' z).elim
    | ok fl =>
      cases fl with
      | next => exact z.elim
      | brk => exact z.elim
      | cont => exact z.elim
      | ret u =>
        obtain ⟨v, H', os, bare, un, hok', r', q⟩ := z
        have ev : v = .bl true := q
        subst ev
        obtain rfl : u = Value.bool true := r'
        refine ⟨rfl, OldK.of_keep fun b o e => ?_, os, bare⟩
        cases q2 : H b with
        | none => exact un.keep b o e q2 (fun z => absurd (show b ∈ ([] : List Addr) from z) (by simp)) (by simp)
        | some u =>
          rcases only b with z | ⟨ob, xs, z⟩
          · rw [q2] at z
            cases z
          · obtain ⟨e1, _⟩ := hok b _ z
            obtain ⟨e2, _⟩ := hok' b _ (un.frzs b ob _ z)
            rw [e] at e1
            cases e1
            exact e2
  cases hk : K.lookup a with
  | some o =>
    have e := KX a o hk
    rw [ha] at e
    cases e
    exact main (fun _ => none) (fun _ => .inl rfl) (.inr ⟨_, vs.toArray, _, hk, rfl, rfl, rfl, by rw [List.size_toArray, cnt]; exact hl, by simpa using rv⟩) (fun b u z => nomatch (show (none : Option HO) = some u from z)) (fun b z => absurd rfl z) fun z => absurd rfl z
  | none =>
    refine main (fun b => if b = a then some (.frz { cls := .type "list", data := .seq vs.toArray } (.lst (ns.map V.int))) else none) (fun b => ?_) (.inl (.inr ⟨{ cls := .type "list", data := .seq vs.toArray }, if_pos rfl⟩)) (fun b u z => ?_) (fun b z => ?_) fun _ => hk
    · by_cases c : b = a
      · exact .inr ⟨_, _, if_pos c⟩
      · exact .inl (if_neg c)
    · by_cases c : b = a
      · have y := (if_pos c).symm.trans z
        cases y
        subst c
        exact ⟨ha, by rw [List.length_map]; exact hl, vs, _, rv, ha⟩
      · have y := (if_neg c).symm.trans z
        cases y
    · by_cases c : b = a
      · exact c
      · exact absurd (if_neg c) z
theorem walk_ofG {l : PySem.W.OpenLaw} {n k : Nat} {q : Program} {loose : List Str} {XP : (Str → Option Value) → Heap → Prop} {YP : World → Heap → Prop} {d : DefRec} {K : Params → PySem.W.Frag} {CX : World → CXT} {sp : World → Sp} {x : Str}
    (hn : l.most = some n) (hn2 : n ≤ sizeLine) (hdf : d.params.defaults = []) (room : RoomG k callerA) (hY : ∀ (w : World) (h : Heap), YP w h → (K w.params).In h)
    (F : ∀ (w : World) (mg : Str → Option Value) (fa : Addr) (h : Heap), (K w.params).In h → h.Ns mainGlobals mg → mg d.name = some (.ref fa) →
      ∃ fd : FuncData, (∀ (s : Shared) (u : Value), BindsTo s fd ⟨[u], []⟩ [(x, u)]) ∧ ∀ base : Heap, (K w.params).In base → base.Ns mainGlobals mg → FnG l.prog w (K w.params) mg base (CX w) k fa fd [x] (sp w))
    (hsp : ∀ (w : World) (H : Hp) (a : Addr) (ns : List Int), ns.length ≤ n → Only H → SqL (K w.params) H a (ns.map V.int) → sp w [.ref a] H (fun v _ => v = .bl true) fun _ _ _ => False)
    (hCX : ∀ (w : World) (H : Hp) (s : Shared) (e : Value) (s' : Shared), CX w [] H s (fun _ _ _ => False) e s' → False) :
    PySem.W.WalkO q loose XP YP l.row.toRowW d [] (fun f vs => PySem.call f vs) := by
  refine Att.attach_call hn hdf fun w s0 s1 mg mb fa o pm cd doc a vs ns G Y ho hd hcd hmg hobj hints hlen hg => ?_
  have KX := hY w _ Y
  obtain ⟨fd, b1, b2⟩ := F w mg fa _ KX G.T.g hmg
  exact law_callG KX G.T.g G.T.b G.T.builtins G.T.nolimit hg hobj hints (Nat.le_trans hlen hn2) room b2 b1 (fun H hO hS => hsp w H a ns hlen hO hS) fun H e s' => hCX w H s1 e s'
end DL

namespace DL
open PySem PySem.Spec PyProof.Rows L2

/-! ### what a def is worth -/
mutual
def noLst : PyData → Bool
  | .list _ => false
  | .tuple ds => noLsts ds
  | _ => true
def noLsts : List PyData → Bool
  | [] => true
  | d :: ds => noLst d && noLsts ds
end
def noLstS : Sl → Bool
  | .fr d => noLst d
  | .ow (.lst ds) => noLsts ds
  | _ => false
inductive Ret where
  | ok (s : Sl) (co : Option Cn)
  | exc (c : Str) (d : D) (co : Option Cn)
  | bad
def CoRep (K : PySem.W.Frag) (F H : Hp) : List Addr → Option Cn → Prop
  | [], none => True
  | [p], some c => F p = none ∧ CRep K F H p c
  | _, _ => False
structure FEvo (ps : List Addr) (F H F' H' : Hp) : Prop where
  ff : Same F F'
  fn : ∀ (a : Addr), F' a ≠ none → F a ≠ none ∨ H a = none
  hh : ∀ (a : Addr) (o : HO), H a = some o → a ∉ ps → H' a = some o
  hs : ∀ (a : Addr), H a ≠ none → H' a ≠ none
  fh : Same F' H'
theorem FEvo.grow {F H F' H' : Hp} (e : FEvo [] F H F' H') : Grow F H F' H' := ⟨e.ff, fun a o h => e.hh a o h (by simp), e.fh, e.fn⟩
def RW (K : PySem.W.Frag) (mg : Str → Option Value) (F H : Hp) (ps : List Addr) (Q : VK) (E : XK) : Ret → Prop
  | .ok s co => ∀ v F' H', FEvo ps F H F' H' → ROk K F' H H' v s → CoRep K F' H' ps co → Q v H'
  | .exc c d co => ∀ C dx v F' H', mg c = some (Value.ref C) → H' dx = some (.xd [("what", v)]) → Dt K F' v d → FEvo ps F H F' H' → CoRep K F' H' ps co → E (.ref C) (some dx) H'
  | .bad => False
def spD (K : PySem.W.Frag) (mg : Str → Option Value) (n : Nat) (den : Option Cn → List D → Ret) : Sp := fun vs H Q E =>
  vs.length = n ∧ ∃ F ps co us ds, Same F H ∧ DtAll K F us ds ∧ vs = ps.map V.ref ++ us ∧ CoRep K F H ps co ∧ RW K mg F H ps Q E (den co ds)

section
variable {K : PySem.W.Frag} {mg : Str → Option Value} {E : XW} {W : Wd} {F0 B F H F' H' : Hp} {σ tv us vs : L2.St} {ρ ρ' tr ss : Evn} {v : V} {d : D} {s : Sl} {c c' : Cn} {p : Addr} {i : Nat} {α β : Type}

/-! ### a def by its body -/
def ini (co : Option Cn) (ds : List D) (n : Nat) : Evn :=
  (match co with | some c => [some (.io 0 c)] | none => []) ++ ds.map (fun d => some (.fr d)) ++ List.replicate n none
def finC (co : Option Cn) (ρ : Evn) : Option (Option Cn) := match co with
  | none => some none
  | some _ => match (ρ[0]? : Option (Option Sl)) with
    | some (some (Sl.io 0 c)) => some (some c)
    | _ => none
def retS (ρ : Evn) (co' : Option Cn) : Sl → Ret
  | .fr d => .ok (.fr d) co'
  | .ow c => .ok (.ow c) co'
  | .br i => match ρ[i]? with
    | some (some (.ow c)) => .ok (.ow c) co'
    | _ => .bad
  | .io _ _ => .bad
def finR (co : Option Cn) (r : Res Fl) : Ret := match r with
  | .ok .nx ρ => match finC co ρ with
    | some co' => .ok (.fr .none) co'
    | none => .bad
  | .ok (.rt s) ρ => match finC co ρ with
    | some co' => retS ρ co' s
    | none => .bad
  | .exc c d ρ => match finC co ρ with
    | some co' => .exc c d co'
    | none => .bad
  | _ => .bad
def coN : Option Cn → Nat
  | some _ => 1
  | none => 0
/-- N: how many slots in all -/
def denB (N : Nat) (g : Evn → Res Fl) (co : Option Cn) (ds : List D) : Ret := finR co (g (ini co ds (N - (ds.length + coN co))))
theorem finC_rep {co co' : Option Cn} {ps : List Addr} (hp : CoRep K F0 B ps co) (hl : W.ios = ps) (L : Ln W σ tv ρ tr) (S : S4 K W F H σ tv ρ tr) (h : finC co ρ = some co') : CoRep K F H ps co' := by
  unfold finC at h
  cases co with
  | none =>
    cases h
    cases ps with
    | nil => trivial
    | cons p r => cases r <;> exact False.elim hp
  | some c =>
    cases ps with
    | nil => exact False.elim hp
    | cons p r =>
      cases r with
      | cons => exact False.elim hp
      | nil =>
        simp only at h
        split at h
        · rename_i c1 e
          cases h
          have h0 := (List.getElem?_eq_some_iff.mp e).1
          obtain ⟨q, q1, q2, q3, q4⟩ := S.io 0 0 c1 (by rw [List.getElem?_append_left h0]; exact e)
          rw [hl] at q1
          cases q1
          exact ⟨q3, q4⟩
        · cases h
theorem den_ok {g : Evn → Res Fl} {t : TS} {Ex : XK} {Q : VK} {n N : Nat} (ht : TSJ K mg (fun _ => Ex) t g) {vs : List V} (hN : vs.length ≤ N) (h : spD K mg n (denB N g) vs H Q Ex) {Nn : List Str} (hn : Nn.length = N) : t { nx := fun _ H' => Q .non H', rt := Q } (L2.start Nn vs) H := by
  obtain ⟨hlen, F, ps, co, us, ds, fh, hd, rfl, hco, hw⟩ := h
  have hul := dpAll_len hd
  have hk : coN co = ps.length := by
    cases co with
    | none => cases ps with
      | nil => rfl
      | cons p r => cases r <;> exact False.elim hco
    | some c => cases ps with
      | nil => exact False.elim hco
      | cons p r => cases r with
        | nil => rfl
        | cons => exact False.elim hco
  have hpl : ps.length + ds.length ≤ N := by simpa [hul] using hN
  have eini : ∀ (j : Nat) (s : Sl), (ini co ds (N - (ds.length + coN co)))[j]? = some (some s) → (∃ p c, ps = [p] ∧ co = some c ∧ j = 0 ∧ s = .io 0 c) ∨ (ps.length ≤ j ∧ ∃ d, ds[j - ps.length]? = some d ∧ s = .fr d) := by
    intro j s e
    unfold ini at e
    rw [List.append_assoc] at e
    have tail : ∀ (k : Nat), (ds.map (fun d => some (Sl.fr d)) ++ List.replicate (N - (ds.length + ps.length)) none)[k]? = some (some s) → ∃ d, ds[k]? = some d ∧ s = .fr d := by
      intro k e
      by_cases hk : k < ds.length
      · rw [List.getElem?_append_left (by simpa using hk), List.getElem?_map] at e
        cases e2 : ds[k]? with
        | none => rw [e2] at e; cases e
        | some d => rw [e2] at e; cases e; exact ⟨d, rfl, rfl⟩
      · rw [List.getElem?_append_right (by simpa using hk), List.getElem?_replicate] at e
        split at e <;> cases e
    rw [hk] at e
    cases co with
    | none =>
      cases ps with
      | cons p r => cases r <;> exact False.elim hco
      | nil => exact .inr ⟨Nat.zero_le _, by simpa using tail j (by simpa using e)⟩
    | some c =>
      cases ps with
      | nil => exact False.elim hco
      | cons p r =>
        cases r with
        | cons => exact False.elim hco
        | nil =>
          cases j with
          | zero => simp at e; exact .inl ⟨p, c, rfl, rfl, rfl, e.symm⟩
          | succ j => exact .inr ⟨by simp, by simpa using tail j (by simpa using e)⟩
  have est : ∀ (j : Nat) (v : V), (ps.map V.ref ++ us)[j]? = some v → (L2.start Nn (ps.map V.ref ++ us))[j]? = some (some v) := by
    intro j v e
    unfold L2.start
    have hj := (List.getElem?_eq_some_iff.mp e).1
    rw [List.getElem?_append_left (by simpa using hj), List.getElem?_map, e]
    rfl
  have lini : (ini co ds (N - (ds.length + coN co))).length = N := by
    rw [hk]
    unfold ini
    have : (match co with | some c => [some (Sl.io 0 c)] | none => ([] : Evn)).length = ps.length := by
      rw [← hk]
      cases co <;> rfl
    rw [List.length_append, List.length_append, this, List.length_map, List.length_replicate]
    omega
  have lst : (L2.start Nn (ps.map V.ref ++ us)).length = N := by
    unfold L2.start
    rw [List.length_append, List.length_map, List.length_replicate, hn]
    have : (ps.map V.ref ++ us).length ≤ N := hN
    omega
  let W : Wd := ⟨N, ps, F, H⟩
  have L0 : Ln W (L2.start Nn (ps.map V.ref ++ us)) [] (ini co ds (N - (ds.length + coN co))) [] := ⟨lst, lini, rfl⟩
  have S0 : S4 K W F H (L2.start Nn (ps.map V.ref ++ us)) [] (ini co ds (N - (ds.length + coN co))) [] := by
    show SR _ _ _ _ _ _ _ (_ ++ []) (_ ++ [])
    rw [List.append_nil, List.append_nil]
    have arg : ∀ {j : Nat} {d : PyData}, ps.length ≤ j → ds[j - ps.length]? = some d → ∃ v, (L2.start Nn (ps.map V.ref ++ us))[j]? = some (some v) ∧ Dt K F v d := fun {j d} hj e => by
      obtain ⟨v, h1, h2⟩ := dpAll_get hd e
      exact ⟨v, est j v (by rw [List.getElem?_append_right (by simpa using hj)]; simpa using h1), h2⟩
    refine ⟨lst.trans lini.symm, fh, Same.refl _, fun a z => .inl z, fun a o e _ => e, fun a z => z, fun j d e => ?_, fun j c e => ?_, fun j k c e => ?_, fun j k e => ?_, fun j k a b q e1 e2 o1 o2 e3 e4 => ?_⟩
    · rcases eini j _ e with ⟨_, _, _, _, _, z⟩ | ⟨hj, d', e', z⟩
      · cases z
      · cases z; exact arg hj e'
    · rcases eini j _ e with ⟨_, _, _, _, _, z⟩ | ⟨hj, d', e', z⟩ <;> cases z
    · rcases eini j _ e with ⟨p, c', rfl, rfl, rfl, z⟩ | ⟨hj, d', e', z⟩
      · cases z
        exact ⟨p, rfl, est 0 _ rfl, hco.1, hco.2⟩
      · cases z
    · rcases eini j _ e with ⟨_, _, _, _, _, z⟩ | ⟨hj, d', e', z⟩ <;> cases z
    · rcases eini j _ e1 with ⟨p, c', rfl, rfl, rfl, z⟩ | ⟨hj, d', e', z⟩
      · rcases eini k _ e2 with ⟨p2, c2, _, _, rfl, z2⟩ | ⟨hk, d2, e2', z2⟩
        · rfl
        · subst z2; exact absurd rfl o2
      · subst z; exact absurd rfl o1
  refine ht W F H _ _ _ L0 S0 ?_
  unfold denB at hw
  have evo : ∀ {σ' tv' : L2.St} {ρ' tr' : Evn} {F' H' : Hp}, S4 K W F' H' σ' tv' ρ' tr' → FEvo ps F H F' H' := fun S => ⟨S.f0, S.fn, S.bh, S.bs, S.fh⟩
  cases eg : g (ini co ds (N - (ds.length + coN co))) with
  | bad => rw [eg] at hw; exact hw
  | exc c d ρ1 =>
    rw [eg] at hw
    intro C dx v F' H' σ' hσ h1 h2 h3 S'
    have hw : RW K mg F H ps Q Ex (match finC co ρ1 with | some co' => .exc c d co' | none => .bad) := hw
    cases ef : finC co ρ1 with
    | none => rw [ef] at hw; exact hw.elim
    | some co' =>
      rw [ef] at hw
      have L' : Ln W σ' [] ρ1 [] := ⟨hσ, by have := S'.len; simp at this; omega, rfl⟩
      exact hw C dx v F' H' h1 h2 h3 (evo S') (finC_rep hco rfl L' S' ef)
  | ok fl ρ1 =>
    rw [eg] at hw
    cases fl with
    | bk => exact hw.elim
    | ct => exact hw.elim
    | nx =>
      intro σ' F' H' L' S'
      have hw : RW K mg F H ps Q Ex (match finC co ρ1 with | some co' => .ok (.fr .none) co' | none => .bad) := hw
      cases ef : finC co ρ1 with
      | none => rw [ef] at hw; exact hw.elim
      | some co' =>
        rw [ef] at hw
        exact hw .non F' H' (evo S') .non (finC_rep hco rfl L' S' ef)
    | rt s =>
      intro v σ' F' H' L' S'
      have hw : RW K mg F H ps Q Ex (match finC co ρ1 with | some co' => retS ρ1 co' s | none => .bad) := hw
      have La : Ln W σ' [] ρ1 [] := L'.cut (tv := []) (tr := []) (us := [some v]) (ss := [some s]) (by simp)
      have Sa : S4 K W F' H' σ' [] ρ1 [] := S4.cut (tv := []) (tr := []) L' S' (by simp)
      cases ef : finC co ρ1 with
      | none => rw [ef] at hw; exact hw.elim
      | some co' =>
        rw [ef] at hw
        have hc := finC_rep hco rfl La Sa ef
        cases s with
        | fr d => exact hw v F' H' (evo S') (S4.top_fr (tv := []) (tr := []) L' S') hc
        | io j c => exact hw.elim
        | ow c =>
          refine hw v F' H' (evo S') ?_ hc
          have top : (ρ1 ++ [some (Sl.ow c)])[ρ1.length]? = some (some (Sl.ow c)) := push_new rfl
          obtain ⟨p, h1, h2, h3, h4⟩ := S'.ow ρ1.length c top
          rw [show σ' ++ [some v] = σ' ++ [some v] from rfl, push_new (by rw [La.s, ← La.r])] at h1
          cases h1
          exact ⟨p, rfl, h2, h3, h4⟩
        | br i =>
          have hw : RW K mg F H ps Q Ex (match ρ1[i]? with
            | some (some (.ow c)) => .ok (.ow c) co'
            | _ => .bad) := hw
          split at hw
          · rename_i c e
            refine hw v F' H' (evo S') ?_ hc
            have hi := (List.getElem?_eq_some_iff.mp e).1
            have e' : (ρ1 ++ [some (Sl.br i)])[i]? = some (some (.ow c)) := push_old e
            have hb := (S'.br ρ1.length i (push_new rfl)).2.2 _ e' (fun z => nomatch z)
            obtain ⟨p, h1, h2, h3, h4⟩ := S'.ow i c e'
            rw [push_new (by rw [La.s, ← La.r]), h1] at hb
            cases hb
            exact ⟨p, rfl, h2, h3, h4⟩
          · exact hw.elim
/-- THE RULE for a def: its body's reading told as f -/
theorem fn_den {P : Program} {w : World} {base : Heap} {x qual : Str} {st : Stmt} {f : Addr} {fd : FuncData} {N ps : List Str} {k : Nat} (F : Fun K x qual st f fd) (S : FnScope N ps (defScope st)) {g : Evn → Res Fl}
    (hbody : ∀ (cdv : Value) (A : Around) (outer : List PySem.Env) (s : Shared) (H : Hp) (E : XK), RoomG k (A.deeper (envOfC qual (defScope st) s.heap.objs.size f cdv)) →
      ∃ t, PSs (cxOf (L2.CX P w) P w K mg base N qual (defScope st) f cdv A outer s H E) (defBody st) t ∧ TSJ K mg (fun _ => E) t g) : FnG P w K mg base (L2.CX P w) (k + 1) f fd ps (spD K mg ps.length (denB N.length g)) := by
  refine okG F S (fun vs H Q E h => h.1) fun cdv A outer s H vs Q E hr h => ?_
  obtain ⟨t, h1, h2⟩ := hbody cdv A outer s H E hr
  have hpl : ps.length ≤ N.length := by have := congrArg List.length S.pre; rw [List.length_take] at this; omega
  exact ⟨t, h1, den_ok h2 (by rw [h.1]; exact hpl) h rfl⟩

/-! ### a call by what the def is worth -/
theorem sqN_cut {P : Addr → Prop} [DecidablePred P] {F2 : Hp} {a : Addr} {xs : List V} (hP : ∀ a, P a → ∃ l, F2 a = some (.lst l)) (h : SqN F2 a xs) : SqN (fun a => if P a then none else F2 a) a xs := by
  obtain ⟨o, h⟩ := h
  refine ⟨o, ?_⟩
  show (if P a then none else F2 a) = _
  rw [if_neg fun z => ?_]
  · exact h
  · obtain ⟨l, e⟩ := hP a z
    rw [e] at h; cases h
mutual
theorem dp_cut {P : Addr → Prop} [DecidablePred P] {F2 : Hp} (hP : ∀ a, P a → ∃ l, F2 a = some (.lst l)) : ∀ (d : D) (v : V), noLst d = true → Dt K F2 v d → Dt K (fun a => if P a then none else F2 a) v d
  | .none, _, _, h => by cases h; exact .non
  | .bool b, _, _, h => by cases h; exact .bl b
  | .int i, _, _, h => by cases h; exact .int i
  | .str x, _, _, h => by cases h; exact .str x
  | .list ds, _, n, h => by cases n
  | .tuple ds, _, n, h => by
    cases h with
    | tup hs ha => exact .tup (sqN_cut hP hs) (dpAll_cut hP ds _ n ha)
  | .dict _, _, _, h => by cases h
theorem dpAll_cut {P : Addr → Prop} [DecidablePred P] {F2 : Hp} (hP : ∀ a, P a → ∃ l, F2 a = some (.lst l)) : ∀ (ds : List D) (vs : List V), noLsts ds = true → DtAll K F2 vs ds → DtAll K (fun a => if P a then none else F2 a) vs ds
  | [], _, _, h => by cases h; exact .nil
  | d :: ds, _, n, h => by
    cases h with
    | cons h1 h2 =>
      unfold noLsts at n
      rw [Bool.and_eq_true] at n
      exact .cons (dp_cut hP d _ n.1 h1) (dpAll_cut hP ds _ n.2 h2)
end
def isFr : Sl → Bool
  | .fr _ => true
  | _ => false
def allFr (ss : List Sl) : Bool := ss.all isFr
/-- what the callee may read: the frozen part and what is lent -/
structure Lent (K : PySem.W.Frag) (F H Fp : Hp) (P : Addr → Prop) (us : List V) (ds : List D) : Prop where
  f1 : Same F Fp
  f2 : Same Fp H
  dp : DtAll K Fp us ds
  out : ∀ a, P a → F a = none ∧ ∃ l, Fp a = some (.lst l)
  inn : ∀ a, Fp a ≠ none → F a ≠ none ∨ P a
  who : ∀ a, P a → ∃ (k : Nat) (d : D), us[k]? = some (.ref a) ∧ ds[k]? = some d ∧ ¬ Dt K F (.ref a) d
theorem lend {us : List V} {ds : List D} (fh : Same F H) (h : RepCs K F H us ds) : ∃ Fp P, Lent K F H Fp P us ds := by
  classical
  let P : Addr → Prop := fun a => ∃ (k : Nat) (d : D), us[k]? = some (.ref a) ∧ ds[k]? = some d ∧ ¬ Dt K F (.ref a) d ∧ F a = none ∧ ∃ l, H a = some (.lst l)
  let Fp : Hp := fun a => if P a then H a else F a
  have hT : ∀ {a}, P a → Fp a = H a := fun {a} z => if_pos z
  have hF : ∀ {a}, ¬ P a → Fp a = F a := fun {a} z => if_neg z
  have s1 : Same F Fp := fun a o e => by
    rw [hF fun ⟨k, d, _, _, _, z, _⟩ => by rw [z] at e; cases e]
    exact e
  have build : ∀ {vs : List V} {es : List D}, RepCs K F H vs es → (∀ (k : Nat) (a : Addr) (d : D), vs[k]? = some (.ref a) → es[k]? = some d → ¬ Dt K F (.ref a) d → F a = none → (∃ l, H a = some (.lst l)) → P a) → DtAll K Fp vs es := by
    intro vs es h
    induction h with
    | nil => intro _; exact .nil
    | cons r t ih =>
      intro hP
      refine .cons ?_ (ih fun k a d h1 h2 => hP (k + 1) a d (by simpa using h1) (by simpa using h2))
      rename_i x d _ _
      by_cases hd : Dt K F x d
      · exact dp_mono s1 _ _ hd
      · rcases r with r | ⟨p, vs, ds', rfl, rfl, e3, e4, e5⟩
        · exact absurd r hd
        · have hp : P p := hP 0 p _ rfl rfl hd e4 ⟨_, e3⟩
          exact .lst ((hT hp).trans e3) (dpAll_mono s1 _ _ e5)
  refine ⟨Fp, P, s1, fun a o e => ?_, build h fun k a d h1 h2 h3 h4 h5 => ⟨k, d, h1, h2, h3, h4, h5⟩, fun a z => ?_, fun a z => ?_, fun a ⟨k, d, h1, h2, h3, _⟩ => ⟨k, d, h1, h2, h3⟩⟩
  · by_cases z : P a
    · rw [hT z] at e; exact e
    · rw [hF z] at e; exact fh a o e
  · obtain ⟨k, d, h1, h2, h3, h4, l, h5⟩ := id z
    exact ⟨h4, l, (hT z).trans h5⟩
  · by_cases q : P a
    · exact .inr q
    · rw [hF q] at z; exact .inl z
/-- and back -/
theorem Lent.back {Fp : Hp} {P : Addr → Prop} {us : List V} {ds : List D} {ps : List Addr} {F2 H2 : Hp} (l : Lent K F H Fp P us ds) (e : FEvo ps Fp H F2 H2) :
    ∃ F3, FEvo ps F H F3 H2 ∧ (∀ a, F2 a = none → F3 a = none) ∧ (∀ v d, ((∀ a, ¬ P a) ∨ noLst d = true) → Dt K F2 v d → Dt K F3 v d) ∧ (∀ vs es, ((∀ a, ¬ P a) ∨ noLsts es = true) → DtAll K F2 vs es → DtAll K F3 vs es) := by
  classical
  have hP : ∀ a, P a → ∃ l, F2 a = some (.lst l) := fun a z => by
    obtain ⟨_, l, h⟩ := l.out a z
    exact ⟨l, e.ff a _ h⟩
  refine ⟨fun a => if P a then none else F2 a, ⟨fun a o h => ?_, fun a z => ?_, e.hh, e.hs, fun a o h => ?_⟩, fun a h => ?_, fun v d h => ?_, fun vs es h => ?_⟩
  · show (if P a then none else F2 a) = _
    rw [if_neg fun z => by rw [(l.out a z).1] at h; cases h]
    exact e.ff a o (l.f1 a o h)
  · have z : (if P a then none else F2 a) ≠ none := z
    by_cases q : P a
    · rw [if_pos q] at z; exact absurd rfl z
    · rw [if_neg q] at z
      rcases e.fn a z with r | r
      · exact .inl ((l.inn a r).resolve_right q)
      · exact .inr r
  · have h : (if P a then none else F2 a) = some o := h
    by_cases q : P a
    · rw [if_pos q] at h; cases h
    · rw [if_neg q] at h; exact e.fh a o h
  · show (if P a then none else F2 a) = none
    by_cases q : P a
    · rw [if_pos q]
    · rw [if_neg q]; exact h
  · rcases h with h | h
    · have : (fun a => if P a then none else F2 a) = F2 := funext fun a => if_neg (h a)
      rw [this]; exact id
    · exact dp_cut hP d v h
  · rcases h with h | h
    · have : (fun a => if P a then none else F2 a) = F2 := funext fun a => if_neg (h a)
      rw [this]; exact id
    · exact dpAll_cut hP es vs h
theorem ROk.back {F2 F3 H2 : Hp} {P : Addr → Prop} (h : ROk K F2 H H2 v s) (h0 : (∀ a, ¬ P a) ∨ noLstS s = true) (hn : ∀ a, F2 a = none → F3 a = none) (h1 : ∀ v d, ((∀ a, ¬ P a) ∨ noLst d = true) → Dt K F2 v d → Dt K F3 v d) (h2 : ∀ vs es, ((∀ a, ¬ P a) ∨ noLsts es = true) → DtAll K F2 vs es → DtAll K F3 vs es) : ROk K F3 H H2 v s := by
  cases s with
  | fr d => exact h1 v d h0 h
  | io _ _ => exact h.elim
  | br _ => exact h.elim
  | ow c =>
    obtain ⟨p, e1, e2, e3, e4⟩ := h
    cases c with
    | lst es =>
      obtain ⟨vs, e5, e6⟩ := e4
      exact ⟨p, e1, e2, hn p e3, vs, e5, h2 vs es h0 e6⟩
/-- frozen arguments are not lent -/
theorem S4.frAt : ∀ {ss : List Sl} {vs : List V} {tv : L2.St} {tr : Evn} {k : Nat} {v : V} {d : D}, Ln W σ tv ρ tr → S4 K W F H σ (tv ++ vs.map some) ρ (tr ++ ss.map some) → ss[k]? = some (.fr d) → vs[k]? = some v → Dt K F v d := by
  intro ss vs tv tr k v d L S h1 h2
  have l1 := L.s
  have l2 := L.r
  have l3 := L.t
  obtain ⟨w, w1, w2⟩ := S.fr (ρ.length + tr.length + k) d (by
    rw [List.getElem?_append_right (by omega), List.getElem?_append_right (by omega)]
    rw [show ρ.length + tr.length + k - ρ.length - tr.length = k by omega, List.getElem?_map, h1]
    rfl)
  rw [List.getElem?_append_right (by omega), List.getElem?_append_right (by omega), show ρ.length + tr.length + k - σ.length - tv.length = k by omega, List.getElem?_map, h2] at w1
  cases w1
  exact w2
theorem rds_get : ∀ {ss : List Sl} {ds : List D} {k : Nat} {d : D}, rds ρ ss = some ds → ds[k]? = some d → ∃ s, ss[k]? = some s ∧ rd ρ s = some d
  | [], ds, k, d, h, e => by cases h; simp at e
  | s :: ss, ds, k, d, h, e => by
    unfold rds at h
    split at h
    · rename_i d0 ds0 e1 e2
      cases h
      cases k with
      | zero => simp at e; subst e; exact ⟨s, rfl, e1⟩
      | succ k => exact rds_get (k := k) e2 (by simpa using e)
    · cases h
theorem lent_none {ss : List Sl} {vs : List V} {ds : List D} {Fp : Hp} {P : Addr → Prop} (L : Ln W σ tv ρ tr) (S : S4 K W F H σ (tv ++ vs.map some) ρ (tr ++ ss.map some)) (hr : rds ρ ss = some ds) (l : Lent K F H Fp P vs ds) (h : allFr ss = true) : ∀ a, ¬ P a := fun a z => by
  obtain ⟨k, d, h1, h2, h3⟩ := l.who a z
  obtain ⟨s, h4, h5⟩ := rds_get hr h2
  have hs : isFr s = true := List.all_eq_true.mp h s (List.mem_of_getElem? h4)
  cases s with
  | fr d' =>
    cases h5
    exact h3 (S4.frAt L S h4 h1)
  | ow _ => cases hs
  | io _ _ => cases hs
  | br _ => cases hs
def callV (den : Option Cn → List D → Ret) (ss : List Sl) (ρ : Evn) : Res Sl := match rds ρ ss with
  | some ds => (match den none ds with
    | .ok s none => if allFr ss || noLstS s then .ok s ρ else .bad
    | .exc c d none => if allFr ss || noLst d then .exc c d ρ else .bad
    | _ => .bad)
  | none => .bad
def fCallV (den : Option Cn → List D → Ret) (f : Evn → Res (List Sl)) (ρ : Evn) : Res Sl := (f ρ).bind fun ss ρ1 => callV den ss ρ1
theorem rds_len : ∀ {ss : List Sl} {ds : List D}, rds ρ ss = some ds → ds.length = ss.length
  | [], ds, h => by cases h; rfl
  | s :: ss, ds, h => by
    unfold rds at h
    split at h
    · rename_i d0 ds0 e1 e2
      cases h
      exact congrArg (· + 1) (rds_len e2)
    · cases h
theorem tj_callVS {ta : TA} {f : Evn → Res (List Sl)} {den : Option Cn → List D → Ret} {n : Nat} {sp : Sp} (hs : ∀ vs H Q E, spD K mg n den vs H Q E → sp vs H Q E) (ha : TAJ K mg E ta f) (hn : ∀ ρ ss ρ', f ρ = .ok ss ρ' → ss.length = n) : TJ K mg E (tCallSD sp [] E ta) (fCallV den f) := by
  intro W F H σ tv ρ tr Q L S hW
  have hfl : ∀ ss ρ', f ρ = .ok ss ρ' → ss.length = n := hn ρ
  refine ha W F H σ tv ρ tr _ L S ?_
  unfold fCallV at hW
  cases e0 : f ρ with
  | bad => rw [e0] at hW; exact hW
  | exc c d ρ' => rw [e0] at hW; exact hW
  | ok ss ρ1 =>
  rw [e0] at hW
  have hlen := hfl ss ρ1 e0
  intro vs F1 H1 hl S1
  have hW1 : Wants (Fly K mg E W σ tv tr) _ (callV den ss ρ1) := hW
  have L1 : Ln W σ (tv ++ vs.map some) ρ1 (tr ++ ss.map some) := L.next S1 (by simp [L.t, hl])
  have La := L1.cut (by simp [hl])
  have Sa := S4.cut L1 S1 (by simp [hl])
  unfold callV at hW1
  cases e : rds ρ1 ss with
  | none => rw [e] at hW1; exact hW1.elim
  | some ds =>
    rw [e] at hW1
    have hd := S4.reads La S1 hl e
    obtain ⟨Fp, P, l⟩ := lend Sa.fh hd
    have nolend := lent_none La S1 e l
    refine hs _ _ _ _ ?_
    refine ⟨by rw [List.append_nil]; exact hl.trans hlen, Fp, [], none, vs, ds, l.f2, l.dp, by simp, trivial, ?_⟩
    simp only at hW1
    cases ed : den none ds with
    | bad => rw [ed] at hW1; exact hW1.elim
    | ok s co =>
      rw [ed] at hW1
      cases co with
      | some _ => exact hW1.elim
      | none =>
        simp only at hW1
        split at hW1
        · rename_i hc
          have hc' : (∀ a, ¬ P a) ∨ noLstS s = true := by
            rw [Bool.or_eq_true] at hc
            exact hc.imp nolend id
          intro v F2 H2 ev ok _
          obtain ⟨F3, ev3, k1, k2, k3⟩ := l.back ev
          exact hW1 v F3 H2 (S4.result Sa ev3.grow (ROk.back ok hc' k1 k2 k3))
        · exact hW1.elim
    | exc c d co =>
      rw [ed] at hW1
      cases co with
      | some _ => exact hW1.elim
      | none =>
        simp only at hW1
        split at hW1
        · rename_i hc
          have hc' : (∀ a, ¬ P a) ∨ noLst d = true := by
            rw [Bool.or_eq_true] at hc
            exact hc.imp nolend id
          intro C dx v F2 H2 h1 h2 h3 ev _
          obtain ⟨F3, ev3, k1, k2, k3⟩ := l.back ev
          exact hW1 C dx v F3 H2 h1 h2 (k2 v d hc' h3) (SR.grow Sa ev3.grow)
        · exact hW1.elim
theorem tj_callV {ta : TA} {f : Evn → Res (List Sl)} {den : Option Cn → List D → Ret} {n : Nat} (ha : TAJ K mg E ta f) (hn : ∀ ρ ss ρ', f ρ = .ok ss ρ' → ss.length = n) : TJ K mg E (tCallSD (spD K mg n den) [] E ta) (fCallV den f) := tj_callVS (fun _ _ _ _ h => h) ha hn
/-- the first argument is a list that the callee changes -/
def noBr (i : Nat) (ss : List Sl) : Bool := ss.all fun s => match s with
  | .br j => j != i
  | _ => true
def noLstC : Cn → Bool
  | .lst ds => noLsts ds
def callT (den : Option Cn → List D → Ret) (ss : List Sl) (ρ : Evn) : Res Sl := match ss with
  | .br i :: rest => (match ρ[i]? with
    | some (some t) => (match t.own, rds ρ rest with
      | some c, some ds => if noBr i rest then (match den (some c) ds with
        | .ok s (some c') => if allFr rest || (noLstS s && noLstC c') then .ok s (ρ.set i (some (t.put c'))) else .bad
        | .exc x d (some c') => if allFr rest || (noLst d && noLstC c') then .exc x d (ρ.set i (some (t.put c'))) else .bad
        | _ => .bad) else .bad
      | _, _ => .bad)
    | _ => .bad)
  | _ => .bad
def fCallT (den : Option Cn → List D → Ret) (f : Evn → Res (List Sl)) (ρ : Evn) : Res Sl := (f ρ).bind fun ss ρ1 => callT den ss ρ1
theorem S4.evo (L : Ln W σ tv ρ tr) (S : S4 K W F H σ tv ρ tr) {t : Sl} (hi : ρ[i]? = some (some t)) (ho : t.own = some c) (hp : σ[i]? = some (some (V.ref p))) (e : FEvo [p] F H F' H') (hF : F' p = none) (hc : CRep K F' H' p c') (h : ROk K F' H H' v s) :
    S4 K W F' H' σ (tv ++ [some v]) (ρ.set i (some (t.put c'))) (tr ++ [some s]) := by
  obtain ⟨p', h1, h2, h3⟩ := S4.own_at L S hi ho
  rw [hp] at h1
  cases h1
  have hHp := crep_ne h3
  let Hm : Hp := fun a => if a = p then H p else H' a
  have hm1 : Hm p = H p := if_pos rfl
  have hm2 : ∀ a, a ≠ p → Hm a = H' a := fun a z => if_neg z
  have g : Grow F H F' Hm := by
    refine ⟨e.ff, fun a o h => ?_, fun a o h => ?_, e.fn⟩
    · by_cases z : a = p
      · subst z; rw [hm1]; exact h
      · rw [hm2 a z]; exact e.hh a o h (by simpa using z)
    · by_cases z : a = p
      · subst z; rw [hF] at h; cases h
      · rw [hm2 a z]; exact e.fh a o h
  have ok : ROk K F' H Hm v s := by
    cases s with
    | fr d => exact h
    | io _ _ => exact h.elim
    | br _ => exact h.elim
    | ow c0 =>
      obtain ⟨q, q1, q2, q3, q4⟩ := h
      have : q ≠ p := fun z => by subst z; exact hHp q2
      exact ⟨q, q1, q2, q3, crep_mono (Same.refl _) (hm2 q this) q4⟩
  have S1 : S4 K W F' Hm σ (tv ++ [some v]) ρ (tr ++ [some s]) := S4.result S g ok
  exact S4.mut ⟨L.s, L.r, by simp [L.t]⟩ S1 hi ho hp (fun a z => (hm2 a z).symm) hc
theorem tj_callT {ta : TA} {f : Evn → Res (List Sl)} {den : Option Cn → List D → Ret} {n : Nat} (ha : TAJ K mg E ta f) (hn : ∀ ρ ss ρ', f ρ = .ok ss ρ' → ss.length = n) : TJ K mg E (tCallSD (spD K mg n den) [] E ta) (fCallT den f) := by
  intro W F H σ tv ρ tr Q L S hW
  have hfl : ∀ ss ρ', f ρ = .ok ss ρ' → ss.length = n := hn ρ
  refine ha W F H σ tv ρ tr _ L S ?_
  unfold fCallT at hW
  cases e0 : f ρ with
  | bad => rw [e0] at hW; exact hW
  | exc c d ρ' => rw [e0] at hW; exact hW
  | ok ss ρ1 =>
  rw [e0] at hW
  have hlen := hfl ss ρ1 e0
  intro vs F1 H1 hl S1
  have hW1 : Wants (Fly K mg E W σ tv tr) _ (callT den ss ρ1) := hW
  unfold callT at hW1
  split at hW1
  · rename_i i rest
    cases vs with
    | nil => simp at hl
    | cons v0 us =>
    split at hW1
    · rename_i t et
      split at hW1
      · rename_i c ds ho er
        split at hW1
        · rename_i hnb
          have L1 : Ln W σ (tv ++ (v0 :: us).map some) ρ1 (tr ++ (Sl.br i :: rest).map some) := L.next S1 (by simp [L.t]; simpa using hl)
          have La : Ln W σ tv ρ1 tr := L1.cut (us := (v0 :: us).map some) (ss := (Sl.br i :: rest).map some) (by simp; simpa using hl)
          have Sa : S4 K W F1 H1 σ tv ρ1 tr := S4.cut L1 S1 (by simp; simpa using hl)
          have S1' : S4 K W F1 H1 σ (tv ++ [some v0] ++ us.map some) ρ1 (tr ++ [some (Sl.br i)] ++ rest.map some) := by rw [List.append_assoc, List.append_assoc]; exact S1
          have Lb : Ln W σ (tv ++ [some v0]) ρ1 (tr ++ [some (Sl.br i)]) := ⟨La.s, La.r, by simp [La.t]⟩
          have hul : us.length = rest.length := by simpa using hl
          have hd := S4.reads Lb S1' hul er
          obtain ⟨Fp, P, l⟩ := lend Sa.fh hd
          have nolend := lent_none Lb S1' er l
          obtain ⟨p, h1, h2, h3⟩ := S4.own_at La Sa et ho
          have own : t.own ≠ none := by rw [ho]; exact fun z => nomatch z
          have hi := (List.getElem?_eq_some_iff.mp et).1
          have lσ := La.s
          have lρ := La.r
          have lt := La.t
          have full : (ρ1 ++ (tr ++ (Sl.br i :: rest).map some))[i]? = some (some t) := by rw [List.getElem?_append_left hi]; exact et
          have fullσ : (σ ++ (tv ++ (v0 :: us).map some))[i]? = some (some (V.ref p)) := by rw [List.getElem?_append_left (by omega)]; exact h1
          have ev0 : v0 = .ref p := by
            have hb := (S1.br (ρ1.length + tr.length) i (by
              rw [List.getElem?_append_right (by omega), List.getElem?_append_right (by omega)]
              simp)).2.2 t full own
            rw [fullσ, List.getElem?_append_right (by omega), List.getElem?_append_right (by omega), show ρ1.length + tr.length - σ.length - tv.length = 0 by omega] at hb
            simpa using hb
          have pP : ¬ P p := fun z => by
            obtain ⟨k, d, k1, k2, k3⟩ := l.who p z
            obtain ⟨s, k4, k5⟩ := rds_get er k2
            have at1 : (ρ1 ++ (tr ++ (Sl.br i :: rest).map some))[ρ1.length + tr.length + 1 + k]? = some (some s) := by
              rw [List.getElem?_append_right (by omega), List.getElem?_append_right (by omega), show ρ1.length + tr.length + 1 + k - ρ1.length - tr.length = k + 1 by omega]
              simp [k4]
            have at2 : (σ ++ (tv ++ (v0 :: us).map some))[ρ1.length + tr.length + 1 + k]? = some (some (V.ref p)) := by
              rw [List.getElem?_append_right (by omega), List.getElem?_append_right (by omega), show ρ1.length + tr.length + 1 + k - σ.length - tv.length = k + 1 by omega]
              simp [k1]
            cases s with
            | fr d' => cases k5; exact k3 (S4.frAt Lb S1' k4 k1)
            | ow c0 =>
              have := S1.sep _ _ _ _ p at1 full (fun z => nomatch z) own at2 fullσ
              omega
            | io j c0 =>
              have := S1.sep _ _ _ _ p at1 full (fun z => nomatch z) own at2 fullσ
              omega
            | br j =>
              have hj : j ≠ i := by
                have := List.all_eq_true.mp hnb _ (List.mem_of_getElem? k4)
                simpa using this
              unfold rd at k5
              simp only at k5
              split at k5
              · rename_i s' es
                have os : s'.own ≠ none := fun z => by rw [z] at k5; cases k5
                have hj' := (List.getElem?_eq_some_iff.mp es).1
                have fj : (ρ1 ++ (tr ++ (Sl.br i :: rest).map some))[j]? = some (some s') := by rw [List.getElem?_append_left hj']; exact es
                have hb := (S1.br _ _ at1).2.2 s' fj os
                rw [at2] at hb
                exact hj (S1.sep j i s' t p fj full os own hb.symm fullσ)
              · cases k5
          have hFp : Fp p = none := by
            cases e : Fp p with
            | none => rfl
            | some o =>
              rcases l.inn p (by rw [e]; exact fun z => nomatch z) with z | z
              · exact absurd h2 z
              · exact absurd z pP
          refine ⟨by rw [List.append_nil]; exact hl.trans hlen, Fp, [p], some c, us, ds, l.f2, l.dp, by simp [ev0], ⟨hFp, crep_mono l.f1 rfl h3⟩, ?_⟩
          have cback : ∀ {c' : Cn} {F2 F3 H2 : Hp}, (∀ vs es, ((∀ a, ¬ P a) ∨ noLsts es = true) → DtAll K F2 vs es → DtAll K F3 vs es) → ((∀ a, ¬ P a) ∨ noLstC c' = true) → CRep K F2 H2 p c' → CRep K F3 H2 p c' := fun {c' F2 F3 H2} k hc h => by
            cases c' with
            | lst es =>
              obtain ⟨vs, e1, e2⟩ := h
              exact ⟨vs, e1, k vs es hc e2⟩
          cases ed : den (some c) ds with
          | bad => rw [ed] at hW1; exact hW1.elim
          | ok s co =>
            rw [ed] at hW1
            cases co with
            | none => exact hW1.elim
            | some c' =>
              simp only at hW1
              split at hW1
              · rename_i hc
                rw [Bool.or_eq_true, Bool.and_eq_true] at hc
                have hc1 : (∀ a, ¬ P a) ∨ noLstS s = true := hc.imp nolend And.left
                have hc2 : (∀ a, ¬ P a) ∨ noLstC c' = true := hc.imp nolend And.right
                intro v F2 H2 ev ok hco
                obtain ⟨F3, ev3, k1, k2, k3⟩ := l.back ev
                exact hW1 v F3 H2 (S4.evo La Sa et ho h1 ev3 (k1 p hco.1) (cback k3 hc2 hco.2) (ROk.back ok hc1 k1 k2 k3))
              · exact hW1.elim
          | exc x d co =>
            rw [ed] at hW1
            cases co with
            | none => exact hW1.elim
            | some c' =>
              simp only at hW1
              split at hW1
              · rename_i hc
                rw [Bool.or_eq_true, Bool.and_eq_true] at hc
                have hc1 : (∀ a, ¬ P a) ∨ noLst d = true := hc.imp nolend And.left
                have hc2 : (∀ a, ¬ P a) ∨ noLstC c' = true := hc.imp nolend And.right
                intro C dx v F2 H2 g1 g2 g3 ev hco
                obtain ⟨F3, ev3, k1, k2, k3⟩ := l.back ev
                have S5 := S4.evo (v := .non) (s := .fr .none) La Sa et ho h1 ev3 (k1 p hco.1) (cback k3 hc2 hco.2) (H' := H2) .non
                refine hW1 C dx v F3 H2 g1 g2 (k2 v d hc1 g3) (S4.cut ⟨La.s, by rw [List.length_set]; exact La.r, by simp [La.t]⟩ S5 (by simp))
              · exact hW1.elim
        · exact hW1.elim
      · exact hW1.elim
    · exact hW1.elim
  · exact hW1.elim
end
end DL

namespace DL
open PySem PySem.Spec PyProof.Rows L2
section
variable {K : PySem.W.Frag} {mg : Str → Option Value} {E : XW} {W : Wd} {F0 B F H F' H' : Hp} {σ tv us vs : L2.St} {ρ ρ' tr ss : Evn} {v : V} {d : D} {s : Sl} {c c' : Cn} {p : Addr} {i : Nat} {α β : Type}

/-! ### several names at once -/
theorem SR.move {N : Nat} {ios : List Addr} {k : Nat} (S : SR K N ios F0 B F H σ ρ) (hN : N ≤ ρ.length) (hk : N ≤ k) (hi : i < N) (e : ρ[k]? = some (some s)) (ev : σ[k]? = some (some v)) (hs : ∀ j, s ≠ .br j) (hio : ∀ j c, s ≠ .io j c)
    (nb : ∀ (q : Nat), ρ[q]? ≠ some (some (Sl.br i))) : SR K N ios F0 B F H ((σ.set i (some v)).set k none) ((ρ.set i (some s)).set k none) := by
  have lk := (List.getElem?_eq_some_iff.mp e).1
  have ls := S.len
  have gρ : ∀ {j : Nat} {t : Sl}, ((ρ.set i (some s)).set k none)[j]? = some (some t) → (j = i ∧ t = s) ∨ (j ≠ i ∧ j ≠ k ∧ ρ[j]? = some (some t)) := fun {j t} h => by
    rcases set_get h with ⟨_, _, h⟩ | ⟨hjk, h⟩
    · cases h
    · rcases set_get h with ⟨rfl, _, h⟩ | ⟨hji, h⟩
      · exact .inl ⟨rfl, Option.some.inj h⟩
      · exact .inr ⟨hji, hjk, h⟩
  have gσi : ((σ.set i (some v)).set k none)[i]? = some (some v) := by
    rw [List.getElem?_set_ne (by omega), List.getElem?_set_self (by omega)]
  have gσ : ∀ {j : Nat}, j ≠ i → j ≠ k → ((σ.set i (some v)).set k none)[j]? = σ[j]? := fun {j} h1 h2 => by
    rw [List.getElem?_set_ne (Ne.symm h2), List.getElem?_set_ne (Ne.symm h1)]
  refine ⟨by simp [ls], S.fh, S.f0, S.fn, S.bh, S.bs, fun j d h => ?_, fun j c h => ?_, fun j q c h => ?_, fun j q h => ?_, fun j q a b p e1 e2 o1 o2 e3 e4 => ?_⟩
  · rcases gρ h with ⟨rfl, rfl⟩ | ⟨h1, h2, h⟩
    · obtain ⟨w, w1, w2⟩ := S.fr k d e
      rw [ev] at w1; cases w1
      exact ⟨v, gσi, w2⟩
    · rw [gσ h1 h2]; exact S.fr j d h
  · rcases gρ h with ⟨rfl, rfl⟩ | ⟨h1, h2, h⟩
    · obtain ⟨p, w1, w2⟩ := S.ow k c e
      rw [ev] at w1; cases w1
      exact ⟨p, gσi, w2⟩
    · rw [gσ h1 h2]; exact S.ow j c h
  · rcases gρ h with ⟨rfl, rfl⟩ | ⟨h1, h2, h⟩
    · exact absurd rfl (hio _ _)
    · rw [gσ h1 h2]; exact S.io j q c h
  · rcases gρ h with ⟨rfl, rfl⟩ | ⟨h1, h2, h⟩
    · exact absurd rfl (hs _)
    · obtain ⟨q1, q2, q3⟩ := S.br j q h
      refine ⟨q1, q2, fun t ht ot => ?_⟩
      have hq : q ≠ i := fun z => nb j (z ▸ h)
      rcases gρ ht with ⟨z, _⟩ | ⟨g1, g2, ht'⟩
      · exact absurd z hq
      · rw [gσ h1 h2, gσ g1 g2]; exact q3 t ht' ot
  · rcases gρ e1 with ⟨rfl, rfl⟩ | ⟨h1, h2, h⟩
    · rcases gρ e2 with ⟨rfl, rfl⟩ | ⟨g1, g2, g⟩
      · rfl
      · rw [gσi] at e3; cases e3
        rw [gσ g1 g2] at e4
        exact absurd (S.sep k q _ b p e g o1 o2 ev e4).symm g2
    · rcases gρ e2 with ⟨rfl, rfl⟩ | ⟨g1, g2, g⟩
      · rw [gσi] at e4; cases e4
        rw [gσ h1 h2] at e3
        exact absurd (S.sep j k a _ p h e o1 o2 e3 ev) h2
      · rw [gσ h1 h2] at e3
        rw [gσ g1 g2] at e4
        exact S.sep j q a b p h g o1 o2 e3 e4
def plainS : Sl → Bool
  | .fr _ => true
  | .ow _ => true
  | _ => false
def setS (σ : L2.St) : List Nat → List V → L2.St
  | i :: is, v :: vs => setS (σ.set i (some v)) is vs
  | _, _ => σ
def setE (ρ : Evn) : List Nat → List Sl → Evn
  | i :: is, s :: ss => setE (ρ.set i (some s)) is ss
  | _, _ => ρ
theorem S4.putMany : ∀ {is : List Nat} {ss : List Sl} {vs : List V} {σ : L2.St} {ρ : Evn} {n : Nat}, is.length = ss.length → vs.length = ss.length → ss.all plainS = true → (∀ i ∈ is, i < W.N) →
    Ln W σ (List.replicate n none ++ vs.map some) ρ (List.replicate n none ++ ss.map some) → S4 K W F H σ (List.replicate n none ++ vs.map some) ρ (List.replicate n none ++ ss.map some) →
    Ln W (setS σ is vs) [] (setE ρ is ss) [] ∧ S4 K W F H (setS σ is vs) [] (setE ρ is ss) []
  | [], [], [], σ, ρ, n, _, _, _, _, L, S => by
    refine ⟨⟨L.s, L.r, rfl⟩, ?_⟩
    show S4 K W F H σ [] ρ []
    exact S4.cut (tv := []) (tr := []) (us := List.replicate n none ++ [].map some) (ss := List.replicate n none ++ ([] : List Sl).map some) (by simpa using L) (by simpa using S) (by simp)
  | i :: is, s :: ss, v :: vs, σ, ρ, n, h1, h2, h3, h4, L, S => by
    have h3' := h3
    rw [List.all_cons, Bool.and_eq_true] at h3
    have hi := h4 i List.mem_cons_self
    have l1 := L.s
    have l2 := L.r
    have e : (ρ ++ (List.replicate n none ++ (s :: ss).map some))[ρ.length + n]? = some (some s) := by
      rw [List.getElem?_append_right (by omega), List.getElem?_append_right (by simp)]
      simp
    have ev : (σ ++ (List.replicate n none ++ (v :: vs).map some))[ρ.length + n]? = some (some v) := by
      rw [List.getElem?_append_right (by omega), List.getElem?_append_right (by simp; omega)]
      simp [l1, l2]
    have nb : ∀ (q : Nat), (ρ ++ (List.replicate n none ++ (s :: ss).map some))[q]? ≠ some (some (Sl.br i)) := fun q z => by
      have hq := (S.br q i z).1
      rw [List.getElem?_append_right (by omega)] at z
      by_cases hn : q - ρ.length < n
      · rw [List.getElem?_append_left (by simpa using hn), List.getElem?_replicate] at z
        split at z <;> cases z
      · rw [List.getElem?_append_right (by simpa using hn), List.getElem?_map] at z
        cases e2 : (s :: ss)[q - ρ.length - (List.replicate n (none : Option Sl)).length]? with
        | none => rw [e2] at z; cases z
        | some t =>
          rw [e2] at z
          cases z
          have := List.all_eq_true.mp h3' _ (List.mem_of_getElem? e2)
          cases this
    have M := SR.move S (k := ρ.length + n) (i := i) (s := s) (v := v) (by simp; omega) (by omega) hi e ev (fun j z => by subst z; cases h3.1) (fun j c z => by subst z; cases h3.1) nb
    have e1 : ((ρ ++ (List.replicate n none ++ (s :: ss).map some)).set i (some s)).set (ρ.length + n) none = ρ.set i (some s) ++ (List.replicate (n + 1) none ++ ss.map some) := by
      rw [List.set_append_left _ _ (by omega), List.set_append_right _ _ (by simp), List.set_append_right _ _ (by simp)]
      simp [List.replicate_succ']
    have e2 : ((σ ++ (List.replicate n none ++ (v :: vs).map some)).set i (some v)).set (ρ.length + n) none = σ.set i (some v) ++ (List.replicate (n + 1) none ++ vs.map some) := by
      rw [List.set_append_left _ _ (by omega), List.set_append_right _ _ (by simp; omega), List.set_append_right _ _ (by simp; omega)]
      simp [List.replicate_succ', l1, l2]
    rw [e1, e2] at M
    exact S4.putMany (is := is) (ss := ss) (vs := vs) (n := n + 1) (by simpa using h1) (by simpa using h2) h3.2 (fun j hj => h4 j (List.mem_cons_of_mem _ hj)) ⟨by simp [l1], by simp [l2], by simpa using h2⟩ M
  | [], _ :: _, _, _, _, _, h, _, _, _, _, _ => by simp at h
  | _ :: _, [], _, _, _, _, h, _, _, _, _, _ => by simp at h
  | [], [], _ :: _, _, _, _, _, h, _, _, _, _ => by simp at h
  | _ :: _, _ :: _, [], _, _, _, _, h, _, _, _, _ => by simp at h
def fPar (is : List Nat) (f : Evn → Res (List Sl)) (ρ : Evn) : Res Fl := (f ρ).bind fun ss ρ1 => if is.length = ss.length ∧ ss.all plainS = true ∧ ∀ i ∈ is, i < ρ1.length then .ok .nx (setE ρ1 is ss) else .bad
theorem par_core {ta : TA} {f : Evn → Res (List Sl)} {is : List Nat} (h : TAJ K mg E ta f) {D : Ends} {Q : List V → Hp → Prop} (L : Ln W σ [] ρ []) (S : S4 K W F H σ [] ρ []) (hW : Wants (FlyS K mg E W) (EndsOk K W D) (fPar is f ρ))
    (hq : ∀ vs F' H', vs.length = is.length → Same F' H' → (∀ F2 H2, Grow F' H' F2 H2 → D.nx (setS σ is vs) H2) → Q vs H') : ta σ H Q := by
  refine h.run L S (fun _ _ _ h => h.fly L) hW fun ss ρ1 vs F1 H1 hl L1 S1 hW1 => ?_
  split at hW1
  · rename_i hc
    refine hq vs F1 H1 (by rw [hl]; exact hc.1.symm) S1.fh fun F2 H2 g => ?_
    have S2 : S4 K W F2 H2 σ ([] ++ vs.map some) ρ1 ([] ++ ss.map some) := SR.grow S1 g
    have := S4.putMany (is := is) (n := 0) hc.1 hl hc.2.1 (fun j hj => by rw [← L1.r]; exact hc.2.2 j hj) (by simpa using L1) (by simpa using S2)
    exact hW1 _ F2 H2 this.1 this.2
  · exact hW1.elim
theorem tsj_par {ta : TA} {f : Evn → Res (List Sl)} {i j : Nat} (h : TAJ K mg E ta f) : TSJ K mg E (tPar i j ta) (fPar [i, j] f) := by
  intro W F H σ ρ D L S hW
  refine par_core h L S hW fun vs F' H' hl fh q => ?_
  match vs, hl with
  | [v, w], _ => exact ⟨v, w, rfl, q F' H' (.refl fh)⟩
theorem tsj_par3 {ta : TA} {f : Evn → Res (List Sl)} {i j l : Nat} (h : TAJ K mg E ta f) : TSJ K mg E (tPar3 i j l ta) (fPar [i, j, l] f) := by
  intro W F H σ ρ D L S hW
  refine par_core h L S hW fun vs F' H' hl fh q => ?_
  match vs, hl with
  | [u, v, w], _ => exact ⟨u, v, w, rfl, q F' H' (.refl fh)⟩
def gNames : List Nat → TGs
  | [] => gNil
  | i :: is => gCons (gName i) (gNames is)
theorem gNames_ok : ∀ {is : List Nat} {vs : List V} {σ : L2.St} {H : Hp} {Q : L2.St → Hp → Prop}, vs.length = is.length → Q (setS σ is vs) H → gNames is vs σ H Q
  | [], [], _, _, _, _, q => ⟨rfl, q⟩
  | i :: is, v :: vs, σ, H, Q, hl, q => ⟨v, vs, rfl, gNames_ok (is := is) (vs := vs) (by simpa using hl) q⟩
  | [], _ :: _, _, _, _, h, _ => by simp at h
  | _ :: _, [], _, _, _, h, _ => by simp at h
/-- the same where one of the names is a cell: by way of a tuple -/
theorem tsj_parT {ta : TA} {f : Evn → Res (List Sl)} {is : List Nat} {n : Nat} (h : TAJ K mg E ta f) (hn : is.length = n) (hz : n ≤ 100000) : TSJ K mg E (tAsg (tTup ta) (gTup K n (gNames is))) (fPar is f) := by
  intro W F H σ ρ D L S hW
  refine par_core h L S hW fun vs F' H' hl fh q => ?_
  refine ⟨line5 (by omega), fun p hp => ⟨p, vs, rfl, .of upd_same, by omega, gNames_ok hl (q F' _ (.laid fh hp))⟩⟩
/-- (a, b, ..) = xs, xs a list of frozen data -/
def gLstF (n : Nat) (g : List D → Evn → Option Evn) (d : D) (ρ : Evn) : Option Evn := match d with
  | .list ds => if ds.length = n then g ds ρ else none
  | _ => none
theorem tgj_lst {Re : Rl} [Wk Re] {gs : TGs} {is : List Nat} {n : Nat} {fs : List D → Evn → Option Evn} (h : TGsJ K gs is fs) : TGJ Re K (gLst K n gs) is (gLstF n fs) := by
  intro W F H σ tv ρ tr x d ρ' Q L S hx hf q
  unfold gLstF at hf
  split at hf
  · rename_i ds
    split at hf
    · rename_i hn
      rcases Wk.wk hx with hx | ⟨p, vs, ds', rfl, e2, e3, ha⟩
      · cases hx with
        | lst hs ha => exact ⟨_, _, rfl, .of (S.fh _ _ hs), by rw [dpAll_len ha]; exact hn, h W F H σ tv ρ tr _ ds ρ' Q L S ha hf q⟩
      · cases e2
    · cases hf
  · cases hf

/-! ### the values of operators -/
def frO (d : Option D) : Option Sl := d.map .fr
theorem VR2.or {r r' : R2} {g g' : D → D → Option Sl} (h : VR2 K r g) (h' : VR2 K r' g') : VR2 K (fun x y H Q => r x y H Q ∨ r' x y H Q) (fun a b => (g a b).or (g' a b)) := by
  intro F H x y dx dy s Q fh r1 r2 e q
  cases e1 : g dx dy with
  | some t =>
    simp only [e1, Option.or_some] at e
    exact .inl (h F H x y dx dy s Q fh r1 r2 (by rw [e1]; exact e) q)
  | none =>
    simp only [e1, Option.none_or] at e
    exact .inr (h' F H x y dx dy s Q fh r1 r2 e q)
theorem VRn.or {r r' : List V → Hp → VK → Prop} {g g' : List D → Option Sl} (h : VRn K r g) (h' : VRn K r' g') : VRn K (fun x H Q => r x H Q ∨ r' x H Q) (fun a => (g a).or (g' a)) := by
  intro F H x dx s Q fh r1 e q
  cases e1 : g dx with
  | some t =>
    simp only [e1, Option.or_some] at e
    exact .inl (h F H x dx s Q fh r1 (by rw [e1]; exact e) q)
  | none =>
    simp only [e1, Option.none_or] at e
    exact .inr (h' F H x dx s Q fh r1 e q)
/-- two ints -/
def op2I (C : Int → Int → Bool) (g : Int → Int → D) (a b : D) : Option Sl := match a, b with
  | .int i, .int j => if C i j then some (.fr (g i j)) else none
  | _, _ => none
theorem vr_I {Cp : Int → Int → Prop} {C : Int → Int → Bool} {g : Int → Int → V} {gd : Int → Int → D} (hC : ∀ i j, C i j = true → Cp i j) (hg : ∀ F i j, Dt K F (g i j) (gd i j)) : VR2 K (rI Cp g) (op2I C gd) := by
  intro F H x y dx dy s Q fh r1 r2 e q
  unfold op2I at e
  split at e
  · rename_i i j
    split at e
    · rename_i hc
      cases e
      rw [RepC.int r1, RepC.int r2]
      exact ⟨i, j, rfl, rfl, hC i j hc, q _ F H (.refl fh) (hg F i j)⟩
    · cases e
  · cases e
theorem vr_I0 {g : Int → Int → V} {gd : Int → Int → D} (hg : ∀ F i j, Dt K F (g i j) (gd i j)) : VR2 K (rI0 g) (op2I (fun _ _ => true) gd) := by
  intro F H x y dx dy s Q fh r1 r2 e q
  unfold op2I at e
  split at e
  · rename_i i j
    cases e
    rw [RepC.int r1, RepC.int r2]
    exact ⟨i, j, rfl, rfl, q _ F H (.refl fh) (hg F i j)⟩
  · cases e
theorem vr_sub : VR2 K (rI0 fun i j => .int (i - j)) (op2I (fun _ _ => true) fun i j => .int (i - j)) := vr_I0 fun _ _ _ => .int _
theorem vr_addI : VR2 K (rI0 fun i j => .int (i + j)) (op2I (fun _ _ => true) fun i j => .int (i + j)) := vr_I0 fun _ _ _ => .int _
theorem vr_mod : VR2 K (rI (fun _ j => 0 < j) fun i j => .int (i % j)) (op2I (fun _ j => decide (0 < j)) fun i j => .int (i % j)) := vr_I (fun _ _ h => of_decide_eq_true h) fun _ _ _ => .int _
def divOk (j : Int) : Bool := decide (0 < j ∧ j < 2 ^ 64)
theorem vr_div : VR2 K (rI CDivW fun i j => .int (i / j)) (op2I (fun _ j => divOk j) fun i j => .int (i / j)) :=
  vr_I (fun i j h => by
    have h := of_decide_eq_true h
    exact wide_div (b := 64) h.1 (by omega) (by decide) (by decide)) fun _ _ _ => .int _
def powOk (i j : Int) : Bool := decide (0 ≤ j ∧ j ≤ 1000 ∧ i.natAbs < 2 ^ 64)
theorem vr_pow : VR2 K (rI CPow fun i j => .int (i ^ j.toNat)) (op2I powOk fun i j => .int (i ^ j.toNat)) :=
  vr_I (fun i j h => by
    have h := of_decide_eq_true h
    exact ⟨h.1, by omega, h.2.2⟩) fun _ _ _ => .int _
def mulOk (i j : Int) : Bool := decide ((-(2 ^ 64) < i ∧ i < 2 ^ 64) ∨ (-(2 ^ 64) < j ∧ j < 2 ^ 64))
theorem vr_mulI : VR2 K (rI CMul fun i j => .int (i * j)) (op2I mulOk fun i j => .int (i * j)) := vr_I (fun i j h => by unfold CMul; exact of_decide_eq_true h) fun _ _ _ => .int _
theorem vr_cmp {p : Int → Int → Prop} [∀ i j, Decidable (p i j)] : VR2 K (rI0 fun i j => .bl (decide (p i j))) (op2I (fun _ _ => true) fun i j => .bool (decide (p i j))) := vr_I0 fun _ _ _ => .bl _
/-- texts -/
def op2S (C : Str → Str → Bool) (g : Str → Str → D) (a b : D) : Option Sl := match a, b with
  | .str i, .str j => if C i j then some (.fr (g i j)) else none
  | _, _ => none
def rAddS : R2 := fun x y H Q => ∃ i j, x = .str i ∧ y = .str j ∧ i.length + j.length ≤ sizeLine ∧ Q (.str (i ++ j)) H
theorem vr_addS : VR2 K rAddS (op2S (fun i j => decide (i.length + j.length ≤ 100000)) fun i j => .str (i ++ j)) := by
  intro F H x y dx dy s Q fh r1 r2 e q
  unfold op2S at e
  split at e
  · rename_i i j
    split at e
    · rename_i hc
      cases e
      rw [RepC.str r1, RepC.str r2]
      exact ⟨i, j, rfl, rfl, line5 (of_decide_eq_true hc), q _ F H (.refl fh) (.str _)⟩
    · cases e
  · cases e
theorem vr_ltS : VR2 K (fun x y H Q => ∃ i j, x = .str i ∧ y = .str j ∧ Q (.bl (decide (i.cps.toList < j.cps.toList))) H) (op2S (fun _ _ => true) fun i j => .bool (decide (i.cps.toList < j.cps.toList))) := by
  intro F H x y dx dy s Q fh r1 r2 e q
  unfold op2S at e
  split at e
  · rename_i i j
    cases e
    rw [RepC.str r1, RepC.str r2]
    exact ⟨i, j, rfl, rfl, q _ F H (.refl fh) (.bl _)⟩
  · cases e
/-- a list made -/
def okL (ds : List D) : Option Sl := if ds.length ≤ 100000 then some (.ow (.lst ds)) else none
theorem ROk.new_lst {ds : List D} {vs : List V} (fh : Same F H) (hp : H p = none) (ha : DtAll K F vs ds) : ROk K F H (upd H p (.lst vs)) (.ref p) (.ow (.lst ds)) := ⟨p, rfl, hp, Same.free fh hp, vs, upd_same, ha⟩
theorem Dt.new_tup {ds : List D} {vs : List V} (fh : Same F H) {its : Array Value} (hp : H p = none) (ha : DtAll K F vs ds) : Dt K (upd F p (.frz (tupO its) (.tup vs))) (.ref p) (.tuple ds) := .tup ⟨its, upd_same⟩ (dpAll_mono (Same.upd_new (Same.free fh hp)) _ _ ha)
def catL (a b : D) : Option Sl := match a, b with
  | .list xs, .list ys => okL (xs ++ ys)
  | _, _ => none
theorem vr_catL : VR2 K rCat catL := by
  intro F H x y dx dy s Q fh r1 r2 e q
  unfold catL okL at e
  split at e
  · rename_i xs ys
    split at e
    · rename_i hc
      cases e
      obtain ⟨a, vs, rfl, h1, h2⟩ := r1.lst fh
      obtain ⟨b, ws, rfl, h3, h4⟩ := r2.lst fh
      refine ⟨a, b, vs, ws, rfl, rfl, h1, h3, ?_, fun p hp => q _ F _ (.laid fh hp) (.new_lst fh hp (dpAll_app h2 h4))⟩
      have := line5 hc
      rw [List.length_append] at this
      rw [dpAll_len h2, dpAll_len h4]
      exact this
    · cases e
  · cases e
def catT (a b : D) : Option Sl := match a, b with
  | .tuple xs, .tuple ys => if (xs ++ ys).length ≤ 100000 then some (.fr (.tuple (xs ++ ys))) else none
  | _, _ => none
theorem vr_addT {r : R2} (hr : ∀ x y H Q, (∃ a b xs ys, x = .ref a ∧ y = .ref b ∧ SqT K H a xs ∧ SqT K H b ys ∧ xs.length + ys.length ≤ sizeLine ∧ (xs = [] → Q (.ref b) H) ∧ (xs ≠ [] → ys = [] → Q (.ref a) H) ∧ (xs ≠ [] → ys ≠ [] → ∀ p its, H p = none → Q (.ref p) (upd H p (.frz (tupO its) (.tup (xs ++ ys)))))) → r x y H Q) : VR2 K r catT := by
  intro F H x y dx dy s Q fh r1 r2 e q
  unfold catT at e
  split at e
  · rename_i xs ys
    split at e
    · rename_i hc
      cases e
      obtain ⟨a, vs, rfl, h1, h2, h2'⟩ := r1.tup fh
      obtain ⟨b, ws, rfl, h3, h4, h4'⟩ := r2.tup fh
      have l1 := dpAll_len h2
      have l2 := dpAll_len h4
      refine hr _ _ H Q ⟨a, b, vs, ws, rfl, rfl, h1, h3, ?_, fun z => ?_, fun _ z => ?_, fun _ _ p its hp => q _ _ _ (.froze fh hp) (Dt.new_tup fh hp (dpAll_app h2 h4))⟩
      · have := line5 hc
        rw [List.length_append] at this
        rw [l1, l2]; exact this
      · subst z
        cases h2
        exact q _ F H (.refl fh) h4'
      · subst z
        cases h4
        refine q _ F H (.refl fh) ?_
        show Dt K F _ (.tuple (_ ++ []))
        rw [List.append_nil]; exact h2'
    · cases e
  · cases e
/-- == and != -/
def canEq (d : D) : Bool := SeqAt.shaped d
def eqOp (neg : Bool) (a b : D) : Option Sl := if canEq a && canEq b then some (.fr (.bool (if neg then !PyData.eqv a b else PyData.eqv a b))) else none
theorem vr_eqD : VR2 K (rEqD K) (eqOp false) := by
  intro F H x y dx dy s Q fh r1 r2 e q
  unfold eqOp at e
  split at e
  · rename_i hc
    rw [Bool.and_eq_true] at hc
    cases e
    exact ⟨dx, dy, r1.dp fh, r2.dp fh, hc.1, hc.2, q _ F H (.refl fh) (.bl _)⟩
  · cases e
theorem vr_neD : VR2 K (rNeD K) (eqOp true) := by
  intro F H x y dx dy s Q fh r1 r2 e q
  unfold eqOp at e
  split at e
  · rename_i hc
    rw [Bool.and_eq_true] at hc
    cases e
    exact ⟨dx, dy, r1.dp fh, r2.dp fh, hc.1, hc.2, q _ F H (.refl fh) (.bl _)⟩
  · cases e
/-- is None, is not None -/
def isNonD : D → Bool
  | .none => true
  | _ => false
def isN (neg : Bool) (a b : D) : Option Sl := match b with
  | .none => some (.fr (.bool (if neg then !isNonD a else isNonD a)))
  | _ => none
theorem RepC.isNon (h : RepC K F H v d) : decide (v = .non) = isNonD d := by
  rcases h with h | ⟨p, vs, ds, rfl, rfl, _⟩
  · cases h <;> rfl
  · rfl
theorem vr_isN : VR2 K (fun x y H Q => y = .non ∧ Q (.bl (decide (x = .non))) H) (isN false) := by
  intro F H x y dx dy s Q fh r1 r2 e q
  unfold isN at e
  split at e
  · cases e
    refine ⟨r2.non, ?_⟩
    rw [r1.isNon]
    exact q _ F H (.refl fh) (.bl _)
  · cases e
theorem vr_notN : VR2 K (fun x y H Q => y = .non ∧ Q (.bl (!decide (x = .non))) H) (isN true) := by
  intro F H x y dx dy s Q fh r1 r2 e q
  unfold isN at e
  split at e
  · cases e
    refine ⟨r2.non, ?_⟩
    rw [r1.isNon]
    exact q _ F H (.refl fh) (.bl _)
  · cases e
/-- x in xs, the items flat -/
def flatD : D → Bool
  | .none => true
  | .bool _ => true
  | .int _ => true
  | .str _ => true
  | _ => false
def inD (x : D) (xs : List D) : Bool := xs.any fun y => PyData.eqv y x
theorem flat_of {F : Hp} (h : Dt K F v d) (hf : flatD d = true) : flatV v = true := by
  cases h <;> first | rfl | cases hf
theorem eqv_of {w : V} {e : D} (h : Dt K F v d) (h' : Dt K F w e) (hf : flatD d = true) (hf' : flatD e = true) : eqV v w = PyData.eqv d e := by
  cases h <;> first | (cases hf; done) | (cases h' <;> first | (cases hf'; done) | rfl | (simp [eqV, PyData.eqv]))
theorem RepC.flat (h : RepC K F H v d) (hf : flatD d = true) : Dt K F v d := by
  rcases h with h | ⟨p, vs, ds, rfl, rfl, _⟩
  · exact h
  · cases hf
theorem inV_of {x : V} {dx : D} (hx : Dt K F x dx) (fx : flatD dx = true) : ∀ {vs : List V} {ds : List D}, DtAll K F vs ds → ds.all flatD = true → vs.all flatV = true ∧ inV x vs = inD dx ds
  | _, _, .nil, _ => ⟨rfl, rfl⟩
  | _, _, .cons h t, hf => by
    rw [List.all_cons, Bool.and_eq_true] at hf
    obtain ⟨h1, h2⟩ := inV_of hx fx t hf.2
    refine ⟨by rw [List.all_cons, flat_of h hf.1, h1]; rfl, ?_⟩
    unfold inV inD at *
    rw [List.any_cons, List.any_cons, h2, eqv_of h hx hf.1 fx]
def inOp (neg : Bool) (x xs : D) : Option Sl := match xs with
  | .list ds => if flatD x && ds.all flatD then some (.fr (.bool (if neg then !inD x ds else inD x ds))) else none
  | .tuple ds => if flatD x && ds.all flatD then some (.fr (.bool (if neg then !inD x ds else inD x ds))) else none
  | _ => none
theorem vr_in {neg : Bool} : VR2 K (rIn K neg) (inOp neg) := by
  intro F H x y dx dy s Q fh r1 r2 e q
  unfold inOp at e
  split at e
  · rename_i ds
    split at e
    · rename_i hc
      rw [Bool.and_eq_true] at hc
      cases e
      obtain ⟨a, vs, rfl, h1, h2⟩ := r2.lst fh
      have hx := r1.flat hc.1
      obtain ⟨h3, h4⟩ := inV_of hx hc.1 h2 hc.2
      refine ⟨a, vs, rfl, .inl (.of h1), flat_of hx hc.1, h3, ?_⟩
      rw [h4]
      exact q _ F H (.refl fh) (.bl _)
    · cases e
  · rename_i ds
    split at e
    · rename_i hc
      rw [Bool.and_eq_true] at hc
      cases e
      obtain ⟨a, vs, rfl, h1, h2, _⟩ := r2.tup fh
      have hx := r1.flat hc.1
      obtain ⟨h3, h4⟩ := inV_of hx hc.1 h2 hc.2
      refine ⟨a, vs, rfl, .inr h1, flat_of hx hc.1, h3, ?_⟩
      rw [h4]
      exact q _ F H (.refl fh) (.bl _)
    · cases e
  · cases e
/-- xs[i] -/
def ixD (n : Nat) (i : Int) : Option Nat := if 0 ≤ i then (if i < n then some i.toNat else none) else if 0 ≤ i + n then some (i + n).toNat else none
theorem atI_of {α : Type} {xs : List α} {i : Int} {j : Nat} {v : α} (h : ixD xs.length i = some j) (hv : xs[j]? = some v) : atI xs i = some v := by
  unfold ixD at h
  have e : ixN xs.length i = some j := by
    unfold ixN
    split at h
    · rename_i h0
      split at h
      · rename_i h1
        cases h
        rw [if_pos h0, if_pos (by omega)]
      · cases h
    · rename_i h0
      split at h
      · rename_i h1
        cases h
        rw [if_neg h0, if_pos (by omega)]
      · cases h
  unfold atI
  rw [e]; exact hv
def ixOp (xs i : D) : Option Sl := match xs, i with
  | .list ds, .int i => (match ixD ds.length i with
    | some j => (ds[j]?).map .fr
    | none => none)
  | .tuple ds, .int i => (match ixD ds.length i with
    | some j => (ds[j]?).map .fr
    | none => none)
  | .str z, .int i => if z.length ≤ 100000 then (match ixD z.cps.toList.length i with
    | some j => (z.cps.toList[j]?).map fun c => .fr (.str ⟨#[c]⟩)
    | none => none) else none
  | _, _ => none
theorem vr_ix : VR2 K (rIx K) ixOp := by
  intro F H x y dx dy s Q fh r1 r2 e q
  unfold ixOp at e
  split at e
  · rename_i ds i
    split at e
    · rename_i j ej
      cases ed : ds[j]? with
      | none => rw [ed] at e; cases e
      | some d =>
        rw [ed] at e
        cases e
        obtain ⟨a, vs, rfl, h1, h2⟩ := r1.lst fh
        obtain ⟨w, w1, w2⟩ := dpAll_get h2 ed
        rw [RepC.int r2]
        exact .inl ⟨a, vs, i, w, rfl, rfl, .of h1, atI_of (by rw [dpAll_len h2]; exact ej) w1, q _ F H (.refl fh) w2⟩
    · cases e
  · rename_i ds i
    split at e
    · rename_i j ej
      cases ed : ds[j]? with
      | none => rw [ed] at e; cases e
      | some d =>
        rw [ed] at e
        cases e
        obtain ⟨a, vs, rfl, h1, h2, _⟩ := r1.tup fh
        obtain ⟨w, w1, w2⟩ := dpAll_get h2 ed
        rw [RepC.int r2]
        exact .inr (.inl ⟨a, vs, i, w, rfl, rfl, h1, atI_of (by rw [dpAll_len h2]; exact ej) w1, q _ F H (.refl fh) w2⟩)
    · cases e
  · rename_i z i
    split at e
    · rename_i hz
      split at e
      · rename_i j ej
        cases ed : z.cps.toList[j]? with
        | none => rw [ed] at e; cases e
        | some c =>
          rw [ed] at e
          cases e
          rw [RepC.str r1, RepC.int r2]
          exact .inr (.inr ⟨z, i, c, rfl, rfl, line5 hz, atI_of ej ed, q _ F H (.refl fh) (.str _)⟩)
      · cases e
    · cases e
  · cases e
end
end DL

/-! Sorting tuples among which the empty one may be. -/
namespace DLS
open PySem PySem.W PySem.SeqAt PySem.Calls PyProof.Rows

/-- v is a tuple of these items -/
def TupV (h : Heap) (v : Value) (its : Array Value) : Prop := ∃ a o n, v = .ref a ∧ h.get? a = some o ∧ o.cls = .type "tuple" ∧ o.data = .seq its n

section
variable {M : Model} {A : Around} {E : Value → Shared → Prop} {s : Shared}
theorem firsts_run : ∀ (vs : List Value) {Q : List (Option Value) → Shared → Prop}, (∀ v ∈ vs, ∃ its, TupV s.heap v its) →
    (∀ fs, fs.length = vs.length → Q fs s) → wpAny M A (vs.mapM firstOfTuple') Q E s
  | [], _, _, h => by
    rw [List.mapM_nil]
    exact wpAny_pure (h [] rfl)
  | v :: vs, Q, t, h => by
    obtain ⟨its, a, o, n, rfl, ho, hc, hd⟩ := t v (.head _)
    rw [List.mapM_cons, kas_first_eq]
    refine wpAny_bind (wpAny_bind ((show Looks M s.heap (typeOf (.ref a)) o.cls from (Looks.ld ho).andThen .now).here ?_))
    rw [hc]
    rw [if_neg (by first | decide | simp)]
    refine wpAny_bind (listItems_at ho hd (wpAny_pure ?_))
    refine wpAny_bind (firsts_run vs (fun u hu => t u (.tail _ hu)) fun fs hl => wpAny_pure (h _ ?_))
    simp [hl]
theorem firsts_eq : ∀ (vs : List Value) (ff : List (Option Value)) {Q : List (Option Value) → Shared → Prop}, EachIs (fun v f => ∃ its, TupV s.heap v its ∧ its[0]? = f) vs ff →
    Q ff s → wpAny M A (vs.mapM firstOfTuple') Q E s
  | _, _, _, .nil, h => by
    rw [List.mapM_nil]
    exact wpAny_pure h
  | v :: vs, f :: ff, Q, .cons hv ht, h => by
    obtain ⟨its, ⟨a, o, n, rfl, ho, hc, hd⟩, hf⟩ := hv
    rw [List.mapM_cons, kas_first_eq]
    refine wpAny_bind (wpAny_bind ((show Looks M s.heap (typeOf (.ref a)) o.cls from (Looks.ld ho).andThen .now).here ?_))
    rw [hc]
    rw [if_neg (by first | decide | simp)]
    refine wpAny_bind (listItems_at ho hd (wpAny_pure ?_))
    rw [hf]
    exact wpAny_bind (firsts_eq vs ff ht (wpAny_pure h))
/-- tuples, not all with an item: they are asked in the general way, or as things of one class -/
theorem kind_mixed {vs : List Value} {ff : List (Option Value)} {Q : SortKind → Shared → Prop} (e : EachIs (fun v f => ∃ its, TupV s.heap v its ∧ its[0]? = f) vs ff) (hne : ¬ (ff.all (·.isSome)) = true)
    (h : Q (if (ff[0]?.bind id).isSome = true then general' else oneType') s) : wpAny M A (keyKind' vs.toArray) Q E s := by
  rw [keyKind'_eq, List.mapM_toArray, map_eq_pure_bind]
  refine wpAny_bind (wpAny_bind (firsts_eq vs ff e (wpAny_pure ?_)))
  rw [if_neg (by simpa using hne)]
  have e0 : ff.toArray[0]? = ff[0]? := by simp
  rw [e0]
  by_cases c : (ff[0]?.bind id).isSome = true
  · rw [if_pos c]
    rw [if_pos c] at h
    exact wpAny_pure h
  · rw [if_neg c]
    rw [if_neg c] at h
    rw [oneTypeOnly'_eq, List.mapM_toArray, map_eq_pure_bind]
    refine wpAny_bind (wpAny_bind (wpAny_bind (kas_mapM (r := Value.type "tuple") _ (fun v hv Q' hq => ?_) (wpAny_pure ?_))))
    · obtain ⟨f, _, its, ⟨a, o, n, rfl, ho, hc, _⟩, _⟩ := e.left v hv
      exact (show Looks M s.heap (typeOf (.ref a)) o.cls from (Looks.ld ho).andThen .now).here (by rw [hc]; exact hq)
    · obtain ⟨v, rest, rfl⟩ : ∃ v rest, vs = v :: rest := by
        cases vs with
        | nil =>
          cases e
          exact absurd (by rfl) hne
        | cons v rest => exact ⟨v, rest, rfl⟩
      have hq : ((List.map (fun _ => Value.type "tuple") (v :: rest)).toArray.all fun x => x == Value.type "tuple") = true := by simp
      have h0 : (List.map (fun _ => Value.type "tuple") (v :: rest)).toArray[0]? = some (Value.type "tuple") := by simp
      rw [h0]
      simp only [hq, if_true]
      exact wpAny_pure (wpAny_pure h)
end

section
variable {prog : Program} {w : World} {A : Around} {E : Value → Shared → Prop} {s : Shared}
/-- tuple's own __lt__, called as sorting calls it -/
theorem tup_lt_call {l b : Addr} {its its2 : Array Value} {e r : Nat → Bool} {Q : Value → Shared → Prop} (hl : s.heap.IsTuple l its) (hb : s.heap.IsTuple b its2)
    (he : ∀ j (h1 : j < its.size) (h2 : j < its2.size), EqAt A.in1 s its[j] its2[j] (e j)) (hr : ∀ j (h1 : j < its.size) (h2 : j < its2.size), e j = false → RcLt A.in1 s its[j] its2[j] (r j))
    (h : Q (.bool (firstLt e r (decide (its.size < its2.size)) (List.range (min its.size its2.size)))) s) : wpAny (model prog w) A (call (.builtin "tuple.__lt__") [.ref l, .ref b]) Q E s := by
  obtain ⟨⟨c1, d1, t1, s1⟩, g1, q1, n1, r1⟩ := id hl
  obtain ⟨⟨c2, d2, t2, s2⟩, g2, q2, n2, r2⟩ := id hb
  simp only at q1 r1 q2 r2
  subst q1 r1 q2 r2
  exact call_meets PySem.F.slot_tuple_lt ⟨_, g1, rfl⟩ PySem.F.entry_tuple_lt (PySem.F.args_tuple_lt_2 _ _) (tuple_ltAt l b its its2 n1 n2 d1 d2 s1 s2 e r) ⟨g1, g2, he, hr, h⟩
theorem one_lt_tups {f : Bool} {xs ys : List PyData} {a b : Value} {as bs : List Addr} {Q : Bool → Shared → Prop} (ra : Reads s.heap a (.tuple xs) as) (rb : Reads s.heap b (.tuple ys) bs) (hal : alikeAll xs ys = true)
    (hu : A.units + min (PyData.tuple xs).depth (PyData.tuple ys).depth < cLine) (hq : Q (dataLt (.tuple xs) (.tuple ys)) s) : wpAny (model prog w) A (oneLt' f a b) Q E s := by
  cases f with
  | false => exact oneLt_alike (fun z => by cases z) ra rb (by simpa [alike] using hal) (fun z => by cases z) hu hq
  | true =>
    cases ra with
    | @tuple l o vs n _ as₁ h1 h2 h3 h4 =>
      cases rb with
      | @tuple l' o' vs' n' _ bs₁ k1 k2 k3 k4 =>
        have z1 : vs.size = xs.length := by simpa using ReadsAll.length _ _ _ h4
        have z2 : vs'.size = ys.length := by simpa using ReadsAll.length _ _ _ k4
        rw [dataLt_tuple, ← firstLt_toks xs ys hal, ← z1, ← z2] at hq
        rw [oneLt'_eq]
        simp only [if_true]
        refine wpAny_bind (wpAny_cRoomFor (room_here hu) ?_)
        refine wpAny_bind (wpAny_callSpecialIfBound?_slot (T := "tuple") ⟨_, h1, h2⟩ PySem.F.slot_tuple_lt (tup_lt_call (e := pairEq xs ys) (r := fun j => dataLt (xs.getD j .none) (ys.getD j .none)) ⟨_, h1, h2, _, h3⟩ ⟨_, k1, k2, _, k3⟩ (fun j j1 j2 => ?_) (fun j j1 j2 hj => ?_) ?_))
        · have q := eqAt_alikeAll xs ys A.in1 s vs.toList vs'.toList _ _ h4 k4 hal (room_in hu) j (by simpa using j1) (by simpa using j2)
          simpa using q
        · have q := rcLt_alikeAll xs ys A.in1 s vs.toList vs'.toList _ _ h4 k4 hal (room_in hu) j (by simpa using j1) (by simpa using j2) hj
          simpa using q
        · exact wpAny_truthy_bool hq
theorem each_firsts {h : Heap} : ∀ {vs : List Value} {ds : List PyData}, EachIs (fun v d => ∃ as, Reads h v d as) vs ds → (∀ d ∈ ds, ∃ xs, d = .tuple xs) →
    ∃ ff, EachIs (fun v f => ∃ its, TupV h v its ∧ its[0]? = f) vs ff ∧ ((∀ d ∈ ds, ∃ x r, d = PyData.tuple (x :: r)) ∨ ¬ (ff.all (·.isSome)) = true)
  | _, _, .nil, _ => ⟨[], .nil, .inl fun d hd => by cases hd⟩
  | v :: vs, d :: ds, .cons ⟨as, r⟩ t, ht => by
    obtain ⟨ff, e1, e2⟩ := each_firsts t fun d hd => ht d (.tail _ hd)
    obtain ⟨xs, rfl⟩ := ht d (.head _)
    cases r with
    | @tuple a o its n _ _ ho hc hd hr =>
      refine ⟨its[0]? :: ff, .cons ⟨its, ⟨a, o, n, rfl, ho, hc, hd⟩, rfl⟩ e1, ?_⟩
      cases xs with
      | nil =>
        have z : its.size = 0 := by simpa using ReadsAll.length _ _ _ hr
        have zz : its[0]? = none := by simp [z]
        right
        rw [zz]
        simp
      | cons x r =>
        rcases e2 with e2 | e2
        · left
          intro d hd
          rcases List.mem_cons.mp hd with rfl | hd
          · exact ⟨x, r, rfl⟩
          · exact e2 d hd
        · right
          rw [List.all_cons]
          simp only [Bool.and_eq_true, not_and]
          intro _
          exact e2
/-- all are tuples, or none is a tuple or None -/
def Sortable2 (ds : List PyData) : Prop := (∀ d ∈ ds, ∃ xs, d = PyData.tuple xs) ∨ ∀ d ∈ ds, d ≠ .none ∧ ∀ xs, d ≠ .tuple xs
theorem sorts2 {vs : List Value} {ds : List PyData} (e : EachIs (fun v d => ∃ as, Reads s.heap v d as) vs ds) (hal : AllAlike ds) (hk : Sortable2 ds) (hu : ∀ d, d ∈ ds → A.units + d.depth < cLine) :
    SortsAt prog w A s (dataKind s.heap ds) vs := by
  rcases hk with ht | hn
  · obtain ⟨ff, e1, e2⟩ := each_firsts e ht
    rcases e2 with e2 | e2
    · exact SortsAt.data e hal (.inl e2) hu
    · refine ⟨fun v hv => ?_, if (ff[0]?.bind id).isSome = true then general' else oneType', ?_, fun _ E Q hq => kind_mixed e1 e2 hq⟩
      · obtain ⟨d, hd, as, r⟩ := e.left v hv
        exact ⟨_, dataKind_some hal hd r⟩
      · have go : ∀ f : Bool, ∀ (E : Value → Shared → Prop) (x y : Value) (a b : List (Int ⊕ List Nat)) (Q : Bool → Shared → Prop), (dataKind s.heap ds).keyOf x = some a → (dataKind s.heap ds).keyOf y = some b →
            Q ((dataKind s.heap ds).blt a b) s → wpAny (model prog w) A (oneLt' f x y) Q E s := by
          intro f E x y a b Q ha hb hq
          obtain ⟨d, as, hd, ra, rfl⟩ := dataKind_inv ha
          obtain ⟨d', as', hd', rb, rfl⟩ := dataKind_inv hb
          have hdd := hal d hd d' hd'
          have hru : A.units + min d.depth d'.depth < cLine := Nat.lt_of_le_of_lt (Nat.add_le_add_left (Nat.min_le_left _ _) _) (hu d hd)
          obtain ⟨xs, rfl⟩ := ht d hd
          obtain ⟨ys, rfl⟩ := ht d' hd'
          exact one_lt_tups ra rb (by simpa [alike] using hdd) hru hq
        intro E x y a b Q ha hb hq
        split
        · exact go false E x y a b Q ha hb hq
        · exact go true E x y a b Q ha hb hq
  · exact SortsAt.data e hal (.inr hn) hu
/-- sorted(xs), xs a list -/
theorem collect_tup {l : Addr} {vs : List Value} {Q : List Value → Shared → Prop} (hl : IsTup s.heap l vs.toArray) (hsz : vs.length ≤ sizeLine)
    (h : Q vs { s with heap := (s.heap.push (seqObj "list" #[] 0)).update s.heap.objs.size (Obj.mapSeq (· ++ vs.toArray)) }) :
    wpAny (model prog w) A (collect (.ref l)) Q E s := by
  obtain ⟨o, ho, hc, n, hd⟩ := id hl
  unfold collect
  refine wpAny_bind (wpAny_runValue (codeAny_builtin entry_proto_collect' ?_))
  show wpAny _ _ (do again (.builtin "list.__iadd__" ⟨[← newList [], .ref l], []⟩)) _ _ s
  refine wpAny_bind (wpAny_newList (wpAny_pure ⟨Code.quiet_builtin _ (by decide +kernel), codeAny_builtin entry_list_iadd' ?_⟩))
  show wpAny _ _ (Builtin.List.listExtendWith (.ref s.heap.objs.size) (.ref l) (.ref s.heap.objs.size)) _ _ { s with heap := s.heap.push (seqObj "list" #[] 0) }
  unfold Builtin.List.listExtendWith
  have ho' : (s.heap.push (seqObj "list" #[] 0)).get? l = some o := Heap.get?_push_of_some _ ho
  refine wpAny_bind (wpAny_typeOf (T := "tuple") ⟨o, ho', hc⟩ ?_)
  have ht : (Value.type "tuple" == Value.type "tuple") = true := by rfl
  rw [if_pos (by rw [ht]; simp)]
  refine wpAny_bind (listItems_at ho' hd ?_)
  refine wpAny_bind (listItems_at (xs := #[]) (n := 0) (Heap.get?_push_size _ rfl) rfl ?_)
  rw [if_neg (by simp)]
  refine wpAny_bind (listUpdate_at (xs := #[]) (n := 0) (Heap.get?_push_size _ rfl) rfl ?_ (Nat.zero_le _) (by show (#[] ++ vs.toArray).size ≤ sizeLine + 1; simp only [Array.size_append, List.size_toArray, List.length_nil]; omega))
  refine wpAny_pure ?_
  show wpAny (model prog w) A (do
      let o ← load s.heap.objs.size
      match o.data with
      | .seq xs _ => pure xs.toList
      | _ => unsupported "internal:collect") Q E { s with heap := (s.heap.push (seqObj "list" #[] 0)).update s.heap.objs.size (Obj.mapSeq (· ++ vs.toArray)) }
  refine wpAny_bind (wpAny_load (get?_update_seq (Heap.get?_push_size _ rfl) _) ?_)
  show wpAny _ _ (pure ((#[] : Array Value) ++ vs.toArray).toList) Q E _
  rw [show ((#[] : Array Value) ++ vs.toArray).toList = vs by simp]
  exact wpAny_pure h
theorem sorted_tup {l : Addr} {vs : List Value} {κ : PyProof.Rows.KeyKind} {Q : Value → Shared → Prop} (hl : IsTup s.heap l vs.toArray) (S : SortsAt prog w A.in1.in1 { s with heap := sortingHeap (copyHeap s.heap vs) (s.heap.objs.size + 1) vs } κ vs) (hL : vs.length ≤ sizeLine)
    (h : Q (.ref (s.heap.objs.size + 1)) { s with heap := sortedAll s.heap vs (sortVals κ false vs vs).toArray }) : wpAny (model prog w) A (call (.builtin "sorted") [.ref l]) Q E s := by
  refine call_function_entry_kw kind_sorted plain_sorted entry_sorted (args_sorted1 _) ?_
  unfold Builtin.«sorted»
  refine wpAny_bind (m := checkCount "sorted" 1 1 _) (wpAny_pure ?_)
  refine wpAny_bind (collect_tup hl hL ?_)
  refine wpAny_bind (wpAny_newList ?_ hL)
  have hsz : ((s.heap.push (seqObj "list" #[] 0)).update s.heap.objs.size (Obj.mapSeq (· ++ vs.toArray))).objs.size = s.heap.objs.size + 1 := by
    rw [Heap.size_update, size_push']
  show wpAny _ _ _ _ _ { s with heap := copyHeap s.heap vs }
  rw [hsz]
  refine wpAny_bind (wpAny_holding (wpAny_call_entry_kw slot_list_sort ⟨_, copyHeap_at s.heap vs, rfl⟩ entry_list_sort ?body (args_list_sort _)))
  case body =>
    show wpAny (model prog w) A.in1.in1 (Builtin.«list.sort» ⟨[.ref (s.heap.objs.size + 1)], []⟩) _ _ _
    refine wpAny_mono (list_sort_vals (s := { s with heap := copyHeap s.heap vs }) (P := fun f s' => f = .done (.ret .none) ∧ Q (.ref (s.heap.objs.size + 1)) s') (copyHeap_at s.heap vs) S hL ⟨rfl, h⟩) (fun f s' hf => ?_) fun _ _ e => e
    obtain ⟨rfl, hq⟩ := hf
    exact ⟨_, rfl, wpAny_pure ⟨_, rfl, hq⟩⟩
theorem sorted2 {β : Type} {vs : List Value} {bs : List β} {enc : β → PyData} {R : Value → β → Prop} {l : Addr} {Q : Value → Shared → Prop} (hl : s.heap.IsList l vs.toArray ∨ IsTup s.heap l vs.toArray) (e : EachIs R vs bs) (er : EachIs (fun v b => ∃ as, Reads s.heap v (enc b) as) vs bs)
    (hal : AllAlike (bs.map enc)) (hk : Sortable2 (bs.map enc)) (hL : bs.length ≤ sizeLine) (hu : ∀ b, b ∈ bs → A.units + 2 + (enc b).depth < cLine)
    (h : ∀ out, out.length = bs.length → EachIs R out (bs.mergeSort (dataLe false enc)) → Q (.ref (s.heap.objs.size + 1)) { s with heap := sortedAll s.heap vs (List.toArray out) }) :
    wpAny (model prog w) A (call (.builtin "sorted") [.ref l]) Q E s := by
  have kp : EachIs (fun v b => ∃ as, Reads (sortingHeap (copyHeap s.heap vs) (s.heap.objs.size + 1) vs) v (enc b) as) vs bs := er.mono fun _ _ ⟨as, r⟩ => ⟨as, PyProof.Rows.Reads.keeps (fun _ _ => sorting_copy_old) r⟩
  have S := sorts2 (prog := prog) (w := w) (A := A.in1.in1) (s := { s with heap := sortingHeap (copyHeap s.heap vs) (s.heap.objs.size + 1) vs }) (each_map (R := fun v d => ∃ as, Reads (sortingHeap (copyHeap s.heap vs) (s.heap.objs.size + 1) vs) v d as) enc kp) hal hk (bound_map hu)
  have fin := h _ ((sortVals_length false rfl).trans e.length) (sortVals_data false e kp hal)
  rcases hl with hl | hl
  · exact sorted_vals hl S (by rw [e.length]; exact hL) fin
  · exact sorted_tup hl S (by rw [e.length]; exact hL) fin
end
end DLS

namespace DL
open PySem PySem.Spec PyProof.Rows L2 RZ
section
variable {K : PySem.W.Frag} {mg : Str → Option Value} {E : XW} {W : Wd} {F0 B F H F' H' : Hp} {σ tv us vs : L2.St} {ρ ρ' tr ss : Evn} {v : V} {d : D} {s : Sl} {c c' : Cn} {p : Addr} {i : Nat} {α β : Type}

/-! ### the values of calls -/
theorem one_arg {r : List V → Hp → VK → Prop} {g : List D → Option Sl} (hg : ∀ ds, g ds ≠ none → ∃ d, ds = [d])
    (h : ∀ (F H : Hp) (x : V) (d : D) (s : Sl) (Q : VK), Same F H → RepC K F H x d → g [d] = some s → (∀ v F' H', Grow F H F' H' → ROk K F' H H' v s → Q v H') → r [x] H Q) : VRn K r g := by
  intro F H xs ds s Q fh hd e q
  obtain ⟨d, rfl⟩ := hg ds (by rw [e]; exact fun z => nomatch z)
  cases hd with
  | cons r t =>
    cases t
    exact h F H _ d s Q fh r e q
def lenOp : List D → Option Sl
  | [.list ds] => some (.fr (.int ds.length))
  | [.tuple ds] => some (.fr (.int ds.length))
  | [.str z] => if z.length ≤ 100000 then some (.fr (.int z.length)) else none
  | _ => none
theorem vr_len : VRn K (fun xs H Q => ∃ x n, xs = [x] ∧ LenV K x H n ∧ Q (.int n) H) lenOp := by
  refine one_arg (fun ds h => ?_) fun F H x d s Q fh r e q => ?_
  · unfold lenOp at h
    split at h <;> first | exact ⟨_, rfl⟩ | exact absurd rfl h
  · unfold lenOp at e
    split at e
    · rename_i ds0 ds e0
      cases e0
      cases e
      obtain ⟨a, vs, rfl, h1, h2⟩ := r.lst fh
      exact ⟨_, ds.length, rfl, .inl ⟨vs, .of h1, (dpAll_len h2).symm⟩, q _ F H (.refl fh) (.int _)⟩
    · rename_i ds0 ds e0
      cases e0
      cases e
      obtain ⟨a, vs, rfl, h1, h2, _⟩ := r.tup fh
      exact ⟨_, ds.length, rfl, .inr ⟨vs, h1, (dpAll_len h2).symm⟩, q _ F H (.refl fh) (.int _)⟩
    · rename_i ds0 z e0
      cases e0
      split at e
      · rename_i hz
        cases e
        rw [RepC.str r]
        exact ⟨_, z.length, rfl, ⟨line5 hz, rfl⟩, q _ F H (.refl fh) (.int _)⟩
      · cases e
    · cases e
def listOp : List D → Option Sl
  | [.list ds] => some (.ow (.lst ds))
  | [.tuple ds] => some (.ow (.lst ds))
  | _ => none
theorem vr_list : VRn K (fun xs H Q => ∃ p ys, xs = [.ref p] ∧ (SqL K H p ys ∨ SqT K H p ys) ∧ ∀ l, H l = none → Q (.ref l) (upd H l (.lst ys))) listOp := by
  refine one_arg (fun ds h => ?_) fun F H x d s Q fh r e q => ?_
  · unfold listOp at h
    split at h <;> first | exact ⟨_, rfl⟩ | exact absurd rfl h
  · unfold listOp at e
    split at e
    · rename_i ds0 ds e0
      cases e0
      cases e
      obtain ⟨a, vs, rfl, h1, h2⟩ := r.lst fh
      exact ⟨a, vs, rfl, .inl (.of h1), fun p hp => q _ F _ (.laid fh hp) (.new_lst fh hp h2)⟩
    · rename_i ds0 ds e0
      cases e0
      cases e
      obtain ⟨a, vs, rfl, h1, h2, _⟩ := r.tup fh
      exact ⟨a, vs, rfl, .inr h1, fun p hp => q _ F _ (.laid fh hp) (.new_lst fh hp h2)⟩
    · cases e
def tupleOp : List D → Option Sl
  | [.list ds] => some (.fr (.tuple ds))
  | [.tuple ds] => some (.fr (.tuple ds))
  | _ => none
theorem call_tupleN {X : Cx} : CallR X (.type "tuple") (fun xs H Q => ∃ p ys, xs = [.ref p] ∧ ((SqL X.K H p ys ∧ ∀ l its, H l = none → Q (.ref l) (upd H l (.frz (tupO its) (.tup ys)))) ∨ (SqT X.K H p ys ∧ Q (.ref p) H))) := by
  intro pins s σ H xs us Q I r h
  obtain ⟨p, ys, rfl, h⟩ := h
  rw [Vals.ref1 r]
  rcases h with ⟨hq, q⟩ | ⟨hq, q⟩
  · obtain ⟨its, r', pl, hz⟩ := I.list hq
    have hlen := r'.length
    refine call_tuple_list pl.isList (fun h' kp => ?_) (by simp only [List.size_toArray] <;> omega)
    have I1 : Inv X pins σ H { s with heap := h' } := I.kept (t' := s.toks) kp
    have I2 : Inv X pins σ (upd H h'.objs.size (.frz (tupO its.toArray) (.tup ys))) { s with heap := h'.push { cls := .type "tuple", data := .seq its.toArray } } :=
      I1.laid (t' := s.toks) (fun b o e => Heap.get?_push_of_some _ e) (Nat.le_refl _) (show ObjOk X.prog X.w _ _ _ (.frz (tupO its.toArray) (.tup ys)) from ⟨Heap.get?_push_size _ rfl, hz, its, r', IsTup.new _ _⟩)
    exact ⟨.ref h'.objs.size, _, I2, rfl, q _ _ (I1.hok.fresh (Nat.le_refl _))⟩
  · obtain ⟨its, r', pl, hz⟩ := I.tuple hq
    exact call_tuple_same pl ⟨.ref p, H, I, rfl, q⟩
theorem vr_tuple : VRn K (fun xs H Q => ∃ p ys, xs = [.ref p] ∧ ((SqL K H p ys ∧ ∀ l its, H l = none → Q (.ref l) (upd H l (.frz (tupO its) (.tup ys)))) ∨ (SqT K H p ys ∧ Q (.ref p) H))) tupleOp := by
  refine one_arg (fun ds h => ?_) fun F H x d s Q fh r e q => ?_
  · unfold tupleOp at h
    split at h <;> first | exact ⟨_, rfl⟩ | exact absurd rfl h
  · unfold tupleOp at e
    split at e
    · rename_i ds0 ds e0
      cases e0
      cases e
      obtain ⟨a, vs, rfl, h1, h2⟩ := r.lst fh
      exact ⟨a, vs, rfl, .inl ⟨.of h1, fun p its hp => q _ _ _ (.froze fh hp) (Dt.new_tup fh hp h2)⟩⟩
    · rename_i ds0 ds e0
      cases e0
      cases e
      obtain ⟨a, vs, rfl, h1, h2, h3⟩ := r.tup fh
      exact ⟨a, vs, rfl, .inr ⟨h1, q _ F H (.refl fh) h3⟩⟩
    · cases e
def absOp : List D → Option Sl
  | [.int i] => some (.fr (.int (if i < 0 then -i else i)))
  | _ => none
theorem vr_abs : VRn K (fun xs H Q => ∃ i, xs = [.int i] ∧ Q (.int (if i < 0 then -i else i)) H) absOp := by
  refine one_arg (fun ds h => ?_) fun F H x d s Q fh r e q => ?_
  · unfold absOp at h
    split at h <;> first | exact ⟨_, rfl⟩ | exact absurd rfl h
  · unfold absOp at e
    split at e
    · rename_i ds0 i e0
      cases e0
      cases e
      rw [RepC.int r]
      exact ⟨i, rfl, q _ F H (.refl fh) (.int _)⟩
    · cases e
def intOp : List D → Option Sl
  | [.int i] => some (.fr (.int i))
  | [.bool k] => some (.fr (.int (if k then 1 else 0)))
  | _ => none
theorem vr_int : VRn K (fun xs H Q => (∃ i, xs = [.int i] ∧ Q (.int i) H) ∨ ∃ k, xs = [.bl k] ∧ Q (.int (if k then 1 else 0)) H) intOp := by
  refine one_arg (fun ds h => ?_) fun F H x d s Q fh r e q => ?_
  · unfold intOp at h
    split at h <;> first | exact ⟨_, rfl⟩ | exact absurd rfl h
  · unfold intOp at e
    split at e
    · rename_i ds0 i e0
      cases e0
      cases e
      rw [RepC.int r]
      exact .inl ⟨i, rfl, q _ F H (.refl fh) (.int _)⟩
    · rename_i ds0 i e0
      cases e0
      cases e
      rw [RepC.bl r]
      exact .inr ⟨i, rfl, q _ F H (.refl fh) (.int _)⟩
    · cases e
def max2Op : List D → Option Sl
  | [.int i, .int j] => some (.fr (.int (if j > i then j else i)))
  | _ => none
theorem vr_max2 : VRn K (fun xs H Q => ∃ i j, xs = [.int i, .int j] ∧ Q (.int (if j > i then j else i)) H) max2Op := by
  intro F H xs ds s Q fh hd e q
  unfold max2Op at e
  split at e
  · rename_i ds0 i j
    cases e
    cases hd with
    | cons r t => cases t with
      | cons r2 t =>
        cases t
        rw [RepC.int r, RepC.int r2]
        exact ⟨i, j, rfl, q _ F H (.refl fh) (.int _)⟩
  · cases e
def min2Op : List D → Option Sl
  | [.int i, .int j] => some (.fr (.int (if j < i then j else i)))
  | _ => none
theorem vr_min2 : VRn K (fun xs H Q => ∃ i j, xs = [.int i, .int j] ∧ Q (.int (if j < i then j else i)) H) min2Op := by
  intro F H xs ds s Q fh hd e q
  unfold min2Op at e
  split at e
  · rename_i ds0 i j
    cases e
    cases hd with
    | cons r t => cases t with
      | cons r2 t =>
        cases t
        rw [RepC.int r, RepC.int r2]
        exact ⟨i, j, rfl, q _ F H (.refl fh) (.int _)⟩
  · cases e
/-- lists of truths, of ints, of texts -/
def bools : List D → Option (List Bool)
  | [] => some []
  | .bool b :: ds => (bools ds).map (b :: ·)
  | _ => none
theorem bools_ok : ∀ {ds : List D} {vs : List V} {bs : List Bool}, bools ds = some bs → DtAll K F vs ds → vs = bs.map V.bl
  | [], _, bs, h, hd => by cases h; cases hd; rfl
  | d :: ds, vs, bs, h, hd => by
    unfold bools at h
    split at h
    · rename_i e; cases e
    · rename_i b ds' e
      cases e
      cases eb : bools ds with
      | none => rw [eb] at h; cases h
      | some bs' =>
        rw [eb] at h
        cases h
        cases hd with
        | cons h1 h2 =>
          cases h1
          rw [bools_ok eb h2]
          rfl
    · cases h
def intsD : List D → Option (List Int)
  | [] => some []
  | .int b :: ds => (intsD ds).map (b :: ·)
  | _ => none
theorem intsD_ok : ∀ {ds : List D} {vs : List V} {bs : List Int}, intsD ds = some bs → DtAll K F vs ds → vs = bs.map V.int
  | [], _, bs, h, hd => by cases h; cases hd; rfl
  | d :: ds, vs, bs, h, hd => by
    unfold intsD at h
    split at h
    · rename_i e; cases e
    · rename_i b ds' e
      cases e
      cases eb : intsD ds with
      | none => rw [eb] at h; cases h
      | some bs' =>
        rw [eb] at h
        cases h
        cases hd with
        | cons h1 h2 =>
          cases h1
          rw [intsD_ok eb h2]
          rfl
    · cases h
def strsD : List D → Option (List Str)
  | [] => some []
  | .str b :: ds => (strsD ds).map (b :: ·)
  | _ => none
theorem strsD_ok : ∀ {ds : List D} {vs : List V} {bs : List Str}, strsD ds = some bs → DtAll K F vs ds → vs = bs.map V.str
  | [], _, bs, h, hd => by cases h; cases hd; rfl
  | d :: ds, vs, bs, h, hd => by
    unfold strsD at h
    split at h
    · rename_i e; cases e
    · rename_i b ds' e
      cases e
      cases eb : strsD ds with
      | none => rw [eb] at h; cases h
      | some bs' =>
        rw [eb] at h
        cases h
        cases hd with
        | cons h1 h2 =>
          cases h1
          rw [strsD_ok eb h2]
          rfl
    · cases h
def allOp : List D → Option Sl
  | [.list ds] => (bools ds).map fun bs => .fr (.bool (bs.all id))
  | _ => none
def anyOp : List D → Option Sl
  | [.list ds] => (bools ds).map fun bs => .fr (.bool (bs.any id))
  | _ => none
def sumOp : List D → Option Sl
  | [.list ds] => (intsD ds).map fun bs => .fr (.int bs.sum)
  | _ => none
theorem vr_all : VRn K (rAll K) allOp := by
  refine one_arg (fun ds h => ?_) fun F H x d s Q fh r e q => ?_
  · unfold allOp at h
    split at h <;> first | exact ⟨_, rfl⟩ | exact absurd rfl h
  · unfold allOp at e
    split at e
    · rename_i ds0 ds e0
      cases e0
      cases eb : bools ds with
      | none => rw [eb] at e; cases e
      | some bs =>
        rw [eb] at e
        cases e
        obtain ⟨a, vs, rfl, h1, h2⟩ := r.lst fh
        rw [bools_ok eb h2] at h1
        exact ⟨a, bs, rfl, .of h1, q _ F H (.refl fh) (.bl _)⟩
    · cases e
theorem vr_any : VRn K (rAny K) anyOp := by
  refine one_arg (fun ds h => ?_) fun F H x d s Q fh r e q => ?_
  · unfold anyOp at h
    split at h <;> first | exact ⟨_, rfl⟩ | exact absurd rfl h
  · unfold anyOp at e
    split at e
    · rename_i ds0 ds e0
      cases e0
      cases eb : bools ds with
      | none => rw [eb] at e; cases e
      | some bs =>
        rw [eb] at e
        cases e
        obtain ⟨a, vs, rfl, h1, h2⟩ := r.lst fh
        rw [bools_ok eb h2] at h1
        exact ⟨a, bs, rfl, .of h1, q _ F H (.refl fh) (.bl _)⟩
    · cases e
theorem vr_sum : VRn K (rSum K) sumOp := by
  refine one_arg (fun ds h => ?_) fun F H x d s Q fh r e q => ?_
  · unfold sumOp at h
    split at h <;> first | exact ⟨_, rfl⟩ | exact absurd rfl h
  · unfold sumOp at e
    split at e
    · rename_i ds0 ds e0
      cases e0
      cases eb : intsD ds with
      | none => rw [eb] at e; cases e
      | some bs =>
        rw [eb] at e
        cases e
        obtain ⟨a, vs, rfl, h1, h2⟩ := r.lst fh
        rw [intsD_ok eb h2] at h1
        exact ⟨a, bs, rfl, .of h1, q _ F H (.refl fh) (.int _)⟩
    · cases e
/-! ### sorted(xs), xs data of one shape -/
def sortD (ds : List D) : List D := ds.mergeSort (PySem.W.dataLe false id)
def alikeAllB (ds : List D) : Bool := ds.all fun d => ds.all fun e => PySem.W.alike d e
def sortableB (ds : List D) : Bool := (ds.all fun d => match d with | .tuple _ => true | _ => false) || ds.all fun d => match d with | .none => false | .tuple _ => false | _ => true
def sortOk (ds : List D) : Bool := alikeAllB ds && sortableB ds && decide (ds.length ≤ 100000) && ds.all fun d => decide (d.depth ≤ 50)
def rSortD (K : PySem.W.Frag) : List V → Hp → VK → Prop := fun xs H Q => ∃ (F : Hp) (a : Addr) (vs : List V) (ds : List D), xs = [.ref a] ∧ (SqL K H a vs ∨ SqT K H a vs) ∧ Same F H ∧ DtAll K F vs ds ∧ sortOk ds = true ∧
  ∀ p ys, H p = none → DtAll K F ys (sortD ds) → Q (.ref p) (upd H p (.lst ys))
theorem each_of {X : Cx} {pins : List (Addr × Obj)} {σ : L2.St} {H F : Hp} {s : Shared} (I : Inv X pins σ H s) (fh : Same F H) : ∀ {vs : List V} {ds : List D} {us : List Value}, Vals vs us → DtAll X.K F vs ds →
    PySem.W.EachIs (fun u d => ∃ x, RelV x u ∧ Dt X.K F x d) us ds ∧ PySem.W.EachIs (fun u d => ∃ as, Reads s.heap u (id d) as) us ds
  | _, _, _, .nil, .nil => ⟨.nil, .nil⟩
  | _, _, _, .cons r t, .cons h k => by
    obtain ⟨e1, e2⟩ := each_of I fh t k
    exact ⟨.cons ⟨_, r, h⟩ e1, .cons (Dp.reads I _ _ _ (dt_dp _ _ (dp_mono fh _ _ h)) r) e2⟩
theorem of_each {K : PySem.W.Frag} {F : Hp} : ∀ {us : List Value} {ds : List D}, PySem.W.EachIs (fun u d => ∃ x, RelV x u ∧ Dt K F x d) us ds → ∃ vs, Vals vs us ∧ DtAll K F vs ds
  | _, _, .nil => ⟨[], .nil, .nil⟩
  | _, _, .cons ⟨x, r, h⟩ t => by
    obtain ⟨vs, h1, h2⟩ := of_each t
    exact ⟨x :: vs, .cons r h1, .cons h h2⟩
theorem alike_of {ds : List D} (h : alikeAllB ds = true) : PySem.W.AllAlike (ds.map id) := by
  rw [List.map_id]
  intro d hd e he
  have := List.all_eq_true.mp h d hd
  exact List.all_eq_true.mp this e he
theorem sortable_of {ds : List D} (h : sortableB ds = true) : DLS.Sortable2 (ds.map id) := by
  rw [List.map_id]
  unfold sortableB at h
  rw [Bool.or_eq_true] at h
  rcases h with h | h
  · refine .inl fun d hd => ?_
    have := List.all_eq_true.mp h d hd
    split at this
    · exact ⟨_, rfl⟩
    · cases this
  · refine .inr fun d hd => ?_
    have := List.all_eq_true.mp h d hd
    split at this
    · cases this
    · cases this
    · rename_i h1 h2
      exact ⟨h1, h2⟩
theorem cr_sortD {X : Cx} (hu : X.A.units + 64 < cLine) : CallR X (.builtin "sorted") (rSortD X.K) := by
  intro pins s σ H xs us Q I r h
  obtain ⟨F, a, vs, ds, rfl, hs, fh, hd, ok, q⟩ := h
  unfold sortOk at ok
  simp only [Bool.and_eq_true, decide_eq_true_eq] at ok
  obtain ⟨⟨⟨o1, o2⟩, o3⟩, o4⟩ := ok
  rw [Vals.ref1 r]
  obtain ⟨its, rv, hl⟩ : ∃ its, Vals vs its ∧ (s.heap.IsList a its.toArray ∨ IsTup s.heap a its.toArray) := by
    rcases hs with hs | hs
    · obtain ⟨its, rv, hl, _⟩ := I.list hs
      exact ⟨its, rv, .inl hl.isList⟩
    · obtain ⟨its, rv, hl, _⟩ := I.tuple hs
      exact ⟨its, rv, .inr hl⟩
  obtain ⟨e1, e2⟩ := each_of I fh rv hd
  refine DLS.sorted2 (enc := id) hl e1 e2 (alike_of o1) (sortable_of o2) (line5 o3) (fun b hb => ?_) fun out hlen hout => ?_
  · have := of_decide_eq_true (List.all_eq_true.mp o4 b hb)
    show X.A.units + 2 + b.depth < cLine
    omega
  · obtain ⟨ys, h1, h2⟩ := of_each hout
    obtain ⟨ep, he⟩ := PyProof.Rows.sortedAll_at s.heap its out.toArray
    have hlen2 : ys.length ≤ sizeLine := by
      rw [dpAll_len h2]
      exact line5 (by rw [List.length_mergeSort]; exact o3)
    exact ⟨.ref _, upd H (s.heap.objs.size + 1) (.lst ys), I.laid (t' := s.toks) (fun _ _ => PyProof.Rows.sortedAll_old) (Nat.le_succ _) ⟨hlen2, out, ep, h1, he⟩, rfl, q _ ys (I.hok.fresh (Nat.le_succ _)) h2⟩
def sortOp : List D → Option Sl
  | [.list ds] => if sortOk ds then some (.ow (.lst (sortD ds))) else none
  | [.tuple ds] => if sortOk ds then some (.ow (.lst (sortD ds))) else none
  | _ => none
theorem vr_sort : VRn K (rSortD K) sortOp := by
  refine one_arg (fun ds h => ?_) fun F H x d s Q fh r e q => ?_
  · unfold sortOp at h
    split at h <;> first | exact ⟨_, rfl⟩ | exact absurd rfl h
  · unfold sortOp at e
    split at e
    · rename_i ds0 ds e0
      cases e0
      split at e
      · rename_i ok
        cases e
        obtain ⟨a, vs, rfl, h1, h2⟩ := r.lst fh
        exact ⟨F, a, vs, ds, rfl, .inl (.of h1), fh, h2, ok, fun p ys hp hy => q _ F _ (.laid fh hp) (.new_lst fh hp hy)⟩
      · cases e
    · rename_i ds0 ds e0
      cases e0
      split at e
      · rename_i ok
        cases e
        obtain ⟨a, vs, rfl, h1, h2, _⟩ := r.tup fh
        exact ⟨F, a, vs, ds, rfl, .inr h1, fh, h2, ok, fun p ys hp hy => q _ F _ (.laid fh hp) (.new_lst fh hp hy)⟩
      · cases e
    · cases e
/-! ### texts -/
/-- x.f(y), x a text -/
def fM1 (op : D → D → Option Sl) (f g : Evn → Res Sl) (ρ : Evn) : Res Sl := (f ρ).bind fun s1 ρ1 => match s1 with
  | .fr (.str x) => (g ρ1).bind fun s2 ρ2 => ofOpt ρ2 (match rd ρ2 s2 with
    | some d2 => op (.str x) d2
    | none => none)
  | _ => .bad
theorem tj_m1 {to te : TE} {f g : Evn → Res Sl} {r : V → List V → Hp → VK → Prop} {op : D → D → Option Sl} (hr : VR2 K (fun x y H Q => r x [y] H Q) op) (ha : TJ K mg E to f) (hb : TJ K mg E te g) : TJ K mg E (tM1 r to te) (fM1 op f g) := by
  intro W F H σ tv ρ tr Q L S hW
  refine ha.run L S (fun _ _ _ h => h) hW fun s1 ρ1 x F1 H1 L1 S1 hW1 => ?_
  split at hW1
  · rename_i z
    have hx : Dt K F1 x (.str z) := S4.top_fr L1 S1
    have ex : x = .str z := by cases hx; rfl
    subst ex
    refine ⟨⟨z, rfl⟩, hb.run L1 S1 (fun _ _ _ h => h.push L (by simp)) hW1 fun s2 ρ2 y F2 H2 L2 S2 hW2 => ?_⟩
    have Lb := L2.cut (us := [some y]) (ss := [some s2]) (by simp)
    have La : Ln W σ tv ρ2 tr := Lb.cut (by simp)
    have Sa : S4 K W F2 H2 σ tv ρ2 tr := S4.cut Lb (S4.cut L2 S2 (by simp)) (by simp)
    cases e2 : rd ρ2 s2 with
    | none => rw [e2] at hW2; exact hW2.elim
    | some d2 =>
      rw [e2] at hW2
      have r2 : RepC K F2 H2 y d2 := S4.read Lb (us := []) (ss := []) (by simpa using S2) e2
      have hW2 : Wants _ _ (ofOpt ρ2 (op (.str z) d2)) := hW2
      cases eo : op (.str z) d2 with
      | none => rw [eo] at hW2; exact hW2.elim
      | some s =>
        rw [eo] at hW2
        exact hr F2 H2 _ y _ d2 s Q Sa.fh (.inl (.str z)) r2 eo fun v F' H' g ok => hW2 v F' H' (S4.result Sa g ok)
  · exact hW1.elim
def joinOp (a xs : D) : Option Sl := match a, xs with
  | .str a, .list ds => (match strsD ds with
    | some ys => if (ys.map (·.length)).sum + ys.length * a.length ≤ 100000 then some (.fr (.str (Txt.join a ys))) else none
    | none => none)
  | .str a, .tuple ds => (match strsD ds with
    | some ys => if (ys.map (·.length)).sum + ys.length * a.length ≤ 100000 then some (.fr (.str (Txt.join a ys))) else none
    | none => none)
  | _, _ => none
theorem vr_join : VR2 K (fun x y H Q => (fun (x : V) (xs : List V) (H : Hp) (Q : VK) => ∃ a p, ∃ ys : List Str, x = .str a ∧ xs = [.ref p] ∧ (SqL K H p (ys.map V.str) ∨ SqT K H p (ys.map V.str)) ∧
      (ys.map (·.length)).sum + ys.length * a.length ≤ 16777216 ∧ Q (.str (Txt.join a ys)) H) x [y] H Q) joinOp := by
  intro F H x y dx dy s Q fh r1 r2 e q
  unfold joinOp at e
  split at e
  · rename_i a ds
    split at e
    · rename_i ys es
      split at e
      · rename_i hz
        cases e
        obtain ⟨b, vs, rfl, h1, h2⟩ := r2.lst fh
        rw [RepC.str r1]
        rw [strsD_ok es h2] at h1
        exact ⟨a, b, ys, rfl, rfl, .inl (.of h1), by omega, q _ F H (.refl fh) (.str _)⟩
      · cases e
    · cases e
  · rename_i a ds
    split at e
    · rename_i ys es
      split at e
      · rename_i hz
        cases e
        obtain ⟨b, vs, rfl, h1, h2, _⟩ := r2.tup fh
        rw [RepC.str r1]
        rw [strsD_ok es h2] at h1
        exact ⟨a, b, ys, rfl, rfl, .inr h1, by omega, q _ F H (.refl fh) (.str _)⟩
      · cases e
    · cases e
  · cases e
/-! ### xs.index(y), flat items -/
def firstAt (y : D) : List D → Option Nat
  | [] => none
  | z :: zs => if PyData.eqv z y then some 0 else (firstAt y zs).map (· + 1)
def indexOp (xs y : D) : Option Sl := match xs with
  | .list ds => if flatD y && ds.all flatD then (firstAt y ds).map fun j => .fr (.int j) else none
  | _ => none
theorem firstAt_ok {y : D} : ∀ {zs : List D} {j : Nat}, firstAt y zs = some j → (∃ z, zs[j]? = some z ∧ PyData.eqv z y = true) ∧ ∀ (m : Nat) (z : D), m < j → zs[m]? = some z → PyData.eqv z y = false
  | [], _, h => by cases h
  | z :: zs, j, h => by
    unfold firstAt at h
    split at h
    · rename_i e
      cases h
      exact ⟨⟨z, rfl, e⟩, fun m z h _ => absurd h (Nat.not_lt_zero _)⟩
    · rename_i e
      cases e2 : firstAt y zs with
      | none => rw [e2] at h; cases h
      | some k =>
        rw [e2] at h
        cases h
        obtain ⟨⟨w, w1, w2⟩, w3⟩ := firstAt_ok e2
        refine ⟨⟨w, by simpa using w1, w2⟩, fun m w' hm hw => ?_⟩
        cases m with
        | zero => simp at hw; subst hw; simpa using e
        | succ m =>
          have hm : m + 1 < k + 1 := hm
          exact w3 m w' (by omega) (by simpa using hw)
/-- a method of a list by values -/
def fBL (op : D → D → Option Sl) (f g : Evn → Res Sl) (ρ : Evn) : Res Sl := (f ρ).bind fun s1 ρ1 => match rd ρ1 s1 with
  | some (.list _) => (g ρ1).bind fun s2 ρ2 => ofOpt ρ2 (match rd ρ2 s1, rd ρ2 s2 with
    | some d1, some d2 => op d1 d2
    | _, _ => none)
  | _ => .bad
theorem tj_bl1 {to te : TE} {f g : Evn → Res Sl} {r : V → List V → Hp → VK → Prop} {op : D → D → Option Sl} (hr : VR2 K (fun x y H Q => r x [y] H Q) op) (ha : TJ K mg E to f) (hb : TJ K mg E te g) : TJ K mg E (tBM K "list" r to (tCons te tNil)) (fBL op f g) := by
  intro W F H σ tv ρ tr Q L S hW
  refine ha.run L S (fun _ _ _ h => h) hW fun s1 ρ1 x F1 H1 L1 S1 hW1 => ?_
  split at hW1
  · rename_i ds e1
    have r1 : RepC K F1 H1 x (.list ds) := S4.read (L1.cut (by simp)) (us := []) (ss := []) (by simpa using S1) e1
    obtain ⟨a, ws, ea, h1, h2⟩ := r1.lst S1.fh
    subst ea
    refine ⟨.inl ⟨rfl, ws, .of h1⟩, hb.run L1 S1 (fun _ _ _ h => h.push L (by simp)) hW1 fun s2 ρ2 y F2 H2 L2 S2 hW2 => ?_⟩
    have Lb := L2.cut (us := [some y]) (ss := [some s2]) (by simp)
    have La : Ln W σ tv ρ2 tr := Lb.cut (by simp)
    have Sa : S4 K W F2 H2 σ tv ρ2 tr := S4.cut Lb (S4.cut L2 S2 (by simp)) (by simp)
    cases e2 : rd ρ2 s1 with
    | none => rw [e2] at hW2; exact hW2.elim
    | some d1 =>
      cases e3 : rd ρ2 s2 with
      | none => rw [e2, e3] at hW2; exact hW2.elim
      | some d2 =>
        rw [e2, e3] at hW2
        have q1 : RepC K F2 H2 (.ref a) d1 := S4.read La (us := [some y]) (ss := [some s2]) (by simpa using S2) e2
        have q2 : RepC K F2 H2 y d2 := S4.read Lb (us := []) (ss := []) (by simpa using S2) e3
        have hW2 : Wants _ _ (ofOpt ρ2 (op d1 d2)) := hW2
        cases eo : op d1 d2 with
        | none => rw [eo] at hW2; exact hW2.elim
        | some s =>
          rw [eo] at hW2
          exact hr F2 H2 _ y d1 d2 s Q Sa.fh q1 q2 eo fun v F' H' g ok => hW2 v F' H' (S4.result Sa g ok)
  · exact hW1.elim
theorem vr_index : VR2 K (fun x y H Q => rIndex K x [y] H Q) indexOp := by
  intro F H x y dx dy s Q fh r1 r2 e q
  unfold indexOp at e
  split at e
  · rename_i ds
    split at e
    · rename_i hc
      rw [Bool.and_eq_true] at hc
      cases ej : firstAt dy ds with
      | none => rw [ej] at e; cases e
      | some j =>
        rw [ej] at e
        cases e
        obtain ⟨a, vs, rfl, h1, h2⟩ := r1.lst fh
        have hy := r2.flat hc.1
        obtain ⟨f1, _⟩ := inV_of hy hc.1 h2 hc.2
        obtain ⟨⟨z, z1, z2⟩, z3⟩ := firstAt_ok ej
        obtain ⟨w, w1, w2⟩ := dpAll_get h2 z1
        refine ⟨a, vs, y, j, w, rfl, rfl, .of h1, flat_of hy hc.1, f1, w1, ?_, fun m z' hm hz => ?_, q _ F H (.refl fh) (.int _)⟩
        · rw [eqv_of w2 hy (List.all_eq_true.mp hc.2 z (List.mem_of_getElem? z1)) hc.1]; exact z2
        · obtain ⟨e1, e2, e3⟩ := dpAll_get' h2 hz
          rw [eqv_of e3 hy (List.all_eq_true.mp hc.2 e1 (List.mem_of_getElem? e2)) hc.1]
          exact z3 m e1 hm e2
    · cases e
  · cases e
/-! ### slices -/
def TOJ (K : PySem.W.Frag) (mg : Str → Option Value) (E : XW) (t : TO) (f : Evn → Res (Option Int)) : Prop :=
  ∀ (W : Wd) (F H : Hp) (σ tv : L2.St) (ρ tr : Evn) (Q : Option Int → Hp → Prop), Ln W σ tv ρ tr → S4 K W F H σ tv ρ tr →
    Wants (Fly K mg E W σ tv tr) (fun o ρ' => ∀ F' H', S4 K W F' H' σ tv ρ' tr → Q o H') (f ρ) → t σ H Q
def fNoPart (ρ : Evn) : Res (Option Int) := .ok none ρ
theorem toj_none : TOJ K mg E tNoPart fNoPart := fun W F H σ tv ρ tr Q L S hW => hW F H S
def fPart (f : Evn → Res Sl) (ρ : Evn) : Res (Option Int) := (f ρ).bind fun s ρ1 => match s with
  | .fr (.int i) => .ok (some i) ρ1
  | _ => .bad
theorem toj_some {te : TE} {f : Evn → Res Sl} (h : TJ K mg E te f) : TOJ K mg E (tPart te) (fPart f) := by
  intro W F H σ tv ρ tr Q L S hW
  refine h.run L S (fun _ _ _ h => h) hW fun s ρ1 x F1 H1 L1 S1 hW1 => ?_
  split at hW1
  · rename_i i
    have hx := S4.top_fr L1 S1
    cases hx
    exact ⟨i, rfl, hW1 F1 H1 (S4.cut L1 S1 (by simp))⟩
  · exact hW1.elim
theorem TOJ.run {ta : TO} {f : Evn → Res (Option Int)} (ha : TOJ K mg E ta f) (L : Ln W σ tv ρ tr) (S : S4 K W F H σ tv ρ tr) {Fl : Str → D → Evn → Prop} {P : β → Evn → Prop} {k : Option Int → Evn → Res β}
    (hF : ∀ c d ρ', Fl c d ρ' → Fly K mg E W σ tv tr c d ρ') (hW : Wants Fl P ((f ρ).bind k)) {Q : Option Int → Hp → Prop}
    (h : ∀ b ρ1 F1 H1, Ln W σ tv ρ1 tr → S4 K W F1 H1 σ tv ρ1 tr → Wants Fl P (k b ρ1) → Q b H1) : ta σ H Q := by
  refine ha W F H σ tv ρ tr Q L S ?_
  cases e : f ρ with
  | bad => rw [e] at hW; exact hW
  | exc c d ρ' => rw [e] at hW; exact hF _ _ _ hW
  | ok s ρ1 =>
    rw [e] at hW
    intro F1 H1 S1
    exact h s ρ1 F1 H1 (L.next S1 L.t) S1 hW
def cutD (ds : List D) (lo hi : Option Int) : List D := (ds.drop (HT.sIx ds.length 0 lo)).take (HT.sIx ds.length ds.length hi - HT.sIx ds.length 0 lo)
theorem cutD_ok {vs : List V} {ds : List D} (h : DtAll K F vs ds) (lo hi : Option Int) : DtAll K F (cutV vs lo hi) (cutD ds lo hi) := by
  unfold cutV cutD
  rw [dpAll_len h]
  exact dpAll_take _ (dpAll_drop _ h)
def slOp (d : D) (lo hi : Option Int) : Option Sl := match d with
  | .list ds => some (.ow (.lst (cutD ds lo hi)))
  | .tuple ds => some (.fr (.tuple (cutD ds lo hi)))
  | .str z => if z.length ≤ 100000 then some (.fr (.str (cutS z lo hi))) else none
  | _ => none
/-- t[lo:hi] of a tuple: what is cut out has a known object -/
def rSlN (K : PySem.W.Frag) : V → Option Int → Option Int → Hp → VK → Prop := fun x lo hi H Q => ∃ a xs, x = .ref a ∧ SqT K H a xs ∧
  (HT.sIx xs.length 0 lo = 0 ∧ HT.sIx xs.length xs.length hi = xs.length → Q (.ref a) H) ∧ (¬ (HT.sIx xs.length 0 lo = 0 ∧ HT.sIx xs.length xs.length hi = xs.length) → ∀ p its, H p = none → Q (.ref p) (upd H p (.frz (tupO its) (.tup (cutV xs lo hi)))))
theorem sl_tupN {X : Cx} : SlR X (rSlN X.K) := by
  intro pins s σ H x v vl vu lo hi sl Q I rx hs pl pu h
  obtain ⟨a, xs, rfl, hx, q1, q2⟩ := h
  cases rx
  obtain ⟨its, r, ht, hz⟩ := I.tuple hx
  have hlen : its.toArray.size = xs.length := by rw [List.size_toArray]; exact r.length.symm
  refine ⟨"tuple", _, PyProof.Rows.slot_tuple_getitem.lookup, ht.typeIs, ?_⟩
  by_cases hw : HT.sIx xs.length 0 lo = 0 ∧ HT.sIx xs.length xs.length hi = xs.length
  · exact getItem_tuple_whole ht hs pl pu (by rw [hlen]; exact hw) ⟨.ref a, H, I, rfl, q1 hw⟩
  · refine HT.getItem_tuple_cut ht hs pl pu (by rw [hlen]; exact hw) ?_ (by rw [hlen]; exact hz)
    rw [hlen]
    refine ⟨.ref s.heap.objs.size, _, I.laid (t' := s.toks) (o := .frz (tupO ((its.toArray.toList.drop (HT.sIx xs.length 0 lo)).take (HT.sIx xs.length xs.length hi - HT.sIx xs.length 0 lo)).toArray) (.tup (cutV xs lo hi))) (fun b ob q => Heap.get?_push_of_some _ q) (Nat.le_refl _) ?_, rfl, q2 hw _ _ (I.hok.fresh (Nat.le_refl _))⟩
    exact ⟨Heap.get?_push_size _ rfl, Nat.le_trans (cutV_length xs lo hi) hz, _, (r.drop (HT.sIx xs.length 0 lo)).take (HT.sIx xs.length xs.length hi - HT.sIx xs.length 0 lo), IsTup.new _ _⟩
def rSl3 (K : PySem.W.Frag) : V → Option Int → Option Int → Hp → VK → Prop := fun x lo hi H Q => rSlL K x lo hi H Q ∨ (rSlN K x lo hi H Q ∨ rSlS x lo hi H Q)
theorem sl_3 {X : Cx} : SlR X (rSl3 X.K) := sl_list.or (sl_tupN.or sl_str)
theorem cut_whole {ds : List D} {lo hi : Option Int} (h : HT.sIx ds.length 0 lo = 0 ∧ HT.sIx ds.length ds.length hi = ds.length) : cutD ds lo hi = ds := by
  unfold cutD
  rw [h.1, h.2]
  simp
def fSl (f : Evn → Res Sl) (lo hi : Evn → Res (Option Int)) (ρ : Evn) : Res Sl := (f ρ).bind fun s ρ1 => (lo ρ1).bind fun l ρ2 => (hi ρ2).bind fun u ρ3 => ofOpt ρ3 (match rd ρ3 s with
  | some d => slOp d l u
  | none => none)
theorem tj_sl {te : TE} {tl th : TO} {f : Evn → Res Sl} {lo hi : Evn → Res (Option Int)} (h : TJ K mg E te f) (hl : TOJ K mg E tl lo) (hh : TOJ K mg E th hi) : TJ K mg E (tSl (rSl3 K) te tl th) (fSl f lo hi) := by
  intro W F H σ tv ρ tr Q L S hW
  refine h.run L S (fun _ _ _ h => h) hW fun s ρ1 x F1 H1 L1 S1 hW1 => ?_
  refine hl.run L1 S1 (fun _ _ _ h => h.push L (by simp)) hW1 fun l ρ2 F2 H2 L2 S2 hW2 => ?_
  refine hh.run L2 S2 (fun _ _ _ h => h.push L (by simp)) hW2 fun u ρ3 F3 H3 L3 S3 hW3 => ?_
  have La := L3.cut (us := [some x]) (ss := [some s]) (by simp)
  have Sa := S4.cut L3 S3 (by simp)
  have fh := Sa.fh
  cases e : rd ρ3 s with
  | none => rw [e] at hW3; exact hW3.elim
  | some d =>
    rw [e] at hW3
    have r1 : RepC K F3 H3 x d := S4.read La (us := []) (ss := []) (by simpa using S3) e
    have hW3 : Wants _ _ (ofOpt ρ3 (slOp d l u)) := hW3
    unfold slOp at hW3
    split at hW3
    · rename_i ds
      obtain ⟨a, ws, rfl, h1, h2⟩ := r1.lst fh
      exact .inl ⟨a, ws, rfl, .of h1, fun p hp => hW3 _ _ _ (S4.result Sa (.laid fh hp) (.new_lst fh hp (cutD_ok h2 l u)))⟩
    · rename_i ds
      obtain ⟨a, ws, rfl, h1, h2, h3⟩ := r1.tup fh
      refine .inr (.inl ⟨a, ws, rfl, h1, fun z => ?_, fun _ p its hp => hW3 _ _ _ (S4.result (s := .fr _) Sa (.froze fh hp) (Dt.new_tup fh hp (cutD_ok h2 l u)))⟩)
      rw [dpAll_len h2] at z
      rw [cut_whole z] at hW3
      exact hW3 _ _ _ (S4.result (s := .fr _) Sa (.refl fh) h3)
    · rename_i z _
      split at hW3
      · rename_i hz
        rw [RepC.str r1]
        exact .inr (.inr ⟨z, rfl, line5 hz, hW3 _ _ _ (S4.result (s := .fr _) Sa (.refl fh) (.str _))⟩)
      · exact hW3.elim
    · exact hW3.elim
/-! ### what a value is -/
def tyN : D → String
  | .none => "NoneType"
  | .bool _ => "bool"
  | .int _ => "int"
  | .str _ => "str"
  | .list _ => "list"
  | .tuple _ => "tuple"
  | .dict _ => "dict"
theorem ty_of (fh : Same F H) (h : RepC K F H v d) : TyX K H v (.type (tyN d)) := by
  have sq : ∀ {a : Addr} {xs : List V}, SqT K H a xs → TyX K H (.ref a) (.type "tuple") := fun {a xs} h => by
    rcases h with (h | ⟨o, h⟩) | ⟨o, its, n, h1, h2, _⟩
    · exact .base (.tup h)
    · exact .fTuple h
    · exact .kTuple h1 h2
  rcases h with h | ⟨p, vs, ds', rfl, rfl, e3, _⟩
  · cases h with
    | non => exact .base .non
    | bl b => exact .base (.bl b)
    | int i => exact .base (.int i)
    | str x => exact .base (.str x)
    | lst hs _ => exact .base (.lst (fh _ _ hs))
    | tup hs _ => exact sq (same_sqT fh hs.sq)
  · exact .base (.lst e3)
def isTy (T : String) (d : D) : Bool := tyN d == T || (T == "int" && tyN d == "bool")
/-- isinstance(x, T), T a built-in class -/
def fIsi (T : String) (f : Evn → Res Sl) (ρ : Evn) : Res Sl := (f ρ).bind fun s ρ1 => match rd ρ1 s with
  | some (.dict _) => .bad
  | some d => .ok (.fr (.bool (isTy T d))) ρ1
  | none => .bad
def okTy (T : String) : Bool := T == "str" || T == "int" || T == "bool" || T == "list" || T == "tuple"
theorem kit_isTy {T : String} (h : okTy T = true) {d : D} (hd : ∀ x, d ≠ .dict x) : PySem.W.kitOne K (.type (tyN d)) (.type T) = some (isTy T d) := by
  unfold okTy at h
  simp only [Bool.or_eq_true, beq_iff_eq] at h
  rcases h with (((rfl | rfl) | rfl) | rfl) | rfl <;> cases d <;> first | exact absurd rfl (hd _) | exact kit_ty (by simp only [tyN, isTy]; decide +kernel)
theorem tj_isi {te : TE} {f : Evn → Res Sl} {T : String} (hT : okTy T = true) (h : TJ K mg E te f) : TJ K mg E (tCB (rIsi K) (tCons te (tCons (tC (.ty T)) tNil))) (fIsi T f) := by
  intro W F H σ tv ρ tr Q L S hW
  refine h.run L S (fun _ _ _ h => h) hW fun s ρ1 x F1 H1 L1 S1 hW1 => ?_
  have La := L1.cut (us := [some x]) (ss := [some s]) (by simp)
  have Sa := S4.cut L1 S1 (by simp)
  split at hW1
  · exact hW1.elim
  · rename_i d hd e
    have r1 : RepC K F1 H1 x d := S4.read La (us := []) (ss := []) (by simpa using S1) e
    exact ⟨x, .ty T, _, _, _, rfl, .ty T, ty_of Sa.fh r1, kit_isTy hT (fun z hz => hd z (by rw [← hz])), hW1 _ F1 H1 (S4.result (s := .fr _) Sa (.refl Sa.fh) (.bl _))⟩
  · exact hW1.elim
/-- isinstance(x, (T, U)) -/
def fIsi2 (T U : String) (f : Evn → Res Sl) (ρ : Evn) : Res Sl := (f ρ).bind fun s ρ1 => match rd ρ1 s with
  | some (.dict _) => .bad
  | some d => .ok (.fr (.bool (isTy T d || isTy U d))) ρ1
  | none => .bad
theorem tj_isi2 {te : TE} {f : Evn → Res Sl} {T U : String} (hT : okTy T = true) (hU : okTy U = true) (h : TJ K mg E te f) : TJ K mg E (tCB (rIsiT K) (tCons te (tCons (tTup (tCons (tC (.ty T)) (tCons (tC (.ty U)) tNil))) tNil))) (fIsi2 T U f) := by
  intro W F H σ tv ρ tr Q L S hW
  refine h.run L S (fun _ _ _ h => h) hW fun s ρ1 x F1 H1 L1 S1 hW1 => ?_
  have La := L1.cut (us := [some x]) (ss := [some s]) (by simp)
  have Sa := S4.cut L1 S1 (by simp)
  split at hW1
  · exact hW1.elim
  · rename_i d hd e
    have hd' : ∀ z, d ≠ .dict z := fun z hz => hd z (by rw [← hz])
    refine ⟨by show 2 ≤ sizeLine; decide, fun p hp => ?_⟩
    have g : Grow F1 H1 F1 (upd H1 p (.tup [.ty T, .ty U])) := .laid Sa.fh hp
    have Sg : S4 K W F1 (upd H1 p (.tup [.ty T, .ty U])) σ (tv ++ [some x]) ρ1 (tr ++ [some s]) := SR.grow S1 g
    have r1 : RepC K F1 (upd H1 p (.tup [.ty T, .ty U])) x d := S4.read La (us := []) (ss := []) (by simpa using Sg) e
    have k1 := kit_isTy (K := K) hT hd'
    have k2 := kit_isTy (K := K) hU hd'
    refine ⟨x, p, [.ty T, .ty U], _, [.type T, .type U], isTy T d || isTy U d, rfl, upd_same, .cons (.ty T) (.cons (.ty U) .nil), ty_of g.fh r1, ?_, hW1 _ F1 _ (S4.result (s := .fr _) Sa g (.bl _))⟩
    refine kitAny_cons k1 (fun hb => ?_) (fun hb => by rw [hb]; rfl)
    rw [hb, Bool.false_or]
    exact kitAny_cons k2 (fun hb => by rw [hb]; exact kitAny_nil) (fun hb => hb)
  · exact hW1.elim
/-! ### enumerate, zip -/
def enumD (ds : List D) : List D := (List.range ds.length).zipWith (fun (i : Nat) d => PyData.tuple [.int i, d]) ds
theorem enumD_get {ds : List D} {i : Nat} {d : D} (h : (enumD ds)[i]? = some d) : ∃ e, ds[i]? = some e ∧ d = .tuple [.int i, e] := by
  unfold enumD at h
  rw [List.getElem?_zipWith] at h
  cases e1 : (List.range ds.length)[i]? with
  | none => rw [e1] at h; cases h
  | some k =>
    have hi : i < ds.length := by simpa using (List.getElem?_eq_some_iff.mp e1).1
    rw [List.getElem?_range hi] at e1
    cases e1
    cases e2 : ds[i]? with
    | none => rw [e2, List.getElem?_range hi] at h; cases h
    | some e =>
      rw [e2, List.getElem?_range hi] at h
      cases h
      exact ⟨e, rfl, rfl⟩
theorem enumD_len {ds : List D} : (enumD ds).length = ds.length := by simp [enumD]
theorem Dw.new {ds : List D} {vs : List V} (fh : Same F H) (hp : H p = none) (ha : DtAll K F vs ds) : Dw K (upd F p (.tup vs)) (.ref p) (.tuple ds) := .inr ⟨p, vs, ds, rfl, rfl, upd_same, dpAll_mono (Same.upd_new (Same.free fh hp)) _ _ ha⟩
def fEnum (f : Evn → Res (List Sl)) (ρ : Evn) : Res (List D) := (f ρ).bind fun ss ρ1 => match ss with
  | [.fr (.list ds)] => .ok (enumD ds) ρ1
  | _ => .bad
theorem tij_enum {ta : TA} {f : Evn → Res (List Sl)} (h : TAJ K mg E ta f) : TIJ Dw K mg E (iEnum K ta) (fEnum f) := by
  intro W F H σ tv ρ tr R L S hW
  refine h.run L S (fun _ _ _ h => h) hW fun ss ρ1 vs F1 H1 hl L1 S1 hW1 => ?_
  split at hW1
  · rename_i ds
    match vs, hl with
    | [x], _ =>
      have La := L1.cut (us := [x].map some) (ss := [Sl.fr (.list ds)].map some) (by simp)
      have Sa := S4.cut L1 S1 (by simp)
      have hx : Dt K F1 x (.list ds) := S4.top_fr L1 S1
      cases hx with
      | @lst a ws _ hs ha =>
        refine ⟨_, ws, rfl, .of (Sa.fh _ _ hs), hW1 _ F1 H1 Sa ?_⟩
        intro i F2 H2 e1 e2
        have hH : SqL K H2 a ws := .of (e2 _ _ (e1 _ _ hs))
        refine ⟨fun d hd => ?_, fun hi => ⟨ws, hH, by rw [dpAll_len ha, ← enumD_len]; exact hi⟩⟩
        obtain ⟨e, he, rfl⟩ := enumD_get hd
        obtain ⟨w, w1, w2⟩ := dpAll_get ha he
        refine ⟨⟨ws, w, hH, w1⟩, fun y H' hy => ?_⟩
        obtain ⟨T, z, rfl, nT, rfl, hz⟩ := hy
        have := hz ws hH
        rw [w1] at this
        cases this
        exact ⟨_, .froze e2 nT, Dw.new e2 nT (.cons (.int _) (.cons (dp_mono e1 _ _ w2) .nil))⟩
  · exact hW1.elim
def zipD (as bs : List D) : List D := as.zipWith (fun a b => PyData.tuple [a, b]) bs
theorem zipD_get {as bs : List D} {i : Nat} {d : D} (h : (zipD as bs)[i]? = some d) : ∃ a b, as[i]? = some a ∧ bs[i]? = some b ∧ d = .tuple [a, b] := by
  unfold zipD at h
  rw [List.getElem?_zipWith] at h
  cases e1 : as[i]? with
  | none => rw [e1] at h; cases h
  | some a =>
    cases e2 : bs[i]? with
    | none => rw [e1, e2] at h; cases h
    | some b =>
      rw [e1, e2] at h
      cases h
      exact ⟨a, b, rfl, rfl, rfl⟩
def fZip (f : Evn → Res (List Sl)) (ρ : Evn) : Res (List D) := (f ρ).bind fun ss ρ1 => match ss with
  | [.fr (.list as), .fr (.list bs)] => .ok (zipD as bs) ρ1
  | [.fr (.tuple as), .fr (.tuple bs)] => .ok (zipD as bs) ρ1
  | _ => .bad
theorem tij_zip {ta : TA} {f : Evn → Res (List Sl)} (h : TAJ K mg E ta f) : TIJ Dw K mg E (iZipA K ta) (fZip f) := by
  intro W F H σ tv ρ tr R L S hW
  refine h.run L S (fun _ _ _ h => h) hW fun ss ρ1 vs F1 H1 hl L1 S1 hW1 => ?_
  split at hW1
  · rename_i as bs
    match vs, hl with
    | [x, y], _ =>
      have La := L1.cut (us := [x, y].map some) (ss := [Sl.fr (.list as), Sl.fr (.list bs)].map some) (by simp)
      have Sa := S4.cut L1 S1 (by simp)
      have hx : Dt K F1 x (.list as) := S4.frAt La S1 (k := 0) rfl rfl
      have hy : Dt K F1 y (.list bs) := S4.frAt La S1 (k := 1) rfl rfl
      cases hx with
      | @lst a ws _ hs ha =>
        cases hy with
        | @lst b zs _ hs2 hb =>
          refine ⟨_, _, ws, zs, rfl, .inl ⟨.of (Sa.fh _ _ hs), .of (Sa.fh _ _ hs2), hW1 _ F1 H1 Sa ?_⟩⟩
          intro i F2 H2 e1 e2
          have hH : SqL K H2 a ws := .of (e2 _ _ (e1 _ _ hs))
          have hH2 : SqL K H2 b zs := .of (e2 _ _ (e1 _ _ hs2))
          refine ⟨fun d hd => ?_, fun hi => ⟨ws, zs, hH, hH2, ?_⟩⟩
          · obtain ⟨p, q, hp, hq, rfl⟩ := zipD_get hd
            obtain ⟨w, w1, w2⟩ := dpAll_get ha hp
            obtain ⟨z, z1, z2⟩ := dpAll_get hb hq
            refine ⟨⟨ws, zs, w, z, hH, hH2, w1, z1⟩, fun y H' hy => ?_⟩
            obtain ⟨T, x', y', rfl, nT, rfl, k1, k2⟩ := hy
            have g1 := k1 ws hH
            have g2 := k2 zs hH2
            rw [w1] at g1
            rw [z1] at g2
            cases g1
            cases g2
            exact ⟨_, .froze e2 nT, Dw.new e2 nT (.cons (dp_mono e1 _ _ w2) (.cons (dp_mono e1 _ _ z2) .nil))⟩
          · rw [dpAll_len ha, dpAll_len hb]
            unfold zipD at hi
            rw [List.length_zipWith] at hi
            omega
  · rename_i as bs
    match vs, hl with
    | [x, y], _ =>
      have La := L1.cut (us := [x, y].map some) (ss := [Sl.fr (.tuple as), Sl.fr (.tuple bs)].map some) (by simp)
      have Sa := S4.cut L1 S1 (by simp)
      have hx : Dt K F1 x (.tuple as) := S4.frAt La S1 (k := 0) rfl rfl
      have hy : Dt K F1 y (.tuple bs) := S4.frAt La S1 (k := 1) rfl rfl
      cases hx with
      | @tup a ws _ hs ha =>
        cases hy with
        | @tup b zs _ hs2 hb =>
          refine ⟨_, _, ws, zs, rfl, .inr ⟨same_sqT Sa.fh hs.sq, same_sqT Sa.fh hs2.sq, hW1 _ F1 H1 Sa ?_⟩⟩
          intro i F2 H2 e1 e2
          have hH : SqT K H2 a ws := same_sqT (e1.trans e2) hs.sq
          have hH2 : SqT K H2 b zs := same_sqT (e1.trans e2) hs2.sq
          refine ⟨fun d hd => ?_, fun hi => ⟨ws, zs, hH, hH2, ?_⟩⟩
          · obtain ⟨p, q, hp, hq, rfl⟩ := zipD_get hd
            obtain ⟨w, w1, w2⟩ := dpAll_get ha hp
            obtain ⟨z, z1, z2⟩ := dpAll_get hb hq
            refine ⟨⟨ws, zs, w, z, hH, hH2, w1, z1⟩, fun y H' hy => ?_⟩
            obtain ⟨T, x', y', rfl, nT, rfl, k1, k2⟩ := hy
            have g1 := k1 ws hH
            have g2 := k2 zs hH2
            rw [w1] at g1
            rw [z1] at g2
            cases g1
            cases g2
            exact ⟨_, .froze e2 nT, Dw.new e2 nT (.cons (dp_mono e1 _ _ w2) (.cons (dp_mono e1 _ _ z2) .nil))⟩
          · rw [dpAll_len ha, dpAll_len hb]
            unfold zipD at hi
            rw [List.length_zipWith] at hi
            omega
  · exact hW1.elim
/-! ### -x -/
def negOp (d : D) : Option Sl := match d with
  | .int i => some (.fr (.int (-i)))
  | _ => none
theorem vr_neg : VR1 K (rU fun i => .int (-i)) negOp := by
  intro F H x dx s Q fh r e q
  unfold negOp at e
  split at e
  · rename_i i
    cases e
    rw [RepC.int r]
    exact ⟨i, rfl, q _ F H (.refl fh) (.int _)⟩
  · cases e
end
end DL

namespace DL
open PySem PySem.Spec PyProof.Rows L2 RZ
section
variable {K : PySem.W.Frag} {mg : Str → Option Value} {E : XW} {W : Wd} {F0 B F H F' H' : Hp} {σ tv us vs : L2.St} {ρ ρ' tr ss : Evn} {v : V} {d : D} {s : Sl} {c c' : Cn} {p : Addr} {i : Nat} {α β : Type}
/-! ### a comprehension of two clauses -/
def fTurns2 (ks : List Nat) (g : D → Evn → Option Evn) (c : Evn → Res Bool) (it1 : Evn → Res (List D)) (ks1 : List Nat) (g1 : D → Evn → Option Evn) (c1 : Evn → Res Bool) (f : Evn → Res Sl) : List D → List D → Evn → Res (List D)
  | [], acc, ρ => .ok acc ρ
  | d :: r, acc, ρ => match g d ρ with
    | none => .bad
    | some ρ1 => (c ρ1).bind fun b ρ2 => if b then (it1 ρ2).bind fun es ρ3 =>
        if acc.length + es.length ≤ 100000 ∧ ∀ k ∈ ks1, k < ρ3.length then (fTurns ks1 g1 c1 f es acc (wipeE ρ3 ks1)).bind fun acc' ρ4 => fTurns2 ks g c it1 ks1 g1 c1 f r acc' (wipeE ρ4 ks) else .bad
      else fTurns2 ks g c it1 ks1 g1 c1 f r acc (wipeE ρ2 ks)
def fLc2 (ks : List Nat) (it : Evn → Res (List D)) (g : D → Evn → Option Evn) (c : Evn → Res Bool) (it1 : Evn → Res (List D)) (ks1 : List Nat) (g1 : D → Evn → Option Evn) (c1 : Evn → Res Bool) (f : Evn → Res Sl) (ρ : Evn) : Res Sl :=
  (it ρ).bind fun ds ρ1 => if ∀ k ∈ ks, k < ρ1.length then (noExc (fTurns2 ks g c it1 ks1 g1 c1 f ds [] (wipeE ρ1 ks))).bind fun xs ρ2 => Res.ok (Sl.ow (.lst xs)) (backE ρ1 ρ2 ks) else .bad
theorem tj_lc2 {Re Re1 : Rl} {wi wi1 : TI} {g g1 : TG} {tt tt1 : TT} {te : TE} {ks is ks1 is1 : List Nat} {it it1 : Evn → Res (List D)} {gf gf1 : D → Evn → Option Evn} {c c1 : Evn → Res Bool} {f : Evn → Res Sl} (hi : TIJ Re K mg E wi it) (hg : TGJ Re K g is gf) (hc : TTJ K mg (fun _ _ _ _ => False) tt c) (hi1 : TIJ Re1 K mg (fun _ _ _ _ => False) wi1 it1) (hg1 : TGJ Re1 K g1 is1 gf1) (hc1 : TTJ K mg (fun _ _ _ _ => False) tt1 c1)
    (hf : TJ K mg (fun _ _ _ _ => False) te f) (hs : ∀ k ∈ is, k ∈ ks) (hs1 : ∀ k ∈ is1, k ∈ ks1) (hk1 : ∀ k ∈ ks1, k ∈ ks) : TJ K mg E (tLc2 wi g tt wi1 g1 tt1 te ks ks1) (fLc2 ks it gf c it1 ks1 gf1 c1 f) := by
  intro W F H σ tv ρ tr Q L S hW
  refine hi W F H σ tv ρ tr _ L S ?_
  unfold fLc2 at hW
  cases e : it ρ with
  | bad => rw [e] at hW; exact hW
  | exc c d ρ' => rw [e] at hW; exact hW
  | ok ds ρ1 =>
    rw [e] at hW
    have hW : Wants (Fly K mg E W σ tv tr) _ (if ∀ k ∈ ks, k < ρ1.length then (noExc (fTurns2 ks gf c it1 ks1 gf1 c1 f ds [] (wipeE ρ1 ks))).bind fun xs ρ2 => Res.ok (Sl.ow (.lst xs)) (backE ρ1 ρ2 ks) else .bad) := hW
    split at hW
    · rename_i hks
      have hW := wants_noExc (Fl' := fun _ _ _ => False) hW
      intro J F1 H1 S1 walk Dn hDn
      have L1 : Ln W σ tv ρ1 tr := L.next S1 L.t
      have hks : ∀ k ∈ ks, k < W.N := fun k hk => by rw [← L1.r]; exact hks k hk
      refine ⟨fun i m H' => m = ds.length - i ∧ i ≤ ds.length ∧ ∃ F2 ρ2 acc, Ln W (wipe σ ks) (tv ++ [some (.ref Dn)]) ρ2 (tr ++ [some (.ow (.lst acc))]) ∧ S4 K (W.rebase F1) F2 H' (wipe σ ks) (tv ++ [some (.ref Dn)]) ρ2 (tr ++ [some (.ow (.lst acc))]) ∧
          Wants (fun _ _ _ => False) (fun s ρ' => ∀ v F' H', S4 K W F' H' σ (tv ++ [some v]) ρ' (tr ++ [some s]) → Q v H') ((fTurns2 ks gf c it1 ks1 gf1 c1 f (ds.drop i) acc ρ2).bind fun xs ρ2 => Res.ok (Sl.ow (.lst xs)) (backE ρ1 ρ2 ks)),
        ⟨ds.length, by omega, by omega, F1, wipeE ρ1 ks, [], ?_, ?_, by simpa using hW⟩, ?_⟩
      · exact (Ln.wipe (tv := tv ++ [some (.ref Dn)]) (tr := tr ++ [some (.ow (.lst []))]) ⟨L1.s, L1.r, by simp [L1.t]⟩ ks)
      · have S2 : S4 K (W.rebase F1) F1 (upd H1 Dn (.lst [])) σ (tv ++ [some (.ref Dn)]) ρ1 (tr ++ [some (.ow (.lst []))]) :=
          S4.result S1.rebase (.laid S1.fh hDn) ⟨Dn, rfl, hDn, Same.free S1.fh hDn, [], upd_same, .nil⟩
        exact S4.wipe (W := W.rebase F1) ⟨L1.s, L1.r, by simp [L1.t]⟩ S2 ks hks
      · rintro i m H2 ⟨rfl, hle, F2, ρ2, acc, L2, S2, hW2⟩
        have hw := walk i F2 H2 S2.f0 S2.fh
        by_cases hlt : i < ds.length
        · have ed : ds.drop i = ds[i] :: ds.drop (i + 1) := List.drop_eq_getElem_cons hlt
          rw [ed] at hW2
          obtain ⟨go, yld⟩ := hw.1 ds[i] (List.getElem?_eq_getElem hlt)
          refine .inr ⟨go, fun H' => ∃ F2 ρ2 acc, Ln W (wipe σ ks) (tv ++ [some (.ref Dn)]) ρ2 (tr ++ [some (.ow (.lst acc))]) ∧ S4 K (W.rebase F1) F2 H' (wipe σ ks) (tv ++ [some (.ref Dn)]) ρ2 (tr ++ [some (.ow (.lst acc))]) ∧
              Wants (fun _ _ _ => False) (fun s ρ' => ∀ v F' H', S4 K W F' H' σ (tv ++ [some v]) ρ' (tr ++ [some s]) → Q v H') ((fTurns2 ks gf c it1 ks1 gf1 c1 f (ds.drop (i + 1)) acc ρ2).bind fun xs ρ2 => Res.ok (Sl.ow (.lst xs)) (backE ρ1 ρ2 ks)),
            fun H' h => ⟨ds.length - (i + 1), by omega, rfl, hlt, h⟩, fun x H' hy => ?_⟩
          obtain ⟨F3, gr, hx⟩ := yld x H' hy
          have S3 : S4 K (W.rebase F1) F3 H' (wipe σ ks) (tv ++ [some (.ref Dn)]) ρ2 (tr ++ [some (.ow (.lst acc))]) := SR.grow S2 gr
          unfold fTurns2 at hW2
          cases eg : gf ds[i] ρ2 with
          | none => rw [eg] at hW2; exact hW2.elim
          | some ρ3 =>
            rw [eg] at hW2
            refine hg (W.rebase F1) F3 H' (wipe σ ks) _ ρ2 _ x ds[i] ρ3 _ ⟨L2.s, L2.r, L2.t⟩ S3 hx eg fun σ3 k3 L3 S3' => ?_
            have ew : wipe σ3 ks = wipe σ ks := by
              rw [wipe_same k3 hs (by rw [L3.s]; exact L2.s.symm), wipe_wipe]
            refine ⟨ew, ?_⟩
            have hW3 : Wants (fun _ _ _ => False) (fun s ρ' => ∀ v F' H', S4 K W F' H' σ (tv ++ [some v]) ρ' (tr ++ [some s]) → Q v H') (((c ρ3).bind fun b ρ2 => if b then (it1 ρ2).bind fun es ρ3 =>
                if acc.length + es.length ≤ 100000 ∧ ∀ k ∈ ks1, k < ρ3.length then (fTurns ks1 gf1 c1 f es acc (wipeE ρ3 ks1)).bind fun acc' ρ4 => fTurns2 ks gf c it1 ks1 gf1 c1 f (ds.drop (i + 1)) acc' (wipeE ρ4 ks) else .bad
              else fTurns2 ks gf c it1 ks1 gf1 c1 f (ds.drop (i + 1)) acc (wipeE ρ2 ks)).bind fun xs ρ2 => Res.ok (Sl.ow (.lst xs)) (backE ρ1 ρ2 ks)) := hW2
            rw [Res.bind_assoc] at hW3
            refine hc.run L3 S3' (fun _ _ _ h => h.elim) hW3 fun b ρ4 F4 H4 L4 S4' hW4 => ?_
            have fin : ∀ {σ3} {F5 H5 : Hp} {ρ5 : Evn} {acc' : List D}, wipe σ3 ks = wipe σ ks → Ln (W.rebase F1) σ3 (tv ++ [some (.ref Dn)]) ρ5 (tr ++ [some (.ow (.lst acc'))]) → S4 K (W.rebase F1) F5 H5 σ3 (tv ++ [some (.ref Dn)]) ρ5 (tr ++ [some (.ow (.lst acc'))]) →
                Wants (fun _ _ _ => False) (fun s ρ' => ∀ v F' H', S4 K W F' H' σ (tv ++ [some v]) ρ' (tr ++ [some s]) → Q v H') ((fTurns2 ks gf c it1 ks1 gf1 c1 f (ds.drop (i + 1)) acc' (wipeE ρ5 ks)).bind fun xs ρ2 => Res.ok (Sl.ow (.lst xs)) (backE ρ1 ρ2 ks)) →
                ∃ F2 ρ2 acc, Ln W (wipe σ ks) (tv ++ [some (.ref Dn)]) ρ2 (tr ++ [some (.ow (.lst acc))]) ∧ S4 K (W.rebase F1) F2 H5 (wipe σ ks) (tv ++ [some (.ref Dn)]) ρ2 (tr ++ [some (.ow (.lst acc))]) ∧
                  Wants (fun _ _ _ => False) (fun s ρ' => ∀ v F' H', S4 K W F' H' σ (tv ++ [some v]) ρ' (tr ++ [some s]) → Q v H') ((fTurns2 ks gf c it1 ks1 gf1 c1 f (ds.drop (i + 1)) acc ρ2).bind fun xs ρ2 => Res.ok (Sl.ow (.lst xs)) (backE ρ1 ρ2 ks)) := by
              intro σ3 F5 H5 ρ5 acc' ew L5 S5 hW5
              refine ⟨F5, wipeE ρ5 ks, acc', ?_, ?_, hW5⟩
              · have := L5.wipe ks
                rw [ew] at this
                exact ⟨this.s, this.r, this.t⟩
              · have := S4.wipe L5 S5 ks hks
                rw [ew] at this
                exact this
            cases b with
            | false => exact fin ew L4 S4' hW4
            | true =>
              have hW4 : Wants (fun _ _ _ => False) (fun s ρ' => ∀ v F' H', S4 K W F' H' σ (tv ++ [some v]) ρ' (tr ++ [some s]) → Q v H') (((it1 ρ4).bind fun es ρ3 =>
                if acc.length + es.length ≤ 100000 ∧ ∀ k ∈ ks1, k < ρ3.length then (fTurns ks1 gf1 c1 f es acc (wipeE ρ3 ks1)).bind fun acc' ρ4 => fTurns2 ks gf c it1 ks1 gf1 c1 f (ds.drop (i + 1)) acc' (wipeE ρ4 ks) else .bad).bind fun xs ρ2 => Res.ok (Sl.ow (.lst xs)) (backE ρ1 ρ2 ks)) := hW4
              rw [Res.bind_assoc] at hW4
              refine hi1 (W.rebase F1) F4 H4 σ3 _ ρ4 _ _ L4 S4' ?_
              cases e1 : it1 ρ4 with
              | bad => rw [e1] at hW4; exact hW4.elim
              | exc c d ρ' => rw [e1] at hW4; exact hW4.elim
              | ok es ρ5 =>
                rw [e1] at hW4
                intro J1 F5 H5 S5 walk1
                have L5 : Ln (W.rebase F1) σ3 (tv ++ [some (.ref Dn)]) ρ5 (tr ++ [some (.ow (.lst acc))]) := L4.next S5 L4.t
                have hW5 : Wants (fun _ _ _ => False) (fun s ρ' => ∀ v F' H', S4 K W F' H' σ (tv ++ [some v]) ρ' (tr ++ [some s]) → Q v H') ((if acc.length + es.length ≤ 100000 ∧ ∀ k ∈ ks1, k < ρ5.length then (fTurns ks1 gf1 c1 f es acc (wipeE ρ5 ks1)).bind fun acc' ρ4 => fTurns2 ks gf c it1 ks1 gf1 c1 f (ds.drop (i + 1)) acc' (wipeE ρ4 ks) else .bad).bind fun xs ρ2 => Res.ok (Sl.ow (.lst xs)) (backE ρ1 ρ2 ks)) := hW4
                split at hW5
                · rename_i hz
                  obtain ⟨hz, hks1⟩ := hz
                  have hks1 : ∀ k ∈ ks1, k < W.N := fun k hk => hks k (hk1 k hk)
                  rw [Res.bind_assoc] at hW5
                  refine ⟨fun j m H' => m = es.length - j ∧ j ≤ es.length ∧ ∃ F6 ρ6 acc', Ln (W.rebase F1) (wipe σ3 ks1) (tv ++ [some (.ref Dn)]) ρ6 (tr ++ [some (.ow (.lst acc'))]) ∧ S4 K ((W.rebase F1).rebase F5) F6 H' (wipe σ3 ks1) (tv ++ [some (.ref Dn)]) ρ6 (tr ++ [some (.ow (.lst acc'))]) ∧ acc'.length ≤ acc.length + j ∧
                      Wants (fun _ _ _ => False) (fun s ρ' => ∀ v F' H', S4 K W F' H' σ (tv ++ [some v]) ρ' (tr ++ [some s]) → Q v H') ((fTurns ks1 gf1 c1 f (es.drop j) acc' ρ6).bind fun acc' ρ4 => (fTurns2 ks gf c it1 ks1 gf1 c1 f (ds.drop (i + 1)) acc' (wipeE ρ4 ks)).bind fun xs ρ2 => Res.ok (Sl.ow (.lst xs)) (backE ρ1 ρ2 ks)),
                    ⟨es.length, by omega, by omega, F5, wipeE ρ5 ks1, acc, L5.wipe ks1, S4.wipe (W := (W.rebase F1).rebase F5) ⟨L5.s, L5.r, L5.t⟩ S5.rebase ks1 hks1, by omega, by simpa using hW5⟩, ?_⟩
                  rintro j m H6 ⟨rfl, hle1, F6, ρ6, acc', L6, S6, hacc, hW6⟩
                  have hw1 := walk1 j F6 H6 S6.f0 S6.fh
                  by_cases hlt1 : j < es.length
                  · have ed1 : es.drop j = es[j] :: es.drop (j + 1) := List.drop_eq_getElem_cons hlt1
                    rw [ed1] at hW6
                    obtain ⟨go1, yld1⟩ := hw1.1 es[j] (List.getElem?_eq_getElem hlt1)
                    refine .inr ⟨go1, fun H' => ∃ F6 ρ6 acc', Ln (W.rebase F1) (wipe σ3 ks1) (tv ++ [some (.ref Dn)]) ρ6 (tr ++ [some (.ow (.lst acc'))]) ∧ S4 K ((W.rebase F1).rebase F5) F6 H' (wipe σ3 ks1) (tv ++ [some (.ref Dn)]) ρ6 (tr ++ [some (.ow (.lst acc'))]) ∧ acc'.length ≤ acc.length + (j + 1) ∧
                      Wants (fun _ _ _ => False) (fun s ρ' => ∀ v F' H', S4 K W F' H' σ (tv ++ [some v]) ρ' (tr ++ [some s]) → Q v H') ((fTurns ks1 gf1 c1 f (es.drop (j + 1)) acc' ρ6).bind fun acc' ρ4 => (fTurns2 ks gf c it1 ks1 gf1 c1 f (ds.drop (i + 1)) acc' (wipeE ρ4 ks)).bind fun xs ρ2 => Res.ok (Sl.ow (.lst xs)) (backE ρ1 ρ2 ks)),
                      fun H' h => ⟨es.length - (j + 1), by omega, rfl, hlt1, h⟩, fun x1 H' hy1 => ?_⟩
                    obtain ⟨F7, gr1, hx1⟩ := yld1 x1 H' hy1
                    have S7 : S4 K ((W.rebase F1).rebase F5) F7 H' (wipe σ3 ks1) (tv ++ [some (.ref Dn)]) ρ6 (tr ++ [some (.ow (.lst acc'))]) := SR.grow S6 gr1
                    unfold fTurns at hW6
                    cases eg1 : gf1 es[j] ρ6 with
                    | none => rw [eg1] at hW6; exact hW6.elim
                    | some ρ7 =>
                      rw [eg1] at hW6
                      refine hg1 ((W.rebase F1).rebase F5) F7 H' (wipe σ3 ks1) _ ρ6 _ x1 es[j] ρ7 _ ⟨L6.s, L6.r, L6.t⟩ S7 hx1 eg1 fun σ8 k8 L8 S8 => ?_
                      have ew1 : wipe σ8 ks1 = wipe σ3 ks1 := by
                        rw [wipe_same k8 hs1 (by rw [L8.s]; exact L6.s.symm), wipe_wipe]
                      refine ⟨ew1, ?_⟩
                      have hW7 : Wants (fun _ _ _ => False) (fun s ρ' => ∀ v F' H', S4 K W F' H' σ (tv ++ [some v]) ρ' (tr ++ [some s]) → Q v H') (((c1 ρ7).bind fun b ρ2 => if b then (fFz f ρ2).bind fun s ρ3 => match s with
                          | .fr x => fTurns ks1 gf1 c1 f (es.drop (j + 1)) (acc' ++ [x]) (wipeE ρ3 ks1)
                          | _ => .bad
                        else fTurns ks1 gf1 c1 f (es.drop (j + 1)) acc' (wipeE ρ2 ks1)).bind fun acc' ρ4 => (fTurns2 ks gf c it1 ks1 gf1 c1 f (ds.drop (i + 1)) acc' (wipeE ρ4 ks)).bind fun xs ρ2 => Res.ok (Sl.ow (.lst xs)) (backE ρ1 ρ2 ks)) := hW6
                      rw [Res.bind_assoc] at hW7
                      refine hc1.run L8 S8 (fun _ _ _ h => h.elim) hW7 fun b ρ9 F9 H9 L9 S9 hW9 => ?_
                      have fin1 : ∀ {F5' H5 : Hp} {ρ5 : Evn} {acc2 : List D}, Ln ((W.rebase F1).rebase F5) σ8 (tv ++ [some (.ref Dn)]) ρ5 (tr ++ [some (.ow (.lst acc2))]) → S4 K ((W.rebase F1).rebase F5) F5' H5 σ8 (tv ++ [some (.ref Dn)]) ρ5 (tr ++ [some (.ow (.lst acc2))]) → acc2.length ≤ acc.length + (j + 1) →
                          Wants (fun _ _ _ => False) (fun s ρ' => ∀ v F' H', S4 K W F' H' σ (tv ++ [some v]) ρ' (tr ++ [some s]) → Q v H') ((fTurns ks1 gf1 c1 f (es.drop (j + 1)) acc2 (wipeE ρ5 ks1)).bind fun acc' ρ4 => (fTurns2 ks gf c it1 ks1 gf1 c1 f (ds.drop (i + 1)) acc' (wipeE ρ4 ks)).bind fun xs ρ2 => Res.ok (Sl.ow (.lst xs)) (backE ρ1 ρ2 ks)) →
                          ∃ F6 ρ6 acc', Ln (W.rebase F1) (wipe σ3 ks1) (tv ++ [some (.ref Dn)]) ρ6 (tr ++ [some (.ow (.lst acc'))]) ∧ S4 K ((W.rebase F1).rebase F5) F6 H5 (wipe σ3 ks1) (tv ++ [some (.ref Dn)]) ρ6 (tr ++ [some (.ow (.lst acc'))]) ∧ acc'.length ≤ acc.length + (j + 1) ∧
                            Wants (fun _ _ _ => False) (fun s ρ' => ∀ v F' H', S4 K W F' H' σ (tv ++ [some v]) ρ' (tr ++ [some s]) → Q v H') ((fTurns ks1 gf1 c1 f (es.drop (j + 1)) acc' ρ6).bind fun acc' ρ4 => (fTurns2 ks gf c it1 ks1 gf1 c1 f (ds.drop (i + 1)) acc' (wipeE ρ4 ks)).bind fun xs ρ2 => Res.ok (Sl.ow (.lst xs)) (backE ρ1 ρ2 ks)) := by
                        intro F5' H5 ρ5 acc2 L5 S5 ha hW5
                        refine ⟨F5', wipeE ρ5 ks1, acc2, ?_, ?_, ha, hW5⟩
                        · have := L5.wipe ks1
                          rw [ew1] at this
                          exact ⟨this.s, this.r, this.t⟩
                        · have := S4.wipe L5 S5 ks1 hks1
                          rw [ew1] at this
                          exact this
                      cases b with
                      | false => exact fin1 L9 S9 (by omega) hW9
                      | true =>
                        have hW9 : Wants (fun _ _ _ => False) (fun s ρ' => ∀ v F' H', S4 K W F' H' σ (tv ++ [some v]) ρ' (tr ++ [some s]) → Q v H') (((fFz f ρ9).bind fun s ρ3 => match s with
                          | .fr x => fTurns ks1 gf1 c1 f (es.drop (j + 1)) (acc' ++ [x]) (wipeE ρ3 ks1)
                          | _ => .bad).bind fun acc' ρ4 => (fTurns2 ks gf c it1 ks1 gf1 c1 f (ds.drop (i + 1)) acc' (wipeE ρ4 ks)).bind fun xs ρ2 => Res.ok (Sl.ow (.lst xs)) (backE ρ1 ρ2 ks)) := hW9
                        rw [Res.bind_assoc] at hW9
                        refine (tj_fz hf).run L9 S9 (fun _ _ _ h => h.elim) hW9 fun s ρa y Fa Ha La0 Sa0 hWa => ?_
                        split at hWa
                        · rename_i z
                          have La := La0.cut (us := [some y]) (ss := [some (.fr z)]) (by simp)
                          have Sa := S4.cut La0 Sa0 (by simp)
                          obtain ⟨p, ws, e1, e2, e3, e4⟩ := S4.top_ow La Sa
                          cases e1
                          have hy := S4.top_fr La0 Sa0
                          refine ⟨ws, e2, ?_, fin1 ⟨La.s, La.r, by simpa using La.t⟩ (SR.mutTop La Sa (dpAll_app e3 (.cons hy .nil))) (by simp; omega) hWa⟩
                          rw [dpAll_len e3]
                          exact line5' (by omega)
                        · exact hWa.elim
                  · refine .inl ⟨hw1.2 (by omega), ?_⟩
                    rw [List.drop_eq_nil_of_le (by omega)] at hW6
                    refine fin (σ3 := wipe σ3 ks1) ?_ ⟨L6.s, L6.r, L6.t⟩ (S5.unbase S6) hW6
                    rw [← ew]
                    exact wipe_same (is := ks1) (fun k hk => wipe_get hk) hk1 (wipe_length _ _)
                · exact hW5.elim
        · have ei : i = ds.length := by omega
          refine .inl ⟨hw.2 (by omega), ?_⟩
          rw [List.drop_eq_nil_of_le (by omega)] at hW2
          have S3 := S4.back L1 S1 L2 S2 ks hks
          rw [backS_eq ks (fun k hk => by rw [L1.s]; exact hks k hk) (fun k hk => .inl hk)] at S3
          exact hW2 (.ref Dn) F2 H2 (S1.unbase S3)
    · exact hW.elim
end
end DL

namespace DL
open PySem PySem.Spec PyProof.Rows L2 RZ
/-- nothing is wished of an exception -/
abbrev FW : XW := fun _ _ _ _ => False
section
variable {X : Cx} {K : PySem.W.Frag} {mg : Str → Option Value} {E : XW} {W : Wd} {F0 B F H F' H' : Hp} {σ tv us vs : L2.St} {ρ ρ' tr ss : Evn} {v : V} {d : D} {s : Sl} {c c' : Cn} {p : Addr} {i : Nat} {α β : Type}
/-! ### what is never reached -/
def tNeverE : TE := fun _ _ _ => False
def tNeverS : TS := fun _ _ _ => False
theorem pe_never {e : Expr} : PE X e tNeverE := ⟨fun _ _ _ _ _ _ h => h.elim⟩
theorem ps_never {e : Stmt} : PS X e tNeverS := ⟨fun _ _ _ _ _ _ h => h.elim⟩
def fBadE (_ : Evn) : Res Sl := .bad
def fBadS (_ : Evn) : Res Fl := .bad
theorem tj_never : TJ K mg E tNeverE fBadE := fun W F H σ tv ρ tr Q L S hW => hW.elim
theorem tsj_never : TSJ K mg E tNeverS fBadS := fun W F H σ ρ D L S hW => hW.elim
theorem ttj_yes : TTJ K mg E tYes fun ρ => .ok true ρ := fun W F H σ tv ρ tr Q L S hW => hW F H S
/-! ### operators of any kind -/
/-- t + u of tuples: what is made has a known object -/
def rCatN (K : PySem.W.Frag) : R2 := fun x y H Q => ∃ a b xs ys, x = .ref a ∧ y = .ref b ∧ SqT K H a xs ∧ SqT K H b ys ∧ xs.length + ys.length ≤ sizeLine ∧
  (xs = [] → Q (.ref b) H) ∧ (xs ≠ [] → ys = [] → Q (.ref a) H) ∧ (xs ≠ [] → ys ≠ [] → ∀ p its, H p = none → Q (.ref p) (upd H p (.frz (tupO its) (.tup (xs ++ ys)))))
theorem op_catN : OpR X (binaryOp .Add) (rCatN X.K) := by
  intro pins s σ H x y v u Q I rx ry h
  obtain ⟨a, b, xs, ys, rfl, rfl, ha, hb, hz, q0, q1, q2⟩ := h
  by_cases hx : xs = []
  · subst hx
    cases rx
    cases ry
    obtain ⟨its, r1, p1, _⟩ := I.tuple ha
    obtain ⟨its2, r2, p2, _⟩ := I.tuple hb
    cases r1
    exact cat_tup0 p1 p2 ⟨.ref b, H, I, rfl, q0 rfl⟩
  · cases rx
    cases ry
    obtain ⟨its, r1, p1, _⟩ := I.tuple ha
    obtain ⟨its2, r2, p2, _⟩ := I.tuple hb
    refine HT.cat_tup p1 p2 (fun z => hx (r1.nil_iff.mp z)) (fun z => ⟨.ref a, H, I, rfl, q1 hx (r2.nil_iff.mp z)⟩) (fun z => ?_) (by rw [← r1.length, ← r2.length]; exact hz)
    refine ⟨.ref s.heap.objs.size, _, I.laid (t' := s.toks) (o := .frz (tupO (its ++ its2).toArray) (.tup (xs ++ ys))) (fun b ob q => Heap.get?_push_of_some _ q) (Nat.le_refl _) ?_, rfl, q2 hx (fun w => z (r2.nil_iff.mpr w)) _ _ (I.hok.fresh (Nat.le_refl _))⟩
    exact ⟨Heap.get?_push_size _ rfl, by rw [List.length_append]; exact hz, _, r1.append r2, IsTup.new _ _⟩
def rAddU (K : PySem.W.Frag) : R2 := fun x y H Q => ((rI0 (fun i j => .int (i + j)) x y H Q) ∨ rAddS x y H Q) ∨ (rCat x y H Q ∨ rCatN K x y H Q)
def addOp (a b : D) : Option Sl := ((op2I (fun _ _ => true) (fun i j => .int (i + j)) a b).or (op2S (fun i j => decide (i.length + j.length ≤ 100000)) (fun i j => .str (i ++ j)) a b)).or ((catL a b).or (catT a b))
theorem op_addU : OpR X (binaryOp .Add) (rAddU X.K) := OpR.or (op_add.or op_add_str) (op_cat.or op_catN)
theorem vr_addU : VR2 K (rAddU K) addOp := VR2.or (vr_addI.or vr_addS) (vr_catL.or (vr_addT fun _ _ _ _ h => h))
def rMulS : R2 := fun x y H Q => ∃ (a : Str) (i : Int), x = .str a ∧ y = .int i ∧ ((i = 0 ∧ Q (.str Str.empty) H) ∨ (i = 1 ∧ Q (.str a) H))
theorem op_mulS : OpR X (binaryOp .Mult) rMulS := by
  intro pins s σ H x y v u Q I rx ry h
  obtain ⟨a, i, rfl, rfl, h⟩ := h
  obtain ⟨t, rfl⟩ := rx
  obtain ⟨t', rfl⟩ := ry
  rcases h with ⟨rfl, q⟩ | ⟨rfl, q⟩
  · exact P.mul_str_none (by decide) (by decide) ⟨.str Str.empty, H, I.tok _, ⟨_, rfl⟩, q⟩
  · exact P.mul_str (by decide) (fun _ h => by simp at h) (fun _ h => by simp at h) (by
      rw [if_neg (by decide), if_pos (by rfl)]
      exact ⟨.str a, H, I, ⟨_, rfl⟩, q⟩)
def mulSOp (a b : D) : Option Sl := match a, b with
  | .str a, .int i => if i = 0 then some (.fr (.str Str.empty)) else if i = 1 then some (.fr (.str a)) else none
  | _, _ => none
theorem vr_mulS : VR2 K rMulS mulSOp := by
  intro F H x y dx dy s Q fh r1 r2 e q
  unfold mulSOp at e
  split at e
  · rename_i a i
    split at e
    · rename_i h
      cases e
      rw [RepC.str r1, RepC.int r2]
      exact ⟨a, i, rfl, rfl, .inl ⟨h, q _ F H (.refl fh) (.str _)⟩⟩
    · split at e
      · rename_i h
        cases e
        rw [RepC.str r1, RepC.int r2]
        exact ⟨a, i, rfl, rfl, .inr ⟨h, q _ F H (.refl fh) (.str _)⟩⟩
      · cases e
  · cases e
def mulOp (a b : D) : Option Sl := (op2I mulOk (fun i j => .int (i * j)) a b).or (mulSOp a b)
theorem op_mulU : OpR X (binaryOp .Mult) (fun x y H Q => rI CMul (fun i j => .int (i * j)) x y H Q ∨ rMulS x y H Q) := op_mul.or op_mulS
theorem vr_mulU : VR2 K (fun x y H Q => rI CMul (fun i j => .int (i * j)) x y H Q ∨ rMulS x y H Q) mulOp := vr_mulI.or vr_mulS
def subOp : D → D → Option Sl := op2I (fun _ _ => true) fun i j => .int (i - j)
def modOp : D → D → Option Sl := op2I (fun _ j => decide (0 < j)) fun i j => .int (i % j)
def divOp : D → D → Option Sl := op2I (fun _ j => divOk j) fun i j => .int (i / j)
def powOp : D → D → Option Sl := op2I powOk fun i j => .int (i ^ j.toNat)
def ltOp (a b : D) : Option Sl := (op2I (fun _ _ => true) (fun i j => .bool (decide (i < j))) a b).or (op2S (fun _ _ => true) (fun i j => .bool (decide (i.cps.toList < j.cps.toList))) a b)
def leOp : D → D → Option Sl := op2I (fun _ _ => true) fun i j => .bool (decide (i ≤ j))
def gtOp : D → D → Option Sl := op2I (fun _ _ => true) fun i j => .bool (decide (j < i))
def geOp : D → D → Option Sl := op2I (fun _ _ => true) fun i j => .bool (decide (j ≤ i))
theorem op_ltU : OpR X (compareOp .Lt) (fun x y H Q => rI0 (fun i j => .bl (decide (i < j))) x y H Q ∨ (∃ i j, x = .str i ∧ y = .str j ∧ Q (.bl (decide (i.cps.toList < j.cps.toList))) H)) := op_lt.or op_lt_str
theorem vr_ltU : VR2 K (fun x y H Q => rI0 (fun i j => .bl (decide (i < j))) x y H Q ∨ (∃ i j, x = .str i ∧ y = .str j ∧ Q (.bl (decide (i.cps.toList < j.cps.toList))) H)) ltOp := vr_cmp.or vr_ltS
/-! ### lists or tuples -/
def asS (ρ : Evn) : Sl → Res (List D)
  | .fr (.list ds) => .ok ds ρ
  | .fr (.tuple ds) => .ok ds ρ
  | _ => .bad
def fIterS (f : Evn → Res Sl) (ρ : Evn) : Res (List D) := (fFz f ρ).bind fun s ρ1 => asS ρ1 s
def iSeq (K : PySem.W.Frag) (te : TE) : TI := fun σ H R => iList K te σ H R ∨ iTup K te σ H R
theorem pi_seq {tg l : Expr} {tl : TE} (hl : PE X l tl) : PI X tg l (iSeq X.K tl) :=
  ⟨fun pins s σ H R I h => h.elim (fun h => (pi_list hl).run pins s σ H R I h) fun h => (pi_tup hl).run pins s σ H R I h⟩
theorem tij_seq {te : TE} {f : Evn → Res Sl} (h : TJ K mg E te f) : TIJ Dt K mg E (iSeq K te) (fIterS f) := by
  intro W F H σ tv ρ tr R L S hW
  unfold fIterS at hW
  have key : fIterL f ρ = (fFz f ρ).bind fun s ρ1 => asL ρ1 s := rfl
  have key2 : fIterT f ρ = (fFz f ρ).bind fun s ρ1 => asT ρ1 s := rfl
  cases e : fFz f ρ with
  | bad => rw [e] at hW; exact hW.elim
  | exc c d ρ' =>
    refine .inl (tij_list h W F H σ tv ρ tr R L S ?_)
    rw [key, e]
    rw [e] at hW
    exact hW
  | ok s ρ1 =>
    rw [e] at hW
    have hW : Wants _ _ (asS ρ1 s) := hW
    unfold asS at hW
    split at hW
    · refine .inl (tij_list h W F H σ tv ρ tr R L S ?_)
      rw [key, e]
      exact hW
    · refine .inr (tij_tup h W F H σ tv ρ tr R L S ?_)
      rw [key2, e]
      exact hW
    · exact hW.elim
def gSeqF (n : Nat) (g : List D → Evn → Option Evn) (d : D) (ρ : Evn) : Option Evn := match d with
  | .list ds => if ds.length = n then g ds ρ else none
  | .tuple ds => if ds.length = n then g ds ρ else none
  | _ => none
def gSeq (K : PySem.W.Frag) (n : Nat) (t : TGs) : TG := fun v σ H Q => gLst K n t v σ H Q ∨ gTup K n t v σ H Q
theorem pg_seq {es : List Expr} {k : Nat} {t : TGs} {n : Nat} {pos : Pos} (hc : X.calm = true) (h : PGs X es t)
    (hn : (assignEach es X.env).length = n := by rfl) (hst : (assignEach es X.env).findIdx? (·.1) = none := by rfl) : PG X (.Tuple es k pos) (gSeq X.K n t) :=
  ⟨fun pins s σ H v u Q I r hw => hw.elim (fun hw => (pg_lst hc h hn hst).run pins s σ H v u Q I r hw) fun hw => (pg_tup hc h hn hst).run pins s σ H v u Q I r hw⟩
end
end DL

namespace DL
open PySem PySem.Spec PyProof.Rows L2 RZ
section
variable {X : Cx} {K : PySem.W.Frag} {mg : Str → Option Value} {E : XW} {W : Wd} {F0 B F H F' H' : Hp} {σ tv us vs : L2.St} {ρ ρ' tr ss : Evn} {v : V} {d : D} {s : Sl} {c c' : Cn} {p : Addr} {i : Nat} {α β : Type}
theorem tgj_seq {Re : Rl} [Wk Re] {gs : TGs} {is : List Nat} {n : Nat} {fs : List D → Evn → Option Evn} (h : TGsJ K gs is fs) : TGJ Re K (gSeq K n gs) is (gSeqF n fs) := by
  intro W F H σ tv ρ tr x d ρ' Q L S hx e q
  unfold gSeqF at e
  split at e
  · exact .inl (tgj_lst h W F H σ tv ρ tr x _ ρ' Q L S hx e q)
  · exact .inr (tgj_tup h W F H σ tv ρ tr x _ ρ' Q L S hx e q)
  · cases e
/-! ### a def as it may be called -/
structure Cal (P : Program) (w : World) (K : PySem.W.Frag) (mg : Str → Option Value) (base : Heap) (x : Str) (ps : List Str) (lev : Nat) (sp : Sp) : Prop where
  ex : ∃ f fd, mg x = some (.ref f) ∧ PySem.W.keepIn K (.ref f) = true ∧ Binds K fd ps [] ∧ FnG P w K mg base (L2.CX P w) lev f fd ps sp
theorem passF {s : Shared} {H : Hp} {scope : Scope} {cenv : PySem.Env} {fp : List Addr} (σ : L2.St) : PassesAt (L2.CX (X.blk s H scope cenv fp).prog (X.blk s H scope cenv fp).w) (X.blk s H scope cenv fp) σ (FW σ) := fun _ _ _ _ _ _ h => by
  obtain ⟨_, _, _, _, _, _, _, _, _, _, _, _, z⟩ := h
  exact z.elim
theorem pe_cal {x : Str} {ps : List Str} {lev n : Nat} {den : Option Cn → List D → Ret} {p pos : Pos} {e : Expr} {es : List Expr} {t : TA} {E : L2.St → XK} (C : Cal X.prog X.w X.K X.mg X.base x ps lev (spD X.K X.mg n den)) (hr : RoomG lev X.A) (hg : Gl X x) (hx : ∀ σ, PassesAt (L2.CX X.prog X.w) X σ (E σ))
    (ha : PA X (e :: es) t) (hdb : (x == ("__debug__" : Str)) = false := by decide) (he : starEach (e :: es) X.env = (false, eval e X.env) :: starEach es X.env := by rfl) (hpl : (backTo pos (starEach es X.env)).any (·.1) = false := by rfl) :
    PE X (.Call (.Name x p) (e :: es) [] pos) (tCallSD (spD X.K X.mg n den) [] E t) := by
  obtain ⟨f, fd, h1, h2, h3, h4⟩ := C.ex
  exact pe_callG h4 hr hg h1 h2 h3 hx ha hdb he hpl
theorem pe_calB {x : Str} {ps : List Str} {lev n : Nat} {den : Option Cn → List D → Ret} {p pos : Pos} {e : Expr} {es : List Expr} {t : TA} {s : Shared} {H : Hp} {scope : Scope} {cenv : PySem.Env} {fp : List Addr} (C : Cal X.prog X.w X.K X.mg X.base x ps lev (spD X.K X.mg n den)) (hr : RoomG lev X.A) (hg : Gl (X.blk s H scope cenv fp) x)
    (ha : PA (X.blk s H scope cenv fp) (e :: es) t) (hdb : (x == ("__debug__" : Str)) = false := by decide) (he : starEach (e :: es) cenv = (false, eval e cenv) :: starEach es cenv := by rfl) (hpl : (backTo pos (starEach es cenv)).any (·.1) = false := by rfl) :
    PE (X.blk s H scope cenv fp) (.Call (.Name x p) (e :: es) [] pos) (tCallSD (spD X.K X.mg n den) [] FW t) :=
  pe_cal (X := X.blk s H scope cenv fp) C hr hg passF ha hdb he hpl
/-- how many values an argument list gives -/
theorem nil_len : ∀ (ρ : Evn) ss ρ', fNil ρ = .ok ss ρ' → ss.length = 0 := fun ρ ss ρ' h => by
  unfold fNil at h
  cases h
  rfl
theorem cons_len {f : Evn → Res Sl} {g : Evn → Res (List Sl)} {n : Nat} (h : ∀ ρ ss ρ', g ρ = .ok ss ρ' → ss.length = n) : ∀ ρ ss ρ', fCons f g ρ = .ok ss ρ' → ss.length = n + 1 := fun ρ ss ρ' e => by
  unfold fCons at e
  cases e1 : f ρ with
  | bad => rw [e1] at e; cases e
  | exc c d ρ1 => rw [e1] at e; cases e
  | ok a ρ1 =>
    rw [e1] at e
    have e : (g ρ1).bind (fun ss ρ2 => Res.ok (a :: ss) ρ2) = .ok ss ρ' := e
    cases e2 : g ρ1 with
    | bad => rw [e2] at e; cases e
    | exc c d ρ1 => rw [e2] at e; cases e
    | ok as ρ2 =>
      rw [e2] at e
      cases e
      exact congrArg (· + 1) (h _ _ _ e2)
theorem Cal.up {P : Program} {w : World} {base : Heap} {x : Str} {ps : List Str} {lev lev' : Nat} {sp : Sp} (C : Cal P w K mg base x ps lev sp) (h : lev = lev') : Cal P w K mg base x ps lev' sp := h ▸ C
theorem cal_mk {P : Program} {w : World} {base : Heap} {x : Str} {qual : Str} {st : Stmt} {f : Addr} {fd : FuncData} {ps : List Str} {lev : Nat} {sp : Sp} (F : Fun K x qual st f fd) (g : mg x = some (.ref f)) (b : Binds K fd ps []) (h : FnG P w K mg base (L2.CX P w) lev f fd ps sp) : Cal P w K mg base x ps lev sp := ⟨⟨f, fd, g, F.kp, b, h⟩⟩
end
end DL

namespace DL
open PySem PySem.Spec PyProof.Rows L2 RZ
section
variable {P : Program} {w : World} {K : PySem.W.Frag} {mg : Str → Option Value} {base : Heap} {X : Cx}
theorem Same.new {H : Hp} {p : Addr} {o : HO} (h : H p = none) : Same H (upd H p o) := fun b x e => by
  rw [upd_ne (ne_of_none e h)]
  exact e
/-! ### the script's cells -/
def spFold (K : PySem.W.Frag) : Sp := fun vs H Q _ => ∃ (a : Addr) (ns : List Int) (n : Nat), vs = [.ref a, .int (n : Int)] ∧ SqL K H a (ns.map V.int) ∧ ns.length ≤ 63 ∧ 1 ≤ n ∧ n ≤ 4 ∧
  ∀ H' p (ms : List Int), Same H H' → H p = none → H' p = some (.lst (ms.map V.int)) → ms.length = min n ns.length → Q (.ref p) H'
def tFold (K : PySem.W.Frag) : TS :=
  tSeq (tAsg (tCB (fun xs H Q => ∃ p ys, xs = [.ref p] ∧ (SqL K H p ys ∨ SqT K H p ys) ∧ ∀ l, H l = none → Q (.ref l) (upd H l (.lst ys))) (tCons (tSl (rSlL K) (tVar 0) tNoPart (tPart (tVar 1))) tNil)) (gName 2))
  (tSeq (tFor (iEnum K (tCons (tSl (rSlL K) (tVar 0) (tPart (tVar 1)) (tPart (tC (.int 63)))) tNil)) (gTup K 2 (gCons (gName 3) (gCons (gName 4) gNil)))
    (tAsg (tOp (rI0 fun i j => .int (i + j)) (tOp (rIxL K) (tVar 2) (tOp (rI (fun _ j => 0 < j) fun i j => .int (i % j)) (tVar 3) (tVar 1))) (tOp (rI CMul fun i j => .int (i * j)) (tVar 4) (tOp (rI0 fun i j => .int (i + j)) (tVar 3) (tC (.int 2)))))
      (gSub (tVar 2) (tOp (rI (fun _ j => 0 < j) fun i j => .int (i % j)) (tVar 3) (tVar 1)) rSetL)))
  (tRet (tVar 2)))
theorem map_set_int {ms : List Int} {j : Nat} {x : Int} : (ms.map V.int).set j (.int x) = (ms.set j x).map V.int := by rw [List.map_set]
theorem fold_run {vs : List V} {H : Hp} {Q : VK} {E : XK} {N : List Str} (hN : N.length = 5) (h : spFold K vs H Q E) : tFold K { nx := fun _ H' => Q .non H', rt := Q } (L2.start N vs) H := by
  obtain ⟨a, ns, n, rfl, hS, hlen, n1, n4, q⟩ := h
  have hst : L2.start N [V.ref a, V.int n] = [some (.ref a), some (.int n), none, none, none] := by
    match N, hN with
    | [_, _, _, _, _], _ => rfl
  rw [hst]
  -- cells = list(script[:n])
  refine ⟨.ref a, rfl, .int n, rfl, n, rfl, a, ns.map V.int, rfl, hS, fun c nc => ?_⟩
  refine ⟨c, _, rfl, .inl (.of upd_same), fun o no => ?_⟩
  have s1 : Same H (upd H c (.lst (cutV (ns.map V.int) none (some (n : Int))))) := Same.new nc
  have s2 := s1.trans (Same.new (o := .lst (cutV (ns.map V.int) none (some (n : Int)))) no)
  have ecut : cutV (ns.map V.int) none (some (n : Int)) = (ns.take n).map V.int := by
    unfold cutV
    rw [HT.sIx_none, HT.sIx_nat]
    simp only [List.drop_zero, Nat.sub_zero, List.map_take]
    by_cases hh : n ≤ (ns.map V.int).length
    · rw [Nat.min_eq_left hh]
    · rw [Nat.min_eq_right (by omega), List.take_of_length_le (Nat.le_refl _), List.take_of_length_le (by omega)]
  have hoH : H o = none := by
    cases e : H o with
    | none => rfl
    | some x =>
      have := s1 _ _ e
      rw [no] at this
      cases this
  -- enumerate(script[n:63])
  refine ⟨.ref a, rfl, .int n, rfl, n, rfl, 63, rfl, a, ns.map V.int, rfl, s2.seq hS, fun b nb => ?_⟩
  obtain ⟨es, ee, hes, hel⟩ : ∃ es : List Int, cutV (ns.map V.int) (some (n : Int)) (some 63) = es.map V.int ∧ (0 < es.length → n ≤ ns.length) ∧ es.length ≤ ns.length := by
    refine ⟨((ns.drop (HT.sIx (ns.map V.int).length 0 (some (n : Int)))).take (HT.sIx (ns.map V.int).length (ns.map V.int).length (some 63) - HT.sIx (ns.map V.int).length 0 (some (n : Int)))), ?_, fun h => ?_, ?_⟩
    · unfold cutV
      rw [List.map_take, List.map_drop]
    · rw [HT.sIx_nat] at h
      rw [List.length_take, List.length_drop, List.length_map] at h
      omega
    · rw [List.length_take, List.length_drop]
      omega
  rw [ee]
  rw [ecut] at s1 s2 no nb ⊢
  have s3 := s2.trans (Same.new (o := .lst (es.map V.int)) nb)
  have nbo : o ≠ b := fun e => by
    rw [← e, upd_same] at nb
    cases nb
  refine ⟨b, es.map V.int, rfl, .of upd_same, fun i m σ H3 => ∃ (y3 y4 : Option V) (ms : List Int), σ = [some (.ref a), some (.int n), some (.ref o), y3, y4] ∧ i + m = es.length ∧ Same H H3 ∧ H3 b = some (.lst (es.map V.int)) ∧ H3 o = some (.lst (ms.map V.int)) ∧ ms.length = min n ns.length,
    ⟨es.length, none, none, ns.take n, rfl, by omega, s3, upd_same, ?_, List.length_take⟩, fun i m σ H3 hW => ?_⟩
  · rw [upd_ne nbo, upd_same]
  · obtain ⟨y3, y4, ms, rfl, em, sm, eb, eo, hms⟩ := hW
    have hB : SqL K H3 b (es.map V.int) := .of eb
    by_cases hi : i < es.length
    · have hn : ms.length = n := by
        have := hes (by omega)
        omega
      have g1 : (es.map V.int)[i]? = some (.int es[i]) := by
        rw [List.getElem?_map, List.getElem?_eq_getElem hi]
        rfl
      refine .inr ⟨⟨_, _, hB, g1⟩, fun σ' H' => ∃ (y3 y4 : Option V) (ms : List Int), σ' = [some (.ref a), some (.int n), some (.ref o), y3, y4] ∧ Same H H' ∧ H' b = some (.lst (es.map V.int)) ∧ H' o = some (.lst (ms.map V.int)) ∧ ms.length = min n ns.length, fun σ' H' hN => ?_, fun x H' hy => ?_⟩
      · obtain ⟨z3, z4, ms', e, sm', eb', eo', hl'⟩ := hN
        exact ⟨m - 1, by omega, z3, z4, ms', e, by omega, sm', eb', eo', hl'⟩
      · obtain ⟨T, x1, rfl, nT, rfl, f1⟩ := hy
        have ex1 : x1 = .int es[i] := Option.some.inj ((f1 _ hB).symm.trans g1)
        subst ex1
        have nTo : o ≠ T := ne_of_none eo nT
        have nTb : b ≠ T := ne_of_none eb nT
        have smT : Same H3 (upd H3 T (.tup [.int (i : Nat), .int es[i]])) := Same.new nT
        have eoT : (upd H3 T (.tup [.int (i : Nat), .int es[i]])) o = some (.lst (ms.map V.int)) := by
          rw [upd_ne nTo]
          exact eo
        have ebT : (upd H3 T (.tup [.int (i : Nat), .int es[i]])) b = some (.lst (es.map V.int)) := by
          rw [upd_ne nTb]
          exact eb
        have hj : i % n < ms.length := by
          rw [hn]
          exact Nat.mod_lt _ n1
        have hmod : ((i : Int) % (n : Int)) = ((i % n : Nat) : Int) := by omega
        refine ⟨T, [.int (i : Nat), .int es[i]], rfl, .inl (.inl upd_same), rfl, .int (i : Nat), [.int es[i]], rfl, .int es[i], [], rfl, rfl, ?_⟩
        -- cells[k % n] + cell * (k + 2)
        refine ⟨.ref o, rfl, .int (i : Nat), rfl, .int n, rfl, i, n, rfl, rfl, by omega, o, ms.map V.int, (i : Int) % (n : Int), .int ms[i % n], rfl, rfl, .of eoT, ?_, .int es[i], rfl, .int (i : Nat), rfl, i, 2, rfl, rfl, es[i], (i : Int) + 2, rfl, rfl, ?_, ms[i % n], es[i] * ((i : Int) + 2), rfl, rfl, ?_⟩
        · rw [hmod]
          refine atI_nat (j := i % n) ?_
          rw [List.getElem?_map, List.getElem?_eq_getElem hj]
          rfl
        · refine .inr ⟨?_, ?_⟩ <;> omega
        · refine ⟨.ref o, rfl, .int (i : Nat), rfl, .int n, rfl, i, n, rfl, rfl, by omega, o, ms.map V.int, (i : Int) % (n : Int), i % n, rfl, rfl, eoT, ?_, ?_⟩
          · rw [hmod]
            unfold ixN
            rw [if_pos (by omega), if_pos (by rw [List.length_map]; omega)]
            rfl
          · refine ⟨_, _, ms.set (i % n) (ms[i % n] + es[i] * ((i : Int) + 2)), rfl, fun d z e => ?_, ?_, ?_, ?_⟩
            · have nd : d ≠ o := ne_of_none e hoH
              rw [upd_ne nd]
              exact smT _ _ (sm _ _ e)
            · rw [upd_ne (Ne.symm nbo)]
              exact ebT
            · rw [upd_same, map_set_int]
            · rw [List.length_set]; exact hms
    · refine .inl ⟨⟨_, hB, by rw [List.length_map]; omega⟩, .ref o, rfl, q H3 o ms sm hoH eo hms⟩

/-! ### the cells: at least one -/
def spCells (K : PySem.W.Frag) : Sp := fun vs H Q _ => ∃ (a : Addr) (ns : List Int) (n : Nat), vs = [.ref a, .int (n : Int)] ∧ SqL K H a (ns.map V.int) ∧ ns.length ≤ 63 ∧ 1 ≤ n ∧ n ≤ 4 ∧
  ∀ H' p (ms : List Int), Same H H' → H p = none → H' p = some (.lst (ms.map V.int)) → 1 ≤ ms.length → ms.length ≤ n → Q (.ref p) H'
def tCells (K : PySem.W.Frag) (E : L2.St → XK) : TS :=
  tRet (tIf (tTest (tOp (rNeD K) (tVar 0) (tLst tNil))) (tCallSD (spFold K) [] E (tCons (tVar 0) (tCons (tVar 1) tNil))) (tLst (tCons (tC (.int 0)) tNil)))
theorem dp_ints {H : Hp} : ∀ ns : List Int, DpAll K H (ns.map V.int) (ns.map PyData.int)
  | [] => .nil
  | n :: ns => .cons (.int n) (dp_ints ns)
theorem cells_run {vs : List V} {H : Hp} {Q : VK} {Ex : XK} {N : List Str} {E : L2.St → XK} (hN : N.length = 2) (h : spCells K vs H Q Ex) : tCells K E { nx := fun _ H' => Q .non H', rt := Q } (L2.start N vs) H := by
  obtain ⟨a, ns, n, rfl, hS, hlen, n1, n4, q⟩ := h
  have hst : L2.start N [V.ref a, V.int n] = [some (.ref a), some (.int n)] := by
    match N, hN with
    | [_, _], _ => rfl
  rw [hst]
  refine ⟨.ref a, rfl, Nat.zero_le _, fun p hp => ?_⟩
  have s1 : Same H (upd H p (.lst [])) := Same.new hp
  have hS1 := s1.seq hS
  have hpH : ∀ p' : Addr, upd H p (.lst []) p' = none → H p' = none := fun p' z => by
    cases e : H p' with
    | none => rfl
    | some x => rw [s1 _ _ e] at z; cases z
  refine ⟨.list (ns.map PyData.int), .list [], .lst hS1 (dp_ints ns), .lst (.of upd_same) .nil, PySem.W.ke_shaped_ints ns, rfl, _, rfl, ?_⟩
  cases ns with
  | nil =>
    refine ⟨by decide, fun p' hp' => ?_⟩
    refine q _ p' [0] (s1.trans (Same.new hp')) (hpH _ hp') upd_same (Nat.le_refl _) n1
  | cons x r =>
    refine ⟨.ref a, rfl, .int n, rfl, a, x :: r, n, rfl, hS1, hlen, n1, n4, fun H' p' ms sm np e el => q _ p' ms (s1.trans sm) (hpH _ np) e ?_ ?_⟩
    · rw [el, List.length_cons]; omega
    · rw [el]; exact Nat.min_le_left _ _
/-! ### the law: behind its first statement -/
def spLaw (K : PySem.W.Frag) : Sp := fun vs H Q _ => ∃ (a : Addr) (ns : List Int), vs = [.ref a] ∧ SqL K H a (ns.map V.int) ∧ ns.length ≤ 63 ∧ ∀ H', Q (.bl true) H'
theorem dt_ints {F : Hp} : ∀ ns : List Int, DtAll K F (ns.map V.int) (ns.map PyData.int)
  | [] => .nil
  | n :: ns => .cons (.int n) (dt_ints ns)
def ini1 (N : Nat) (ds : List D) : Evn := none :: some (.ow (.lst ds)) :: List.replicate (N - 2) none
theorem law_rest {t : TS} {g : Evn → Res Fl} {Ex : XK} {Q : VK} {H : Hp} {a p : Addr} {ms : List Int} {N : Nat} {ρ' : Evn} (ht : TSJ K mg (fun _ => Ex) t g) (hN : 2 ≤ N) (e : H p = some (.lst (ms.map V.int))) (hg : g (ini1 N (ms.map PyData.int)) = .ok (.rt (.fr (.bool true))) ρ') (q : ∀ H', Q (.bl true) H') :
    t { nx := fun _ H' => Q .non H', rt := Q } (some (.ref a) :: some (.ref p) :: List.replicate (N - 2) none) H := by
  have li : (ini1 N (ms.map PyData.int)).length = N := by simp [ini1]; omega
  have ls : (some (V.ref a) :: some (V.ref p) :: List.replicate (N - 2) none).length = N := by simp; omega
  have get : ∀ (i : Nat) (s : Sl), (ini1 N (ms.map PyData.int))[i]? = some (some s) → i = 1 ∧ s = .ow (.lst (ms.map PyData.int)) := by
    intro i s h
    match i, h with
    | 0, h => cases h
    | 1, h => cases h; exact ⟨rfl, rfl⟩
    | i + 2, h =>
      have h : (List.replicate (N - 2) (none : Option Sl))[i]? = some (some s) := h
      rw [List.getElem?_replicate] at h
      split at h <;> cases h
  refine ht ⟨N, [], fun _ => none, fun _ => none⟩ (fun _ => none) H _ (ini1 N (ms.map PyData.int)) _ ⟨ls, li, rfl⟩ ?_ ?_
  · show SR K N [] (fun _ => none) (fun _ => none) (fun _ => none) H (_ ++ []) (_ ++ [])
    rw [List.append_nil, List.append_nil]
    refine ⟨by rw [ls, li], fun b x z => (by cases z), fun b x z => (by cases z), fun b z => absurd rfl z, fun b x z => (by cases z), fun b z => absurd rfl z, fun i d h => ?_, fun i c h => ?_, fun i j c h => ?_, fun i j h => ?_, fun i j s t' p' h1 h2 _ _ _ _ => ?_⟩
    · cases (get i _ h).2
    · obtain ⟨rfl, e2⟩ := get i _ h
      cases e2
      exact ⟨p, rfl, rfl, rfl, ms.map V.int, e, dt_ints ms⟩
    · cases (get i _ h).2
    · cases (get i _ h).2
    · rw [(get i _ h1).1, (get j _ h2).1]
  · rw [hg]
    intro v σ' F' H' L S
    have := S4.top_fr (tv := []) (tr := []) L S
    cases this
    exact q H'
end
end DL

namespace DL
open PySem PySem.Spec PyProof.Rows L2 RZ
section
variable {K : PySem.W.Frag} {mg : Str → Option Value} {E : XW} {W : Wd} {F0 B F H F' H' : Hp} {σ tv us vs : L2.St} {ρ ρ' tr ss : Evn} {v : V} {d : D} {s : Sl} {c c' : Cn} {p : Addr} {i : Nat} {α β : Type}
/-- a change at an address that no slot holds -/
theorem SR.poke {N : Nat} {ios : List Addr} (S : SR K N ios F0 B F H σ ρ) (hF : F p = none) (hB : B p = none) (h1 : ∀ a, a ≠ p → H' a = H a) (hn : ∀ (j : Nat) (s : Sl), ρ[j]? = some (some s) → s.own ≠ none → σ[j]? ≠ some (some (V.ref p))) : SR K N ios F0 B F H' σ ρ := by
  refine ⟨S.len, fun a o e => ?_, S.f0, S.fn, fun a o e z => ?_, fun a e => ?_, S.fr, fun j c e => ?_, fun j k c e => ?_, S.br, S.sep⟩
  · have na : a ≠ p := fun z => by rw [z, hF] at e; cases e
    rw [h1 a na]
    exact S.fh _ _ e
  · have na : a ≠ p := fun z => by rw [z, hB] at e; cases e
    rw [h1 a na]
    exact S.bh _ _ e z
  · have na : a ≠ p := fun z => e (by rw [z]; exact hB)
    rw [h1 a na]
    exact S.bs _ e
  · obtain ⟨q, q1, q2, q3, q4⟩ := S.ow j c e
    have nq : q ≠ p := fun z => hn j _ e (fun z => nomatch z) (by rw [q1, z])
    exact ⟨q, q1, q2, q3, crep_mono (Same.refl _) (h1 q nq) q4⟩
  · obtain ⟨q, q1, q2, q3, q4⟩ := S.io j k c e
    have nq : q ≠ p := fun z => hn j _ e (fun z => nomatch z) (by rw [q2, z])
    exact ⟨q, q1, q2, q3, crep_mono (Same.refl _) (h1 q nq) q4⟩
/-- a call whose first and only argument is a new list that the callee may change -/
def callO (den : Option Cn → List D → Ret) (ss : List Sl) (ρ : Evn) : Res Sl := match ss with
  | [.ow c] => (match den (some c) [] with
    | .ok s (some _) => .ok s ρ
    | _ => .bad)
  | _ => .bad
def fCallO (den : Option Cn → List D → Ret) (f : Evn → Res (List Sl)) (ρ : Evn) : Res Sl := (f ρ).bind fun ss ρ1 => callO den ss ρ1
theorem tj_callO {ta : TA} {f : Evn → Res (List Sl)} {den : Option Cn → List D → Ret} (ha : TAJ K mg E ta f) : TJ K mg E (tCallSD (spD K mg 1 den) [] E ta) (fCallO den f) := by
  intro W F H σ tv ρ tr Q L S hW
  refine ha W F H σ tv ρ tr _ L S ?_
  unfold fCallO at hW
  cases e0 : f ρ with
  | bad => rw [e0] at hW; exact hW
  | exc c d ρ' => rw [e0] at hW; exact hW
  | ok ss ρ1 =>
  rw [e0] at hW
  intro vs F1 H1 hl S1
  have hW1 : Wants (Fly K mg E W σ tv tr) _ (callO den ss ρ1) := hW
  unfold callO at hW1
  split at hW1
  · rename_i c
    match vs, hl with
    | [v0], _ =>
      have L1 : Ln W σ (tv ++ [v0].map some) ρ1 (tr ++ [Sl.ow c].map some) := L.next S1 (by simp [L.t])
      have La : Ln W σ tv ρ1 tr := L1.cut (us := [v0].map some) (ss := [Sl.ow c].map some) (by simp)
      have Sa : S4 K W F1 H1 σ tv ρ1 tr := S4.cut L1 S1 (by simp)
      have lσ := La.s
      have lρ := La.r
      have lt := La.t
      have full : (ρ1 ++ (tr ++ [Sl.ow c].map some))[ρ1.length + tr.length]? = some (some (Sl.ow c)) := by
        rw [List.getElem?_append_right (by omega), List.getElem?_append_right (by omega)]
        simp
      obtain ⟨p, q1, q2, q3, q4⟩ := S1.ow _ c full
      have fullσ := q1
      rw [List.getElem?_append_right (by omega), List.getElem?_append_right (by omega)] at q1
      have ev0 : v0 = .ref p := by simpa [show ρ1.length + tr.length - σ.length - tv.length = 0 by omega] using q1
      subst ev0
      have hp1 : H1 p ≠ none := crep_ne q4
      split at hW1
      · rename_i s c'' hd
        refine ⟨rfl, F1, [p], some c, [], [], Sa.fh, .nil, rfl, ⟨q3, q4⟩, ?_⟩
        rw [hd]
        intro v F2 H2 ev ok hco
        obtain ⟨hF2, hcr⟩ := hco
        let Hm : Hp := fun a => if a = p then H1 p else H2 a
        have hm1 : Hm p = H1 p := if_pos rfl
        have hm2 : ∀ a, a ≠ p → Hm a = H2 a := fun a z => if_neg z
        have g : Grow F1 H1 F2 Hm := by
          refine ⟨ev.ff, fun a o h => ?_, fun a o h => ?_, ev.fn⟩
          · by_cases z : a = p
            · subst z; rw [hm1]; exact h
            · rw [hm2 a z]; exact ev.hh a o h (by simpa using z)
          · by_cases z : a = p
            · subst z; rw [hF2] at h; cases h
            · rw [hm2 a z]; exact ev.fh a o h
        have ok' : ROk K F2 H1 Hm v s := by
          cases s with
          | fr d => exact ok
          | io _ _ => exact ok.elim
          | br _ => exact ok.elim
          | ow c0 =>
            obtain ⟨q, k1, k2, k3, k4⟩ := ok
            have : q ≠ p := fun z => by rw [z] at k2; exact hp1 k2
            exact ⟨q, k1, k2, k3, crep_mono (Same.refl _) (hm2 q this) k4⟩
        have S2 : S4 K W F2 Hm σ (tv ++ [some v]) ρ1 (tr ++ [some s]) := S4.result Sa g ok'
        refine hW1 v F2 H2 (SR.poke (p := p) S2 hF2 q2 (fun a z => (hm2 a z).symm) fun j s' e o z => ?_)
        -- a slot that holds p
        by_cases hj : j < ρ1.length + tr.length
        · have e1 : (ρ1 ++ (tr ++ [Sl.ow c].map some))[j]? = some (some s') := by
            rw [← List.append_assoc] at e ⊢
            rw [List.getElem?_append_left (by simpa using hj)] at e ⊢
            exact e
          have z1 : (σ ++ (tv ++ [V.ref p].map some))[j]? = some (some (V.ref p)) := by
            rw [← List.append_assoc] at z ⊢
            rw [List.getElem?_append_left (by simp; omega)] at z ⊢
            exact z
          have := S1.sep j _ s' _ p e1 full o (fun z => nomatch z) z1 fullσ
          omega
        · have hjl : j < (ρ1 ++ (tr ++ [some s])).length := (List.getElem?_eq_some_iff.mp e).1
          have ej : j = ρ1.length + tr.length := by simp at hjl; omega
          subst ej
          rw [List.getElem?_append_right (by omega), List.getElem?_append_right (by omega)] at e z
          have e : s = s' := by simpa using e
          have z : v = V.ref p := by simpa [show ρ1.length + tr.length - σ.length - tv.length = 0 by omega] using z
          subst e
          subst z
          cases s with
          | fr d => exact o rfl
          | io _ _ => exact ok.elim
          | br _ => exact ok.elim
          | ow c0 =>
            obtain ⟨q, k1, k2, _⟩ := ok
            cases k1
            exact hp1 k2
      · exact hW1.elim
  · exact hW1.elim
/-! ### a call by any promise -/
theorem pe_calG {X : Cx} {x : Str} {ps : List Str} {lev : Nat} {sp : Sp} {q pos : Pos} {e : Expr} {es : List Expr} {t : TA} {E : L2.St → XK} (C : Cal X.prog X.w X.K X.mg X.base x ps lev sp) (hr : RoomG lev X.A) (hg : Gl X x) (hx : ∀ σ, PassesAt (L2.CX X.prog X.w) X σ (E σ))
    (ha : PA X (e :: es) t) (hdb : (x == ("__debug__" : Str)) = false := by decide) (he : starEach (e :: es) X.env = (false, eval e X.env) :: starEach es X.env := by rfl) (hpl : (backTo pos (starEach es X.env)).any (·.1) = false := by rfl) :
    PE X (.Call (.Name x q) (e :: es) [] pos) (tCallSD sp [] E t) := by
  obtain ⟨f, fd, h1, h2, h3, h4⟩ := C.ex
  exact pe_callG h4 hr hg h1 h2 h3 hx ha hdb he hpl
end
end DL

/-! Sets of nested keys: texts, or tuples of any nested keys. -/
namespace GS
open PySem PySem.Spec PyProof.Rows L2

section
variable {P : Program} {w : World} {A : Around} {E : Value → Shared → Prop} {s : Shared}

theorem wp_cond {α : Type} {M : Model} {c : Prop} [Decidable c] {x y : Sem α} {Q : α → Shared → Prop} (h1 : c → wpAny M A x Q E s) (h2 : ¬ c → wpAny M A y Q E s) : wpAny M A (if c then x else y) Q E s := by
  by_cases q : c
  · rw [if_pos q]; exact h1 q
  · rw [if_neg q]; exact h2 q
/-! ### small questions about nested keys -/
def NoCls (P : Program) (w : World) (n : Nat) (s : Shared) (v : Value) : Prop := ∀ (A : Around) (E : Value → Shared → Prop) (Q : Bool → Shared → Prop), Q false s → wpAny (model P w) A (ofAClassStatement n v) Q E s
theorem noCls_tup {n : Nat} {a : Addr} {o : Obj} {its : Array Value} {m : Nat} (ho : s.heap.get? a = some o) (hc : o.cls = .type "tuple") (hd : o.data = .seq its m) (hv : ∀ v ∈ its.toList, NoCls P w n s v) : NoCls P w (n + 1) s (.ref a) := by
  intro A E Q h
  unfold ofAClassStatement
  refine wpAny_bind (wpAny_typeOf (T := "tuple") ⟨o, ho, hc⟩ ?_)
  dsimp only
  have yes : (("tuple" : String) == "tuple") = true := by decide
  simp only [yes, if_true, Bool.not_true, Bool.false_eq_true, if_false]
  try refine wpAny_bind (wpAny_pure ?_)
  try simp only [Bool.not_true, Bool.false_eq_true, if_false]
  show wpAny _ _ (seqItems? (.ref a) >>= _) _ _ s
  refine wpAny_bind (wpAny_seqItems ho hd ?_)
  dsimp only
  refine wpAny_bind ?_
  show wpAny _ _ (forIn its _ _) _ _ s
  rw [← Array.forIn_toList]
  refine wpAny_forIn_list _ (fun left r z => r.1 = none ∧ z = s ∧ ∀ v ∈ left, NoCls P w n s v) _ ?_ ?_ _ _ ⟨rfl, rfl, hv⟩
  · rintro v left r z ⟨hr, rfl, all⟩
    refine wpAny_bind (all v (.head _) _ _ _ ?_)
    simp only [Bool.false_eq_true, if_false]
    exact wpAny_pure ⟨rfl, rfl, fun u hu => all u (.tail _ hu)⟩
  · rintro ⟨r1, r2⟩ z ⟨hr, rfl, _⟩
    simp only at hr
    subst hr
    exact wpAny_pure h
theorem noCls_val {n : Nat} {v : Value} (h : ∀ a, v ≠ .ref a) : NoCls P w n s v := fun A E Q q => by
  have e : ofAClassStatement n v = pure false := by
    cases v <;> first | rfl | (cases n <;> rfl) | exact absurd rfl (h _)
  rw [e]
  exact wpAny_pure q
mutual
theorem noCls_key : ∀ (k : NestedKey) (v : Value) (n : Nat), NestedIs s.heap k v → k.depth ≤ n → NoCls P w n s v
  | .none, _, n, x, _ => by cases x; exact noCls_val fun _ z => by cases z
  | .num i, _, n, x, _ => by cases x <;> exact noCls_val fun _ z => by cases z
  | .text y, _, n, x, _ => by cases x; exact noCls_val fun _ z => by cases z
  | .tup ks, _, n, x, hn => by
    cases x with
    | tup hg hc hd hk =>
      simp only [NestedKey.depth] at hn
      cases n with
      | zero => omega
      | succ n => exact noCls_tup hg hc hd (noCls_keys ks _ n hk (by omega))
theorem noCls_keys : ∀ (ks : List NestedKey) (vs : List Value) (n : Nat), NestedAll s.heap ks vs → NestedKey.depthAll ks ≤ n → ∀ v ∈ vs, NoCls P w n s v
  | [], _, n, x, _, v, hv => by cases x; cases hv
  | k :: ks, _, n, x, hn, v, hv => by
    cases x with
    | cons x1 x2 =>
      simp only [NestedKey.depthAll] at hn
      rcases List.mem_cons.mp hv with e | hv
      · rw [e]; exact noCls_key k _ n x1 (by omega)
      · exact noCls_keys ks _ n x2 (by omega) v hv
end

/-- hashByValue answers -/
def HashAsk (P : Program) (w : World) (n : Nat) (s : Shared) (v : Value) : Prop := ∀ (A : Around) (E : Value → Shared → Prop) (Q : Bool → Shared → Prop), (∀ b, Q b s) → wpAny (model P w) A (hashByValue n v) Q E s
theorem hashAsk_tup {n : Nat} {a : Addr} {o : Obj} {its : Array Value} {m : Nat} (ho : s.heap.get? a = some o) (hc : o.cls = .type "tuple") (hd : o.data = .seq its m) (hv : ∀ v ∈ its.toList, HashAsk P w n s v) : HashAsk P w (n + 1) s (.ref a) := by
  intro A E Q h
  unfold hashByValue
  refine wpAny_bind (wpAny_specialOf (T := "tuple") ⟨o, ho, hc⟩ PySem.F.slot_tuple_hash.lookup ?_)
  show wpAny _ _ (seqItems? (.ref a) >>= _) _ _ s
  refine wpAny_bind (wpAny_seqItems ho hd ?_)
  refine wpAny_bind ?_
  show wpAny _ _ (forIn its _ _) _ _ s
  rw [← Array.forIn_toList]
  refine wpAny_forIn_list _ (fun left r z => r.1 = none ∧ z = s ∧ ∀ v ∈ left, HashAsk P w n s v) _ ?_ ?_ _ _ ⟨rfl, rfl, hv⟩
  · rintro v left r z ⟨hr, rfl, all⟩
    refine wpAny_bind (all v (.head _) _ _ _ fun b => ?_)
    cases b with
    | true =>
      simp only [Bool.not_true, Bool.false_eq_true, if_false]
      exact wpAny_pure ⟨rfl, rfl, fun u hu => all u (.tail _ hu)⟩
    | false =>
      simp only [Bool.not_false, if_true]
      exact wpAny_pure (wpAny_pure (h _))
  · rintro ⟨r1, r2⟩ z ⟨hr, rfl, _⟩
    simp only at hr
    subst hr
    exact wpAny_pure (h _)
theorem hashAsk_val {n : Nat} {v : Value} {b : Bool} (h : hashByValue n v = pure b) : HashAsk P w n s v := fun A E Q q => by
  rw [h]
  exact wpAny_pure (q _)
mutual
theorem hashAsk_key : ∀ (k : NestedKey) (v : Value) (n : Nat), NestedIs s.heap k v → k.depth ≤ n → HashAsk P w n s v
  | .none, _, n, x, _ => by cases x; exact hashAsk_val (b := true) (by cases n <;> rfl)
  | .num i, _, n, x, _ => by cases x <;> exact hashAsk_val (b := true) (by cases n <;> rfl)
  | .text y, _, n, x, _ => by cases x; exact hashAsk_val (b := false) (by cases n <;> rfl)
  | .tup ks, _, n, x, hn => by
    cases x with
    | tup hg hc hd hk =>
      simp only [NestedKey.depth] at hn
      cases n with
      | zero => omega
      | succ n => exact hashAsk_tup hg hc hd (hashAsk_keys ks _ n hk (by omega))
theorem hashAsk_keys : ∀ (ks : List NestedKey) (vs : List Value) (n : Nat), NestedAll s.heap ks vs → NestedKey.depthAll ks ≤ n → ∀ v ∈ vs, HashAsk P w n s v
  | [], _, n, x, _, v, hv => by cases x; cases hv
  | k :: ks, _, n, x, hn, v, hv => by
    cases x with
    | cons x1 x2 =>
      simp only [NestedKey.depthAll] at hn
      rcases List.mem_cons.mp hv with e | hv
      · rw [e]; exact hashAsk_key k _ n x1 (by omega)
      · exact hashAsk_keys ks _ n x2 (by omega) v hv
end
/-- a search among keys shows nothing -/
theorem unseen {k : NestedKey} {v : Value} {Q : Bool → Shared → Prop} (hk : NestedIs s.heap k v) (hd : k.depth ≤ 8) {ys : List Value} (hy : ∀ y ∈ ys, ∃ k', NestedIs s.heap k' y ∧ k'.depth ≤ 8) (h : Q false s) :
    wpAny (model P w) A (searchCouldBeSeen v ys) Q E s := by
  unfold searchCouldBeSeen
  refine wpAny_bind ?_
  refine wpAny_forIn_list _ (fun left r z => r.1 = none ∧ z = s ∧ ∀ y ∈ left, ∃ k', NestedIs s.heap k' y ∧ k'.depth ≤ 8) _ ?_ ?_ _ _ ⟨rfl, rfl, hy⟩
  · rintro y left r z ⟨hr, rfl, all⟩
    obtain ⟨k', hk', hd'⟩ := all y (.head _)
    have next : ∀ y ∈ left, ∃ k', NestedIs z.heap k' y ∧ k'.depth ≤ 8 := fun u hu => all u (.tail _ hu)
    dsimp only
    refine wp_cond (fun _ => ?_) fun _ => ?_
    · exact wpAny_pure ⟨rfl, rfl, next⟩
    · refine wpAny_bind (quiet_key k v 8 z hk hd _ _ _ ?_)
      simp only [Bool.not_true, Bool.false_eq_true, if_false]
      refine wpAny_bind (quiet_key k' y 8 z hk' hd' _ _ _ ?_)
      simp only [Bool.not_true, Bool.false_eq_true, if_false]
      refine wpAny_bind (noCls_key k v 8 hk hd _ _ _ ?_)
      simp only [Bool.false_eq_true, if_false]
      refine wpAny_bind (noCls_key k' y 8 hk' hd' _ _ _ ?_)
      simp only [Bool.false_eq_true, if_false]
      exact wpAny_pure ⟨rfl, rfl, next⟩
  · rintro ⟨r1, r2⟩ z ⟨hr, rfl, _⟩
    simp only at hr
    subst hr
    exact wpAny_pure h
end
end GS

/-! Sets of nested keys: what such a set is, the search, adding. -/
namespace GS
open PySem PySem.Spec PyProof.Rows L2

abbrev Mb := Value × NestedKey
/-- a member as the table keeps it -/
def ent (w : World) (m : Mb) : Int × Value := (m.2.hash w, m.1)
abbrev hs (w : World) (ms : List Mb) : List Int := ms.map fun m => m.2.hash w
def Mode (w : World) (tup : Bool) (ms : List Mb) (t : SetTable) : Prop := match tup with
  | true => (∀ m ∈ ms, ∃ b, m.1 = .ref b) ∧ TabOk t (hs w ms) ∧ ms.length * 5 < t.mask * 3
  | false => ∀ m ∈ ms, ∃ x u, m = (.str x u, .text x)
def KeyAt (h : Heap) (m : Mb) : Prop := NestedIs h m.2 m.1 ∧ m.2.depth ≤ 8
structure SG (w : World) (tup : Bool) (h : Heap) (a : Addr) (ms : List Mb) (es : Array (Int × Value)) (ep : Nat) (t : SetTable) : Prop where
  ob : ∃ o, h.get? a = some o ∧ o.ExactSet ∧ o.data = .set es ep t
  rows : es.toList = ms.map (ent w)
  nd : (ms.map (·.2)).Nodup
  key : ∀ m ∈ ms, KeyAt h m
  ris : Ris t.place.toList
  fit : t.fits es.size = true
  led : w.params.followText "set-order" = true ∨ t.led = true
  few : ms.length < 64
  mode : Mode w tup ms t

section
variable {P : Program} {w : World} {A : Around} {E : Value → Shared → Prop} {s : Shared} {tup : Bool} {a : Addr} {ms : List Mb} {es : Array (Int × Value)} {ep : Nat} {t : SetTable}
theorem rows_size {ms : List Mb} {es : Array (Int × Value)} (h : es.toList = ms.map (ent w)) : es.size = ms.length := by
  rw [← Array.length_toList, h, List.length_map]
theorem rows_at {ms : List Mb} {es : Array (Int × Value)} (h : es.toList = ms.map (ent w)) {i : Nat} {m : Mb} (e : ms[i]? = some m) : es[i]? = some (ent w m) := by
  rw [← Array.getElem?_toList, h, List.getElem?_map, e, Option.map_some]
theorem tab_fits {t : SetTable} {l : List Int} {n : Nat} (T : TabOk t l) (hn : n = l.length) (hl : l.length ≤ t.mask) : t.fits n = true := by
  have e := T.sz
  unfold SetTable.fits SetTable.fill
  rw [T.dm, Bool.and_eq_true, beq_iff_eq, decide_eq_true_eq, e, hn]
  exact ⟨rfl, by simpa using hl⟩
theorem SG.gave {h : Heap} (R : SG w true h a ms es ep t) : ¬ t.gaveWay = true := by
  unfold SetTable.gaveWay
  rw [mask_odd R.mode.2.1.mok]
  decide
theorem SG.hash {h : Heap} (R : SG w tup h a ms es ep t) {i : Nat} {m : Mb} (e : ms[i]? = some m) : (es[i]?.map (·.1)).getD 0 = m.2.hash w := by
  rw [rows_at R.rows e, Option.map_some, Option.getD_some]
  rfl
theorem dum (m : Nat) : ∀ (n : Nat) (p : SetTable.Probe), p.dummy = none → (nth m p n).dummy = none
  | 0, _, h => h
  | n + 1, p, h => dum m n (adv m p) (by
    unfold adv
    split <;> exact h)

/-- the search, from the c-th step of its way on -/
theorem look_from (R : SG w true s.heap a ms es ep t) {x : Addr} {k : NestedKey} (hx : NestedIs s.heap k (.ref x)) (hd8 : k.depth ≤ 8) (hu : A.units + 8 < cLine) {last : Nat} (hfar : last < 10 * SetTable.turns t.mask)
    (hfree : way t.mask (k.hash w) last ∉ t.place.toList) (htaken : ∀ c, c < last → way t.mask (k.hash w) c ∈ t.place.toList) {Q : SetFound → Shared → Prop}
    (yes : k ∈ ms.map (·.2) → Q (.there none) s) (no : k ∉ ms.map (·.2) → Q (.free (way t.mask (k.hash w) last) false) s) :
    ∀ (fuel c : Nat) (st : Option SetTable.Probe), st.getD (t.probeStart (k.hash w)) = nth t.mask (runAt t.mask (SetTable.bits (k.hash w) % (t.mask + 1)) (SetTable.bits (k.hash w))) c → c ≤ last → last - c < fuel →
      (∀ (i : Nat) m, ms[i]? = some m → m.2 = k → ∃ c', c ≤ c' ∧ c' < last ∧ t.place.toList[i]? = some (way t.mask (k.hash w) c')) →
      wpAny (model P w) A (setSearchFrom a (.ref x) (k.hash w) true fuel st) Q E s
  | 0, _, _, _, _, hf, _ => absurd hf (Nat.not_lt_zero _)
  | fuel + 1, c, st, hst, hc, hf, ahead => by
    obtain ⟨o, ho, hex, hod⟩ := R.ob
    obtain ⟨allref, T, big⟩ := R.mode
    rw [setSearchFrom_succ]
    refine wpAny_bind (wpAny_setState_of ho hod R.fit ?_)
    dsimp only
    refine wp_cond (fun z => absurd z R.gave) fun _ => ?_
    try refine wpAny_bind (wpAny_pure ?_)
    -- the way, in short
    obtain ⟨B, hB⟩ : ∃ B, B = runAt t.mask (SetTable.bits (k.hash w) % (t.mask + 1)) (SetTable.bits (k.hash w)) := ⟨_, rfl⟩
    have wB : ∀ n, way t.mask (k.hash w) n = (nth t.mask B n).j := fun n => by rw [hB]
    have hop : ∀ n, nth t.mask (nth t.mask B c) n = nth t.mask B (c + n) := fun n => (nth_add t.mask c _ n).symm
    have hopj : ∀ n, (nth t.mask (nth t.mask B c) n).j = way t.mask (k.hash w) (c + n) := fun n => by rw [hop, wB]
    rw [← hB] at hst
    have dn : (nth t.mask B c).dummy = none := dum _ _ _ (by rw [hB]; rfl)
    have met := go_spec t T.ris T.dm (fun i => (es[i]?.map (·.1)).getD 0) (k.hash w) (10 * SetTable.turns t.mask) (last - c) _ dn (by omega)
      (fun n hn => by rw [hopj]; exact htaken (c + n) (by omega)) (by rw [hopj, show c + (last - c) = last by omega]; exact hfree)
    rcases met with ⟨n, i, hn, hi, hh, before, hpr⟩ | ⟨before, hpr⟩
    · have ask : t.probe (fun i => (es[i]?.map (·.1)).getD 0) (k.hash w) (st.getD (t.probeStart (k.hash w))) = some (.candidate (way t.mask (k.hash w) (c + n)) i (nth t.mask B (c + (n + 1)))) := by
        rw [hst, ← hopj, ← hop]
        exact hpr
      rw [ask]
      dsimp only
      rw [hopj] at hi
      have inl : i < ms.length := by
        have z1 := (List.getElem?_eq_some_iff.mp hi).1
        have z2 := T.sz
        rw [List.length_map] at z2
        rw [Array.length_toList] at z1
        omega
      obtain ⟨m, hm⟩ : ∃ m, ms[i]? = some m := ⟨ms[i], List.getElem?_eq_getElem inl⟩
      have mem := List.mem_of_getElem? hm
      obtain ⟨mk1, mk2⟩ := R.key m mem
      obtain ⟨b, hmb⟩ := allref m mem
      have behind : wpAny (model P w) A (searchRest a (.ref x) (k.hash w) true fuel es t (way t.mask (k.hash w) (c + n)) i (nth t.mask B (c + (n + 1)))) Q E s := by
        unfold searchRest
        rw [rows_at R.rows hm]
        dsimp only [ent]
        refine wpAny_bind (wpAny_holding (eqAt_key m.2 k A s _ _ mk1 hx (by omega) _ _ _ _ ?_))
        refine wpAny_bind (wpAny_setState_of ho hod R.fit ?_)
        dsimp only
        by_cases same : m.2 = k
        · have z : NestedKey.beq m.2 k = true := by rw [same]; exact NestedKey.beq_self k
          refine wp_cond (fun _ => wpAny_pure (yes (List.mem_map.mpr ⟨m, mem, same⟩))) fun q => absurd (by simp [z]) q
        · have z : NestedKey.beq m.2 k = false := by rw [← NestedKey.decide_eq]; exact decide_eq_false same
          refine wp_cond (fun q => absurd q (by simp [z])) fun _ => ?_
          try refine wpAny_bind (wpAny_pure ?_)
          rw [sameMem]
          dsimp only
          have sl : t.slot (way t.mask (k.hash w) (c + n)) = .live i := slot_live T.ris hi
          simp only [if_true, sl, rows_at R.rows hm, ent, hmb]
          refine wpAny_bind (wpAny_isSame_ref_self (wpAny_bind (wpAny_pure ?_)))
          simp only [if_true]
          refine wp_cond (fun q => absurd q (by simp [z])) fun _ => ?_
          refine look_from R hx hd8 hu hfar hfree htaken yes no fuel (c + (n + 1)) _ (by rw [← hB]; rfl) (by omega) (by omega) fun i0 m0 h0 k0 => ?_
          obtain ⟨c', y1, y2, y3⟩ := ahead i0 m0 h0 k0
          refine ⟨c', ?_, y2, y3⟩
          rcases Nat.lt_trichotomy c' (c + n) with z1 | z1 | z1
          · exact absurd ((R.hash h0).trans (by rw [k0])) (before (c' - c) i0 (by omega) (by rw [hopj, show c + (c' - c) = c' by omega]; exact y3))
          · rw [z1] at y3
            have s0 := slot_live T.ris y3
            rw [sl] at s0
            injection s0 with s0
            rw [← s0, hm] at h0
            cases h0
            exact absurd k0 same
          · omega
      refine wp_cond (fun _ => wpAny_bind (unseen hx hd8 (fun y hy => ?_) ?_)) fun _ => ?_
      · obtain ⟨e, he, rfl⟩ := List.mem_map.mp hy
        have he2 : e ∈ es := by
          have z : e ∈ es ∧ e.1 = k.hash w := by simpa using he
          exact z.1
        have he3 : e ∈ es.toList := by simpa using he2
        rw [R.rows] at he3
        obtain ⟨m2, hm2, rfl⟩ := List.mem_map.mp he3
        exact ⟨m2.2, (R.key m2 hm2).1, (R.key m2 hm2).2⟩
      · refine wp_cond (fun q => absurd q (by decide)) fun _ => ?_
        try refine wpAny_bind (wpAny_pure ?_)
        exact behind
      · try refine wpAny_bind (wpAny_pure ?_)
        exact behind
    · have ask : t.probe (fun i => (es[i]?.map (·.1)).getD 0) (k.hash w) (st.getD (t.probeStart (k.hash w))) = some (.empty (way t.mask (k.hash w) last) none) := by
        rw [hst, show way t.mask (k.hash w) last = (nth t.mask (nth t.mask B c) (last - c)).j by rw [hopj, show c + (last - c) = last by omega]]
        exact hpr
      rw [ask]
      dsimp only
      refine wpAny_pure (no fun z => ?_)
      obtain ⟨m0, mem0, k0⟩ := List.mem_map.mp z
      obtain ⟨i0, hi0, e0⟩ := List.getElem_of_mem mem0
      have h0 : ms[i0]? = some m0 := by rw [List.getElem?_eq_getElem hi0, e0]
      obtain ⟨c', y1, y2, y3⟩ := ahead i0 m0 h0 k0
      exact before (c' - c) i0 (by omega) (by rw [hopj, show c + (c' - c) = c' by omega]; exact y3) ((R.hash h0).trans (by rw [k0]))
theorem look (R : SG w true s.heap a ms es ep t) {x : Addr} {k : NestedKey} (hx : NestedIs s.heap k (.ref x)) (hd8 : k.depth ≤ 8) (hu : A.units + 8 < cLine) {Q : SetFound → Shared → Prop}
    (yes : k ∈ ms.map (·.2) → Q (.there none) s)
    (no : ∀ n, k ∉ ms.map (·.2) → way t.mask (k.hash w) n ∉ t.place.toList → (∀ c, c < n → way t.mask (k.hash w) c ∈ t.place.toList) → Q (.free (way t.mask (k.hash w) n) false) s) :
    wpAny (model P w) A (setSearch a (.ref x) (k.hash w) true) Q E s := by
  obtain ⟨allref, T, big⟩ := R.mode
  obtain ⟨n, f1, f2, f3⟩ := T.first (by rw [List.length_map]; omega) (k.hash w)
  have bound : 10 * SetTable.turns t.mask ≤ 1420 := by
    unfold SetTable.turns
    rcases T.mok with z | z | z <;> omega
  unfold setSearch
  refine look_from R hx hd8 hu f1 f2 f3 yes (fun z => no n z f2 f3) 100000 0 none rfl (Nat.zero_le _) (by omega) fun i m hm hk => ?_
  have hi : (hs w ms)[i]? = some (k.hash w) := by rw [List.getElem?_map, hm, Option.map_some, hk]
  have il : i < t.place.toList.length := by
    have z1 : i < ms.length := (List.getElem?_eq_some_iff.mp hm).1
    have z2 := T.sz
    rw [List.length_map] at z2
    rw [Array.length_toList]
    omega
  obtain ⟨c, z1, z2⟩ := T.before f2 hi (List.getElem?_eq_getElem il)
  exact ⟨c, Nat.zero_le _, z1, by rw [List.getElem?_eq_getElem il, z2]⟩
end
end GS

/-! Sets of nested keys: adding. -/
namespace GS
open PySem PySem.Spec PyProof.Rows L2

theorem pick_all {α : Type} : ∀ l : List α, (List.range l.length).filterMap (fun i => l[i]?) = l
  | [] => rfl
  | x :: l => by
    rw [List.length_cons, List.range_succ_eq_map, List.filterMap_cons_some (b := x) (by simp), List.filterMap_map]
    have e : (fun i => (x :: l)[i]?) ∘ Nat.succ = fun i => l[i]? := by
      funext i
      simp
    rw [e, pick_all l]
theorem perm_unmap {α β : Type} {f : α → β} {bs : List β} {l : List β} (h : bs.Perm l) : ∀ {as : List α}, l = as.map f → ∃ as' : List α, bs = as'.map f ∧ as'.Perm as := by
  induction h with
  | nil =>
    intro as e
    cases as with
    | nil => exact ⟨[], rfl, .nil⟩
    | cons _ _ => cases e
  | cons x _ ih =>
    intro as e
    cases as with
    | nil => cases e
    | cons y ys =>
      rw [List.map_cons] at e
      injection e with e1 e2
      obtain ⟨zs, h1, h2⟩ := ih e2
      exact ⟨y :: zs, by rw [List.map_cons, ← h1, e1], h2.cons y⟩
  | swap x y l =>
    intro as e
    cases as with
    | nil => cases e
    | cons u r =>
      cases r with
      | nil => cases e
      | cons v r =>
        rw [List.map_cons, List.map_cons] at e
        injection e with e1 e2
        injection e2 with e2 e3
        exact ⟨v :: u :: r, by rw [List.map_cons, List.map_cons, ← e3, e1, e2], .swap _ _ _⟩
  | trans _ _ ih1 ih2 =>
    intro as e
    obtain ⟨zs, h1, h2⟩ := ih2 e
    obtain ⟨ys, h3, h4⟩ := ih1 h1
    exact ⟨ys, h3, h4.trans h2⟩

section
variable {P : Program} {w : World} {A : Around} {E : Value → Shared → Prop} {s : Shared} {tup : Bool} {a : Addr} {ms : List Mb} {es : Array (Int × Value)} {ep : Nat} {t : SetTable}
theorem rows_get {ms : List Mb} {es : Array (Int × Value)} (h : es.toList = ms.map (ent w)) (i : Nat) : es[i]? = (ms[i]?).map (ent w) := by
  rw [← Array.getElem?_toList, h, List.getElem?_map]
theorem turned {ms : List Mb} {es : Array (Int × Value)} (h : es.toList = ms.map (ent w)) {order : Array Nat} (hp : order.toList.Perm (List.range ms.length)) :
    ∃ ms2 : List Mb, (order.filterMap (es[·]?)).toList = ms2.map (ent w) ∧ ms2.Perm ms ∧ hs w ms2 = order.toList.map fun i => (es.map (·.1)).getD i 0 := by
  have lt : ∀ i ∈ order.toList, i < ms.length := fun i hi => List.mem_range.mp (hp.mem_iff.mp hi)
  refine ⟨order.toList.filterMap (fun i => ms[i]?), ?_, ?_, ?_⟩
  · have e : (fun i => es[i]?) = fun i => (ms[i]?).map (ent w) := funext (rows_get h)
    have e2 : (order.filterMap (es[·]?)).toList = order.toList.filterMap (fun i => es[i]?) := by simp
    rw [e2, e, List.map_filterMap]
  · exact (hp.filterMap _).trans (by rw [pick_all])
  · generalize order.toList = l at lt
    induction l with
    | nil => rfl
    | cons i l ih =>
      have il := lt i (.head _)
      have ei : ms[i]? = some ms[i] := List.getElem?_eq_getElem il
      rw [List.filterMap_cons_some ei]
      show (ms[i]).2.hash w :: hs w _ = _
      rw [ih fun j hj => lt j (.tail _ hj), List.map_cons]
      congr 1
      have e5 : (es.map (·.1))[i]? = some ((ms[i]).2.hash w) := by rw [Array.getElem?_map, rows_get h, ei] <;> rfl
      simp [Array.getD_eq_getD_getElem?, e5]
theorem key_stays {h h' : Heap} {m : Mb} {o : Obj} (hm : KeyAt h m) (ho : h.get? a = some o) (hd : o.data = .set es ep t) (sb : Heap.SameBut a h h') : KeyAt h' m :=
  ⟨NestedIs.at (fun b ob vs n hb hc => by
    refine (sb.2 b fun z => ?_).trans hb
    subst z
    rw [ho] at hb
    cases hb
    rw [hd] at hc
    cases hc) _ _ hm.1, hm.2⟩
theorem key_more {h h' : Heap} {m : Mb} (hm : KeyAt h m) (hk : ∀ b o, h.get? b = some o → h'.get? b = some o) : KeyAt h' m :=
  ⟨NestedIs.at (fun b ob vs n hb _ => hk b ob hb) _ _ hm.1, hm.2⟩
/-- the table laid anew -/
theorem relay {o : Obj} (ho : s.heap.get? a = some o) (hex : o.ExactSet) (hod : o.data = .set es ep t) (hrows : es.toList = ms.map (ent w)) (hfit : t.fits es.size = true)
    (nd : (ms.map (·.2)).Nodup) (keys : ∀ m ∈ ms, KeyAt s.heap m) (refs : ∀ m ∈ ms, ∃ b, m.1 = .ref b) (ld : w.params.followText "set-order" = true ∨ t.led = true) (few : ms.length < 64) {wanted M : Nat}
    (h1 : SetTable.sizeAbove wanted - 1 = M) (h2 : MaskOk M) (h3 : SetTable.sizeAbove wanted ≤ 128) (h4 : ms.length * 5 < M * 3) {Q : Unit → Shared → Prop}
    (hQ : ∀ h' ms' es' ep' t', Heap.SameBut a s.heap h' → SG w true h' a ms' es' ep' t' → ms'.Perm ms → Q () { s with heap := h' }) : wpAny (model P w) A (setRelay a wanted) Q E s := by
  have hz := rows_size hrows
  obtain ⟨t', order, e, hp, T, em, el, ep', ed⟩ := relaid_ok t (hs := es.map (·.1)) (wanted := wanted) h1 h2 (by rw [Array.size_map, hz]; omega)
  rw [Array.size_map, hz] at hp
  obtain ⟨ms2, r1, r2, r3⟩ := turned hrows hp
  rw [← r3] at T
  have hz2 : (order.filterMap (es[·]?)).size = es.size := by rw [rows_size r1, r2.length_eq, hz]
  rw [setRelay_eq]
  refine wpAny_bind (wpAny_setState_of ho hod hfit ?_)
  dsimp only
  refine wp_cond (fun q => absurd q (by rw [sizeLine_eq]; omega)) fun _ => ?_
  try refine wpAny_bind (wpAny_pure ?_)
  rw [e]
  dsimp only
  refine wpAny_bind ?_
  refine wp_cond (fun q => absurd q (by rw [hz2]; simp)) fun _ => ?_
  try refine wpAny_bind (wpAny_pure ?_)
  refine wpAny_pure ?_
  dsimp only
  refine wpAny_storeSet_of ho hod ?_ (by rw [hz2, hz, sizeLine_eq]; omega)
  have sb : Heap.SameBut a s.heap (s.heap.update a (Obj.putSet (order.filterMap (es[·]?)) t')) := Heap.SameBut.update ..
  refine hQ _ ms2 (order.filterMap (es[·]?)) (ep + 1) t' sb ⟨⟨_, store_at ho hod, ⟨hex.1, hex.2.1, hex.2.2⟩, rfl⟩, r1, (r2.map (·.2)).nodup_iff.mpr nd, fun m hm => key_stays (keys m (r2.mem_iff.mp hm)) ho hod sb, T.ris, ?_, by rw [el]; exact ld, by rw [r2.length_eq]; exact few,
    fun m hm => refs m (r2.mem_iff.mp hm), T, by rw [r2.length_eq, em]; exact h4⟩ r2
  refine tab_fits T (by rw [hz2, hz, List.length_map, r2.length_eq]) ?_
  rw [List.length_map, r2.length_eq, em]
  omega

theorem put_map {ms : List Mb} {p : Nat} {x : Mb} {γ : Type} (f : Mb → γ) : (ms.take p ++ x :: ms.drop p).map f = (ms.map f).take p ++ f x :: (ms.map f).drop p := by
  rw [List.map_append, List.map_cons, List.map_take, List.map_drop]
/-- adding a tuple -/
theorem add_tup (R : SG w true s.heap a ms es ep t) {x : Addr} {k : NestedKey} (hx : NestedIs s.heap k (.ref x)) (hd8 : k.depth ≤ 8) (hu : A.units + 8 < cLine) (room : ms.length + 1 < 64) {Q : Bool → Shared → Prop}
    (hQ : ∀ b h' ms' es' ep' t', Heap.SameBut a s.heap h' → SG w true h' a ms' es' ep' t' → (k ∈ ms.map (·.2) → ms' = ms) → (k ∉ ms.map (·.2) → ms'.Perm ((.ref x, k) :: ms)) → Q b { s with heap := h' }) :
    wpAny (model P w) A (setAddHashed a (.ref x) (k.hash w)) Q E s := by
  obtain ⟨o, ho, hex, hod⟩ := R.ob
  obtain ⟨allref, T, big⟩ := R.mode
  have hz := rows_size R.rows
  unfold setAddHashed
  refine wpAny_holding ?_
  rw [show (100000 : Nat) = 99999 + 1 from rfl, setAddHashedIn_succ]
  refine wpAny_bind (wpAny_setState_of ho hod R.fit ?_)
  dsimp only
  refine wp_cond (fun q => absurd q (by simp [byScan, Value.scannable])) fun _ => ?_
  try refine wpAny_bind (wpAny_pure ?_)
  refine wpAny_bind (look R hx hd8 hu (fun hm => ?_) fun n hm hn hb => ?_)
  · dsimp only
    exact wpAny_pure (hQ false s.heap ms es ep t (Heap.SameBut.refl a s.heap) R (fun _ => rfl) fun z => absurd hm z)
  · dsimp only
    refine wpAny_bind (wpAny_setState_of ho hod R.fit ?_)
    dsimp only
    obtain ⟨q1, q2, q3, q4, q5, q6, q7, q8, q9⟩ := T.put hn hb
    generalize hpt : t.put (way t.mask (k.hash w) n) = pt at q1 q3 q4 q5 q6 q7 q8 q9 ⊢
    obtain ⟨t1, p⟩ := pt
    dsimp only at q1 q3 q4 q5 q6 q7 q8 q9 ⊢
    subst q1
    generalize hpp : SetTable.below t.place (way t.mask (k.hash w) n) = p at q2 q3 ⊢
    obtain ⟨ms1, hms1⟩ : ∃ z, z = ms.take p ++ (Value.ref x, k) :: ms.drop p := ⟨_, rfl⟩
    have pm : ms1.Perm ((Value.ref x, k) :: ms) := by rw [hms1]; exact put_perm ms p _
    have hlen : ms1.length = ms.length + 1 := pm.length_eq
    have hins : (SetTable.insertAt es p (k.hash w, Value.ref x)).toList = ms1.map (ent w) := by
      rw [SetTable.toList_insertAt, R.rows, hms1, put_map]
      rfl
    have T1 : TabOk t1 (hs w ms1) := by
      have z : hs w ms1 = (hs w ms).take p ++ k.hash w :: (hs w ms).drop p := by
        show ms1.map _ = _
        rw [hms1, put_map]
      rw [z]
      exact q3
    have nd1 : (ms1.map (·.2)).Nodup := (pm.map (·.2)).nodup_iff.mpr (by
      rw [List.map_cons]
      exact List.nodup_cons.mpr ⟨hm, R.nd⟩)
    have hz1 : (SetTable.insertAt es p (k.hash w, Value.ref x)).size = ms.length + 1 := (rows_size hins).trans hlen
    generalize SetTable.insertAt es p (k.hash w, Value.ref x) = es1 at hins hz1 ⊢
    clear hms1
    -- whatever is known of plain
    have go : ∀ t2 : SetTable, TabOk t2 (hs w ms1) → t2.mask = t1.mask → t2.led = t1.led → t2.fill = t1.fill →
        wpAny (model P w) A (do
          storeSet a es1 t2
          if (!false && t2.tooFull) = true then do
            setRelay a (SetTable.grown (es.size + 1))
            pure true
          else pure true) Q E s := by
      intro t2 T2 m2 l2 f2
      have sb : Heap.SameBut a s.heap (s.heap.update a (Obj.putSet es1 t2)) := Heap.SameBut.update ..
      have ho1 := store_at (es' := es1) (t' := t2) ho hod
      refine wpAny_bind (wpAny_storeSet_of ho hod ?_ (by rw [hz1, sizeLine_eq]; omega))
      generalize s.heap.update a (Obj.putSet es1 t2) = h1 at sb ho1 ⊢
      have keys1 : ∀ m ∈ ms1, KeyAt h1 m := fun m hm' => by
        rcases List.mem_cons.mp (pm.mem_iff.mp hm') with z | z
        · rw [z]; exact key_stays ⟨hx, hd8⟩ ho hod sb
        · exact key_stays (R.key m z) ho hod sb
      have refs1 : ∀ m ∈ ms1, ∃ b, m.1 = .ref b := fun m hm' => by
        rcases List.mem_cons.mp (pm.mem_iff.mp hm') with z | z
        · rw [z]; exact ⟨x, rfl⟩
        · exact allref m z
      have ld1 : w.params.followText "set-order" = true ∨ t2.led = true := by rw [l2, q5]; exact R.led
      have hmask : t2.mask = t.mask := m2.trans q4
      have hfill : t2.fill = ms.length + 1 := by rw [f2, q9, List.length_map]
      have fit1 : t2.fits es1.size = true := tab_fits T2 (by rw [hz1, List.length_map, hlen]) (by rw [List.length_map, hlen, hmask]; omega)
      refine wp_cond (fun full => ?_) fun notfull => ?_
      · have hfull : (ms.length + 1) * 5 ≥ t2.mask * 3 := by
          have z : t2.tooFull = true := by simpa using full
          unfold SetTable.tooFull at z
          rw [decide_eq_true_eq, hfill] at z
          exact z
        rw [hz]
        have two : (t.mask = 7 ∧ ms.length = 4) ∨ (t.mask = 31 ∧ ms.length = 18) := by
          rw [hmask] at hfull
          rcases T.mok with z | z | z
          · left; rw [z] at hfull big; exact ⟨z, by omega⟩
          · right; rw [z] at hfull big; exact ⟨z, by omega⟩
          · exfalso; rw [z] at hfull; omega
        have grow : ∀ M, SetTable.sizeAbove (SetTable.grown (ms.length + 1)) - 1 = M → MaskOk M → SetTable.sizeAbove (SetTable.grown (ms.length + 1)) ≤ 128 → (ms.length + 1) * 5 < M * 3 →
            wpAny (model P w) A (do
              setRelay a (SetTable.grown (ms.length + 1))
              pure true) Q E { s with heap := h1 } := fun M g1 g2 g3 g4 => by
          refine wpAny_bind (relay (s := { s with heap := h1 }) ho1 ⟨hex.1, hex.2.1, hex.2.2⟩ rfl hins fit1 nd1 keys1 refs1 ld1 (by rw [hlen]; exact room) g1 g2 g3 (by rw [hlen]; exact g4) fun h2 ms2 es2 ep2 t3 sb2 R2 pm2 => ?_)
          exact wpAny_pure (hQ true h2 ms2 es2 ep2 t3 (sb.trans sb2) R2 (fun z => absurd z hm) fun _ => pm2.trans pm)
        rcases two with ⟨_, z⟩ | ⟨_, z⟩
        · exact grow 31 (by rw [z, size_20]) (.inr (.inl rfl)) (by rw [z, size_20]; decide) (by omega)
        · exact grow 127 (by rw [z, size_76]) (.inr (.inr rfl)) (by rw [z, size_76]; decide) (by omega)
      · refine wpAny_pure (hQ true h1 ms1 es1 (ep + 1) t2 sb ⟨⟨_, ho1, ⟨hex.1, hex.2.1, hex.2.2⟩, rfl⟩, hins, nd1, keys1, T2.ris, fit1, ld1, by rw [hlen]; exact room, refs1, T2, ?_⟩ (fun z => absurd z hm) fun _ => pm)
        have z : ¬ t2.tooFull = true := fun z => notfull (by simp [z])
        unfold SetTable.tooFull at z
        rw [decide_eq_true_eq, hfill] at z
        rw [hlen]
        omega
    have off : TabOk { t1 with plain := false } (hs w ms1) := ⟨T1.ris, T1.dm, T1.sz, T1.mok, T1.bd, T1.reach⟩
    have ends : ∀ (b : Bool), wpAny (model P w) A (do
          let t3 := if b = true then t1 else { t1 with plain := false }
          storeSet a es1 t3
          if (!false && t3.tooFull) = true then do
            setRelay a (SetTable.grown (es.size + 1))
            pure true
          else pure true) Q E s := fun b => by
      cases b with
      | true => exact go t1 T1 rfl rfl rfl
      | false => exact go { t1 with plain := false } off rfl rfl rfl
    first
      | exact wpAny_bind (wp_cond (fun _ => hashAsk_key k (.ref x) 8 hx hd8 _ _ _ fun b => ends b) fun _ => wpAny_pure (ends true))
      | exact wp_cond (fun _ => wpAny_bind (hashAsk_key k (.ref x) 8 hx hd8 _ _ _ fun b => ends b)) fun _ => wpAny_bind (wpAny_pure (ends true))
      | skip
end
end GS

/-! Sets of nested keys: adding a text; adding either. -/
namespace GS
open PySem PySem.Spec PyProof.Rows L2

section
variable {P : Program} {w : World} {A : Around} {E : Value → Shared → Prop} {s : Shared} {tup : Bool} {a : Addr} {ms : List Mb} {es : Array (Int × Value)} {ep : Nat} {t : SetTable}
abbrev SK (P : Program) (w : World) := PySem.strKind P w
theorem sk_is (x : Str) (u : Tok) : (SK P w).is x (.str x u) = true := by
  show Value.isStrOf x (.str x u) = true
  simp [Value.isStrOf]
theorem txt_elems {ms : List Mb} (h : ∀ m ∈ ms, ∃ x u, m = (Value.str x u, NestedKey.text x)) : ElemsOf (SK P w) (ms.map (ent w)) := fun e he => by
  obtain ⟨m, hm, rfl⟩ := List.mem_map.mp he
  obtain ⟨x, u, rfl⟩ := h m hm
  exact ⟨⟨x, sk_is x u, rfl⟩, rfl⟩
theorem txt_find {ms : List Mb} (h : ∀ m ∈ ms, ∃ x u, m = (Value.str x u, NestedKey.text x)) (y : Str) : (∃ e ∈ ms.map (ent w), (SK P w).is y e.2 = true) ↔ NestedKey.text y ∈ ms.map (·.2) := by
  constructor
  · rintro ⟨e, he, q⟩
    obtain ⟨m, hm, rfl⟩ := List.mem_map.mp he
    obtain ⟨x, u, rfl⟩ := h m hm
    have z := (SK P w).inj (.str x u) x y (sk_is x u) q
    exact List.mem_map.mpr ⟨_, hm, by rw [z]⟩
  · intro q
    obtain ⟨m, hm, e⟩ := List.mem_map.mp q
    obtain ⟨x, u, rfl⟩ := h m hm
    cases e
    exact ⟨_, List.mem_map.mpr ⟨_, hm, rfl⟩, sk_is _ u⟩
/-- what stands when a text was stored -/
theorem txt_tail {g : Bool → Sem Unit} (hg : ∀ (b : Bool) (z : Shared) (R : Unit → Shared → Prop), R () z → wpAny (model P w) A (g b) R E z)
    {o : Obj} (ho : s.heap.get? a = some o) (hex : o.ExactSet) (hod : o.data = .set es ep t) {es1 : Array (Int × Value)} {t2 : SetTable} {ms1 : List Mb} (r1 : es1.toList = ms1.map (ent w)) (nd1 : (ms1.map (·.2)).Nodup)
    (txt1 : ∀ m ∈ ms1, ∃ x u, m = (Value.str x u, NestedKey.text x)) (few : ms1.length < 64) (fit : t2.fits es1.size = true) (ris : Ris t2.place.toList) (led : w.params.followText "set-order" = true ∨ t2.led = true) {wd : Bool} {R : Option Bool → Shared → Prop}
    (hR : ∀ h' ms' es' ep' t', Heap.SameBut a s.heap h' → SG w false h' a ms' es' ep' t' → ms'.Perm ms1 → R (some true) { s with heap := h' }) :
    wpAny (model P w) A (do
        storeSet a es1 t2
        if (!wd && t2.tooFull) = true then do
            g (relayAll t2 es1 (SetTable.grown es1.size)).2.2
            storeSet a (relayAll t2 es1 (SetTable.grown es1.size)).1 (relayAll t2 es1 (SetTable.grown es1.size)).2.1
            pure (some true)
          else pure (some true)) R E s := by
  have small : es1.size < scanBound := by rw [rows_size r1]; unfold scanBound; omega
  have kk : ∀ (h : Heap) (l : List Mb), (∀ m ∈ l, ∃ x u, m = (Value.str x u, NestedKey.text x)) → ∀ m ∈ l, KeyAt h m := fun h l hl m hm => by
    obtain ⟨x, u, rfl⟩ := hl m hm
    exact ⟨.text x u, by simp [NestedKey.depth]⟩
  refine wpAny_bind (wpAny_storeSet_of ho hod ?_ (fits_of_scanBound small))
  have ho1 := store_at (es' := es1) (t' := t2) ho hod
  have sb1 := Heap.SameBut.update s.heap a (Obj.putSet es1 t2)
  refine wp_cond (fun _ => ?_) fun _ => ?_
  · have pm := relayAll_perm t2 es1 (SetTable.grown es1.size)
    have fit3 := relayAll_fits t2 es1 (SetTable.grown es1.size)
    have ris3 := relayAll_ris t2 es1 (SetTable.grown es1.size)
    have led3 := relayAll_led t2 es1 (SetTable.grown es1.size)
    generalize relayAll t2 es1 (SetTable.grown es1.size) = Z at pm fit3 ris3 led3 ⊢
    obtain ⟨es2, t3, gave⟩ := Z
    dsimp only at pm fit3 ris3 led3 ⊢
    obtain ⟨ms2, r2, pm2⟩ := perm_unmap pm r1
    have small2 : es2.size < scanBound := by rw [rows_size r2, pm2.length_eq]; unfold scanBound; omega
    have txt2 : ∀ m ∈ ms2, ∃ x u, m = (Value.str x u, NestedKey.text x) := fun m hm => txt1 m (pm2.mem_iff.mp hm)
    refine wpAny_bind (hg _ _ _ ?_)
    refine wpAny_bind (wpAny_storeSet_of ho1 rfl ?_ (fits_of_scanBound small2))
    have ho2 := store_at (es' := es2) (t' := t3) ho1 rfl
    refine wpAny_pure (hR _ ms2 es2 _ t3 (sb1.trans (Heap.SameBut.update _ a _)) ⟨⟨_, ho2, hex, rfl⟩, r2, (pm2.map (·.2)).nodup_iff.mpr nd1, kk _ _ txt2, ris3, fit3, led.imp id fun z => by rw [led3]; exact z, by rw [pm2.length_eq]; exact few, txt2⟩ pm2)
  · exact wpAny_pure (hR _ ms1 es1 _ t2 sb1 ⟨⟨_, ho1, hex, rfl⟩, r1, nd1, kk _ _ txt1, ris, fit, led, few, txt1⟩ (List.Perm.refl _))
theorem add_txt (R : SG w false s.heap a ms es ep t) {x : Str} {u : Tok} (room : ms.length + 1 < 64) {Q : Bool → Shared → Prop}
    (hQ : ∀ b h' ms' es' ep' t', Heap.SameBut a s.heap h' → SG w false h' a ms' es' ep' t' → (NestedKey.text x ∈ ms.map (·.2) → ms' = ms) → (NestedKey.text x ∉ ms.map (·.2) → ms'.Perm ((.str x u, .text x) :: ms)) → Q b { s with heap := h' }) :
    wpAny (model P w) A (setAddHashed a (.str x u) (hashStr w x)) Q E s := by
  obtain ⟨o, ho, hex, hod⟩ := R.ob
  have txt : ∀ m ∈ ms, ∃ x u, m = (Value.str x u, NestedKey.text x) := R.mode
  have rows := R.rows
  have hz := rows_size rows
  have el : ElemsOf (SK P w) es.toList := by rw [rows]; exact txt_elems txt
  have small : es.size < scanBound := by have := R.few; rw [hz]; unfold scanBound; omega
  unfold setAddHashed setAddHashedIn
  refine wpAny_holding (wpAny_bind (wpAny_setState_of ho hod R.fit ?_))
  dsimp only
  rw [byScan_of rfl small el]
  simp only [↓reduceIte]
  unfold setAddByScan
  refine wpAny_bind ?_
  refine wpAny_bind (wpAny_rule ?_)
  refine wpAny_bind (wpAny_setScan_of (knd := SK P w) (k := x) (sk_is x u) ho hod R.fit el ?_)
  have mem := txt_find (P := P) (w := w) txt x
  rw [← rows] at mem
  cases hfi : List.findIdx? (fun e => (SK P w).is x e.2) es.toList with
  | some j =>
    dsimp only
    obtain ⟨hj, pj, _⟩ := List.findIdx?_eq_some_iff_getElem.mp hfi
    have there := mem.mp ⟨es.toList[j], List.getElem_mem hj, pj⟩
    exact wpAny_pure (wpAny_pure (hQ _ s.heap ms es ep t (Heap.SameBut.refl a s.heap) R (fun _ => rfl) fun z => absurd there z))
  | none =>
    dsimp only
    have lacks : NestedKey.text x ∉ ms.map (·.2) := fun z => by
      obtain ⟨e, he, q⟩ := mem.mpr z
      have c := List.findIdx?_eq_none_iff.mp hfi e he
      rw [q] at c
      cases c
    have gw : ∀ (b : Bool) {z : Shared} {R : Unit → Shared → Prop}, R () z → wpAny (model P w) A (match b with | true => rule "set.scan.the-table-gave-way" | false => pure ()) R E z :=
      fun b z R q => by cases b <;> first | exact wpAny_pure q | exact wpAny_rule q
    have pm := layNew_perm t es (hashStr w x) (.str x u)
    have fit1 := layNew_fits t es (hashStr w x) (.str x u)
    have ris1 := layNew_ris t es (hashStr w x) (.str x u) R.ris
    have led1 := layNew_led t es (hashStr w x) (.str x u)
    generalize layNew t es (hashStr w x) (.str x u) = Z at pm fit1 ris1 led1 ⊢
    obtain ⟨es1, t1, wd, gave⟩ := Z
    dsimp only at pm fit1 ris1 led1 ⊢
    rw [Array.toList_push] at pm
    have pc : es1.toList.Perm ((hashStr w x, Value.str x u) :: es.toList) := pm.trans (List.perm_append_singleton _ _)
    obtain ⟨ms1, r1, pm1⟩ := perm_unmap (f := ent w) pc (as := (Value.str x u, NestedKey.text x) :: ms) (by rw [rows]; rfl)
    have nd1 : (ms1.map (·.2)).Nodup := (pm1.map (·.2)).nodup_iff.mpr (List.nodup_cons.mpr ⟨lacks, R.nd⟩)
    have txt1 : ∀ m ∈ ms1, ∃ x u, m = (Value.str x u, NestedKey.text x) := fun m hm => by
      rcases List.mem_cons.mp (pm1.mem_iff.mp hm) with z | z
      · exact ⟨x, u, z⟩
      · exact txt m z
    have few1 : ms1.length < 64 := by rw [pm1.length_eq]; exact room
    have hled : w.params.followText "set-order" = true ∨ t1.led = true := R.led.imp id fun z => by rw [led1]; exact z
    have fin : ∀ h' ms' es' ep' t', Heap.SameBut a s.heap h' → SG w false h' a ms' es' ep' t' → ms'.Perm ms1 → wpAny (model P w) A (pure true) Q E { s with heap := h' } := fun h' ms' es' ep' t' sb r p =>
      wpAny_pure (hQ true h' ms' es' ep' t' sb r (fun z => absurd z lacks) fun _ => p.trans pm1)
    refine wpAny_bind (gw _ ?_)
    refine wp_cond (fun _ => ?_) fun _ => ?_
    · refine wpAny_bind ?_
      rw [hashByValue_scannable 8 (x := Value.str x u) rfl]
      refine wpAny_pure ?_
      refine txt_tail ?_ ho hex hod r1 nd1 txt1 few1 ?_ ?_ ?_ ?_
      · intro b z R q; cases b <;> first | exact wpAny_pure q | exact wpAny_rule q
      · first | (split <;> first | exact fit1 | exact SetTable.fits_plain_off fit1) | exact fit1
      · first | (split <;> exact ris1) | exact ris1
      · first | (split <;> exact hled) | exact hled
      · intro h' ms' es' ep' t' sb r p
        dsimp only
        exact fin h' ms' es' ep' t' sb r p
    · refine wpAny_bind (wpAny_pure ?_)
      simp only [↓reduceIte]
      refine txt_tail ?_ ho hex hod r1 nd1 txt1 few1 fit1 ris1 hled ?_
      · intro b z R q; cases b <;> first | exact wpAny_pure q | exact wpAny_rule q
      · intro h' ms' es' ep' t' sb r p
        dsimp only
        exact fin h' ms' es' ep' t' sb r p
/-- a value that such a set takes -/
def Takes1 (tup : Bool) (m : Mb) : Prop := match tup with
  | true => ∃ b, m.1 = .ref b
  | false => ∃ x u, m = (.str x u, .text x)
/-- adding by hash and all -/
theorem add_any (R : SG w tup s.heap a ms es ep t) {m : Mb} (hm : KeyAt s.heap m) (hk : Takes1 tup m) (hu : A.units + 9 < cLine) (room : ms.length + 1 < 64) {Q : Bool → Shared → Prop}
    (hQ : ∀ b h' tk ms' es' ep' t', s.toks ≤ tk → Heap.SameBut a s.heap h' → SG w tup h' a ms' es' ep' t' → (m.2 ∈ ms.map (·.2) → ms' = ms) → (m.2 ∉ ms.map (·.2) → ms'.Perm (m :: ms)) → Q b { s with heap := h', toks := tk }) :
    wpAny (model P w) A (setAdd a m.1) Q E s := by
  obtain ⟨v, k⟩ := m
  unfold setAdd
  refine wpAny_holding (wpAny_bind (pyHash_key k v A s _ hm.1 (by have z : k.depth ≤ 8 := hm.2; omega) ?_))
  cases tup with
  | true =>
    obtain ⟨b, hb⟩ := hk
    have hb' : v = .ref b := hb
    subst hb'
    exact add_tup (s := { s with toks := s.toks + k.draws }) R hm.1 hm.2 (by omega) room fun b h' ms' es' ep' t' sb r c1 c2 => hQ b h' _ ms' es' ep' t' (Nat.le_add_right _ _) sb r c1 c2
  | false =>
    obtain ⟨x, u, e⟩ := hk
    cases e
    exact add_txt (s := { s with toks := s.toks + NestedKey.draws (.text x) }) R room fun b h' ms' es' ep' t' sb r c1 c2 => hQ b h' _ ms' es' ep' t' (Nat.le_add_right _ _) sb r c1 c2
end
end GS

/-! Sets of nested keys: set(xs) of a list, sorted(..) of such a set. -/
namespace GS
open PySem PySem.Spec PyProof.Rows L2

/-- the set has the first i items, by their keys -/
structure Has (ks : List Mb) (i : Nat) (ms : List Mb) : Prop where
  sub : ∀ m ∈ ms, m ∈ ks.take i
  all : ∀ m ∈ ks.take i, m.2 ∈ ms.map (·.2)
  len : ms.length ≤ i
theorem Has.none (ks : List Mb) : Has ks 0 [] := ⟨fun _ h => (by cases h), fun _ h => (by simp at h), Nat.le_refl _⟩
theorem take_one {α : Type} {l : List α} {i : Nat} {x : α} (h : l[i]? = some x) {y : α} : y ∈ l.take (i + 1) ↔ y ∈ l.take i ∨ y = x := by
  rw [List.take_succ, h, Option.toList_some, List.mem_append, List.mem_singleton]
theorem Has.one {ks ms ms' : List Mb} {i : Nat} {x : Mb} (g : Has ks i ms) (h : ks[i]? = some x) (c1 : x.2 ∈ ms.map (·.2) → ms' = ms) (c2 : x.2 ∉ ms.map (·.2) → ms'.Perm (x :: ms)) : Has ks (i + 1) ms' := by
  by_cases c : x.2 ∈ ms.map (·.2)
  · rw [c1 c]
    refine ⟨fun m hm => (take_one h).mpr (.inl (g.sub m hm)), fun m hm => ?_, Nat.le_succ_of_le g.len⟩
    rcases (take_one h).mp hm with z | z
    · exact g.all m z
    · rw [z]; exact c
  · have pm := c2 c
    refine ⟨fun m hm => ?_, fun m hm => ?_, by rw [pm.length_eq, List.length_cons]; exact Nat.succ_le_succ g.len⟩
    · rcases List.mem_cons.mp (pm.mem_iff.mp hm) with z | z
      · exact (take_one h).mpr (.inr z)
      · exact (take_one h).mpr (.inl (g.sub m z))
    · rw [(pm.map (·.2)).mem_iff, List.map_cons]
      rcases (take_one h).mp hm with z | z
      · exact List.mem_cons_of_mem _ (g.all m z)
      · rw [z]; exact List.mem_cons_self

section
variable {P : Program} {w : World} {A : Around} {E : Value → Shared → Prop} {s : Shared} {tup : Bool}
theorem SG.moved {h h' : Heap} {a : Addr} {ms : List Mb} {es : Array (Int × Value)} {ep : Nat} {t : SetTable} (R : SG w tup h a ms es ep t) (ha : ∀ o, h.get? a = some o → h'.get? a = some o) (hk : ∀ m ∈ ms, KeyAt h' m) : SG w tup h' a ms es ep t := by
  obtain ⟨o, ho, r⟩ := R.ob
  exact { R with ob := ⟨o, ha o ho, r⟩, key := hk }
abbrev newTab (w : World) : SetTable := .fresh 0 0 (!w.params.followText "set-order")
abbrev newSetObj (w : World) : Obj := { cls := .type "set", dict := none, data := .set #[] 0 (newTab w) }
theorem SG.new {h : Heap} {a : Addr} (ho : h.get? a = some (newSetObj w)) : SG w tup h a [] #[] 0 (newTab w) where
  ob := ⟨_, ho, ⟨rfl, rfl, rfl⟩, rfl⟩
  rows := rfl
  nd := List.nodup_nil
  key := fun _ h => by cases h
  ris := List.Pairwise.nil
  fit := by rfl
  led := by
    show _ ∨ (!w.params.followText "set-order") = true
    cases w.params.followText "set-order"
    · exact .inr rfl
    · exact .inl rfl
  few := by show 0 < 64; decide
  mode := by
    cases tup with
    | true => exact ⟨fun _ h => (by cases h), ⟨List.Pairwise.nil, rfl, rfl, .inl rfl, fun _ h => (by cases h), fun _ _ _ h => (by simp at h)⟩, by show 0 * 5 < 7 * 3; decide⟩
    | false => exact fun _ h => by cases h

/-- there is room for one more: few items, or few unlike ones -/
def Few (ks : List Mb) : Prop := ks.length < 64 ∨ ∃ zs : List NestedKey, (∀ m ∈ ks, m.2 ∈ zs) ∧ zs.length < 63
theorem Has.room {ks ms : List Mb} {i : Nat} (g : Has ks i ms) (nd : (ms.map (·.2)).Nodup) (hi : i < ks.length) (few : Few ks) : ms.length + 1 < 64 := by
  rcases few with h | ⟨zs, h1, h2⟩
  · have := g.len; omega
  · have := nd.length_le_of_subset (l₂ := zs) fun x hx => by
      obtain ⟨m, hm, rfl⟩ := List.mem_map.mp hx
      exact h1 m (List.mem_of_mem_take (g.sub m hm))
    rw [List.length_map] at this
    omega
theorem fill_loop {I : Addr} {fp wr : List Addr} {G : Array GenState → Array GenState → Prop} {n : Nat} {Pv : Nat → Value → Prop} {St : Nat → Shared → Prop} {R : Result → Shared → Prop}
    (W : WalksS P w A.in1 I fp wr G n Pv St) (S : Addr) (out : S ∉ fp) (ks : List Mb) (hn : n = ks.length) (few : Few ks) (hval : ∀ i v, Pv i v → ∃ m, ks[i]? = some m ∧ v = m.1)
    (h0 : Heap) (hk : ∀ m ∈ ks, KeyAt h0 m ∧ Takes1 tup m) (hS0 : h0.get? S = none) (hw0 : ∀ b ∈ wr, h0.get? b = none) (hu : A.in1.units + 9 < cLine) :
    ∀ (left i : Nat) (s : Shared), n - i = left → i ≤ n → St i s → (∀ b o, h0.get? b = some o → s.heap.get? b = some o) → (∃ ms es ep t, SG w tup s.heap S ms es ep t ∧ Has ks i ms) →
      (∀ s' ms es ep t, Moved (S :: wr) G s s' → SG w tup s'.heap S ms es ep t → Has ks n ms → (∀ b o, h0.get? b = some o → s'.heap.get? b = some o) → R (.ok (.ret .none)) s') →
      codeAny (model P w) A (.builtin "set.update.loop" ⟨[.ref S, .ref I], []⟩) R s := by
  have Sout : S ∉ wr := fun z => out (W.sub _ z)
  have up : ∀ b ∈ wr, b ∈ S :: wr := fun b hb => .tail _ hb
  have hold : ∀ {u v : Shared}, Moved wr G u v → (∀ b o, h0.get? b = some o → u.heap.get? b = some o) → ∀ b o, h0.get? b = some o → v.heap.get? b = some o := fun mv q b o e =>
    mv.heap b o (fun hb => by rw [hw0 b hb] at e; cases e) (q b o e)
  intro left
  induction left with
  | zero =>
    intro i s hl hi hst hkp ⟨ms, es, ep, t, hS, g⟩ hR
    obtain rfl : i = n := by omega
    refine codeAny_builtin PyProof.Rows.F.entry_set_update_loop ?_
    rw [Around.under_plainId PyProof.Rows.F.plain_set_update_loop _]
    show wpAny _ A.in1 (pyNext (.ref I) >>= _) _ _ s
    refine wpAny_bind (W.done s _ _ hst fun s' mv => ?_)
    show wpAny _ A.in1 (ret Value.none) _ _ s'
    have q := hold mv hkp
    exact wpAny_pure (hR s' ms es ep t (mv.mono up) (hS.moved (fun o e => mv.heap S o Sout e) fun m hm => key_more (hk m (List.mem_of_mem_take (g.sub m hm))).1 q) g q)
  | succ left ih =>
    intro i s hl hi hst hkp ⟨ms, es, ep, t, hS, g⟩ hR
    have lt : i < n := by omega
    refine codeAny_builtin PyProof.Rows.F.entry_set_update_loop ?_
    rw [Around.under_plainId PyProof.Rows.F.plain_set_update_loop _]
    show wpAny _ A.in1 (pyNext (.ref I) >>= _) _ _ s
    refine wpAny_bind (W.item i s _ _ lt hst fun v s' hP hst' mv => ?_)
    obtain ⟨m, hm, rfl⟩ := hval i v hP
    have q := hold mv hkp
    have hS' : SG w tup s'.heap S ms es ep t := hS.moved (fun o e => mv.heap S o Sout e) fun x hx => key_more (hk x (List.mem_of_mem_take (g.sub x hx))).1 q
    obtain ⟨km, tm⟩ := hk m (List.mem_of_getElem? hm)
    show wpAny _ A.in1 (holding [m.1] (setAdd S m.1) >>= _) _ _ s'
    refine wpAny_bind (wpAny_holding (add_any hS' (key_more km q) tm hu (g.room hS'.nd (by omega) few) fun b h' tk ms' es' ep' t' htk sb hS2 c1 c2 => ?_))
    have q2 : ∀ b o, h0.get? b = some o → h'.get? b = some o := fun b o e => (sb.2 b (fun z => by rw [z, hS0] at e; cases e)).trans (q b o e)
    refine wpAny_pure ⟨plainId_quiet PyProof.Rows.F.plain_set_update_loop _, ih (i + 1) _ (by omega) lt (W.frame _ s' _ _ hst' htk fun b hb o e => ?_) q2 ⟨ms', es', ep', t', hS2, g.one hm c1 c2⟩ fun s'' m2 e2 p2 t2 mv2 hS3 g3 q3 => ?_⟩
    · rw [sb.2 b (fun z : b = S => out (z ▸ hb))]; exact e
    · refine hR s'' m2 e2 p2 t2 (Moved.trans W.gtrans ((mv.mono up).then_heap htk fun b o hb e => ?_) mv2) hS3 g3 q3
      rw [sb.2 b (fun z : b = S => hb (by rw [z]; exact .head _))]; exact e

/-- set(xs) of a list -/
theorem set_of_list {l : Addr} {items : Array Value} (ks : List Mb) {Q : Value → Shared → Prop} (hh : A.handled = none) (hl : s.heap.IsList l items) (hit : items.toList = ks.map (·.1))
    (hk : ∀ m ∈ ks, KeyAt s.heap m ∧ Takes1 tup m) (few : Few ks) (hu : A.units + 16 < cLine)
    (h : ∀ (h' : Heap) (tk : Nat) ms es ep t, SG w tup h' s.heap.objs.size ms es ep t → Has ks ks.length ms → (∀ b o, s.heap.get? b = some o → h'.get? b = some o) → Q (.ref s.heap.objs.size) { s with heap := h', toks := tk }) :
    wpAny (model P w) A (call (.type "set") [.ref l]) Q E s := by
  have cnt : items.size = ks.length := by rw [← Array.length_toList, hit, List.length_map]
  obtain ⟨c, tl, hmro⟩ := PySem.F.called_set.mro
  have hmade := PySem.F.called_set.made
  have hsub := PySem.F.called_set.sub
  refine wpAny_call (codeAny_of_tree ?_)
  show wpAny _ _ (callAny (.type "set") _) _ _ _
  refine wpAny_pure ⟨Code.quiet_builtin _ (by decide +kernel), codeAny_builtin PySem.F.entry_type_call ?_⟩
  rw [Around.under_plain (weight_type_call_type "set" [.ref l] []) rfl]
  have u1 := PySem.F.called_set.notType
  have u2 := PySem.F.called_set.canCreate
  have u3 := PySem.F.typeCall_set_1 (.ref l)
  repeat (any_goals (first | assumption | wp_step))
  refine codeAny_mono (code_set_led1 (.ref l) (E := E) (Q₁ := fun ob z => ob = .ref s.heap.objs.size ∧ z = { s with heap := s.heap.push (newSetObj w) }) ⟨rfl, rfl⟩) fun r z hr => ?_
  cases r with
  | error e => exact hr
  | ok fl =>
    cases fl with
    | ret ob =>
      obtain ⟨rfl, rfl⟩ := hr
      have gS : (s.heap.push (newSetObj w)).get? s.heap.objs.size = some (newSetObj w) := Heap.get?_push_size _ rfl
      have tS : Shared.TypeIs { s with heap := s.heap.push (newSetObj w) } (.ref s.heap.objs.size) "set" := ⟨_, gS, rfl⟩
      have u4 := PySem.F.called_set.init.lookup
      have u5 := PySem.F.called_set.init.bind (.ref s.heap.objs.size)
      repeat (any_goals (first | assumption | wp_step))
      refine codeAny_mono (codeAny_call_builtin (R := wants (fun r z => r = .none ∧ ∃ h' tk ms es ep t, z = { s with heap := h', toks := tk } ∧ SG w tup h' s.heap.objs.size ms es ep t ∧ Has ks ks.length ms ∧
          (∀ b o, s.heap.get? b = some o → h'.get? b = some o)) E) PySem.F.called_set.init.plain PySem.F.entry_set_init (check_set_init_1 tS ?_)) fun r2 z2 hr2 => ?_
      · obtain ⟨⟨oc, od, ot, os⟩, gl, ec, nl, ed⟩ := hl
        simp only at ec ed
        subst ec
        subst ed
        have gl' : (s.heap.push (newSetObj w)).get? l = some { cls := .type "list", dict := od, data := .seq items nl, slots := os } := Heap.get?_push_of_some _ gl
        have v1 := PySem.F.sub_list_set
        have v2 := PySem.F.sub_list_frozenset
        have v3 : (Value.type "list" == Value.type "dict") = false := by decide
        have L1 : (s.heap.push (newSetObj w)).IsList l items := ⟨_, gl', rfl, nl, rfl⟩
        unfold Builtin.«set.__init__» noKeywords Builtin.Frozenset.updateFrom
        generalize hPI : pyIter = PI
        wp_walk
        subst hPI
        refine wpAny_pyIter_list L1 ?_
        refine wpAny_bind (wpAny_runValue ?_)
        have ll : l < s.heap.objs.size := Heap.lt_size gl
        have hh3 : A.in1.in1.in1.handled = none := by simp [hh]
        have hI : l ≠ (s.heap.push (newSetObj w)).objs.size := by rw [Heap.size_push]; exact Nat.ne_of_lt (Nat.lt_succ_of_lt ll)
        have hf : s.heap.objs.size ∉ [(s.heap.push (newSetObj w)).objs.size, l] := by
          rw [Heap.size_push]
          simp only [List.mem_cons, List.mem_singleton, List.not_mem_nil, or_false, not_or]
          exact ⟨Nat.ne_of_lt (Nat.lt_succ_self _), Nat.ne_of_gt ll⟩
        have hval : ∀ (i : Nat) (v : Value), items[i]? = some v → ∃ m, ks[i]? = some m ∧ v = m.1 := fun i v hv => by
          rw [← Array.getElem?_toList, hit, List.getElem?_map] at hv
          obtain ⟨m, hm, e⟩ := Option.map_eq_some_iff.mp hv
          exact ⟨m, hm, e.symm⟩
        have vac : ∀ b, s.heap.objs.size ≤ b → s.heap.get? b = none := fun b hb => by
          cases q : s.heap.get? b with
          | none => rfl
          | some o => exact absurd (Nat.lt_of_lt_of_le (Heap.lt_size q) hb) (Nat.lt_irrefl _)
        refine fill_loop ((Walks.list hh3 _ l hI items).toS) s.heap.objs.size hf ks cnt few hval s.heap hk (vac _ (Nat.le_refl _)) (fun b hb => vac b (by
            rw [List.mem_singleton.mp hb, Heap.size_push]
            exact Nat.le_succ _)) (by show A.units + 1 + 1 + 1 + 9 < cLine; omega) (items.size - 0) 0 _ (by omega) (Nat.zero_le _)
          ⟨⟨_, Heap.get?_push_size _ rfl, rfl, rfl⟩, (L1.push _)⟩ (fun b o e => Heap.get?_push_of_some _ (Heap.get?_push_of_some _ e)) ?at0 ?atEnd
        case at0 =>
          exact ⟨[], #[], 0, _, SG.new (Heap.get?_push_of_some _ gS), Has.none ks⟩
        case atEnd =>
          intro s' ms es ep t mv hS' g' q
          obtain ⟨h', g2, d', tk', os'⟩ := s'
          have eg : g2 = s.gens := mv.gens
          have ed : d' = s.drawn := mv.drawn
          have eo : os' = s.os := mv.os
          subst eg
          subst ed
          subst eo
          show wpAny _ _ _ _ _ _
          refine wpAny_pure ?_
          show wpAny _ _ (ret Value.none) _ _ _
          rw [cnt] at g'
          exact wpAny_pure ⟨rfl, h', tk', ms, es, ep, t, rfl, hS', g', q⟩
      · cases r2 with
        | error e => exact hr2
        | ok f2 =>
          cases f2 with
          | ret r =>
            obtain ⟨rfl, h', tk, ms, es, ep, t, rfl, hS', g', q⟩ := hr2
            repeat (any_goals (first | assumption | wp_step))
            exact h _ _ _ _ _ _ hS' g' q
          | _ => exact hr2.elim
    | _ => exact hr.elim
end
end GS

/-! sorted(set(xs)), len(set(xs)): xs a list of texts, or of tuples of texts, numbers, None and such tuples. -/
namespace DL
open PySem PySem.Spec PyProof.Rows L2 RZ GS

mutual
/-- a datum as a key -/
def kyD : D → Option NestedKey
  | .none => some .none
  | .int i => some (.num i)
  | .str x => some (.text x)
  | .tuple xs => (kyAll xs).map .tup
  | _ => none
def kyAll : List D → Option (List NestedKey)
  | [] => some []
  | d :: ds => match kyD d, kyAll ds with
    | some k, some ks => some (k :: ks)
    | _, _ => none
end
mutual
theorem ky_data : ∀ (d : D) (k : NestedKey), kyD d = some k → k.data = d
  | .none, _, h => by cases h; rfl
  | .int i, _, h => by cases h; rfl
  | .str x, _, h => by cases h; rfl
  | .tuple xs, k, h => by
    unfold kyD at h
    obtain ⟨ks, e, rfl⟩ := Option.map_eq_some_iff.mp h
    rw [NestedKey.data, kyAll_data xs ks e]
  | .bool _, _, h => by cases h
  | .list _, _, h => by cases h
  | .dict _, _, h => by cases h
theorem kyAll_data : ∀ (ds : List D) (ks : List NestedKey), kyAll ds = some ks → NestedKey.datas ks = ds
  | [], _, h => by cases h; rfl
  | d :: ds, _, h => by
    unfold kyAll at h
    split at h
    · rename_i k ks e1 e2
      cases h
      rw [NestedKey.datas, ky_data d k e1, kyAll_data ds ks e2]
    · cases h
end
theorem ky_map : ∀ (ds : List D) (ks : List NestedKey), kyAll ds = some ks → ks.map NestedKey.data = ds
  | [], _, h => by cases h; rfl
  | d :: ds, _, h => by
    unfold kyAll at h
    split at h
    · rename_i k ks e1 e2
      cases h
      rw [List.map_cons, ky_data d k e1, ky_map ds ks e2]
    · cases h
mutual
theorem nested_of {X : Cx} {pins : List (Addr × Obj)} {σ : L2.St} {H F : Hp} {s : Shared} (I : Inv X pins σ H s) (fh : Same F H) : ∀ (d : D) (v : V) (u : Value) (k : NestedKey), Dt X.K F v d → RelV v u → kyD d = some k → NestedIs s.heap k u
  | .none, _, _, _, h, r, e => by cases h; cases e; cases r; exact .none
  | .int i, _, _, _, h, r, e => by
    cases h; cases e
    obtain ⟨t, rfl⟩ := r
    exact .int i t
  | .str x, _, _, _, h, r, e => by
    cases h; cases e
    obtain ⟨t, rfl⟩ := r
    exact .text x t
  | .tuple xs, _, _, k, h, r, e => by
    unfold kyD at e
    obtain ⟨ks, e2, rfl⟩ := Option.map_eq_some_iff.mp e
    cases h with
    | tup hs ha =>
      cases r
      obtain ⟨its, rv, ⟨o, ho, hc, n, hd⟩, _⟩ := I.tuple (same_sqT fh hs.sq)
      exact .tup ho hc hd (by simpa using nested_all I fh xs _ _ ks ha rv e2)
  | .bool _, _, _, _, _, _, e => by cases e
  | .list _, _, _, _, _, _, e => by cases e
  | .dict _, _, _, _, _, _, e => by cases e
theorem nested_all {X : Cx} {pins : List (Addr × Obj)} {σ : L2.St} {H F : Hp} {s : Shared} (I : Inv X pins σ H s) (fh : Same F H) : ∀ (ds : List D) (vs : List V) (us : List Value) (ks : List NestedKey), DtAll X.K F vs ds → Vals vs us → kyAll ds = some ks → NestedAll s.heap ks us
  | [], _, _, _, h, r, e => by cases h; cases e; cases r; exact .nil
  | d :: ds, _, _, _, h, r, e => by
    unfold kyAll at e
    split at e
    · rename_i k ks e1 e2
      cases e
      cases h with
      | cons h1 h2 =>
        cases r with
        | cons r1 r2 => exact .cons (nested_of I fh d _ _ k h1 r1 e1) (nested_all I fh ds _ _ ks h2 r2 e2)
    · cases e
end
/-- a list of keys, each once -/
def dd : List NestedKey → List NestedKey
  | [] => []
  | k :: ks => if k ∈ ks then dd ks else k :: dd ks
theorem mem_dd : ∀ (ks : List NestedKey) (x : NestedKey), x ∈ dd ks ↔ x ∈ ks
  | [], x => Iff.rfl
  | k :: ks, x => by
    unfold dd
    by_cases c : k ∈ ks
    · rw [if_pos c, mem_dd ks, List.mem_cons]
      exact ⟨.inr, fun z => z.elim (fun e => e ▸ c) id⟩
    · rw [if_neg c, List.mem_cons, List.mem_cons, mem_dd ks]
theorem nodup_dd : ∀ ks : List NestedKey, (dd ks).Nodup
  | [] => List.nodup_nil
  | k :: ks => by
    unfold dd
    by_cases c : k ∈ ks
    · rw [if_pos c]; exact nodup_dd ks
    · rw [if_neg c]; exact List.nodup_cons.mpr ⟨fun z => c ((mem_dd ks k).mp z), nodup_dd ks⟩
def isTup : NestedKey → Bool
  | .tup _ => true
  | _ => false
def isTxt : NestedKey → Bool
  | .text _ => true
  | _ => false
/-- fewer than 64 keys, texts or tuples, told apart by their order, of one shape -/
def fewB (ks : List NestedKey) : Bool := decide (ks.length < 64) || decide ((dd ks).length < 63)
theorem few_pre {a b : List NestedKey} (h : fewB (a ++ b) = true) : fewB a = true := by
  unfold fewB at h ⊢
  simp only [Bool.or_eq_true, decide_eq_true_eq, List.length_append] at h ⊢
  rcases h with h | h
  · exact .inl (by omega)
  · refine .inr (Nat.lt_of_le_of_lt ((nodup_dd a).length_le_of_subset fun x hx => (mem_dd _ _).mpr (List.mem_append_left _ ((mem_dd _ _).mp hx))) h)
def setOk (ks : List NestedKey) : Bool := fewB ks && (ks.all isTup || ks.all isTxt) && ks.all fun k => decide (k.depth ≤ 8)
def unlikeB (ks : List NestedKey) : Bool := ks.all fun k => ks.all fun l => !decide (PySem.W.keyToks k.data = PySem.W.keyToks l.data) || decide (k = l)
def ssOp : List D → Option Sl
  | [.list ds] => match kyAll ds with
    | some ks => if setOk ks && alikeAllB ds && unlikeB ks && (ds.all fun d => decide (d.depth ≤ 50)) then some (.ow (.lst (sortD ((dd ks).map NestedKey.data)))) else none
    | none => none
  | _ => none
def lsOp : List D → Option Sl
  | [.list ds] => match kyAll ds with
    | some ks => if setOk ks then some (.fr (.int (dd ks).length)) else none
    | none => none
  | _ => none
theorem sort_same {ks ls : List NestedKey} (hp : ks.Perm ls) (hu : ∀ k ∈ ks, ∀ l ∈ ks, PySem.W.keyToks k.data = PySem.W.keyToks l.data → k = l) : sortD (ks.map NestedKey.data) = sortD (ls.map NestedKey.data) := by
  have tot := PySem.W.sortLe_total (PyProof.Rows.listOrd PyProof.Rows.itemOrd) false fun d : D => PySem.W.keyToks (id d)
  have anti : ∀ a b : D, a ∈ ks.map NestedKey.data → b ∈ ks.map NestedKey.data → PySem.W.dataLe false id a b = true → PySem.W.dataLe false id b a = true → a = b := by
    intro a b ha hb h1 h2
    obtain ⟨k, hk, rfl⟩ := List.mem_map.mp ha
    obtain ⟨l, hl, rfl⟩ := List.mem_map.mp hb
    have z1 : (!(PyProof.Rows.listOrd PyProof.Rows.itemOrd).blt (PySem.W.keyToks l.data) (PySem.W.keyToks k.data)) = true := h1
    have z2 : (!(PyProof.Rows.listOrd PyProof.Rows.itemOrd).blt (PySem.W.keyToks k.data) (PySem.W.keyToks l.data)) = true := h2
    rw [hu k hk l hl (PyProof.Rows.KeyOrd.kle_antisymm (O := PyProof.Rows.listOrd PyProof.Rows.itemOrd) (by simpa [PyProof.Rows.KeyOrd.kle] using z1) (by simpa [PyProof.Rows.KeyOrd.kle] using z2))]
  have p1 := List.pairwise_mergeSort (le := PySem.W.dataLe false id) (fun a b c h1 h2 => tot.trans a b c h1 h2) (fun a b => (Bool.or_eq_true _ _).mpr (tot.total a b)) (ks.map NestedKey.data)
  have p2 := List.pairwise_mergeSort (le := PySem.W.dataLe false id) (fun a b c h1 h2 => tot.trans a b c h1 h2) (fun a b => (Bool.or_eq_true _ _).mpr (tot.total a b)) (ls.map NestedKey.data)
  have pm : (sortD (ks.map NestedKey.data)).Perm (sortD (ls.map NestedKey.data)) := (List.mergeSort_perm _ _).trans ((hp.map _).trans (List.mergeSort_perm _ _).symm)
  refine List.Perm.eq_of_pairwise (le := fun a b => PySem.W.dataLe false id a b = true) (fun a b ha hb h1 h2 => anti a b ((List.mergeSort_perm _ _).mem_iff.mp ha) ?_ h1 h2) p1 p2 pm
  have z := (List.mergeSort_perm _ _).mem_iff.mp hb
  exact (hp.map _).mem_iff.mpr z

section
variable {P : Program} {w : World} {A : Around} {E : Value → Shared → Prop} {s : Shared} {tup : Bool}
/-- sorted(x), x such a set -/
theorem sorted_sg {a : Addr} {ms : List Mb} {es : Array (Int × Value)} {ep : Nat} {t : SetTable} {Q : Value → Shared → Prop} (R : SG w tup s.heap a ms es ep t) (hh : A.handled = none)
    (hr : ∀ m ∈ ms, ∃ as, Reads s.heap m.1 m.2.data as) (hal : PySem.W.AllAlike (ms.map fun m => m.2.data)) (hk : DLS.Sortable2 (ms.map fun m => m.2.data)) (hu : A.units + 64 < cLine) (hd : ∀ m ∈ ms, m.2.data.depth ≤ 50)
    (hQ : ∀ s' p (out : List Value) (c : Nat) (ms1 : List Mb), (∀ b o, s.heap.get? b = some o → s'.heap.get? b = some o) → s'.gens = s.gens → s'.os = s.os → s.heap.objs.size ≤ p →
      s'.heap.get? p = some (seqObj "list" out.toArray c) → ms1.Perm ms → PySem.W.EachIs (fun v d => ∃ m ∈ ms, v = m.1 ∧ d = m.2.data) out (sortD ((ms1.map (·.2)).map NestedKey.data)) → Q (.ref p) s') :
    wpAny (model P w) A (call (.builtin "sorted") [.ref a]) Q E s := by
  obtain ⟨o, ho, hex, hod⟩ := R.ob
  have hz := rows_size R.rows
  have few := R.few
  refine Calls.call_function_entry kind_sorted plain_sorted entry_sorted (args_sorted1 _) ?_
  unfold Builtin.«sorted»
  refine wpAny_bind (m := checkCount "sorted" 1 1 _) (wpAny_pure ?_)
  refine wpAny_bind (collect_set (A := A.in1) hh ⟨o, ho, hex.1, hod⟩ R.fit (by unfold scanBound; omega) R.ris R.led fun s1 vs k1 z1 g1 o1 pm => ?_)
  have hes : es.toList.map (·.2) = ms.map (·.1) := by rw [R.rows, List.map_map]; rfl
  obtain ⟨ms1, e1, pm1⟩ := perm_unmap (f := fun m : Mb => m.1) (pm.trans (by rw [hes])) (as := ms) rfl
  have hvl : vs.length < 64 := by rw [e1, List.length_map, pm1.length_eq]; exact few
  have fit : vs.length ≤ sizeLine := by rw [sizeLine_eq]; omega
  refine wpAny_bind (wpAny_newList ?_ fit)
  have hoL : (s1.heap.push (seqObj "list" vs.toArray 0)).get? s1.heap.objs.size = some (seqObj "list" vs.toArray 0) := Heap.get?_push_size _ rfl
  have kp : ∀ b o, s.heap.get? b = some o → b ≠ s1.heap.objs.size ∧ (s1.heap.push (seqObj "list" vs.toArray 0)).get? b = some o := fun b o q =>
    ⟨Nat.ne_of_lt (Heap.lt_size (k1 b o q)), Heap.get?_push_of_some _ (k1 b o q)⟩
  have kp2 : ∀ b o, s.heap.get? b = some o → (PySem.W.sortingHeap (s1.heap.push (seqObj "list" vs.toArray 0)) s1.heap.objs.size vs).get? b = some o := fun b o q =>
    PySem.W.sortingHeap_old (kp b o q).1 (kp b o q).2
  have memq : ∀ m ∈ ms1, m ∈ ms := fun m hm => pm1.mem_iff.mp hm
  have er : PySem.W.EachIs (fun v d => ∃ as, Reads (PySem.W.sortingHeap (s1.heap.push (seqObj "list" vs.toArray 0)) s1.heap.objs.size vs) v d as) vs (ms1.map fun m => m.2.data) := by
    have go : ∀ l : List Mb, (∀ m ∈ l, m ∈ ms) → PySem.W.EachIs (fun v d => ∃ as, Reads (PySem.W.sortingHeap (s1.heap.push (seqObj "list" vs.toArray 0)) s1.heap.objs.size vs) v d as) (l.map (·.1)) (l.map fun m => m.2.data) := by
      intro l
      induction l with
      | nil => intro _; exact .nil
      | cons m l ih =>
        intro hl
        obtain ⟨as, r⟩ := hr m (hl m (.head _))
        exact .cons ⟨as, PyProof.Rows.Reads.keeps kp2 r⟩ (ih fun x hx => hl x (.tail _ hx))
    have z := go ms1 memq
    rw [← e1] at z
    exact z
  have ev : PySem.W.EachIs (fun v d => ∃ m ∈ ms, v = m.1 ∧ d = m.2.data) vs (ms1.map fun m => m.2.data) := by
    have go : ∀ l : List Mb, (∀ m ∈ l, m ∈ ms) → PySem.W.EachIs (fun v d => ∃ m ∈ ms, v = m.1 ∧ d = m.2.data) (l.map (·.1)) (l.map fun m => m.2.data) := by
      intro l
      induction l with
      | nil => intro _; exact .nil
      | cons m l ih =>
        intro hl
        exact .cons ⟨m, hl m (.head _), rfl, rfl⟩ (ih fun x hx => hl x (.tail _ hx))
    have z := go ms1 memq
    rw [← e1] at z
    exact z
  have hal1 : PySem.W.AllAlike (ms1.map fun m => m.2.data) := fun d hd' e he => hal d ((pm1.map _).mem_iff.mp hd') e ((pm1.map _).mem_iff.mp he)
  have hk1 : DLS.Sortable2 (ms1.map fun m => m.2.data) := by
    rcases hk with z | z
    · exact .inl fun d hd' => z d ((pm1.map _).mem_iff.mp hd')
    · exact .inr fun d hd' => z d ((pm1.map _).mem_iff.mp hd')
  refine wpAny_bind (wpAny_holding (wpAny_call_entry slot_list_sort ⟨_, hoL, rfl⟩ entry_list_sort (PySem.W.list_sort_vals (s := { s1 with heap := s1.heap.push (seqObj "list" vs.toArray 0) }) hoL
    (DLS.sorts2 (s := { s1 with heap := PySem.W.sortingHeap (s1.heap.push (seqObj "list" vs.toArray 0)) s1.heap.objs.size vs }) er hal1 hk1 fun d hd' => ?_) fit ⟨_, rfl, ?_⟩) (args_list_sort _)))
  · obtain ⟨m, hm, rfl⟩ := List.mem_map.mp hd'
    have q := hd m (memq m hm)
    show A.units + 1 + 1 + m.2.data.depth < cLine
    omega
  · obtain ⟨c, hc⟩ := sortedHeap_at (vs := vs) (out := (PySem.W.sortVals (PySem.W.dataKind (PySem.W.sortingHeap (s1.heap.push (seqObj "list" vs.toArray 0)) s1.heap.objs.size vs) (ms1.map fun m => m.2.data)) false vs vs).toArray) hoL
    refine wpAny_pure ⟨_, rfl, hQ _ s1.heap.objs.size _ c ms1 (fun b u e => ?_) g1 o1 z1 hc pm1 ?_⟩
    · have lt := Heap.lt_size (k1 b u e)
      show (sortedHeap (s1.heap.push (seqObj "list" vs.toArray 0)) s1.heap.objs.size vs _).get? b = some u
      rw [sortedHeap_old (Nat.ne_of_lt lt) (by rw [size_push']; exact Nat.lt_succ_of_lt lt)]
      exact (kp b u e).2
    · have q := PySem.W.sortVals_data (h' := PySem.W.sortingHeap (s1.heap.push (seqObj "list" vs.toArray 0)) s1.heap.objs.size vs) (enc := (id : D → D)) (vs := vs) (bs := ms1.map fun m : Mb => m.2.data) false ev er (by rw [List.map_id]; exact hal1)
      rw [List.map_id] at q
      unfold sortD
      rw [List.map_map]
      exact q
end
end DL

/-! sorted(set(xs)), len(set(xs)) in the layer. -/
namespace DL
open PySem PySem.Spec PyProof.Rows L2 RZ GS

theorem tup_of {k : NestedKey} (h : isTup k = true) : ∃ xs, k = .tup xs := by
  cases k with
  | tup xs => exact ⟨xs, rfl⟩
  | _ => cases h
theorem txt_of {k : NestedKey} (h : isTxt k = true) : ∃ x, k = .text x := by
  cases k with
  | text x => exact ⟨x, rfl⟩
  | _ => cases h
theorem zip_keys {h : Heap} : ∀ {ks : List NestedKey} {us : List Value}, NestedAll h ks us → (us.zip ks).map (·.1) = us ∧ (us.zip ks).map (·.2) = ks ∧ ∀ m ∈ us.zip ks, NestedIs h m.2 m.1
  | _, _, .nil => ⟨rfl, rfl, fun _ z => by cases z⟩
  | k :: ks, u :: us, .cons a b => by
    obtain ⟨h1, h2, h3⟩ := zip_keys b
    refine ⟨by rw [List.zip_cons_cons, List.map_cons, h1], by rw [List.zip_cons_cons, List.map_cons, h2], fun m hm => ?_⟩
    rw [List.zip_cons_cons] at hm
    rcases List.mem_cons.mp hm with z | z
    · rw [z]; exact a
    · exact h3 m z
theorem takes_keys {h : Heap} {tup : Bool} {m : Mb} (hi : NestedIs h m.2 m.1) (hm : (if tup = true then isTup m.2 else isTxt m.2) = true) : Takes1 tup m := by
  obtain ⟨v, k⟩ := m
  cases tup with
  | true =>
    cases hi with
    | tup h1 h2 h3 h4 => exact ⟨_, rfl⟩
    | _ => cases hm
  | false =>
    cases hi with
    | text x t => exact ⟨x, t, rfl⟩
    | _ => cases hm
theorem datum_each {X : Cx} {pins : List (Addr × Obj)} {σ : L2.St} {H F : Hp} {s : Shared} (I : Inv X pins σ H s) (fh : Same F H) : ∀ {vs : List V} {ds : List D} {us : List Value} {ks : List NestedKey}, Vals vs us → DtAll X.K F vs ds → kyAll ds = some ks →
    ∀ m ∈ us.zip ks, (∃ x, RelV x m.1 ∧ Dt X.K F x m.2.data) ∧ ∃ as, Reads s.heap m.1 m.2.data as
  | _, _, _, _, .nil, .nil, e => by
    cases e
    intro m hm
    cases hm
  | _, d :: ds, _, _, .cons r t, .cons h k, e => by
    unfold kyAll at e
    split at e
    · rename_i k1 ks e1 e2
      cases e
      intro m hm
      rw [List.zip_cons_cons] at hm
      rcases List.mem_cons.mp hm with z | z
      · rw [z]
        show (∃ x, RelV x _ ∧ Dt X.K F x k1.data) ∧ ∃ as, Reads s.heap _ k1.data as
        rw [ky_data d k1 e1]
        exact ⟨⟨_, r, h⟩, Dp.reads I _ _ _ (dt_dp _ _ (dp_mono fh _ _ h)) r⟩
      · exact datum_each I fh t k e2 m z
    · cases e
/-- what set(xs) is, over the list's own object -/
def SetIn (K : PySem.W.Frag) (F H : Hp) (xs : List V) (ds : List D) (ks : List NestedKey) : Prop := ∃ a vs, xs = [.ref a] ∧ SqL K H a vs ∧ Same F H ∧ DtAll K F vs ds ∧ kyAll ds = some ks ∧ setOk ks = true
def rSS (K : PySem.W.Frag) : List V → Hp → VK → Prop := fun xs H Q => ∃ F ds ks, SetIn K F H xs ds ks ∧ alikeAllB ds = true ∧ unlikeB ks = true ∧ (ds.all fun d => decide (d.depth ≤ 50)) = true ∧
  ∀ p ys, H p = none → DtAll K F ys (sortD ((dd ks).map NestedKey.data)) → Q (.ref p) (upd H p (.lst ys))
def rLS (K : PySem.W.Frag) : List V → Hp → VK → Prop := fun xs H Q => ∃ F ds ks, SetIn K F H xs ds ks ∧ Q (.int (dd ks).length) H

section
variable {X : Cx}
theorem set_run (hc : X.calm = true) (hu : X.A.units + 64 < cLine) {pins : List (Addr × Obj)} {σ : L2.St} {H F : Hp} {s : Shared} {xs : List V} {us : List Value} {ds : List D} {ks : List NestedKey} (I : Inv X pins σ H s) (r : Vals xs us)
    (h : SetIn X.K F H xs ds ks) {Q : Value → Shared → Prop}
    (hQ : ∀ (tup : Bool) (its : List Value) (h' : Heap) (tk : Nat) (ms : List Mb) es ep t, SG X.w tup h' s.heap.objs.size ms es ep t → (∀ m ∈ ms, m ∈ its.zip ks) → (ms.map (·.2)).Perm (dd ks) → (∀ b o, s.heap.get? b = some o → h'.get? b = some o) →
      (∀ m ∈ its.zip ks, (∃ x, RelV x m.1 ∧ Dt X.K F x m.2.data) ∧ ∃ as, Reads s.heap m.1 m.2.data as) → ((∀ k ∈ ks, isTup k = true) ∨ ∀ k ∈ ks, isTxt k = true) → Q (.ref s.heap.objs.size) { s with heap := h', toks := tk }) :
    wpAny (model X.prog X.w) X.A (call (.type "set") us) Q X.xe s := by
  obtain ⟨a, vs, rfl, hs, fh, hd, hk, ok⟩ := h
  unfold setOk at ok
  simp only [Bool.and_eq_true, decide_eq_true_eq, Bool.or_eq_true, List.all_eq_true] at ok
  obtain ⟨⟨o1, o2⟩, o3⟩ := ok
  rw [Vals.ref1 r]
  obtain ⟨its, rv, hl, _⟩ := I.list hs
  have na := nested_all I fh ds vs its ks hd rv hk
  obtain ⟨z1, z2, z3⟩ := zip_keys na
  obtain ⟨tup, htup⟩ : ∃ tup : Bool, ∀ k ∈ ks, (if tup = true then isTup k else isTxt k) = true := by
    rcases o2 with z | z
    · exact ⟨true, fun k hk => by simpa using z k hk⟩
    · exact ⟨false, fun k hk => by simpa using z k hk⟩
  have mk : ∀ m ∈ its.zip ks, m.2 ∈ ks := fun m hm => by
    rw [← z2]
    exact List.mem_map.mpr ⟨m, hm, rfl⟩
  have len : (its.zip ks).length = ks.length := by rw [← List.length_map (f := fun m : Mb => m.2), z2]
  refine set_of_list (tup := tup) (its.zip ks) (I.ok.hd hc) hl.isList (by rw [z1]) (fun m hm => ⟨⟨z3 m hm, o3 _ (mk m hm)⟩, takes_keys (z3 m hm) (htup _ (mk m hm))⟩) (by
    unfold fewB at o1
    simp only [Bool.or_eq_true, decide_eq_true_eq] at o1
    rcases o1 with o1 | o1
    · exact .inl (by rw [len]; exact o1)
    · exact .inr ⟨dd ks, fun m hm => (mem_dd _ _).mpr (mk m hm), o1⟩) (by omega) fun h' tk ms es ep t R g k => ?_
  refine hQ tup its h' tk ms es ep t R (fun m hm => List.mem_of_mem_take (g.sub m hm)) ?_ k (datum_each I fh rv hd hk) o2
  refine (List.perm_ext_iff_of_nodup R.nd (nodup_dd ks)).mpr fun x => ?_
  rw [mem_dd]
  constructor
  · intro hx
    obtain ⟨m, hm, rfl⟩ := List.mem_map.mp hx
    exact mk m (List.mem_of_mem_take (g.sub m hm))
  · intro hx
    rw [← z2] at hx
    obtain ⟨m, hm, rfl⟩ := List.mem_map.mp hx
    exact g.all m (by rw [List.take_of_length_le (Nat.le_refl _)]; exact hm)
theorem pe_sset {e : Expr} {te : TA} {p p2 q pos : Pos} (hc : X.calm = true) (hu : X.A.units + 64 < cLine) (hg : Gl X "sorted") (hm : X.mg "sorted" = none) (hg2 : Gl X "set") (hm2 : X.mg "set" = none) (ha : PA X [e] te)
    (na : starEach [e] X.env = (false, eval e X.env) :: starEach [] X.env := by rfl) : PE X (.Call (.Name "sorted" p) [.Call (.Name "set" p2) [e] [] q] [] pos) (tCB (rSS X.K) te) := by
  refine ⟨fun pins s σ H Q I h => ?_⟩
  refine wpAny_Call_Name_kw (ld_blt I hg hm PyProof.Rows.boot_sorted ?_)
  refine PyProof.Rows.callWith_builtin1 (PyProof.Rows.args_cons ?_ rfl) rfl rfl
  refine wpAny_Call_Name_kw (ld_blt I hg2 hm2 PyProof.Rows.boot_set ?_)
  refine PyProof.Rows.callWith_type1 (thn (ha.run q pins s σ H _ I h) fun us s1 ⟨vs, H1, I1, r1, q1⟩ => ?_) na rfl
  obtain ⟨F, ds, ks, hin, al, un, dp, q1⟩ := q1
  have fh : Same F H1 := by
    obtain ⟨_, _, _, _, fh, _⟩ := hin
    exact fh
  have hk : kyAll ds = some ks := by
    obtain ⟨_, _, _, _, _, _, hk, _⟩ := hin
    exact hk
  refine set_run hc hu I1 r1 hin fun tup its h' tk ms es ep t R sub pm k both kind => ?_
  refine PyProof.Rows.args_nil ?_
  have dat : ks.map NestedKey.data = ds := ky_map ds ks hk
  have inks : ∀ m ∈ ms, m.2 ∈ ks := fun m hm => (mem_dd ks _).mp (pm.mem_iff.mp (List.mem_map.mpr ⟨m, hm, rfl⟩))
  have inds : ∀ d ∈ ms.map (fun m => m.2.data), d ∈ ds := fun d hd => by
    obtain ⟨m, hm, rfl⟩ := List.mem_map.mp hd
    rw [← dat]
    exact List.mem_map.mpr ⟨_, inks m hm, rfl⟩
  have al' := alike_of al
  rw [List.map_id] at al'
  refine sorted_sg (s := { s1 with heap := h', toks := tk }) R (I1.ok.hd hc) (fun m hm => ?_) (fun d hd e he => al' d (inds d hd) e (inds e he)) ?_ hu (fun m hm => ?_) fun s' p out c ms1 k2 g o hp hg hpm hout => ?_
  · obtain ⟨as, z⟩ := (both m (sub m hm)).2
    exact ⟨as, PyProof.Rows.Reads.keeps k z⟩
  · rcases kind with z | z
    · refine .inl fun d hd => ?_
      obtain ⟨m, hm, rfl⟩ := List.mem_map.mp hd
      have y := z _ (inks m hm)
      obtain ⟨x, e⟩ := tup_of y
      rw [e]
      exact ⟨_, rfl⟩
    · refine .inr fun d hd => ?_
      obtain ⟨m, hm, rfl⟩ := List.mem_map.mp hd
      have y := z _ (inks m hm)
      obtain ⟨x, e⟩ := txt_of y
      rw [e]
      exact ⟨(fun z => nomatch z), fun xs z => nomatch z⟩
  · have z := List.all_eq_true.mp dp _ (inds _ (List.mem_map.mpr ⟨m, hm, rfl⟩))
    exact of_decide_eq_true z
  · have hsame : sortD ((ms1.map (·.2)).map NestedKey.data) = sortD ((dd ks).map NestedKey.data) := by
      have pm2 : (ms1.map (·.2)).Perm (dd ks) := (hpm.map _).trans pm
      refine sort_same pm2 fun x hx y hy e => ?_
      have mx := (mem_dd ks x).mp (pm2.mem_iff.mp hx)
      have my := (mem_dd ks y).mp (pm2.mem_iff.mp hy)
      have z := List.all_eq_true.mp (List.all_eq_true.mp un x mx) y my
      rw [Bool.or_eq_true] at z
      rcases z with z | z
      · rw [decide_eq_true e] at z
        cases z
      · exact of_decide_eq_true z
    rw [hsame] at hout
    obtain ⟨ys, v1, v2⟩ := of_each (K := X.K) (F := F) (hout.mono fun v d ⟨m, hm, e1, e2⟩ => by
      obtain ⟨⟨x, y1, y2⟩, _⟩ := both m (sub m hm)
      exact ⟨x, by rw [e1]; exact y1, by rw [e2]; exact y2⟩)
    have hlen : ys.length ≤ sizeLine := by
      have fewer := R.few
      have h1 : (dd ks).length = ms.length := by rw [← pm.length_eq, List.length_map]
      rw [dpAll_len v2]
      unfold sortD
      rw [List.length_mergeSort, List.length_map, h1, sizeLine_eq]
      omega
    have kp : ∀ b o, s1.heap.get? b = some o → s'.heap.get? b = some o := fun b o z => k2 b o (k b o z)
    have hp1 : s1.heap.objs.size ≤ p := by
      obtain ⟨o9, ho9, _⟩ := R.ob
      have z9 : s1.heap.objs.size < h'.objs.size := Heap.lt_size ho9
      exact Nat.le_trans (Nat.le_of_lt z9) hp
    have hn : H1 p = none := I1.hok.fresh hp1
    have J : Inv X pins σ (upd H1 p (.lst ys)) { s1 with heap := s'.heap, gens := s'.gens, drawn := s'.drawn, toks := s'.toks } :=
      I1.call (ch := []) (Un.laid kp hp1 hn) (I1.hok.laid kp hp1 ⟨hlen, out, c, v1, hg⟩) (by rw [g]; exact I1.bare) (fun _ z => nomatch z)
    have e : s' = { s1 with heap := s'.heap, gens := s'.gens, drawn := s'.drawn, toks := s'.toks } := by
      cases s'
      cases s1
      cases o
      rfl
    rw [e]
    exact ⟨.ref p, _, J, rfl, q1 p ys hn v2⟩
theorem pe_lset {e : Expr} {te : TA} {p p2 q pos : Pos} (hc : X.calm = true) (hu : X.A.units + 64 < cLine) (hg : Gl X "len") (hm : X.mg "len" = none) (hg2 : Gl X "set") (hm2 : X.mg "set" = none) (ha : PA X [e] te)
    (na : starEach [e] X.env = (false, eval e X.env) :: starEach [] X.env := by rfl) : PE X (.Call (.Name "len" p) [.Call (.Name "set" p2) [e] [] q] [] pos) (tCB (rLS X.K) te) := by
  refine ⟨fun pins s σ H Q I h => ?_⟩
  refine wpAny_Call_Name_kw (ld_blt I hg hm PySem.boot_len ?_)
  refine PyProof.Rows.callWith_builtin1 (PyProof.Rows.args_cons ?_ rfl) rfl rfl
  refine wpAny_Call_Name_kw (ld_blt I hg2 hm2 PyProof.Rows.boot_set ?_)
  refine PyProof.Rows.callWith_type1 (thn (ha.run q pins s σ H _ I h) fun us s1 ⟨vs, H1, I1, r1, q1⟩ => ?_) na rfl
  obtain ⟨F, ds, ks, hin, q1⟩ := q1
  refine set_run hc hu I1 r1 hin fun tup its h' tk ms es ep t R sub pm k both kind => ?_
  refine PyProof.Rows.args_nil ?_
  have I2 : Inv X pins σ H1 { s1 with heap := h', toks := tk } := I1.kept fun b o e => k b o e
  obtain ⟨o, ho, hex, hd⟩ := R.ob
  have hz : es.size = (dd ks).length := by rw [rows_size R.rows, ← pm.length_eq, List.length_map]
  have few := R.few
  have hms := rows_size R.rows
  refine call_len_set (s := { s1 with heap := h', toks := tk }) ho hex hd R.fit (by omega) ⟨.int (dd ks).length, H1, I2.tok _, ⟨_, by rw [hz]⟩, q1⟩
end
theorem vr_ss {K : PySem.W.Frag} : VRn K (rSS K) ssOp := by
  refine one_arg (fun ds h => ?_) fun F H x d s Q fh r e q => ?_
  · unfold ssOp at h
    split at h <;> first | exact ⟨_, rfl⟩ | exact absurd rfl h
  · unfold ssOp at e
    split at e
    · rename_i ds0 ds e0
      cases e0
      split at e
      · rename_i ks ek
        split at e
        · rename_i ok
          cases e
          simp only [Bool.and_eq_true] at ok
          obtain ⟨⟨⟨o1, o2⟩, o3⟩, o4⟩ := ok
          obtain ⟨a, vs, rfl, h1, h2⟩ := r.lst fh
          exact ⟨F, ds, ks, ⟨a, vs, rfl, .of h1, fh, h2, ek, o1⟩, o2, o3, o4, fun p ys hp hy => q _ F _ (.laid fh hp) (.new_lst fh hp hy)⟩
        · cases e
      · cases e
    · cases e
theorem vr_ls {K : PySem.W.Frag} : VRn K (rLS K) lsOp := by
  refine one_arg (fun ds h => ?_) fun F H x d s Q fh r e q => ?_
  · unfold lsOp at h
    split at h <;> first | exact ⟨_, rfl⟩ | exact absurd rfl h
  · unfold lsOp at e
    split at e
    · rename_i ds0 ds e0
      cases e0
      split at e
      · rename_i ks ek
        split at e
        · rename_i ok
          cases e
          obtain ⟨a, vs, rfl, h1, h2⟩ := r.lst fh
          exact ⟨F, ds, ks, ⟨a, vs, rfl, .of h1, fh, h2, ek, ok⟩, q _ F H (.refl fh) (.int _)⟩
        · cases e
      · cases e
    · cases e
end DL

/-! repr(x), xs.count(x), xs[::-1], x is True in the layer; calls by keywords. -/
namespace DL
open PySem PySem.Spec PyProof.Rows L2 RZ GS
section
variable {K : PySem.W.Frag} {mg : Str → Option Value} {E : XW} {W : Wd} {F0 B F H F' H' : Hp} {σ tv us vs : L2.St} {ρ ρ' tr ss : Evn} {v : V} {d : D} {s : Sl} {c c' : Cn} {p : Addr} {i : Nat} {α β : Type}
/-! ### repr -/
def reprOk (d : D) : Bool := d.showable && !d.hasDict && decide (d.depth ≤ 50) && decide (d.shown.length ≤ 100000)
def reprOp : List D → Option Sl
  | [d] => if reprOk d then some (.fr (.str d.shown)) else none
  | _ => none
def rRepr (K : PySem.W.Frag) : List V → Hp → VK → Prop := fun xs H Q => ∃ x d, xs = [x] ∧ Dp K H x d ∧ reprOk d = true ∧ Q (.str d.shown) H
theorem cr_repr {X : Cx} {k : Nat} (hr : RoomG k X.A) : CallR X (.builtin "repr") (rRepr X.K) := by
  intro pins s σ H xs us Q I r h
  obtain ⟨x, d, rfl, hd, ok, q⟩ := h
  unfold reprOk at ok
  simp only [Bool.and_eq_true, decide_eq_true_eq, Bool.not_eq_true'] at ok
  obtain ⟨⟨⟨o1, o2⟩, o3⟩, o4⟩ := ok
  obtain ⟨u, rfl, ru⟩ := vals1 r
  obtain ⟨as, rd⟩ := Dp.reads I d x u hd ru
  have hsz : d.shown.length ≤ sizeLine := line5 o4
  have un := hr.units
  cases u with
  | ref a =>
    refine repr_of_reads' rd o1 (fun e => by rw [o2] at e; cases e) hr.g (by omega) (fun _ _ e => e) (fun h' u tk hk => ?_) hsz
    exact ⟨.str _, H, I.kept fun b o e => hk b o e, ⟨_, rfl⟩, q⟩
  | none =>
    cases rd
    exact PySem.P.repr_of_none ⟨.str _, H, I.tok _, ⟨_, rfl⟩, q⟩
  | bool b =>
    cases rd
    exact PySem.P.repr_of_bool ⟨.str _, H, I.tok _, ⟨_, rfl⟩, by cases b <;> exact q⟩
  | int i t =>
    cases rd
    exact PySem.P.repr_of_int (by simpa [PyData.showable] using o1) ⟨.str _, H, I.tok _, ⟨_, rfl⟩, q⟩
  | str z t =>
    cases rd
    exact PySem.P.repr_of_str ⟨.str _, H, I.tok _, ⟨_, rfl⟩, q⟩ hsz
  | _ => cases rd
theorem vr_repr : VRn K (rRepr K) reprOp := by
  refine one_arg (fun ds h => ?_) fun F H x d s Q fh r e q => ?_
  · unfold reprOp at h
    split at h <;> first | exact ⟨_, rfl⟩ | exact absurd rfl h
  · have e : (if reprOk d = true then some (Sl.fr (.str d.shown)) else none) = some s := e
    by_cases ok : reprOk d = true
    · rw [if_pos ok] at e
      cases e
      exact ⟨x, d, rfl, r.dp fh, ok, q _ F H (.refl fh) (.str _)⟩
    · rw [if_neg ok] at e
      cases e
/-! ### xs.count(x), x a text -/
def isX (x : Str) (y : Value) : Bool := match y with
  | .str z _ => z == x
  | _ => false
def isXD (x : Str) (y : D) : Bool := match y with
  | .str z => z == x
  | _ => false
def rCount (K : PySem.W.Frag) : V → List V → Hp → VK → Prop := fun x xs H Q => ∃ (a : Addr) (ws : List V) (ds : List D) (z : Str), x = V.ref a ∧ xs = [.str z] ∧ SqL K H a ws ∧ DpAll K H ws ds ∧
  PyData.canLayAll0 ds = true ∧ PyData.strOk z = true ∧ Q (.int (ds.countP (isXD z) : Nat)) H
theorem eqv_isX {h : Heap} {y : Value} {d : D} {as : List Addr} (x : Str) (r : Reads h y d as) : PyData.eqv d (.str x) = isX x y ∧ isX x y = isXD x d := by
  cases r <;> exact ⟨by first | rfl | simp [PyData.eqv, isX], rfl⟩
theorem count_each {X : Cx} {pins : List (Addr × Obj)} {σ : L2.St} {H : Hp} {s : Shared} (I : Inv X pins σ H s) {A : Around} {z : Str} {t : Tok} (cz : PyData.strOk z = true) (hu : A.units < cLine) :
    ∀ {ws : List V} {us : List Value} (r : Vals ws us) {ds : List D}, DpAll X.K H ws ds → PyData.canLayAll0 ds = true → (∀ y ∈ us, SeqAt.EqAt A s y (.str z t) (isX z y)) ∧ us.countP (isX z) = ds.countP (isXD z) := by
  intro ws us r
  induction r with
  | nil =>
    intro ds h c
    cases h
    exact ⟨fun _ q => (by cases q), rfl⟩
  | cons r1 r2 ih =>
    intro ds h c
    cases h with
    | cons h1 h2 =>
      rw [PyData.canLayAll0, Bool.and_eq_true] at c
      obtain ⟨as, rd⟩ := Dp.reads I _ _ _ h1 r1
      obtain ⟨e1, e2⟩ := eqv_isX z rd
      obtain ⟨i1, i2⟩ := ih h2 c.2
      refine ⟨fun y hy => ?_, ?_⟩
      · rcases List.mem_cons.mp hy with q | q
        · rw [q, ← e1]
          exact SeqAt.eqAt_reads _ _ A s _ _ _ _ rd (.str z t) c.1 (by simpa [PyData.canLay0] using cz) (Nat.lt_of_le_of_lt (Nat.add_le_add_left (Nat.min_le_right _ _) _) (by simpa [PyData.depth] using hu))
        · exact i1 y q
      · rw [List.countP_cons, List.countP_cons, i2, e2]
theorem mt_countX {X : Cx} (hu : X.A.units + 64 < cLine) : MtR X "list.count" (rCount X.K) := by
  intro pins s σ H x xs v us Q I rx rxs h
  obtain ⟨a, ws, ds, z, rfl, rfl, hs, hd, c1, c2, q⟩ := h
  cases rx
  obtain ⟨u, rfl, t, rfl⟩ := vals1 rxs
  obtain ⟨its, rv, ⟨⟨cls, dd, data, sl⟩, n, ho, hc, hdn, hdt⟩, hlen⟩ := I.list hs
  simp only at hc hdt
  subst hc hdt
  obtain ⟨i1, i2⟩ := count_each (A := X.A.in1) (t := t) I c2 (by show X.A.units + 1 < cLine; omega) rv hd c1
  refine call_meets PySem.F.slot_list_count ⟨_, ho, rfl⟩ PySem.F.entry_list_count (PySem.F.args_list_count_2 _ _)
    (SeqAt.list_countAt a its.toArray n dd sl (.str z t) (isX z)) ⟨ho, fun y hy => i1 y (by simpa using hy), ?_⟩
  refine ⟨.int (ds.countP (isXD z) : Nat), H, I.tok _, ⟨s.toks, ?_⟩, q⟩
  show Value.int ((its.toArray.toList.countP (isX z) : Nat) : Int) s.toks = Value.int ((ds.countP (isXD z) : Nat) : Int) s.toks
  rw [i2]
def countOp (xs y : D) : Option Sl := match xs, y with
  | .list ds, .str z => if PyData.canLayAll0 ds && PyData.strOk z then some (.fr (.int (ds.countP (isXD z) : Nat))) else none
  | _, _ => none
theorem vr_countX : VR2 K (fun x y H Q => rCount K x [y] H Q) countOp := by
  intro F H x y dx dy s Q fh r1 r2 e q
  unfold countOp at e
  split at e
  · rename_i ds z
    split at e
    · rename_i ok
      cases e
      rw [Bool.and_eq_true] at ok
      obtain ⟨a, ws, rfl, h1, h2⟩ := r1.lst fh
      have ey := r2.str
      subst ey
      exact ⟨a, ws, ds, z, rfl, rfl, .of h1, dtAll_dp _ _ (dpAll_mono fh _ _ h2), ok.1, ok.2, q _ F H (.refl fh) (.int _)⟩
    · cases e
  · cases e
/-! ### xs[::-1] -/
section
variable {prog : Program} {w : World} {A : Around} {E0 : Value → Shared → Prop} {s0 : Shared}
theorem adjust_rev (n : Nat) : Builtin.Slice.sliceAdjust none none (-1) (n : Int) = ((n : Int) - 1, -1) := by
  unfold Builtin.Slice.sliceAdjust
  simp
theorem places_rev (n : Nat) : Builtin.Slice.slicePlaces ((n : Int) - 1) (-1) (-1) = n := by
  unfold Builtin.Slice.slicePlaces
  have h1 : ¬ ((-1 : Int) > 0) := by omega
  simp only [h1, if_false]
  split <;> simp <;> omega
theorem sliceApplied_rev {sl : Addr} {vl vu vs : Value} {n : Nat} {Q : Int × Int × Nat → Shared → Prop} (hs : s0.heap.IsSliceOf sl vl vu vs) (pl : IsPart vl none) (pu : IsPart vu none) (ps : IsPart vs (some (-1)))
    (h : Q ((n : Int) - 1, -1, n) s0) : wpAny (model prog w) A (Builtin.Slice.sliceApplied (.ref sl) (pure (n : Int))) Q E0 s0 := by
  obtain ⟨os, hos, hcs, hds⟩ := id hs
  unfold Builtin.Slice.sliceApplied Builtin.Slice.sliceFields
  refine wpAny_bind (wpAny_bind (wpAny_field hos hds (x := vl) rfl (wpAny_bind (wpAny_field hos hds (x := vu) rfl (wpAny_bind (wpAny_field hos hds (x := vs) rfl (wpAny_pure ?_)))))))
  refine wpAny_bind (HT.slicePart_ ps ?_)
  show wpAny _ _ (if ((-1 : Int) == 0) = true then _ else _) _ _ s0
  rw [if_neg (by decide)]
  refine wpAny_bind (HT.slicePart_ pl (wpAny_bind (HT.slicePart_ pu (wpAny_bind (wpAny_pure ?_)))))
  show wpAny _ _ (match Builtin.Slice.sliceAdjust none none (-1) (n : Int) with | (lo, hi) => pure (lo, (-1 : Int), Builtin.Slice.slicePlaces lo hi (-1))) _ _ s0
  rw [adjust_rev n]
  show wpAny _ _ (pure ((n : Int) - 1, (-1 : Int), Builtin.Slice.slicePlaces ((n : Int) - 1) (-1) (-1))) _ _ s0
  rw [places_rev]
  exact wpAny_pure h
theorem fmap_congr {α β : Type} {f g : α → Option β} : ∀ {l : List α}, (∀ x ∈ l, f x = g x) → l.filterMap f = l.filterMap g
  | [], _ => rfl
  | x :: l, h => by
    rw [List.filterMap_cons, List.filterMap_cons, h x (.head _), fmap_congr fun y hy => h y (.tail _ hy)]
theorem pick_rev (xs : Array Value) : ((List.range xs.size).filterMap fun (m : Nat) => xs[((xs.size : Int) - 1 + (m : Int) * -1).toNat]?).toArray = xs.toList.reverse.toArray := by
  congr 1
  have e : ∀ m ∈ List.range xs.size, xs[((xs.size : Int) - 1 + (m : Int) * -1).toNat]? = xs.toList.reverse[m]? := fun m hm => by
    have hm := List.mem_range.mp hm
    have : ((xs.size : Int) - 1 + (m : Int) * -1).toNat = xs.size - 1 - m := by omega
    rw [this, List.getElem?_reverse (by simpa using hm)]
    simp
  rw [fmap_congr e]
  apply List.ext_getElem?
  intro i
  have : (List.range xs.size).filterMap (fun m => xs.toList.reverse[m]?) = xs.toList.reverse := by
    have h := PySem.W.krv_all (xs.toList.reverse.toArray)
    simpa using h
  rw [this]
theorem getItem_tuple_rev {t sl : Addr} {items : Array Value} {vl vu vs : Value} {Q : Value → Shared → Prop} (ht : IsTup s0.heap t items) (hs : s0.heap.IsSliceOf sl vl vu vs) (pl : IsPart vl none) (pu : IsPart vu none) (ps : IsPart vs (some (-1)))
    (h : Q (.ref s0.heap.objs.size) { s0 with heap := s0.heap.push { cls := .type "tuple", data := .seq items.toList.reverse.toArray } })
    (hsz : items.size ≤ sizeLine) : wpAny (model prog w) A (getItem (.ref t) (.ref sl)) Q E0 s0 := by
  have htake : sizeOk (.seq items.toList.reverse.toArray) := by
    show items.toList.reverse.toArray.size ≤ sizeLine
    rw [List.size_toArray, List.length_reverse, Array.length_toList]
    exact hsz
  obtain ⟨os, hos, hcs, hds⟩ := id hs
  have hTs : s0.TypeIs (.ref sl) "slice" := ⟨os, hos, hcs⟩
  unfold getItem
  try with_reducible refine wpAny_holding ?_
  first | refine wpAny_bind (wpAny_pure ?_) | skip
  refine wpAny_bind (wpAny_sequenceKey ht.typeIs (by decide) ?_)
  refine wpAny_bind (wpAny_callSpecial?_slot (name := Str.ofString "__getitem__") ht.typeIs PyProof.Rows.slot_tuple_getitem
    (wpAny_call_entry PyProof.Rows.slot_tuple_getitem ht.typeIs entry_tuple_getitem ?_ (args_tuple_getitem _ _)))
  show wpAny _ _ (Builtin.Tuple.tupleItemsOf (.ref t) >>= _) _ _ s0
  refine wpAny_bind (tupleItemsOf_ ht ?_)
  refine wpAny_bind (wpAny_typeOf hTs ?_)
  rw [if_pos (by decide)]
  refine wpAny_bind (sliceApplied_rev hs pl pu ps ?_)
  have hno : ¬ ((((items.size : Int) - 1) == 0 && (-1 : Int) == 1 && items.size == items.size) = true) := by
    intro q
    rw [Bool.and_eq_true, Bool.and_eq_true] at q
    exact absurd q.1.2 (by decide)
  show wpAny _ _ (if (((items.size : Int) - 1) == 0 && (-1 : Int) == 1 && items.size == items.size) = true then _ else _) _ _ s0
  rw [if_neg hno, pick_rev]
  first
    | exact wpAny_bind (m := Builtin.Tuple.tupleExact _) (wpAny_newObj_type (wpAny_pure ⟨_, rfl, wpAny_pure h⟩) htake)
    | exact wpAny_bind (m := Builtin.Tuple.tupleExact _) (wpAny_newObj_type (wpAny_bind (wpAny_pure (wpAny_pure ⟨_, rfl, wpAny_pure h⟩))) htake)
    | exact wpAny_bind (wpAny_bind (m := Builtin.Tuple.tupleExact _) (wpAny_newObj_type (wpAny_pure (wpAny_pure ⟨_, rfl, wpAny_pure h⟩)) htake))
    | exact wpAny_bind (wpAny_bind (m := Builtin.Tuple.tupleExact _) (wpAny_newObj_type (wpAny_pure ⟨_, rfl, wpAny_pure h⟩) htake))
end
def revOp : D → Option Sl
  | .list ds => some (.ow (.lst ds.reverse))
  | .tuple ds => some (.fr (.tuple ds.reverse))
  | _ => none
def rRev (K : PySem.W.Frag) : V → Hp → VK → Prop := fun x H Q => (∃ a xs, x = .ref a ∧ SqL K H a xs ∧ ∀ p, H p = none → Q (.ref p) (upd H p (.lst xs.reverse))) ∨
  ∃ a xs, x = .ref a ∧ SqT K H a xs ∧ ∀ p its, H p = none → Q (.ref p) (upd H p (.frz (tupO its) (.tup xs.reverse)))
theorem pe_rev {X : Cx} {e : Expr} {te : TE} {k : Nat} {p1 p2 p3 pos : Pos} (he : PE X e te) : PE X (.Subscript e (.Slice none none (some (.UnaryOp .USub (.Constant (.int 1) k p1) p2)) p3) pos) (tUn (rRev X.K) te) := by
  refine ⟨fun pins s σ H Q I h => ?_⟩
  refine PyProof.Rows.Subscript_ (thn (he.run pins s σ H _ I h) fun v s1 ⟨x, H1, I1, r1, q1⟩ => ?_)
  have hst : PO X (some (.UnaryOp .USub (.Constant (.int 1) k p1) p2)) (tPart (tUn (rU fun i => .int (-i)) (tC (.int 1)))) := po_some (pe_un un_neg pe_int)
  refine wpAny_Slice (thn (po_none.run pins s1 σ H1 (fun o H2 => o = none ∧ H2 = H1) I1 ⟨rfl, rfl⟩) fun vl s2 ⟨l, H2, I2, pl, el, e2⟩ => ?_)
  subst el e2
  refine thn (po_none.run pins s2 σ H2 (fun o H3 => o = none ∧ H3 = H2) I2 ⟨rfl, rfl⟩) fun vu s3 ⟨u, H3, I3, pu, eu, e3⟩ => ?_
  subst eu e3
  refine thn (hst.run pins s3 σ H3 (fun o H4 => o = some (-1) ∧ H4 = H3) I3 ⟨1, rfl, -1, rfl, rfl, rfl⟩) fun vs s4 ⟨o, H4, I4, ps, eo, e4⟩ => ?_
  subst eo e4
  have I5 : Inv X pins σ H4 { s4 with heap := s4.heap.push { cls := .type "slice", data := .fields #[vl, vu, vs] } } := I4.kept (t' := s4.toks) fun b ob q => Heap.get?_push_of_some _ q
  rcases q1 with ⟨a, xs, rfl, hx, q⟩ | ⟨a, xs, rfl, hx, q⟩
  · cases r1
    obtain ⟨its, r, ht, hz⟩ := I5.list hx
    have hlen := r.length
    show wpAny (model X.prog X.w) X.A (subscriptTail e (.Slice none none (some (.UnaryOp .USub (.Constant (.int 1) k p1) p2)) p3) (.ref a) (.ref s4.heap.objs.size)) (EP X pins σ Q) X.xe { s4 with heap := s4.heap.push { cls := .type "slice", data := .fields #[vl, vu, vs] } }
    refine tail_any (ops := [.ref a, .ref s4.heap.objs.size]) ht.isList.typeIs (PySem.slot_list_getitem.lookup) ?_ (by with_unfolding_all rfl)
    refine wpAny_getItem_list_slice ht.isList (Heap.IsSliceOf.new _ vl vu vs) pl pu ps (by decide) ?_ (by rw [List.size_toArray]; omega)
    rw [PySem.W.krv_pick]
    refine ⟨.ref _, _, I5.laid (t' := s4.toks) (o := .lst xs.reverse) (fun b ob q => Heap.get?_push_of_some _ q) (Nat.le_refl _) ?_, rfl, q _ (I5.hok.fresh (Nat.le_refl _))⟩
    exact ⟨by rw [List.length_reverse]; exact hz, _, 0, r.reverse, Heap.get?_push_size _ rfl⟩
  · cases r1
    obtain ⟨its, r, ht, hz⟩ := I5.tuple hx
    have hlen := r.length
    show wpAny (model X.prog X.w) X.A (subscriptTail e (.Slice none none (some (.UnaryOp .USub (.Constant (.int 1) k p1) p2)) p3) (.ref a) (.ref s4.heap.objs.size)) (EP X pins σ Q) X.xe { s4 with heap := s4.heap.push { cls := .type "slice", data := .fields #[vl, vu, vs] } }
    refine tail_any (ops := [.ref a, .ref s4.heap.objs.size]) ht.typeIs (PyProof.Rows.slot_tuple_getitem.lookup) ?_ (by with_unfolding_all rfl)
    refine getItem_tuple_rev ht (Heap.IsSliceOf.new _ vl vu vs) pl pu ps ?_ (by rw [List.size_toArray]; omega)
    refine ⟨.ref _, _, I5.laid (t' := s4.toks) (o := .frz (tupO its.toArray.toList.reverse.toArray) (.tup xs.reverse)) (fun b ob q => Heap.get?_push_of_some _ q) (Nat.le_refl _) ?_, rfl, q _ _ (I5.hok.fresh (Nat.le_refl _))⟩
    exact ⟨Heap.get?_push_size _ rfl, by rw [List.length_reverse]; exact hz, _, r.reverse, IsTup.new _ _⟩
theorem dtAll_rev {ws : List V} {ds : List D} (h : DtAll K F ws ds) : DtAll K F ws.reverse ds.reverse := by
  have key : ∀ {ws us : List V} {ds es : List D}, DtAll K F ws ds → DtAll K F us es → DtAll K F (ws.reverseAux us) (ds.reverseAux es) := by
    intro ws
    induction ws with
    | nil =>
      intro us ds es h k
      cases h
      exact k
    | cons w ws ih =>
      intro us ds es h k
      cases ds with
      | nil => cases h
      | cons d ds =>
        cases h with
        | cons h1 h2 =>
          show DtAll K F (ws.reverseAux (w :: us)) (ds.reverseAux (d :: es))
          exact ih h2 (.cons h1 k)
  have := key h .nil
  rwa [List.reverse, List.reverse]
theorem vr_rev : VR1 K (rRev K) revOp := by
  intro F H x dx s Q fh r e q
  unfold revOp at e
  split at e
  · rename_i ds
    cases e
    obtain ⟨a, ws, rfl, h1, h2⟩ := r.lst fh
    exact .inl ⟨a, ws, rfl, .of h1, fun p hp => q _ F _ (.laid fh hp) (.new_lst fh hp (dtAll_rev h2))⟩
  · rename_i ds
    cases e
    obtain ⟨a, ws, rfl, h1, h2, _⟩ := r.tup fh
    exact .inr ⟨a, ws, rfl, h1, fun p its hp => q _ _ _ (.froze fh hp) (Dt.new_tup fh hp (dtAll_rev h2))⟩
  · cases e
/-! ### x is True, x is not True, x a truth -/
def rIsB (neg : Bool) : R2 := fun x y H Q => ∃ a b, x = .bl a ∧ y = .bl b ∧ Q (.bl (if neg then !(a == b) else a == b)) H
theorem op_isB {X : Cx} : OpR X (compareOp .Is) (rIsB false) := by
  intro pins s σ H x y v u Q I rx ry h
  obtain ⟨a, b, rfl, rfl, q⟩ := h
  cases rx
  cases ry
  refine PySem.wpAny_is_plain (by cases a <;> cases b <;> rfl) (fin_bl I q ?_)
  cases a <;> cases b <;> rfl
theorem op_notB {X : Cx} : OpR X (compareOp .IsNot) (rIsB true) := by
  intro pins s σ H x y v u Q I rx ry h
  obtain ⟨a, b, rfl, rfl, q⟩ := h
  cases rx
  cases ry
  refine PySem.wpAny_isNot_plain (by cases a <;> cases b <;> rfl) (fin_bl I q ?_)
  cases a <;> cases b <;> rfl
def isBOp (neg : Bool) (x y : D) : Option Sl := match x, y with
  | .bool a, .bool b => some (.fr (.bool (if neg then !(a == b) else a == b)))
  | _, _ => none
theorem vr_isB {neg : Bool} : VR2 K (rIsB neg) (isBOp neg) := by
  intro F H x y dx dy s Q fh r1 r2 e q
  unfold isBOp at e
  split at e
  · rename_i a b
    cases e
    exact ⟨a, b, r1.bl, r2.bl, q _ F H (.refl fh) (.bl _)⟩
  · cases e
end
end DL

/-! Calls by keywords in the layer. -/
namespace DL
open PySem PySem.Spec PyProof.Rows L2 RZ
section
variable {X : Cx} {K : PySem.W.Frag} {mg : Str → Option Value} {E : XW} {W : Wd} {F0 B F H F' H' : Hp} {σ tv us vs : L2.St} {ρ ρ' tr ss : Evn} {v : V} {d : D} {s : Sl} {c c' : Cn} {p : Addr} {i : Nat} {α β : Type}
/-- the values of a call by keywords, in the parameters' order -/
def denK (is : List Nat) (den : Option Cn → List D → Ret) : Option Cn → List D → Ret
  | none, ds => den none (byIx is ds)
  | some _, _ => .bad
def spK (K : PySem.W.Frag) (mg : Str → Option Value) (m n : Nat) (is : List Nat) (den : Option Cn → List D → Ret) : Sp := fun vs H Q E => vs.length = m ∧ spD K mg n den (byIx is vs) H Q E
theorem dtAll_byIx (is : List Nat) {ws : List V} {ds : List D} (h : DtAll K F ws ds) : DtAll K F (byIx is ws) (byIx is ds) := by
  have at_ : ∀ {ws : List V} {ds : List D} (i : Nat), DtAll K F ws ds → (ws[i]? = none ∧ ds[i]? = none) ∨ ∃ v d, ws[i]? = some v ∧ ds[i]? = some d ∧ Dt K F v d := by
    intro ws
    induction ws with
    | nil =>
      intro ds i h
      cases h
      exact .inl ⟨by simp, by simp⟩
    | cons w ws ih =>
      intro ds i h
      cases h with
      | cons h1 h2 =>
        cases i with
        | zero => exact .inr ⟨_, _, rfl, rfl, h1⟩
        | succ i =>
          rcases ih i h2 with ⟨a, b⟩ | ⟨v, d, a, b, c⟩
          · exact .inl ⟨by simpa using a, by simpa using b⟩
          · exact .inr ⟨v, d, by simpa using a, by simpa using b, c⟩
  induction is with
  | nil => exact .nil
  | cons i is ih =>
    unfold byIx
    rcases at_ i h with ⟨a, b⟩ | ⟨v, d, a, b, c⟩
    · rw [List.filterMap_cons_none a, List.filterMap_cons_none b]
      exact ih
    · rw [List.filterMap_cons_some a, List.filterMap_cons_some b]
      exact .cons c ih
theorem spK_of {m n : Nat} {is : List Nat} {den : Option Cn → List D → Ret} (hi : ∀ i ∈ is, i < m) (hn : is.length = n) {vs : List V} {H : Hp} {Q : VK} {E : XK} (h : spD K mg m (denK is den) vs H Q E) : spK K mg m n is den vs H Q E := by
  obtain ⟨h1, F, ps, co, us, ds, h2, h3, h4, h5, h6⟩ := h
  cases co with
  | some c => exact h6.elim
  | none =>
    cases ps with
    | cons p ps => cases ps <;> exact (show False from h5).elim
    | nil =>
      have e : vs = us := h4
      subst e
      refine ⟨h1, ?_, F, [], none, byIx is vs, byIx is ds, h2, dtAll_byIx is h3, rfl, h5, h6⟩
      rw [byIx_len (fun i z => by rw [h1]; exact hi i z), hn]
theorem tj_callK {ta : TA} {f : Evn → Res (List Sl)} {m n : Nat} {is : List Nat} {den : Option Cn → List D → Ret} (hi : ∀ i ∈ is, i < m) (hn : is.length = n) (ha : TAJ K mg E ta f) (hm : ∀ ρ ss ρ', f ρ = .ok ss ρ' → ss.length = m) :
    TJ K mg E (tCallSD (spK K mg m n is den) [] E ta) (fCallV (denK is den) f) := tj_callVS (fun _ _ _ _ h => spK_of hi hn h) ha hm
/-- a def as keywords may call it -/
structure CalK (P : Program) (w : World) (K : PySem.W.Frag) (mg : Str → Option Value) (base : Heap) (x : Str) (ps ks : List Str) (is : List Nat) (lev : Nat) (sp : Sp) : Prop where
  ex : ∃ f fd, mg x = some (.ref f) ∧ PySem.W.keepIn K (.ref f) = true ∧ BindsK K fd ps ks is ∧ FnG P w K mg base (L2.CX P w) lev f fd ps sp
theorem bindsK_of {x qual : Str} {st : Stmt} {f : Addr} {fd : FuncData} {ps ks : List Str} {is : List Nat} (F : Fun K x qual st f fd)
    (h : ∀ (kV doc pm : Value) (an : Option Addr) (cdv ct : Value) (ws : List Value), ws.length = ks.length → bindArgs (PySem.W.fnOf x qual (defArgs st) (defBody st) (defScope st) .none kV doc pm an cdv ct) ⟨[], ks.zip ws⟩ = pure (ps.zip (byIx is ws))) : BindsK K fd ps ks is := by
  obtain ⟨oc, od, kV, doc, pm, an, cdv, ct, osl, rfl, lk, hcd⟩ := F.ex
  exact fun s ws _ hl => .of_eq (h kV doc pm an cdv ct ws hl)
theorem calK_mk {P : Program} {w : World} {base : Heap} {x : Str} {qual : Str} {st : Stmt} {f : Addr} {fd : FuncData} {ps ks : List Str} {is : List Nat} {lev : Nat} {sp : Sp} (F : Fun K x qual st f fd) (g : mg x = some (.ref f)) (b : BindsK K fd ps ks is) (h : FnG P w K mg base (L2.CX P w) lev f fd ps sp) : CalK P w K mg base x ps ks is lev sp := ⟨⟨f, fd, g, F.kp, b, h⟩⟩
theorem pe_calK {x : Str} {ps ks : List Str} {is : List Nat} {lev n : Nat} {den : Option Cn → List D → Ret} {p pos : Pos} {kws : List Keyword} {t : TA} {E : L2.St → XK} (C : CalK X.prog X.w X.K X.mg X.base x ps ks is lev (spD X.K X.mg n den)) (hr : RoomG lev X.A) (hg : Gl X x) (hx : ∀ σ, PassesAt (L2.CX X.prog X.w) X σ (E σ))
    (hkw : PK X kws t) (hall : (backToKw pos (keywordEach kws X.env)).all (·.1.isSome) = true := by rfl) (hks : (backToKw pos (keywordEach kws X.env)).filterMap (·.1) = ks := by rfl) (hdb : (x == ("__debug__" : Str)) = false := by decide)
    (hpl : ((backTo pos (starEach [] X.env)).any (·.1) || (backToKw pos (keywordEach kws X.env)).any (·.1.isNone)) = false := by rfl) :
    PE X (.Call (.Name x p) [] kws pos) (tCallSD (spK X.K X.mg ks.length n is den) [] E t) := by
  obtain ⟨f, fd, h1, h2, h3, h4⟩ := C.ex
  exact pe_callKG h4 hr hg h1 h2 h3 hx hkw hall hks hdb hpl
theorem pe_calKB {x : Str} {ps ks : List Str} {is : List Nat} {lev n : Nat} {den : Option Cn → List D → Ret} {p pos : Pos} {kws : List Keyword} {t : TA} {s : Shared} {H : Hp} {scope : Scope} {cenv : PySem.Env} {fp : List Addr} (C : CalK X.prog X.w X.K X.mg X.base x ps ks is lev (spD X.K X.mg n den)) (hr : RoomG lev X.A) (hg : Gl (X.blk s H scope cenv fp) x)
    (hkw : PK (X.blk s H scope cenv fp) kws t) (hall : (backToKw pos (keywordEach kws cenv)).all (·.1.isSome) = true := by rfl) (hks : (backToKw pos (keywordEach kws cenv)).filterMap (·.1) = ks := by rfl) (hdb : (x == ("__debug__" : Str)) = false := by decide)
    (hpl : ((backTo pos (starEach [] cenv)).any (·.1) || (backToKw pos (keywordEach kws cenv)).any (·.1.isNone)) = false := by rfl) :
    PE (X.blk s H scope cenv fp) (.Call (.Name x p) [] kws pos) (tCallSD (spK X.K X.mg ks.length n is den) [] FW t) :=
  pe_calK (X := X.blk s H scope cenv fp) C hr hg passF hkw hall hks hdb hpl
end
end DL

/-! xs.extend(ys) of a list that a slot holds alone, in the layer. -/
namespace DL
open PySem PySem.Spec PyProof.Rows L2 RZ
section
variable {K : PySem.W.Frag} {mg : Str → Option Value} {E : XW} {W : Wd} {F0 B F H F' H' : Hp} {σ tv us vs : L2.St} {ρ ρ' tr ss : Evn} {v : V} {d : D} {s : Sl} {c c' : Cn} {p : Addr} {i : Nat} {α β : Type}
def fExtend (i : Nat) (f : Evn → Res Sl) (ρ : Evn) : Res Sl := match ρ[i]? with
  | some (some t) => match t.own with
    | some _ => (fFz f ρ).bind fun s ρ1 => match s, ρ1[i]? with
      | .fr (.list zs), some (some t1) => match t1.own with
        | some (.lst ds) => if ds.length + zs.length < 100000 then .ok (.fr .none) (ρ1.set i (some (t1.put (.lst (ds ++ zs))))) else .bad
        | _ => .bad
      | _, _ => .bad
    | none => .bad
  | _ => .bad
theorem tj_extend {i : Nat} {te : TE} {f : Evn → Res Sl} (hf : TJ K mg E te f) : TJ K mg E (tBM K "list" rExtend (tVar i) (tCons te tNil)) (fExtend i f) := by
  intro W F H σ tv ρ tr Q L S hW
  unfold fExtend at hW
  split at hW
  · rename_i t e
    split at hW
    · rename_i c ho
      cases c with
      | lst ds =>
        obtain ⟨p, h1, h2, ws, h3, h4⟩ := S4.own_at L S e ho
        refine ⟨.ref p, h1, .inl ⟨rfl, ws, .of h3⟩, ?_⟩
        refine (tj_fz hf).run L S (fun _ _ _ h => h) hW fun s1 ρ1 x F1 H1 L1 S1 hW1 => ?_
        split at hW1
        · rename_i zs t1 e1
          split at hW1
          · rename_i ds1 ho1
            split at hW1
            · rename_i hz
              obtain ⟨p1, g1, g2, ws1, g3, g4⟩ := S4.own_at L1 S1 e1 ho1
              rw [h1] at g1
              cases g1
              have La := L1.cut (us := [some x]) (ss := [some (Sl.fr (.list zs))]) (by simp)
              have Sa := S4.cut L1 S1 (by simp)
              have dt := S4.top_fr L1 S1
              obtain ⟨b, ys, rfl, k1, k2⟩ : ∃ b ys, x = V.ref b ∧ H1 b = some (.lst ys) ∧ DtAll K F1 ys zs := by
                cases dt with
                | lst q1 q2 => exact ⟨_, _, rfl, S1.fh _ _ q1, q2⟩
              refine ⟨p, b, ws1, ys, rfl, rfl, g3, k1, by rw [dpAll_len g4, dpAll_len k2]; exact Nat.le_of_lt (line5' hz), hW1 .non F1 _ ?_⟩
              exact S4.push_non (S4.mut La Sa e1 ho1 h1 (fun a ha => upd_ne ha) ⟨_, upd_same, dpAll_app g4 k2⟩)
            · exact hW1.elim
          · exact hW1.elim
        · exact hW1.elim
    · exact hW.elim
  · exact hW.elim
/-! ### xs.insert(k, e) -/
def rIns : V → List V → Hp → VK → Prop := fun x vs H Q => ∃ (l : Addr) (xs : List V) (i : Int) (y : V), x = .ref l ∧ vs = [.int i, y] ∧ H l = some (.lst xs) ∧ xs.length < sizeLine ∧ 0 ≤ i ∧ i < 2 ^ 63 ∧
    Q .non (upd H l (.lst (xs.take i.toNat ++ [y] ++ xs.drop i.toNat)))
def fInsert (i : Nat) (f g : Evn → Res Sl) (ρ : Evn) : Res Sl := match ρ[i]? with
  | some (some t) => match t.own with
    | some _ => (f ρ).bind fun s ρ1 => match s with
      | .fr (.int k) => (fFz g ρ1).bind fun s2 ρ2 => match s2, ρ2[i]? with
        | .fr d, some (some t1) => match t1.own with
          | some (.lst ds) => if 0 ≤ k ∧ k < 100000 ∧ ds.length < 100000 then .ok (.fr .none) (ρ2.set i (some (t1.put (.lst (ds.take k.toNat ++ [d] ++ ds.drop k.toNat))))) else .bad
          | _ => .bad
        | _, _ => .bad
      | _ => .bad
    | none => .bad
  | _ => .bad
theorem tj_insert {i : Nat} {te tg : TE} {f g : Evn → Res Sl} (hf : TJ K mg E te f) (hg : TJ K mg E tg g) : TJ K mg E (tBM K "list" rIns (tVar i) (tCons te (tCons tg tNil))) (fInsert i f g) := by
  intro W F H σ tv ρ tr Q L S hW
  unfold fInsert at hW
  split at hW
  · rename_i t e
    split at hW
    · rename_i c ho
      cases c with
      | lst ds =>
        obtain ⟨p, h1, h2, ws, h3, h4⟩ := S4.own_at L S e ho
        refine ⟨.ref p, h1, .inl ⟨rfl, ws, .of h3⟩, ?_⟩
        refine hf.run L S (fun _ _ _ h => h) hW fun s1 ρ1 x F1 H1 L1 S1 hW1 => ?_
        split at hW1
        · rename_i k
          have dk := S4.top_fr L1 S1
          cases dk
          have La := L1.cut (us := [some (V.int k)]) (ss := [some (Sl.fr (.int k))]) (by simp)
          have Sa := S4.cut L1 S1 (by simp)
          refine (tj_fz hg).run La Sa (fun _ _ _ h => h) hW1 fun s2 ρ2 y F2 H2 L2 S2 hW2 => ?_
          split at hW2
          · rename_i d t1 e1
            split at hW2
            · rename_i ds1 ho1
              split at hW2
              · rename_i hz
                obtain ⟨p1, g1, g2, ws1, g3, g4⟩ := S4.own_at L2 S2 e1 ho1
                rw [h1] at g1
                cases g1
                have Lb := L2.cut (us := [some y]) (ss := [some (Sl.fr d)]) (by simp)
                have Sb := S4.cut L2 S2 (by simp)
                refine ⟨p, ws1, k, y, rfl, rfl, g3, by rw [dpAll_len g4]; exact line5' hz.2.2, hz.1, by have := hz.2.1; omega, hW2 .non F2 _ ?_⟩
                exact S4.push_non (S4.mut Lb Sb e1 ho1 h1 (fun a ha => upd_ne ha) ⟨_, upd_same, dpAll_app (dpAll_app (dpAll_take _ g4) (.cons (S4.top_fr L2 S2) .nil)) (dpAll_drop _ g4)⟩)
              · exact hW2.elim
            · exact hW2.elim
          · exact hW2.elim
        · exact hW1.elim
    · exact hW.elim
  · exact hW.elim
/-! ### a < b < c, of ints -/
def fChain (o1 o2 : D → D → Option Sl) (f g h : Evn → Res Sl) (ρ : Evn) : Res Sl := (f ρ).bind fun s1 ρ1 => match s1 with
  | .fr (.int i) => (g ρ1).bind fun s2 ρ2 => match s2 with
    | .fr (.int j) => match o1 (.int i) (.int j) with
      | some (.fr (.bool true)) => (h ρ2).bind fun s3 ρ3 => match s3 with
        | .fr (.int k) => match o2 (.int j) (.int k) with
          | some (.fr (.bool b)) => .ok (.fr (.bool b)) ρ3
          | _ => .bad
        | _ => .bad
      | some (.fr (.bool false)) => .ok (.fr (.bool false)) ρ2
      | _ => .bad
    | _ => .bad
  | _ => .bad
theorem tj_chain {ta tb tc : TE} {f g h : Evn → Res Sl} {r r' : R2} {o1 o2 : D → D → Option Sl} (h1 : VR2 K r o1) (h2 : VR2 K r' o2) (hf : TJ K mg E ta f) (hg : TJ K mg E tb g) (hh : TJ K mg E tc h) :
    TJ K mg E (tChain r r' ta tb tc) (fChain o1 o2 f g h) := by
  intro W F H σ tv ρ tr Q L S hW
  refine hf.run L S (fun _ _ _ h => h) hW fun s1 ρ1 x F1 H1 L1 S1 hW1 => ?_
  split at hW1
  · rename_i i
    have dk := S4.top_fr L1 S1
    cases dk
    have La := L1.cut (us := [some (V.int i)]) (ss := [some (Sl.fr (.int i))]) (by simp)
    have Sa := S4.cut L1 S1 (by simp)
    refine hg.run La Sa (fun _ _ _ h => h) hW1 fun s2 ρ2 y F2 H2 L2 S2 hW2 => ?_
    split at hW2
    · rename_i j
      have dj := S4.top_fr L2 S2
      cases dj
      have Lb := L2.cut (us := [some (V.int j)]) (ss := [some (Sl.fr (.int j))]) (by simp)
      have Sb := S4.cut L2 S2 (by simp)
      split at hW2
      · rename_i e
        refine h1 F2 H2 _ _ (.int i) (.int j) _ _ Sb.fh (.inl (.int i)) (.inl (.int j)) e fun v F' H' gr ok => ?_
        cases (show Dt K F' v (.bool true) from ok)
        refine ⟨true, rfl, ?_⟩
        rw [if_pos rfl]
        have Sr := S4.result (s := .fr (.bool true)) Sb gr ok
        have Sc : S4 K W F' H' σ tv ρ2 tr := S4.cut (us := [some (V.bl true)]) (ss := [some (Sl.fr (.bool true))]) ⟨Lb.s, Lb.r, by simp [Lb.t]⟩ Sr (by simp)
        refine hh.run Lb Sc (fun _ _ _ h => h) hW2 fun s3 ρ3 z F3 H3 L3 S3 hW3 => ?_
        split at hW3
        · rename_i k
          have dz := S4.top_fr L3 S3
          cases dz
          have Ld := L3.cut (us := [some (V.int k)]) (ss := [some (Sl.fr (.int k))]) (by simp)
          have Sd := S4.cut L3 S3 (by simp)
          split at hW3
          · rename_i b e2
            exact h2 F3 H3 _ _ (.int j) (.int k) _ Q Sd.fh (.inl (.int j)) (.inl (.int k)) e2 fun v F' H' g ok => hW3 v F' H' (S4.result Sd g ok)
          · exact hW3.elim
        · exact hW3.elim
      · rename_i e
        refine h1 F2 H2 _ _ (.int i) (.int j) _ _ Sb.fh (.inl (.int i)) (.inl (.int j)) e fun v F' H' gr ok => ?_
        cases (show Dt K F' v (.bool false) from ok)
        refine ⟨false, rfl, ?_⟩
        rw [if_neg (by decide)]
        exact hW2 (.bl false) F' H' (S4.result (s := .fr (.bool false)) Sb gr ok)
      · exact hW2.elim
    · exact hW2.elim
  · exact hW1.elim
end
end DL

/-! Set comprehensions of nested keys: a growing set as a tracked thing, x.add(y). -/
namespace GS
open PySem PySem.Spec PyProof.Rows L2
section
variable {P : Program} {w : World} {A : Around} {E : Value → Shared → Prop} {s : Shared} {tup : Bool}
/-- set.add of a key -/
theorem call_add {a : Addr} {ms : List Mb} {es : Array (Int × Value)} {ep : Nat} {t : SetTable} (R : SG w tup s.heap a ms es ep t) {m : Mb} (hm : KeyAt s.heap m) (hk : Takes1 tup m) (hu : A.units + 16 < cLine) (room : ms.length + 1 < 64) {Q : Value → Shared → Prop}
    (hQ : ∀ h' tk ms' es' ep' t', s.toks ≤ tk → Heap.SameBut a s.heap h' → SG w tup h' a ms' es' ep' t' → (m.2 ∈ ms.map (·.2) → ms' = ms) → (m.2 ∉ ms.map (·.2) → ms'.Perm (m :: ms)) → Q .none { s with heap := h', toks := tk }) :
    wpAny (model P w) A (call (.builtin "set.add") [.ref a, m.1]) Q E s := by
  obtain ⟨o, ho, hex, hd⟩ := R.ob
  refine wpAny_call_entry F.slot_set_add ⟨o, ho, hex.1⟩ F.entry_set_add ?_ (F.args_set_add_2 _ _)
  unfold Builtin.«set.add» Builtin.Frozenset.oneOther
  simp only [List.isEmpty_nil, bind_assoc]
  unfold Builtin.Frozenset.addrOf
  refine wpAny_bind (wpAny_pure ?_)
  try dsimp only
  refine wpAny_bind (wpAny_pure ?_)
  try dsimp only
  refine wpAny_bind ?_
  refine add_any R hm hk ?_ room fun b h' tk ms' es' ep' t' l sb r c1 c2 => ?_
  · show A.units + 1 + 9 < cLine
    omega
  · exact wpAny_pure ⟨_, rfl, hQ h' tk ms' es' ep' t' l sb r c1 c2⟩
/-- what a set's own object tells, its members' objects aside -/
def SGw (w : World) (tup : Bool) (h : Heap) (a : Addr) (ms : List Mb) : Prop := ∃ (es : Array (Int × Value)) (ep : Nat) (t : SetTable), (∃ o, h.get? a = some o ∧ o.ExactSet ∧ o.data = .set es ep t) ∧ es.toList = ms.map (ent w) ∧ (ms.map (·.2)).Nodup ∧
  Ris t.place.toList ∧ t.fits es.size = true ∧ (w.params.followText "set-order" = true ∨ t.led = true) ∧ ms.length < 64 ∧ Mode w tup ms t
theorem SG.weak {h : Heap} {a : Addr} {ms : List Mb} {es : Array (Int × Value)} {ep : Nat} {t : SetTable} (R : SG w tup h a ms es ep t) : SGw w tup h a ms := ⟨es, ep, t, R.ob, R.rows, R.nd, R.ris, R.fit, R.led, R.few, R.mode⟩
theorem SGw.full {h : Heap} {a : Addr} {ms : List Mb} (R : SGw w tup h a ms) (k : ∀ m ∈ ms, KeyAt h m) : ∃ es ep t, SG w tup h a ms es ep t := by
  obtain ⟨es, ep, t, h1, h2, h3, h4, h5, h6, h7, h8⟩ := R
  exact ⟨es, ep, t, h1, h2, h3, k, h4, h5, h6, h7, h8⟩
def SetGO (w : World) (tup : Bool) (a : Addr) (ms : List Mb) : HO := .ext fun h => SGw w tup h a ms
theorem setGO_new {H : Hp} {h : Heap} {a : Addr} {ms : List Mb} (R : SGw w tup h a ms) : ObjOk P w H h a (SetGO w tup a ms) := by
  have ⟨_, _, _, ⟨o, ho, _⟩, _⟩ := R
  refine ⟨R, ⟨o, ho⟩, fun h1 h2 p k => ?_⟩
  obtain ⟨es, ep, t, ⟨o, ho, hx⟩, r⟩ := p
  exact ⟨es, ep, t, ⟨o, k _ ho, hx⟩, r⟩
end
section
variable {X : Cx}
theorem setGO_get {pins : List (Addr × Obj)} {σ : L2.St} {H : Hp} {s : Shared} {tup : Bool} {a : Addr} {ms : List Mb} (I : Inv X pins σ H s) (ha : H a = some (SetGO X.w tup a ms)) : SGw X.w tup s.heap a ms := (I.hok a _ ha).1
theorem addG_ok {pins : List (Addr × Obj)} {σ : L2.St} {H : Hp} {s : Shared} {E : Value → Shared → Prop} {tup : Bool} {D : Addr} {ms : List Mb} {m : Mb} {Q : Value → Shared → Prop} (I : Inv X pins σ H s) (hD : H D = some (SetGO X.w tup D ms)) (mk : ∀ n ∈ ms, KeyAt s.heap n)
    (hm : KeyAt s.heap m) (hk : Takes1 tup m) (hu : X.A.units + 16 < cLine) (room : ms.length + 1 < 64)
    (h : ∀ s' ms', Inv X pins σ (upd H D (SetGO X.w tup D ms')) s' → (m.2 ∈ ms.map (·.2) → ms' = ms) → (m.2 ∉ ms.map (·.2) → ms'.Perm (m :: ms)) → Q .none s') : wpAny (model X.prog X.w) X.A (call (.builtin "set.add") [.ref D, m.1]) Q E s := by
  obtain ⟨es, ep, t, R⟩ := (setGO_get I hD).full mk
  refine call_add R hm hk hu room fun h' tk ms' es' ep' t' l sb new c1 c2 => ?_
  have he : ∃ u, h'.get? D = some u := by
    obtain ⟨o, ho, _⟩ := new.ob
    exact ⟨o, ho⟩
  exact h _ ms' (I.write (e := D) (t' := tk) (by rw [hD]; trivial) (.inl rfl) (fun b u hb hu => (sb.2 b hb).trans hu) he (setGO_new new.weak)) c1 c2
end
end GS

/-! {elt for target in iter if ..} over any way of keeping the set. -/
namespace GS
open PySem PySem.Spec PyProof.Rows L2 PpSet
/-- u goes into the set at D by this way -/
def AddR (Y : Cx) (ad : Addr → V → Hp → (Hp → Prop) → Prop) : Prop :=
  ∀ (ps : List (Addr × Obj)) (τ : L2.St) (G : Hp) (t : Shared) (D : Addr) (y : V) (u : Value) (nx : Hp → Prop) (Er : Value → Shared → Prop), Inv Y ps τ G t → RelV y u → ad D y G nx →
    wpAny (model Y.prog Y.w) Y.A (call (.builtin "set.add") [.ref D, u]) (fun _ t' => ∃ G', Inv Y ps τ G' t' ∧ nx G') Er t
section
variable {X : Cx}
/-- what the comprehension owes -/
def tScA (o0 : Addr → HO) (ad : Addr → V → Hp → (Hp → Prop) → Prop) (wi : TI) (g : TG) (tt : TT) (te : TE) (vs : List Nat) : TE := fun τ G Q => wi τ G fun J G1 => ∀ D, G1 D = none →
  ∃ W : Nat → Nat → Hp → Prop, (∃ m, W 0 m (upd G1 D (o0 D))) ∧ ∀ i m G2, W i m G2 → (J.stop i G2 ∧ Q (.ref D) G2) ∨
    (J.go i G2 ∧ ∃ nx : Hp → Prop, (∀ G', nx G' → ∃ m', m' < m ∧ W (i + 1) m' G') ∧
      ∀ x G', J.yld i G2 x G' → g x (wipe τ vs) G' fun τ2 G3 => wipe τ2 vs = wipe τ vs ∧ tt τ2 G3 fun b G4 => if b = true then te τ2 G4 fun y G5 => ad D y G5 nx else nx G4)
theorem scA_core {o0 : Addr → HO} {ad : Addr → V → Hp → (Hp → Prop) → Prop} {ps : List (Addr × Obj)} {t : Shared} {τ : L2.St} {G : Hp} {Q : VK} {elt tg iter : Expr} {ifs : List Expr} {scope : Scope} {own : List (PySem.Str × Nat)} {p p' : Pos} {wi : TI} {g : TG} {tt : TT} {te : TE}
    {use : Option (Value → Sem Unit)} {Qf : Value → Shared → Prop} (calm : X.calm = true) (hN : X.N.Nodup) (hnew : ∀ (Z : Hp) (h : Heap), ObjOk X.prog X.w Z (h.push (newSetObj X.w)) h.objs.size (o0 h.objs.size))
    (hadd : ∀ (t0 : Shared) (G0 : Hp) (ce : PySem.Env) (fp : List Addr), AddR (X.blk t0 G0 scope ce fp) ad)
    (I : Inv X ps τ G t) (hi : PI X tg iter wi) (ok : BlkOk X.N X.env.scope scope own)
    (hg : ∀ (t0 : Shared) (G0 : Hp) (C : Addr) (cl : List (PySem.Str × Addr)) (fp : List Addr), PG (X.blk t0 G0 scope (compEnvC scope cl C X.env) fp) tg g)
    (ht : ∀ (t0 : Shared) (G0 : Hp) (C : Addr) (cl : List (PySem.Str × Addr)) (fp : List Addr), PTs (X.blk t0 G0 scope (compEnvC scope cl C X.env) fp) ifs tt)
    (he : ∀ (t0 : Shared) (G0 : Hp) (C : Addr) (cl : List (PySem.Str × Addr)) (fp : List Addr), PE (X.blk t0 G0 scope (compEnvC scope cl C X.env) fp) elt te)
    (hs : ∀ x, foldedSetIterable iter X.env x = pure x) (owes : tScA o0 ad wi g tt te (own.map (·.2)) τ G Q)
    (fin : ∀ D C t' m G', Inv X ps τ G' t' → Q (.ref D) G' → t'.heap.Ns C m → FpOk X ps G' C → compPost (model X.prog X.w) X.A X.xe use Qf (.ref D) C (.ok .next) t') :
    wpAny (model X.prog X.w) X.A (comprehension (.SetComp elt [⟨tg, iter, ifs, 0⟩] scope p) scope X.env p' (newSet (.type "set")) false (eval iter X.env) use) Qf X.xe t := by
  have frees : ∀ z ∈ scope.names, z.2 = .free → ∃ c, X.env.cells.lookup z.1 = some c := fun z hz e => (ok.free z hz e).elim (fun k => I.ok.has _ (.inl k)) fun k => I.ok.has _ (.inr k)
  refine wpAny_comprehension_free (use := use) rfl hs (closure_ok frees) ok.kind (fun z hz e => by rw [ok.uniq z hz, e]) ?_
  refine thn (hi.run ps t τ G _ I owes) fun xv t1 hx => ?_
  refine thn hx fun itv t2 hit => ?_
  obtain ⟨it, fp, tn, J, G2, rfl, I2, T, here, fps, rest⟩ := hit
  refine newSet_ok (newEnv_comp ?_)
  obtain ⟨D, hD⟩ : ∃ D, D = t2.heap.objs.size := ⟨_, rfl⟩
  obtain ⟨W, ⟨m0, w0⟩, turns⟩ := rest D (I2.hok.fresh (Nat.le_of_eq hD.symm))
  -- the state behind the new set
  obtain ⟨t3, e3⟩ : ∃ t3 : Shared, t3 = { t2 with heap := t2.heap.push (newSetObj X.w) } := ⟨_, rfl⟩
  obtain ⟨G3, eG3⟩ : ∃ G3, G3 = upd G2 D (o0 D) := ⟨_, rfl⟩
  have I3 : Inv X ps τ G3 t3 := by
    rw [e3, eG3]
    refine I2.laid (t' := t2.toks) (fun c ob q => Heap.get?_push_of_some _ q) (Nat.le_of_eq hD.symm) ?_
    rw [hD]
    exact hnew _ _
  have heap3 : t3.heap = t2.heap.push (newSetObj X.w) := by rw [e3]
  have kept3 : ∀ c ob, t2.heap.get? c = some ob → t3.heap.get? c = some ob := fun c ob q => by rw [heap3]; exact Heap.get?_push_of_some _ q
  have small : ∀ c ∈ fp, c < t2.heap.objs.size := fun c hc => by
    obtain ⟨ob, q, _⟩ := T.obj _ _ here c hc
    exact Heap.lt_size q
  have fp3 : ∀ c ∈ fp, FpOk X ps G3 c ∧ c < t3.heap.objs.size := fun c hc => by
    have lt := small c hc
    refine ⟨⟨?_, (fps c hc).2⟩, by rw [heap3, Heap.size_push]; exact Nat.lt_succ_of_lt lt⟩
    rw [eG3, upd_ne (by rw [hD]; exact Nat.ne_of_lt lt)]
    exact (fps c hc).1
  have here3 : tn 0 t3.heap := T.keep _ _ _ here fun c _ ob q => kept3 c ob q
  -- the block
  obtain ⟨C, eC⟩ : ∃ C, C = t3.heap.objs.size := ⟨_, rfl⟩
  obtain ⟨ce, ece⟩ : ∃ ce, ce = compEnvC scope (cellsFrom (t3.heap.objs.size + 1) scope.names (cloFrom X.env.cells scope.names [])) t3.heap.objs.size X.env := ⟨_, rfl⟩
  have I4 := block_start I3 ok hN fp3
  rw [← ece] at I4
  have tgt := hg t3 G3 t3.heap.objs.size (cellsFrom (t3.heap.objs.size + 1) scope.names (cloFrom X.env.cells scope.names [])) fp
  have tst := ht t3 G3 t3.heap.objs.size (cellsFrom (t3.heap.objs.size + 1) scope.names (cloFrom X.env.cells scope.names [])) fp
  have ele := he t3 G3 t3.heap.objs.size (cellsFrom (t3.heap.objs.size + 1) scope.names (cloFrom X.env.cells scope.names [])) fp
  rw [← ece] at tgt tst ele
  have locC : ce.locals = C := by rw [ece, eC]; rfl
  obtain ⟨t4, e4⟩ : ∃ t4 : Shared, t4 = { t3 with heap := pushCells (t3.heap.push { cls := .type "dict", data := .dict #[] }) scope.names } := ⟨_, rfl⟩
  rw [← e4] at I4
  have here4 : tn 0 t4.heap := T.keep _ _ _ here3 fun c _ ob q => by rw [e4]; exact pushCells_keeps _ _ _ _ (Heap.get?_push_of_some _ q)
  have clean : ∀ c ∈ fp, G3 c = none := fun c hc => (fp3 c hc).1.1
  have still : ∀ {τ' : L2.St} {G' : Hp} {t' : Shared}, Inv (X.blk t3 G3 scope ce fp) [] τ' G' t' → (∀ c ∈ fp, G' c = none) → ∀ c ∈ fp, FpOk (X.blk t3 G3 scope ce fp) [] G' c := fun {τ' G' t'} I' nn c hc =>
    ⟨nn c hc, (I'.ok.exf c hc).1, I'.ok.exfs c hc, .inl hc, fun z a q => (I'.ok.exf c hc).2 z a q, fun r hr => by simp at hr⟩
  have run : codeAny (model X.prog X.w) X.A (.compLoop (.SetComp elt [⟨tg, iter, ifs, 0⟩] scope p) 0 (.ref it) (.ref D) ce) (compPost (model X.prog X.w) X.A X.xe use Qf (.ref D) C) t4 := by
    refine compLoopS_any (fun n t' => ∃ i G', Inv (X.blk t3 G3 scope ce fp) [] (wipe τ (own.map (·.2))) G' t' ∧ tn i t'.heap ∧ (∀ c ∈ fp, G' c = none) ∧ W i n G') ?_ m0 ⟨0, G3, I4, here4, clean, by rw [eG3]; exact w0⟩
    rintro n t5 ⟨i, G5, I5, here5, clean5, w5⟩
    rcases turns i n G5 w5 with ⟨stops, qf⟩ | ⟨goes, nx, next, one⟩
    · have over := T.done (X.blk t3 G3 scope ce fp) rfl rfl rfl calm i [] t5 _ G5 (fun _ _ => False) I5 (still I5 clean5) here5 stops
      refine thnF over fun r t6 hr => ?_
      obtain ⟨rfl, I6⟩ := hr
      have I7 : Inv X ps τ G5 t6 := I3.call' (ch := fp) I6.os I6.base I6.hok I6.bare fun c hc => ⟨(fp3 c hc).1.2.2.2.1, (fp3 c hc).1.2.1, (fp3 c hc).1.2.2.2.2.1, (fp3 c hc).1.2.2.2.2.2⟩
      have freeC : G5 t3.heap.objs.size = none := by
        have z : G5 ce.locals = none := I6.free
        rwa [locC, eC] at z
      obtain ⟨m, hns, _⟩ := I6.loc
      have hns' : t6.heap.Ns ce.locals m := hns
      rw [locC] at hns'
      refine fin D C t6 m G5 I7 qf hns' ?_
      rw [eC]
      exact I3.fpOk (Nat.le_refl _) freeC
    · have item := T.item (X.blk t3 G3 scope ce fp) rfl rfl rfl calm i [] t5 _ G5 (fun _ _ => False) I5 (still I5 clean5) here5 goes
      refine thnF item fun r t6 hr => ?_
      obtain ⟨u, rfl, h6⟩ := hr
      refine thnF h6 fun _ t7 h7 => ?_
      obtain ⟨x, G7, I7, r7, y7, here7, clean7⟩ := h7
      have I7p := I7.pinned (still I7 clean7) (T.obj _ _ here7)
      refine thnF (tgt.run _ t7 _ G7 x u _ I7p r7 (one x G7 y7)) fun _ t8 h8 => ?_
      obtain ⟨τ8, G8, I8, wp8, q8⟩ := h8
      refine thnF (tst.run _ t8 τ8 G8 _ I8 q8) fun b t9 h9 => ?_
      obtain ⟨G9, I9, q9⟩ := h9
      have close : ∀ {t' : Shared} {G' : Hp}, Inv (X.blk t3 G3 scope ce fp) ([] ++ pinsAt fp t7.heap) τ8 G' t' → nx G' →
          ∃ m, m < n ∧ ∃ i G', Inv (X.blk t3 G3 scope ce fp) [] (wipe τ (own.map (·.2))) G' t' ∧ tn i t'.heap ∧ (∀ c ∈ fp, G' c = none) ∧ W i m G' := fun {t' G'} I' hn => by
        obtain ⟨m', lt, w'⟩ := next G' hn
        have pinned : ∀ c ∈ fp, ∀ ob, t7.heap.get? c = some ob → t'.heap.get? c = some ob ∧ G' c = none := fun c hc ob q => by
          have z := I'.pin (c, ob) (List.mem_append_right _ (List.mem_append_right _ (mem_pinsAt hc q)))
          exact ⟨z.1, z.2.1⟩
        have len : (wipe τ (own.map (·.2))).length = τ8.length := by rw [← wp8, wipe_length]
        refine ⟨m', lt, i + 1, G', (I'.unpinned (pins := [])).weak len (fun j v q => ?_), T.keep _ _ _ here7 fun c hc ob q => (pinned c hc ob q).1, fun c hc => ?_, w'⟩
        · rw [← wp8] at q
          exact (wipe_some q).1
        · obtain ⟨ob, q, _⟩ := T.obj _ _ here7 c hc
          exact (pinned c hc ob q).2
      cases b with
      | false => exact close I9 q9
      | true =>
        refine thnF (ele.run _ t9 τ8 G9 _ I9 q9) fun z t10 h10 => ?_
        obtain ⟨yv, G10, I10, r10, q10⟩ := h10
        refine wpAny_mono (hadd t3 G3 ce fp _ τ8 G10 t10 D yv z nx _ I10 r10 q10) (fun _ t11 h11 => ?_) fun _ _ k => k
        obtain ⟨G11, I11, q11⟩ := h11
        exact close I11 q11
  have whole := codeAny_compStart_set run (T.self X.A 0 _ _ _ here4 run)
  rw [ece, e4] at whole
  rw [eC] at whole
  subst e3
  subst hD
  exact whole
end
end GS

/-! A set that is frozen on the way, exchanged for a grown one. -/
namespace DL
open PySem PySem.Spec PyProof.Rows L2 RZ GS
section
variable {K : PySem.W.Frag} {mg : Str → Option Value} {E : XW} {W : Wd} {N : Nat} {ios : List Addr} {F0 B F H F' H' : Hp} {σ tv us vs : L2.St} {ρ ρ' tr ss : Evn} {v : V} {d : D} {s : Sl} {c c' : Cn} {p : Addr} {i : Nat} {α β : Type}
theorem sqN_swap {φ : Heap → Prop} {o' : HO} (hp : F p = some (.ext φ)) {a : Addr} {xs : List V} (h : SqN F a xs) : SqN (upd F p o') a xs := by
  obtain ⟨o, h⟩ := h
  refine ⟨o, ?_⟩
  rw [upd_ne fun z => ?_]
  · exact h
  · rw [z, hp] at h; cases h
mutual
theorem dt_swap {φ : Heap → Prop} {o' : HO} (hp : F p = some (.ext φ)) : ∀ (d : D) (v : V), Dt K F v d → Dt K (upd F p o') v d
  | .none, _, h => by cases h; exact .non
  | .bool b, _, h => by cases h; exact .bl b
  | .int i, _, h => by cases h; exact .int i
  | .str x, _, h => by cases h; exact .str x
  | .list ds, _, h => by
    cases h with
    | lst hs ha =>
      refine .lst ?_ (dtAll_swap hp ds _ ha)
      rw [upd_ne fun z => ?_]
      · exact hs
      · rw [z, hp] at hs; cases hs
  | .tuple ds, _, h => by
    cases h with
    | tup hs ha => exact .tup (sqN_swap hp hs) (dtAll_swap hp ds _ ha)
  | .dict _, _, h => by cases h
theorem dtAll_swap {φ : Heap → Prop} {o' : HO} (hp : F p = some (.ext φ)) : ∀ (ds : List D) (vs : List V), DtAll K F vs ds → DtAll K (upd F p o') vs ds
  | [], _, h => by cases h; exact .nil
  | d :: ds, _, h => by
    cases h with
    | cons h1 h2 => exact .cons (dt_swap hp d _ h1) (dtAll_swap hp ds _ h2)
end
theorem SR.swap (S : SR K N ios F0 B F H σ ρ) {φ : Heap → Prop} {o' : HO} (hp : F p = some (.ext φ)) (h0 : F0 p = none) (hb : B p = none) : SR K N ios F0 B (upd F p o') (upd H p o') σ ρ := by
  have keep : ∀ {a : Addr} {c : Cn}, F a = none → CRep K F H a c → upd F p o' a = none ∧ CRep K (upd F p o') (upd H p o') a c := fun {a c} h1 h2 => by
    have ne : a ≠ p := fun z => by rw [z, hp] at h1; cases h1
    refine ⟨by rw [upd_ne ne]; exact h1, ?_⟩
    cases c with
    | lst ds =>
      obtain ⟨ws, e1, e2⟩ := h2
      exact ⟨ws, by rw [upd_ne ne]; exact e1, dtAll_swap hp _ _ e2⟩
  refine ⟨S.len, Same.upd2 S.fh, fun a o e => ?_, fun a z => ?_, fun a o e n => ?_, fun a z => ?_, fun i d e => ?_, fun i c e => ?_, fun i j c e => ?_, S.br, S.sep⟩
  · have ne : a ≠ p := fun z => by rw [z, h0] at e; cases e
    rw [upd_ne ne]
    exact S.f0 a o e
  · by_cases ha : a = p
    · rw [ha]; exact .inr hb
    · rw [upd_ne ha] at z; exact S.fn a z
  · have ne : a ≠ p := fun z => by rw [z, hb] at e; cases e
    rw [upd_ne ne]
    exact S.bh a o e n
  · by_cases ha : a = p
    · rw [ha, upd_same]; exact fun z => nomatch z
    · rw [upd_ne ha]; exact S.bs a z
  · obtain ⟨v, h1, h2⟩ := S.fr i d e
    exact ⟨v, h1, dt_swap hp _ _ h2⟩
  · obtain ⟨a, h1, h2, h3, h4⟩ := S.ow i c e
    obtain ⟨h5, h6⟩ := keep h3 h4
    exact ⟨a, h1, h2, h5, h6⟩
  · obtain ⟨a, h1, h2, h3, h4⟩ := S.io i j c e
    obtain ⟨h5, h6⟩ := keep h3 h4
    exact ⟨a, h1, h2, h5, h6⟩
theorem S4.swap (S : S4 K W F H σ tv ρ tr) {φ : Heap → Prop} {o' : HO} (hp : F p = some (.ext φ)) (h0 : W.F0 p = none) (hb : W.B p = none) : S4 K W (upd F p o') (upd H p o') σ tv ρ tr := SR.swap S hp h0 hb
end
end DL

/-! Adding a frozen key to a growing set; sorted({.. for ..}). -/
namespace DL
open PySem PySem.Spec PyProof.Rows L2 RZ GS
/-- a member as the layer knows it -/
def KeyOf (K : PySem.W.Frag) (F : Hp) (tup : Bool) (m : Mb) : Prop := ∃ x, RelV x m.1 ∧ Dt K F x m.2.data ∧ kyD m.2.data = some m.2 ∧ m.2.depth ≤ 8 ∧ (if tup = true then isTup m.2 else isTxt m.2) = true
def adG (K : PySem.W.Frag) (w : World) (tup : Bool) : Addr → V → Hp → (Hp → Prop) → Prop := fun a y G nx => ∃ (F : Hp) (ms : List Mb) (k : NestedKey), G a = some (SetGO w tup a ms) ∧ Same F G ∧ Dt K F y k.data ∧ kyD k.data = some k ∧ k.depth ≤ 8 ∧
  (if tup = true then isTup k else isTxt k) = true ∧ (∀ m ∈ ms, KeyOf K F tup m) ∧ ms.length + 1 < 64 ∧
  ∀ v ms', RelV y v → (k ∈ ms.map (·.2) → ms' = ms) → (k ∉ ms.map (·.2) → ms'.Perm ((v, k) :: ms)) → nx (upd G a (SetGO w tup a ms'))
theorem addR_ok {Y : Cx} {tup : Bool} (hu : Y.A.units + 16 < cLine) : AddR Y (adG Y.K Y.w tup) := by
  intro ps τ G t a y u nx Er I r h
  obtain ⟨F, ms, k, hD, fh, hd, hk, dep, tk, mk, room, q⟩ := h
  have km : KeyAt t.heap (u, k) := ⟨nested_of I fh _ y u k hd r hk, dep⟩
  refine addG_ok (m := (u, k)) I hD (fun m hm => ?_) km (takes_keys km.1 tk) hu room fun s' ms' I' c1 c2 => ⟨_, I', q u ms' r c1 c2⟩
  obtain ⟨x, h1, h2, h3, h4, _⟩ := mk m hm
  exact ⟨nested_of I fh _ x m.1 m.2 h2 h1 h3, h4⟩
theorem setG_fresh {P : Program} {w : World} {tup : Bool} (Z : Hp) (h : Heap) : ObjOk P w Z (h.push (newSetObj w)) h.objs.size (SetGO w tup h.objs.size []) :=
  setGO_new (SG.weak (SG.new (w := w) (tup := tup) (Heap.get?_push_size _ rfl)))
end DL

/-! sorted(s), s a tracked set of keys; {.. for ..} as a value. -/
namespace DL
open PySem PySem.Spec PyProof.Rows L2 RZ GS
def rSortG (K : PySem.W.Frag) (w : World) (tup : Bool) : List V → Hp → VK → Prop := fun xs H Q => ∃ (F : Hp) (a : Addr) (ms : List Mb), xs = [.ref a] ∧ H a = some (SetGO w tup a ms) ∧ Same F H ∧ (∀ m ∈ ms, KeyOf K F tup m) ∧
  PySem.W.AllAlike (ms.map fun m => m.2.data) ∧ (∀ x ∈ ms.map (·.2), ∀ y ∈ ms.map (·.2), PySem.W.keyToks x.data = PySem.W.keyToks y.data → x = y) ∧ (∀ m ∈ ms, m.2.data.depth ≤ 50) ∧
  ∀ p ys, H p = none → DtAll K F ys (sortD ((ms.map (·.2)).map NestedKey.data)) → Q (.ref p) (upd H p (.lst ys))
theorem cr_sortG {X : Cx} {tup : Bool} (hc : X.calm = true) (hu : X.A.units + 64 < cLine) : CallR X (.builtin "sorted") (rSortG X.K X.w tup) := by
  intro pins s σ H xs us Q I r h
  obtain ⟨F, a, ms, rfl, hs, fh, mk, al, un, dp, q⟩ := h
  rw [Vals.ref1 r]
  have ka : ∀ m ∈ ms, KeyAt s.heap m := fun m hm => by
    obtain ⟨x, h1, h2, h3, h4, _⟩ := mk m hm
    exact ⟨nested_of I fh _ x m.1 m.2 h2 h1 h3, h4⟩
  have few : ms.length < 64 := by
    obtain ⟨_, _, _, _, _, _, _, _, _, few, _⟩ := setGO_get I hs
    exact few
  obtain ⟨es, ep, t, R⟩ := (setGO_get I hs).full ka
  refine sorted_sg R (I.ok.hd hc) (fun m hm => ?_) al ?_ hu dp fun s' p out c ms1 k2 g o hp hg hpm hout => ?_
  · obtain ⟨x, h1, h2, _⟩ := mk m hm
    exact Dp.reads I _ _ _ (dt_dp _ _ (dp_mono fh _ _ h2)) h1
  · cases tup with
    | true =>
      refine .inl fun d hd => ?_
      obtain ⟨m, hm, rfl⟩ := List.mem_map.mp hd
      obtain ⟨_, _, _, _, _, tk⟩ := mk m hm
      obtain ⟨x, e⟩ := tup_of (by simpa using tk)
      rw [e]
      exact ⟨_, rfl⟩
    | false =>
      refine .inr fun d hd => ?_
      obtain ⟨m, hm, rfl⟩ := List.mem_map.mp hd
      obtain ⟨_, _, _, _, _, tk⟩ := mk m hm
      obtain ⟨x, e⟩ := txt_of (by simpa using tk)
      rw [e]
      exact ⟨(fun z => nomatch z), fun xs z => nomatch z⟩
  · have pm2 : (ms1.map (·.2)).Perm (ms.map (·.2)) := hpm.map _
    have hsame : sortD ((ms1.map (·.2)).map NestedKey.data) = sortD ((ms.map (·.2)).map NestedKey.data) := sort_same pm2 fun x hx y hy e => un x (pm2.mem_iff.mp hx) y (pm2.mem_iff.mp hy) e
    rw [hsame] at hout
    obtain ⟨ys, v1, v2⟩ := of_each (K := X.K) (F := F) (hout.mono fun v d hv => by
      obtain ⟨m, hm, e1, e2⟩ := hv
      obtain ⟨x, y1, y2, _⟩ := mk m hm
      exact ⟨x, by rw [e1]; exact y1, by rw [e2]; exact y2⟩)
    have hlen : ys.length ≤ sizeLine := by
      rw [dpAll_len v2]
      unfold sortD
      rw [List.length_mergeSort, List.length_map, List.length_map, sizeLine_eq]
      omega
    have hn : H p = none := I.hok.fresh hp
    have J : Inv X pins σ (upd H p (.lst ys)) { s with heap := s'.heap, gens := s'.gens, drawn := s'.drawn, toks := s'.toks } :=
      I.call (ch := []) (Un.laid k2 hp hn) (I.hok.laid k2 hp ⟨hlen, out, c, v1, hg⟩) (by rw [g]; exact I.bare) (fun _ z => nomatch z)
    have e : s' = { s with heap := s'.heap, gens := s'.gens, drawn := s'.drawn, toks := s'.toks } := by
      cases s'
      cases s
      cases o
      rfl
    rw [e]
    exact ⟨.ref p, _, J, rfl, q p ys hn v2⟩
section
variable {X : Cx}
theorem pe_scA {o0 : Addr → HO} {ad : Addr → V → Hp → (Hp → Prop) → Prop} {elt tg iter : Expr} {ifs : List Expr} {scope : Scope} {own : List (PySem.Str × Nat)} {pos : Pos} {wi : TI} {g : TG} {tt : TT} {te : TE} (calm : X.calm = true) (hN : X.N.Nodup)
    (hnew : ∀ (Z : Hp) (h : Heap), ObjOk X.prog X.w Z (h.push (newSetObj X.w)) h.objs.size (o0 h.objs.size)) (hadd : ∀ (t0 : Shared) (G0 : Hp) (ce : PySem.Env) (fp : List Addr), AddR (X.blk t0 G0 scope ce fp) ad)
    (hi : PI X tg iter wi) (ok : BlkOk X.N X.env.scope scope own)
    (hg : ∀ (t0 : Shared) (G0 : Hp) (C : Addr) (cl : List (PySem.Str × Addr)) (fp : List Addr), PG (X.blk t0 G0 scope (compEnvC scope cl C X.env) fp) tg g)
    (ht : ∀ (t0 : Shared) (G0 : Hp) (C : Addr) (cl : List (PySem.Str × Addr)) (fp : List Addr), PTs (X.blk t0 G0 scope (compEnvC scope cl C X.env) fp) ifs tt)
    (he : ∀ (t0 : Shared) (G0 : Hp) (C : Addr) (cl : List (PySem.Str × Addr)) (fp : List Addr), PE (X.blk t0 G0 scope (compEnvC scope cl C X.env) fp) elt te)
    (hs : ∀ x, foldedSetIterable iter X.env x = pure x := by intro _; rfl) : PE X (.SetComp elt [⟨tg, iter, ifs, 0⟩] scope pos) (tScA o0 ad wi g tt te (own.map (·.2))) := by
  refine ⟨fun pins s σ H Q I h => ?_⟩
  rw [PpSet.eval_SetComp]
  refine scA_core calm hN hnew hadd I hi ok hg ht he hs h fun D C s' m H' I' q hn f => ⟨m, hn, fun h'' sb => ?_⟩
  obtain ⟨f0, f1, f2, f3, f4, f5⟩ := f
  exact ⟨.ref D, H', I'.turned (t' := s'.toks) (fun b o hb e => (sb.2 b hb).trans e) f0 f1 f3 f4 f5, rfl, q⟩
end
end DL

/-! sorted({.. for ..}) in the layer. -/
namespace DL
open PySem PySem.Spec PyProof.Rows L2 RZ GS
section
variable {K : PySem.W.Frag} {mg : Str → Option Value} {E : XW} {W : Wd} {F0 B F H F' H' : Hp} {σ tv us vs : L2.St} {ρ ρ' tr ss : Evn} {v : V} {d : D} {s : Sl} {p : Addr} {i : Nat}
def ssTop (ds : List D) : Option Sl := match kyAll ds with
  | some kz => if kz.all isTup then ssOp [.list ds] else none
  | none => none
def fSsc (ks : List Nat) (it : Evn → Res (List D)) (g : D → Evn → Option Evn) (c : Evn → Res Bool) (f : Evn → Res Sl) (ρ : Evn) : Res Sl :=
  (it ρ).bind fun ds ρ1 => if ds.length ≤ 100000 ∧ ∀ k ∈ ks, k < ρ1.length then (noExc (fTurns ks g c f ds [] (wipeE ρ1 ks))).bind fun xs ρ2 => ofOpt (backE ρ1 ρ2 ks) (ssTop xs) else .bad
/-- the set ms has the keys of acc -/
structure HasG (K : PySem.W.Frag) (F : Hp) (acc : List D) (ms : List Mb) (kz : List NestedKey) : Prop where
  ky : kyAll acc = some kz
  iff : ∀ x, x ∈ ms.map (·.2) ↔ x ∈ kz
  nd : (ms.map (·.2)).Nodup
  key : ∀ m ∈ ms, KeyOf K F true m
  len : ms.length ≤ kz.length
theorem KeyOf.mono {m : Mb} (h : KeyOf K F true m) (s : Same F F') : KeyOf K F' true m := by
  obtain ⟨x, h1, h2, r⟩ := h
  exact ⟨x, h1, dp_mono s _ _ h2, r⟩
theorem HasG.mono {acc : List D} {ms : List Mb} {kz : List NestedKey} (h : HasG K F acc ms kz) (s : Same F F') : HasG K F' acc ms kz := ⟨h.ky, h.iff, h.nd, fun m hm => (h.key m hm).mono s, h.len⟩
theorem KeyOf.swap {φ : Heap → Prop} {o' : HO} (hp : F p = some (.ext φ)) {m : Mb} (h : KeyOf K F true m) : KeyOf K (upd F p o') true m := by
  obtain ⟨x, h1, h2, r⟩ := h
  exact ⟨x, h1, dt_swap hp _ _ h2, r⟩
theorem kyAll_app : ∀ {a b : List D} {kz : List NestedKey}, kyAll (a ++ b) = some kz → ∃ k1 k2, kyAll a = some k1 ∧ kyAll b = some k2 ∧ kz = k1 ++ k2
  | [], b, kz, h => ⟨[], kz, rfl, h, rfl⟩
  | d :: a, b, kz, h => by
    rw [List.cons_append] at h
    unfold kyAll at h
    split at h
    · rename_i k ks e1 e2
      cases h
      obtain ⟨k1, k2, h1, h2, rfl⟩ := kyAll_app e2
      exact ⟨k :: k1, k2, by simp [kyAll, e1, h1], h2, rfl⟩
    · cases h
theorem turns_pre {ks : List Nat} {g : D → Evn → Option Evn} {c : Evn → Res Bool} {f : Evn → Res Sl} : ∀ (ds acc : List D) (ρ : Evn) {xs : List D} {ρ' : Evn}, fTurns ks g c f ds acc ρ = .ok xs ρ' → ∃ ys, xs = acc ++ ys
  | [], acc, ρ, xs, ρ', h => by
    unfold fTurns at h
    cases h
    exact ⟨[], by simp⟩
  | d :: ds, acc, ρ, xs, ρ', h => by
    unfold fTurns at h
    cases eg : g d ρ with
    | none => rw [eg] at h; cases h
    | some ρ1 =>
      simp only [eg] at h
      cases ec : c ρ1 with
      | bad => rw [ec] at h; cases h
      | exc _ _ _ => rw [ec] at h; cases h
      | ok b ρ2 =>
        simp only [ec, Res.bind] at h
        cases b with
        | false => exact turns_pre ds acc _ (by simpa using h)
        | true =>
          simp only [if_true] at h
          cases ef : fFz f ρ2 with
          | bad => rw [ef] at h; cases h
          | exc _ _ _ => rw [ef] at h; cases h
          | ok s ρ3 =>
            simp only [ef, Res.bind] at h
            split at h
            · rename_i z
              obtain ⟨ys, e⟩ := turns_pre ds _ _ h
              exact ⟨z :: ys, by rw [e]; simp⟩
            · cases h
/-- what the end tells of what is there so far -/
theorem pre_key {ks : List Nat} {g : D → Evn → Option Evn} {c : Evn → Res Bool} {f : Evn → Res Sl} {ds acc : List D} {ρ ρ1 : Evn} {P : Sl → Evn → Prop} (h : Wants (fun _ _ _ => False) P ((fTurns ks g c f ds acc ρ).bind fun xs ρ2 => ofOpt (backE ρ1 ρ2 ks) (ssTop xs))) :
    ∃ kz, kyAll acc = some kz ∧ fewB kz = true ∧ (∀ k ∈ kz, isTup k = true) ∧ ∀ k ∈ kz, k.depth ≤ 8 := by
  cases e : fTurns ks g c f ds acc ρ with
  | bad => rw [e] at h; exact h.elim
  | exc _ _ _ => rw [e] at h; exact h.elim
  | ok xs ρ2 =>
    rw [e] at h
    have h : Wants (fun _ _ _ => False) P (ofOpt (backE ρ1 ρ2 ks) (ssTop xs)) := h
    obtain ⟨ys, rfl⟩ := turns_pre _ _ _ e
    cases hk : kyAll (acc ++ ys) with
    | none => rw [ssTop, hk] at h; exact h.elim
    | some kz =>
      simp only [ssTop, hk] at h
      obtain ⟨k1, k2, a1, a2, rfl⟩ := kyAll_app hk
      split at h
      · rename_i ht
        simp only [ssOp, hk] at h
        split at h
        · rename_i ok
          unfold setOk at ok
          simp only [Bool.and_eq_true, decide_eq_true_eq, List.all_eq_true] at ok ht
          refine ⟨k1, a1, ?_, fun k hk => ht k (List.mem_append_left _ hk), fun k hk => ok.1.1.1.2 k (List.mem_append_left _ hk)⟩
          exact few_pre ok.1.1.1.1.1
        · exact h.elim
      · exact h.elim
theorem wants_noExc' {α β : Type} {Fl Fl' : Str → D → Evn → Prop} {P : β → Evn → Prop} {r : Res α} {k : α → Evn → Option β} {e : α → Evn → Evn} {q : Evn → Option β → Res β} (hq : ∀ ρ o, (∃ b, o = some b ∧ q ρ o = .ok b ρ) ∨ q ρ o = .bad) (h : Wants Fl P ((noExc r).bind fun a ρ => q (e a ρ) (k a ρ))) : Wants Fl' P (r.bind fun a ρ => q (e a ρ) (k a ρ)) := by
  cases r with
  | ok a ρ =>
    have h : Wants Fl P (q (e a ρ) (k a ρ)) := h
    show Wants Fl' P (q (e a ρ) (k a ρ))
    rcases hq (e a ρ) (k a ρ) with ⟨b, _, z⟩ | z
    · rw [z] at h ⊢; exact h
    · rw [z] at h; exact h.elim
  | exc c d ρ => exact h.elim
  | bad => exact h.elim
end
end DL

/-! sorted({.. for ..}) in the layer: the rule. -/
namespace DL
open PySem PySem.Spec PyProof.Rows L2 RZ GS
section
variable {K : PySem.W.Frag} {mg : Str → Option Value} {E : XW} {W : Wd} {F0 B F H F' H' : Hp} {σ tv us vs : L2.St} {ρ ρ' tr ss : Evn} {v : V} {d : D} {s : Sl} {p : Addr} {i : Nat}
/-- one more -/
theorem HasG.add {acc : List D} {ms ms' : List Mb} {kz : List NestedKey} {z : D} {k : NestedKey} {y : V} {u : Value} (h : HasG K F acc ms kz) (hz : kyAll (acc ++ [z]) = some (kz ++ [k])) (hk : KeyOf K F true (u, k)) (c1 : k ∈ ms.map (·.2) → ms' = ms) (c2 : k ∉ ms.map (·.2) → ms'.Perm ((u, k) :: ms)) : HasG K F (acc ++ [z]) ms' (kz ++ [k]) := by
  by_cases c : k ∈ ms.map (·.2)
  · rw [c1 c]
    refine ⟨hz, fun x => ?_, h.nd, h.key, by rw [List.length_append]; have := h.len; omega⟩
    rw [List.mem_append, List.mem_singleton, h.iff]
    exact ⟨.inl, fun q => q.elim id fun e => by rw [e]; exact (h.iff k).mp c⟩
  · have pm := c2 c
    have pm2 := pm.map (fun m : Mb => m.2)
    refine ⟨hz, fun x => ?_, pm2.nodup_iff.mpr (List.nodup_cons.mpr ⟨c, h.nd⟩), fun m hm => ?_, by rw [pm.length_eq, List.length_append]; have := h.len; simp; omega⟩
    · rw [pm2.mem_iff, List.map_cons, List.mem_cons, List.mem_append, List.mem_singleton, h.iff]
      exact Or.comm
    · rcases List.mem_cons.mp (pm.mem_iff.mp hm) with q | q
      · rw [q]; exact hk
      · exact h.key m q
theorem HasG.swap {φ : Heap → Prop} {o' : HO} (hp : F p = some (.ext φ)) {acc : List D} {ms : List Mb} {kz : List NestedKey} (h : HasG K F acc ms kz) : HasG K (upd F p o') acc ms kz := ⟨h.ky, h.iff, h.nd, fun m hm => (h.key m hm).swap hp, h.len⟩
theorem ky_one {z : D} {k2 : List NestedKey} (h : kyAll [z] = some k2) : ∃ k, kyD z = some k ∧ k2 = [k] := by
  unfold kyAll at h
  split at h
  · rename_i k ks e1 e2
    cases h
    cases e2
    exact ⟨k, e1, rfl⟩
  · cases h
theorem tj_ssc {w : World} {Re : Rl} {wi : TI} {g : TG} {tt : TT} {te : TE} {ks is : List Nat} {it : Evn → Res (List D)} {gf : D → Evn → Option Evn} {c : Evn → Res Bool} {f : Evn → Res Sl} (hi : TIJ Re K mg E wi it) (hg : TGJ Re K g is gf) (hc : TTJ K mg (fun _ _ _ _ => False) tt c) (hf : TJ K mg (fun _ _ _ _ => False) te f) (hs : ∀ k ∈ is, k ∈ ks) :
    TJ K mg E (tCB (rSortG K w true) (tCons (tScA (fun a => SetGO w true a []) (adG K w true) wi g tt te ks) tNil)) (fSsc ks it gf c f) := by
  intro W F H σ tv ρ tr Q L S hW
  show tScA (fun a => SetGO w true a []) (adG K w true) wi g tt te ks σ H fun x H1 => rSortG K w true [x] H1 Q
  refine hi W F H σ tv ρ tr _ L S ?_
  unfold fSsc at hW
  cases e : it ρ with
  | bad => rw [e] at hW; exact hW
  | exc c d ρ' => rw [e] at hW; exact hW
  | ok ds ρ1 =>
    rw [e] at hW
    have hW : Wants (Fly K mg E W σ tv tr) _ (if ds.length ≤ 100000 ∧ ∀ k ∈ ks, k < ρ1.length then (noExc (fTurns ks gf c f ds [] (wipeE ρ1 ks))).bind fun xs ρ2 => ofOpt (backE ρ1 ρ2 ks) (ssTop xs) else .bad) := hW
    split at hW
    · rename_i hz
      obtain ⟨hz, hks⟩ := hz
      have hW := wants_noExc' (Fl' := fun _ _ _ => False) (q := ofOpt) (k := fun xs _ => ssTop xs) (e := fun _ ρ2 => backE ρ1 ρ2 ks) (fun ρ o => by
        cases o with
        | none => exact .inr rfl
        | some b => exact .inl ⟨b, rfl, rfl⟩) hW
      intro J F1 H1 S1 walk Dn hDn
      have L1 : Ln W σ tv ρ1 tr := L.next S1 L.t
      have hks : ∀ k ∈ ks, k < W.N := fun k hk => by rw [← L1.r]; exact hks k hk
      have f1 : F1 Dn = none := Same.free S1.fh hDn
      have bD : W.B Dn = none := SR.bfree S1 hDn
      let nx : Nat → Hp → Prop := fun i H' => ∃ F2 ρ2 acc ms kz, Ln W (wipe σ ks) tv ρ2 tr ∧ S4 K (W.rebase F1) F2 H' (wipe σ ks) tv ρ2 tr ∧ F2 Dn = some (SetGO w true Dn ms) ∧ HasG K F2 acc ms kz ∧
        Wants (fun _ _ _ => False) (fun s ρ' => ∀ v F' H', S4 K W F' H' σ (tv ++ [some v]) ρ' (tr ++ [some s]) → Q v H') ((fTurns ks gf c f (ds.drop i) acc ρ2).bind fun xs ρ2 => ofOpt (backE ρ1 ρ2 ks) (ssTop xs))
      refine ⟨fun i m H' => m = ds.length - i ∧ i ≤ ds.length ∧ nx i H', ⟨ds.length, by omega, by omega, upd F1 Dn (SetGO w true Dn []), wipeE ρ1 ks, [], [], [], L1.wipe ks, ?_, upd_same, ⟨rfl, fun x => by simp, List.nodup_nil, fun m hm => (by cases hm), Nat.le_refl _⟩, by simpa using hW⟩, ?_⟩
      · exact S4.wipe (W := W.rebase F1) ⟨L1.s, L1.r, L1.t⟩ (SR.grow S1.rebase (.froze S1.fh hDn)) ks hks
      · rintro i m H2 ⟨rfl, hle, F2, ρ2, acc, ms, kz, L2, S2, hset, has, hW2⟩
        have hw := walk i F2 H2 S2.f0 S2.fh
        by_cases hlt : i < ds.length
        · have ed : ds.drop i = ds[i] :: ds.drop (i + 1) := List.drop_eq_getElem_cons hlt
          rw [ed] at hW2
          obtain ⟨go, yld⟩ := hw.1 ds[i] (List.getElem?_eq_getElem hlt)
          refine .inr ⟨go, nx (i + 1), fun H' h => ⟨ds.length - (i + 1), by omega, rfl, hlt, h⟩, fun x H' hy => ?_⟩
          obtain ⟨F3, gr, hx⟩ := yld x H' hy
          have S3 : S4 K (W.rebase F1) F3 H' (wipe σ ks) tv ρ2 tr := SR.grow S2 gr
          unfold fTurns at hW2
          cases eg : gf ds[i] ρ2 with
          | none => rw [eg] at hW2; exact hW2.elim
          | some ρ3 =>
            rw [eg] at hW2
            refine hg (W.rebase F1) F3 H' (wipe σ ks) _ ρ2 _ x ds[i] ρ3 _ ⟨L2.s, L2.r, L2.t⟩ S3 hx eg fun σ3 k3 L3 S3' => ?_
            have ew : wipe σ3 ks = wipe σ ks := by
              rw [wipe_same k3 hs (by rw [L3.s]; exact L2.s.symm), wipe_wipe]
            refine ⟨ew, ?_⟩
            have hW3 : Wants (fun _ _ _ => False) (fun s ρ' => ∀ v F' H', S4 K W F' H' σ (tv ++ [some v]) ρ' (tr ++ [some s]) → Q v H') (((c ρ3).bind fun b ρ2 => if b then (fFz f ρ2).bind fun s ρ3 => match s with
                | .fr x => fTurns ks gf c f (ds.drop (i + 1)) (acc ++ [x]) (wipeE ρ3 ks)
                | _ => .bad
              else fTurns ks gf c f (ds.drop (i + 1)) acc (wipeE ρ2 ks)).bind fun xs ρ2 => ofOpt (backE ρ1 ρ2 ks) (ssTop xs)) := hW2
            rw [Res.bind_assoc] at hW3
            have S3r : S4 K (W.rebase F3) F3 H' σ3 tv ρ3 tr := SR.rebase S3'
            refine hc.run (W := W.rebase F3) ⟨L3.s, L3.r, L3.t⟩ S3r (fun _ _ _ h => h.elim) hW3 fun b ρ4 F4 H4 L4 S4' hW4 => ?_
            have f34 : Same F3 F4 := S4'.f0
            have S4u : S4 K (W.rebase F1) F4 H4 σ3 tv ρ4 tr := SR.unbase S3' S4'
            have fin : ∀ {F5 H5 : Hp} {ρ5 : Evn} {acc' : List D} {ms' : List Mb} {kz' : List NestedKey}, Ln W σ3 tv ρ5 tr → S4 K (W.rebase F1) F5 H5 σ3 tv ρ5 tr → F5 Dn = some (SetGO w true Dn ms') → HasG K F5 acc' ms' kz' →
                Wants (fun _ _ _ => False) (fun s ρ' => ∀ v F' H', S4 K W F' H' σ (tv ++ [some v]) ρ' (tr ++ [some s]) → Q v H') ((fTurns ks gf c f (ds.drop (i + 1)) acc' (wipeE ρ5 ks)).bind fun xs ρ2 => ofOpt (backE ρ1 ρ2 ks) (ssTop xs)) → nx (i + 1) H5 := by
              intro F5 H5 ρ5 acc' ms' kz' L5 S5 hs5 ha5 hW5
              refine ⟨F5, wipeE ρ5 ks, acc', ms', kz', ?_, ?_, hs5, ha5, hW5⟩
              · have := L5.wipe ks
                rw [ew] at this
                exact this
              · have := S4.wipe (W := W.rebase F1) ⟨L5.s, L5.r, L5.t⟩ S5 ks hks
                rw [ew] at this
                exact this
            have set4 : F4 Dn = some (SetGO w true Dn ms) := f34 _ _ (gr.ff _ _ hset)
            have has4 := has.mono (gr.ff.trans f34)
            cases b with
            | false => exact fin ⟨L4.s, L4.r, L4.t⟩ S4u set4 has4 hW4
            | true =>
              have hW4 : Wants (fun _ _ _ => False) (fun s ρ' => ∀ v F' H', S4 K W F' H' σ (tv ++ [some v]) ρ' (tr ++ [some s]) → Q v H') (((fFz f ρ4).bind fun s ρ3 => match s with
                | .fr x => fTurns ks gf c f (ds.drop (i + 1)) (acc ++ [x]) (wipeE ρ3 ks)
                | _ => .bad).bind fun xs ρ2 => ofOpt (backE ρ1 ρ2 ks) (ssTop xs)) := hW4
              rw [Res.bind_assoc] at hW4
              have S4r : S4 K (W.rebase F4) F4 H4 σ3 tv ρ4 tr := SR.rebase S4u
              refine (tj_fz hf).run (W := W.rebase F4) ⟨L4.s, L4.r, L4.t⟩ S4r (fun _ _ _ h => h.elim) hW4 fun s ρ5 y F5 H5 L5 S5 hW5 => ?_
              split at hW5
              · rename_i z
                have La := L5.cut (us := [some y]) (ss := [some (.fr z)]) (by simp)
                have Sa := S4.cut L5 S5 (by simp)
                have f45 : Same F4 F5 := Sa.f0
                have Su : S4 K (W.rebase F1) F5 H5 σ3 tv ρ5 tr := SR.unbase S4u Sa
                have hy := S4.top_fr L5 S5
                have set5 : F5 Dn = some (SetGO w true Dn ms) := f45 _ _ set4
                have has5 := has4.mono f45
                obtain ⟨kz2, e2, l2, t2, d2⟩ := pre_key hW5
                obtain ⟨k1, k2, a1, a2, ek⟩ := kyAll_app e2
                obtain ⟨k, ez, rfl⟩ := ky_one a2
                have ek1 : k1 = kz := by rw [has.ky] at a1; exact (Option.some.inj a1).symm
                subst ek1
                subst ek
                have zk : k.data = z := ky_data z k ez
                have ky : Dt K F5 y k.data := by rw [zk]; exact hy
                have kk : kyD k.data = some k := by rw [zk]; exact ez
                have kd : k.depth ≤ 8 := d2 k (by simp)
                have kt : isTup k = true := t2 k (by simp)
                have few := has.len
                have room : ms.length + 1 < 64 := by
                  unfold fewB at l2
                  simp only [Bool.or_eq_true, decide_eq_true_eq, List.length_append, List.length_singleton] at l2
                  rcases l2 with l2 | l2
                  · omega
                  · have := has.nd.length_le_of_subset (l₂ := dd (k1 ++ [k])) fun x hx => (mem_dd _ _).mpr (List.mem_append_left _ ((has.iff x).mp hx))
                    rw [List.length_map] at this
                    omega
                refine ⟨F5, ms, k, Sa.fh _ _ set5, Sa.fh, ky, kk, kd, by simpa using kt, has5.key, room, fun u ms' ru c1 c2 => ?_⟩
                have nw : HasG K F5 (acc ++ [z]) ms' (k1 ++ [k]) := HasG.add (y := y) has5 e2 ⟨y, ru, ky, kk, kd, by simpa using kt⟩ c1 c2
                exact fin ⟨La.s, La.r, La.t⟩ (S4.swap Su set5 f1 bD) upd_same (nw.swap set5) hW5
              · exact hW5.elim
        · have ei : i = ds.length := by omega
          refine .inl ⟨hw.2 (by omega), ?_⟩
          rw [List.drop_eq_nil_of_le (by omega)] at hW2
          have S3 := S4.back L1 S1 L2 S2 ks hks
          rw [backS_eq ks (fun k hk => by rw [L1.s]; exact hks k hk) (fun k hk => .inl hk)] at S3
          have hW2 : Wants (fun _ _ _ => False) (fun s ρ' => ∀ v F' H', S4 K W F' H' σ (tv ++ [some v]) ρ' (tr ++ [some s]) → Q v H') (ofOpt (backE ρ1 ρ2 ks) (ssTop acc)) := hW2
          simp only [ssTop, has.ky] at hW2
          split at hW2
          · simp only [ssOp, has.ky] at hW2
            split at hW2
            · rename_i ok
              simp only [Bool.and_eq_true] at ok
              obtain ⟨⟨⟨o1, o2⟩, o3⟩, o4⟩ := ok
              have dat : kz.map NestedKey.data = acc := ky_map acc kz has.ky
              have inacc : ∀ m ∈ ms, m.2.data ∈ acc := fun m hm => by
                rw [← dat]
                exact List.mem_map.mpr ⟨_, (has.iff _).mp (List.mem_map.mpr ⟨m, hm, rfl⟩), rfl⟩
              have al' := alike_of o2
              rw [List.map_id] at al'
              have un' : ∀ x ∈ kz, ∀ y ∈ kz, PySem.W.keyToks x.data = PySem.W.keyToks y.data → x = y := fun x hx y hy e => by
                have z := List.all_eq_true.mp (List.all_eq_true.mp o3 x hx) y hy
                rw [Bool.or_eq_true] at z
                rcases z with z | z
                · rw [decide_eq_true e] at z
                  cases z
                · exact of_decide_eq_true z
              have pm : (ms.map (·.2)).Perm (dd kz) := (List.perm_ext_iff_of_nodup has.nd (nodup_dd kz)).mpr fun x => by rw [mem_dd]; exact has.iff x
              refine ⟨F2, Dn, ms, rfl, S2.fh _ _ hset, S2.fh, has.key, fun a ha b hb => ?_, fun x hx y hy => un' x ((has.iff x).mp hx) y ((has.iff y).mp hy), fun m hm => of_decide_eq_true (List.all_eq_true.mp o4 _ (inacc m hm)), fun q ys hq hys => ?_⟩
              · obtain ⟨m, hm, rfl⟩ := List.mem_map.mp ha
                obtain ⟨n, hn, rfl⟩ := List.mem_map.mp hb
                exact al' _ (inacc m hm) _ (inacc n hn)
              · rw [sort_same pm fun x hx y hy => un' x ((has.iff x).mp hx) y ((has.iff y).mp hy)] at hys
                refine hW2 (.ref q) F2 _ (S1.unbase ?_)
                exact S4.result (W := W.rebase F1) S3 (.laid S3.fh hq) ⟨q, rfl, hq, Same.free S3.fh hq, ys, upd_same, hys⟩
            · exact hW2.elim
          · exact hW2.elim
    · exact hW.elim
theorem unit16 {n : Nat} (h : n + 64 < cLine) : n + 16 < cLine := by omega
end
end DL

/-! A comprehension over an own list, which stays an own list. -/
namespace DL
open PySem PySem.Spec PyProof.Rows L2 RZ
section
variable {K : PySem.W.Frag} {mg : Str → Option Value} {E : XW} {W : Wd} {F0 B F H F' H' : Hp} {σ tv us vs : L2.St} {ρ ρ' tr ss : Evn} {v : V} {d : D} {s : Sl} {p : Addr} {i : Nat} {α β : Type}
def ownL (ρ : Evn) (j : Nat) : Option (List D) := match ρ[j]? with
  | some (some (.ow (.lst ds))) => some ds
  | _ => none
open Classical in
noncomputable def gOwn (j : Nat) (ds : List D) (g : D → Evn → Option Evn) (d : D) (ρ : Evn) : Option Evn := if ownL ρ j = some ds then g d ρ else none
open Classical in
noncomputable def fLcO (ks : List Nat) (j : Nat) (g : D → Evn → Option Evn) (c : Evn → Res Bool) (f : Evn → Res Sl) (ρ : Evn) : Res Sl := match ownL ρ j with
  | some ds => if ds.length ≤ 100000 ∧ (∀ k ∈ ks, k < ρ.length) ∧ j ∉ ks then (noExc (fTurns ks (gOwn j ds g) c f ds [] (wipeE ρ ks))).bind fun xs ρ2 => (if ownL ρ2 j = some ds then Res.ok (Sl.ow (.lst xs)) (backE ρ ρ2 ks) else .bad) else .bad
  | none => fLc ks (fIterS (fVar j)) g c f ρ
theorem gOwn_some {j : Nat} {ds : List D} {g : D → Evn → Option Evn} (h : gOwn j ds g d ρ = some ρ') : ownL ρ j = some ds ∧ g d ρ = some ρ' := by
  unfold gOwn at h
  split at h
  · rename_i q; exact ⟨q, h⟩
  · cases h
theorem wants_noExcG {Fl Fl' : Str → D → Evn → Prop} {P : β → Evn → Prop} {r : Res α} {k : α → Evn → Res β} (hk : ∀ a ρ, Wants Fl P (k a ρ) → Wants Fl' P (k a ρ)) (h : Wants Fl P ((noExc r).bind k)) : Wants Fl' P (r.bind k) := by
  cases r with
  | ok a ρ => exact hk a ρ h
  | exc c d ρ => exact h.elim
  | bad => exact h.elim
theorem ownL_some {j : Nat} {ds : List D} (h : ownL ρ j = some ds) : ρ[j]? = some (some (.ow (.lst ds))) := by
  unfold ownL at h
  split at h
  · rename_i e; cases h; exact e
  · cases h
theorem own_at0 {j : Nat} {ds : List D} (L : Ln W σ tv ρ tr) (S : S4 K W F H σ tv ρ tr) (h : ownL ρ j = some ds) : ∃ a, σ[j]? = some (some (V.ref a)) ∧ (∃ vs, H a = some (.lst vs) ∧ DtAll K F vs ds) ∧ F a = none := by
  have e := ownL_some h
  have hi := (List.getElem?_eq_some_iff.mp e).1
  obtain ⟨p, h1, _, h3, h4⟩ := S.ow j (.lst ds) (by rw [List.getElem?_append_left hi]; exact e)
  rw [List.getElem?_append_left (by rw [L.s, ← L.r]; exact hi)] at h1
  exact ⟨p, h1, h4, h3⟩
theorem own_at2 {j : Nat} {ds : List D} {ks : List Nat} {σ0 : L2.St} {a : Addr} (L : Ln W (wipe σ0 ks) tv ρ tr) (S : S4 K W F H (wipe σ0 ks) tv ρ tr) (h : ownL ρ j = some ds) (hj : j ∉ ks) {n : Nat} (hn : σ0.length = n) (ha : σ0[j]? = some (some (V.ref a))) : ∃ vs, H a = some (.lst vs) ∧ DtAll K F vs ds := by
  obtain ⟨p, h1, h2, _⟩ := own_at0 L S h
  rw [wipe_get hj, ha] at h1
  cases h1
  exact h2
open Classical in
theorem tj_lcO {g : TG} {tt : TT} {te : TE} {ks is : List Nat} {j : Nat} {gf : D → Evn → Option Evn} {c : Evn → Res Bool} {f : Evn → Res Sl} (hg : TGJ Dt K g is gf) (hc : TTJ K mg (fun _ _ _ _ => False) tt c) (hf : TJ K mg (fun _ _ _ _ => False) te f) (hs : ∀ k ∈ is, k ∈ ks) : TJ K mg E (tLc (iSeq K (tVar j)) g tt te ks) (fLcO ks j gf c f) := by
  intro W F H σ tv ρ tr Q L S hW
  unfold fLcO at hW
  cases eo : ownL ρ j with
  | none =>
    rw [eo] at hW
    exact tj_lc (tij_seq (tj_var j)) hg hc hf hs W F H σ tv ρ tr Q L S hW
  | some ds =>
    rw [eo] at hW
    have hW : Wants (Fly K mg E W σ tv tr) _ (if ds.length ≤ 100000 ∧ (∀ k ∈ ks, k < ρ.length) ∧ j ∉ ks then (noExc (fTurns ks (gOwn j ds gf) c f ds [] (wipeE ρ ks))).bind fun xs ρ2 => (if ownL ρ2 j = some ds then Res.ok (Sl.ow (.lst xs)) (backE ρ ρ2 ks) else .bad) else .bad) := hW
    split at hW
    · rename_i hz
      obtain ⟨hz, hks, hj⟩ := hz
      have hW := wants_noExcG (Fl' := fun _ _ _ => False) (fun xs ρ2 h => by
        split at h
        · rename_i q; rw [if_pos q]; exact h
        · exact h.elim) hW
      obtain ⟨a, ha, hH, hF⟩ := own_at0 L S eo
      refine .inl ⟨.ref a, ha, a, rfl, ?_, ?_⟩
      · obtain ⟨vs, e1, _⟩ := hH
        exact ⟨vs, .of e1⟩
      have S1 := S
      have L1 := L
      intro Dn hDn
      have hks : ∀ k ∈ ks, k < W.N := fun k hk => by rw [← L1.r]; exact hks k hk
      refine ⟨fun i m H' => m = ds.length - i ∧ i ≤ ds.length ∧ ∃ F2 ρ2 acc, Ln W (wipe σ ks) (tv ++ [some (.ref Dn)]) ρ2 (tr ++ [some (.ow (.lst acc))]) ∧ S4 K (W.rebase F) F2 H' (wipe σ ks) (tv ++ [some (.ref Dn)]) ρ2 (tr ++ [some (.ow (.lst acc))]) ∧ acc.length ≤ i ∧
          Wants (fun _ _ _ => False) (fun s ρ' => ∀ v F' H', S4 K W F' H' σ (tv ++ [some v]) ρ' (tr ++ [some s]) → Q v H') ((fTurns ks (gOwn j ds gf) c f (ds.drop i) acc ρ2).bind fun xs ρ2 => (if ownL ρ2 j = some ds then Res.ok (Sl.ow (.lst xs)) (backE ρ ρ2 ks) else .bad)),
        ⟨ds.length, by omega, by omega, F, wipeE ρ ks, [], ?_, ?_, Nat.zero_le _, by simpa using hW⟩, ?_⟩
      · exact (Ln.wipe (tv := tv ++ [some (.ref Dn)]) (tr := tr ++ [some (.ow (.lst []))]) ⟨L1.s, L1.r, by simp [L1.t]⟩ ks)
      · have S2 : S4 K (W.rebase F) F (upd H Dn (.lst [])) σ (tv ++ [some (.ref Dn)]) ρ (tr ++ [some (.ow (.lst []))]) :=
          S4.result S1.rebase (.laid S1.fh hDn) ⟨Dn, rfl, hDn, Same.free S1.fh hDn, [], upd_same, .nil⟩
        exact S4.wipe (W := W.rebase F) ⟨L1.s, L1.r, by simp [L1.t]⟩ S2 ks hks
      · rintro i m H2 ⟨rfl, hle, F2, ρ2, acc, L2, S2, hacc, hW2⟩
        by_cases hlt : i < ds.length
        · have ed : ds.drop i = ds[i] :: ds.drop (i + 1) := List.drop_eq_getElem_cons hlt
          rw [ed] at hW2
          unfold fTurns at hW2
          cases eg : gOwn j ds gf ds[i] ρ2 with
          | none => rw [eg] at hW2; exact hW2.elim
          | some ρ3 =>
          rw [eg] at hW2
          obtain ⟨ow2, eg⟩ := gOwn_some eg
          obtain ⟨vs, e1, e2⟩ := own_at2 (W := W.rebase F) ⟨L2.s, L2.r, L2.t⟩ S2 ow2 hj L.s ha
          obtain ⟨y, hy1, hy2⟩ := dpAll_get e2 (List.getElem?_eq_getElem hlt)
          have go : (Itl K a).go i H2 := ⟨vs, y, .of e1, hy1⟩
          have yld : ∀ x H', (Itl K a).yld i H2 x H' → ∃ F3, Grow F2 H2 F3 H' ∧ Dt K F3 x ds[i] := fun x H' hy => by
            obtain ⟨rfl, hy⟩ := hy
            have := hy vs (.of e1)
            rw [hy1] at this
            cases this
            exact ⟨F2, .refl S2.fh, hy2⟩
          refine .inr ⟨go, fun H' => ∃ F2 ρ2 acc, Ln W (wipe σ ks) (tv ++ [some (.ref Dn)]) ρ2 (tr ++ [some (.ow (.lst acc))]) ∧ S4 K (W.rebase F) F2 H' (wipe σ ks) (tv ++ [some (.ref Dn)]) ρ2 (tr ++ [some (.ow (.lst acc))]) ∧ acc.length ≤ i + 1 ∧
              Wants (fun _ _ _ => False) (fun s ρ' => ∀ v F' H', S4 K W F' H' σ (tv ++ [some v]) ρ' (tr ++ [some s]) → Q v H') ((fTurns ks (gOwn j ds gf) c f (ds.drop (i + 1)) acc ρ2).bind fun xs ρ2 => (if ownL ρ2 j = some ds then Res.ok (Sl.ow (.lst xs)) (backE ρ ρ2 ks) else .bad)),
            fun H' h => ⟨ds.length - (i + 1), by omega, rfl, hlt, h⟩, fun x H' hy => ?_⟩
          obtain ⟨F3, gr, hx⟩ := yld x H' hy
          have S3 : S4 K (W.rebase F) F3 H' (wipe σ ks) (tv ++ [some (.ref Dn)]) ρ2 (tr ++ [some (.ow (.lst acc))]) := SR.grow S2 gr
          · refine hg (W.rebase F) F3 H' (wipe σ ks) _ ρ2 _ x ds[i] ρ3 _ ⟨L2.s, L2.r, L2.t⟩ S3 hx eg fun σ3 k3 L3 S3' => ?_
            have ew : wipe σ3 ks = wipe σ ks := by
              rw [wipe_same k3 hs (by rw [L3.s]; exact L2.s.symm), wipe_wipe]
            refine ⟨ew, ?_⟩
            have hW3 : Wants (fun _ _ _ => False) (fun s ρ' => ∀ v F' H', S4 K W F' H' σ (tv ++ [some v]) ρ' (tr ++ [some s]) → Q v H') (((c ρ3).bind fun b ρ2 => if b then (fFz f ρ2).bind fun s ρ3 => match s with
                | .fr x => fTurns ks (gOwn j ds gf) c f (ds.drop (i + 1)) (acc ++ [x]) (wipeE ρ3 ks)
                | _ => .bad
              else fTurns ks (gOwn j ds gf) c f (ds.drop (i + 1)) acc (wipeE ρ2 ks)).bind fun xs ρ2 => (if ownL ρ2 j = some ds then Res.ok (Sl.ow (.lst xs)) (backE ρ ρ2 ks) else .bad)) := hW2
            rw [Res.bind_assoc] at hW3
            refine hc.run L3 S3' (fun _ _ _ h => h.elim) hW3 fun b ρ4 F4 H4 L4 S4' hW4 => ?_
            have fin : ∀ {F5 H5 : Hp} {ρ5 : Evn} {acc' : List D}, Ln (W.rebase F) σ3 (tv ++ [some (.ref Dn)]) ρ5 (tr ++ [some (.ow (.lst acc'))]) → S4 K (W.rebase F) F5 H5 σ3 (tv ++ [some (.ref Dn)]) ρ5 (tr ++ [some (.ow (.lst acc'))]) → acc'.length ≤ i + 1 →
                Wants (fun _ _ _ => False) (fun s ρ' => ∀ v F' H', S4 K W F' H' σ (tv ++ [some v]) ρ' (tr ++ [some s]) → Q v H') ((fTurns ks (gOwn j ds gf) c f (ds.drop (i + 1)) acc' (wipeE ρ5 ks)).bind fun xs ρ2 => (if ownL ρ2 j = some ds then Res.ok (Sl.ow (.lst xs)) (backE ρ ρ2 ks) else .bad)) →
                ∃ F2 ρ2 acc, Ln W (wipe σ ks) (tv ++ [some (.ref Dn)]) ρ2 (tr ++ [some (.ow (.lst acc))]) ∧ S4 K (W.rebase F) F2 H5 (wipe σ ks) (tv ++ [some (.ref Dn)]) ρ2 (tr ++ [some (.ow (.lst acc))]) ∧ acc.length ≤ i + 1 ∧
                  Wants (fun _ _ _ => False) (fun s ρ' => ∀ v F' H', S4 K W F' H' σ (tv ++ [some v]) ρ' (tr ++ [some s]) → Q v H') ((fTurns ks (gOwn j ds gf) c f (ds.drop (i + 1)) acc ρ2).bind fun xs ρ2 => (if ownL ρ2 j = some ds then Res.ok (Sl.ow (.lst xs)) (backE ρ ρ2 ks) else .bad)) := by
              intro F5 H5 ρ5 acc' L5 S5 ha hW5
              refine ⟨F5, wipeE ρ5 ks, acc', ?_, ?_, ha, hW5⟩
              · have := L5.wipe ks
                rw [ew] at this
                exact ⟨this.s, this.r, this.t⟩
              · have := S4.wipe L5 S5 ks hks
                rw [ew] at this
                exact this
            cases b with
            | false => exact fin L4 S4' (by omega) hW4
            | true =>
              have hW4 : Wants (fun _ _ _ => False) (fun s ρ' => ∀ v F' H', S4 K W F' H' σ (tv ++ [some v]) ρ' (tr ++ [some s]) → Q v H') (((fFz f ρ4).bind fun s ρ3 => match s with
                | .fr x => fTurns ks (gOwn j ds gf) c f (ds.drop (i + 1)) (acc ++ [x]) (wipeE ρ3 ks)
                | _ => .bad).bind fun xs ρ2 => (if ownL ρ2 j = some ds then Res.ok (Sl.ow (.lst xs)) (backE ρ ρ2 ks) else .bad)) := hW4
              rw [Res.bind_assoc] at hW4
              refine (tj_fz hf).run L4 S4' (fun _ _ _ h => h.elim) hW4 fun s ρ5 y F5 H5 L5 S5 hW5 => ?_
              split at hW5
              · rename_i z
                have La := L5.cut (us := [some y]) (ss := [some (.fr z)]) (by simp)
                have Sa := S4.cut L5 S5 (by simp)
                obtain ⟨p, ws, e1, e2, e3, e4⟩ := S4.top_ow La Sa
                cases e1
                have hy := S4.top_fr L5 S5
                refine ⟨ws, e2, ?_, fin ⟨La.s, La.r, by simpa using La.t⟩ (SR.mutTop La Sa (dpAll_app e3 (.cons hy .nil))) (by simp; omega) hW5⟩
                rw [dpAll_len e3]
                exact line5' (by omega)
              · exact hW5.elim
        · have ei : i = ds.length := by omega
          rw [List.drop_eq_nil_of_le (by omega)] at hW2
          have hW2 : Wants (fun _ _ _ => False) _ (if ownL ρ2 j = some ds then Res.ok (Sl.ow (.lst acc)) (backE ρ ρ2 ks) else .bad) := hW2
          split at hW2
          case isFalse => exact hW2.elim
          rename_i ow2
          obtain ⟨vs, e1, e2⟩ := own_at2 (W := W.rebase F) ⟨L2.s, L2.r, L2.t⟩ S2 ow2 hj L.s ha
          refine .inl ⟨⟨vs, .of e1, by rw [dpAll_len e2]; omega⟩, ?_⟩
          have S3 := S4.back L1 S1 L2 S2 ks hks
          rw [backS_eq ks (fun k hk => by rw [L1.s]; exact hks k hk) (fun k hk => .inl hk)] at S3
          exact hW2 (.ref Dn) F2 H2 (S1.unbase S3)
    · exact hW.elim
end
end DL

/-! Methods of texts: strip of given signs. -/
namespace DL
open PySem PySem.Spec PyProof.Rows L2 RZ
section
variable {K : PySem.W.Frag} {mg : Str → Option Value} {E : XW} {W : Wd} {F0 B F H F' H' : Hp} {σ tv us vs : L2.St} {ρ ρ' tr ss : Evn} {v : V} {d : D} {s : Sl} {p : Addr} {i : Nat} {α β : Type}
def stripOp (a b : D) : Option Sl := match a, b with
  | .str a, .str b => if a.length ≤ 100000 then some (.fr (.str (Txt.stripChars a b))) else none
  | _, _ => none
theorem vr_strip : VR2 K (fun x y H Q => (fun (x : V) (xs : List V) (H : Hp) (Q : VK) => ∃ a b, x = .str a ∧ xs = [.str b] ∧ a.length ≤ sizeLine ∧ Q (.str (Txt.stripChars a b)) H) x [y] H Q) stripOp := by
  intro F H x y dx dy s Q fh r1 r2 e q
  unfold stripOp at e
  split at e
  · rename_i a b
    split at e
    · rename_i hz
      cases e
      rw [RepC.str r1, RepC.str r2]
      exact ⟨a, b, rfl, rfl, by rw [sizeLine_eq]; omega, q _ F H (.refl fh) (.str _)⟩
    · cases e
  · cases e
end
end DL

/-! zip(a, b, strict=False). -/
namespace ZK
open PySem PySem.Spec PyProof.Rows L2 RZ
open PySem.Sem (wp)
abbrev kwF (t : Bool) : List (Str × Value) := [(Str.ofString "strict", .bool t)]
theorem typeCall (a b : Value) : checkTypeCall "zip" ⟨[a, b], kwF false⟩ = pure () := by kernel_rfl
theorem newCall (a b : Value) : checkBuiltinCall "zip.__new__" ⟨[.type "zip", a, b], kwF false⟩ = pure () := by kernel_rfl
theorem args3 (a b c : Value) : argsOk "object.__init__" ⟨[a, b, c], kwF false⟩ := by
  unfold argsOk; kernel_rfl
theorem meetsT (l1 l2 : Addr) (xs ys : Array Value) :
    Meets (Builtin.«zip.__new__» ⟨[.type "zip", .ref l1, .ref l2], kwF false⟩) (fun _ R s => s.heap.IsTuple l1 xs ∧ s.heap.IsTuple l2 ys ∧
      R (.ok (.ret (.ref (zipTH4 s.heap l1 l2).objs.size))) { s with heap := zipTH5 s.heap l1 l2 }) :=
  .of_wp fun prog w A R s h => by
    obtain ⟨hq, gq, dq, kq, oq⟩ := s; obtain ⟨q1, q2, h⟩ := h
    have zz := sub_zip
    have w1 : Heap.IsTuple (Shared.heap ⟨hq, gq, dq, kq, oq⟩) l1 xs := q1
    have w2 : Heap.IsTuple (Shared.heap ⟨zipTH1 hq l1, gq, dq, kq, oq⟩) l2 ys := Heap.IsTuple.push q2 _
    have e1 : (Str.ofString "strict" != ("strict" : Str)) = false := by decide +kernel
    wp_walk using wpAny_pyIter_tuple w1, wpAny_pyIter_tuple w2
    exact ⟨_, rfl, h⟩
theorem meetsL (l1 l2 : Addr) (xs ys : Array Value) :
    Meets (Builtin.«zip.__new__» ⟨[.type "zip", .ref l1, .ref l2], kwF false⟩) (fun _ R s => s.heap.IsList l1 xs ∧ s.heap.IsList l2 ys ∧
      R (.ok (.ret (.ref (zipH4 s.heap l1 l2).objs.size))) { s with heap := zipH5 s.heap l1 l2 }) :=
  .of_wp fun prog w A R s h => by
    obtain ⟨hq, gq, dq, kq, oq⟩ := s; obtain ⟨q1, q2, h⟩ := h
    have zz := sub_zip
    have w1 : Heap.IsList (Shared.heap ⟨hq, gq, dq, kq, oq⟩) l1 xs := q1
    have w2 : Heap.IsList (Shared.heap ⟨zipH1 hq l1, gq, dq, kq, oq⟩) l2 ys := Heap.IsList.push q2 _
    have e1 : (Str.ofString "strict" != ("strict" : Str)) = false := by decide +kernel
    wp_walk using wpAny_pyIter_list w1, wpAny_pyIter_list w2
    exact ⟨_, rfl, h⟩
section
variable {prog : Program} {w : World} {A : Around} {E : Value → Shared → Prop} {s : Shared}
/-- the five new cells of a zip -/
structure Five (h h' : Heap) (I1 I2 : Heap → Addr → Prop) : Prop where
  z : IsZip h' (h.objs.size + 4) (h.objs.size + 2) (h.objs.size + 3) .none
  i : IsPair h' (h.objs.size + 2) (.ref h.objs.size) (.ref (h.objs.size + 1))
  o : IsPair h' (h.objs.size + 3) .none .none
  a : I1 h' h.objs.size
  b : I2 h' (h.objs.size + 1)
  n : h'.objs.size = h.objs.size + 5
  k : ∀ c u, h.get? c = some u → h'.get? c = some u
theorem callT {l1 l2 : Addr} {xs ys : Array Value} {Q : Value → Shared → Prop} (q1 : s.heap.IsTuple l1 xs) (q2 : s.heap.IsTuple l2 ys)
    (h : ∀ h', Five s.heap h' (fun g c => g.IsTupleIter c l1 0) (fun g c => g.IsTupleIter c l2 0) → Q (.ref (s.heap.objs.size + 4)) { s with heap := h' }) :
    wpAny (model prog w) A (call (.type "zip") [.ref l1, .ref l2] (kwF false)) Q E s := by
  refine callType_newKw F.called_zip (by decide) (typeCall _ _) (newCall _ _) (fun q => args3 q _ _) F.entry_zip_new (meetsT l1 l2 xs ys) ⟨q1, q2, ?_⟩
  have n1 : (zipTH1 s.heap l1).objs.size = s.heap.objs.size + 1 := Heap.size_push ..
  have n2 : (zipTH2 s.heap l1 l2).objs.size = s.heap.objs.size + 2 := (Heap.size_push ..).trans (by rw [n1])
  have n3 : (zipTH3 s.heap l1 l2).objs.size = s.heap.objs.size + 3 := (Heap.size_push ..).trans (by rw [n2])
  have n4 : (zipTH4 s.heap l1 l2).objs.size = s.heap.objs.size + 4 := (Heap.size_push ..).trans (by rw [n3])
  have n5 : (zipTH5 s.heap l1 l2).objs.size = s.heap.objs.size + 5 := (Heap.size_push ..).trans (by rw [n4])
  have up4 : ∀ {c u}, (zipTH4 s.heap l1 l2).get? c = some u → (zipTH5 s.heap l1 l2).get? c = some u := fun e => Heap.get?_push_of_some _ e
  have up3 : ∀ {c u}, (zipTH3 s.heap l1 l2).get? c = some u → (zipTH5 s.heap l1 l2).get? c = some u := fun e => up4 (Heap.get?_push_of_some _ e)
  have up2 : ∀ {c u}, (zipTH2 s.heap l1 l2).get? c = some u → (zipTH5 s.heap l1 l2).get? c = some u := fun e => up3 (Heap.get?_push_of_some _ e)
  have up1 : ∀ {c u}, (zipTH1 s.heap l1).get? c = some u → (zipTH5 s.heap l1 l2).get? c = some u := fun e => up2 (Heap.get?_push_of_some _ e)
  have g5 : (zipTH5 s.heap l1 l2).get? (s.heap.objs.size + 4) = some { cls := .type "zip", data := .fields #[.none, .bool false, .bool false, .ref (zipTH2 s.heap l1 l2).objs.size, .ref (zipTH3 s.heap l1 l2).objs.size] } := n4 ▸ Heap.get?_push_size _ rfl
  have g4 := up4 (n3 ▸ Heap.get?_push_size (zipTH3 s.heap l1 l2) (o := { cls := .type "tuple", data := .seq #[.none, .none] }) rfl)
  have g3 := up3 (n2 ▸ Heap.get?_push_size (zipTH2 s.heap l1 l2) (o := { cls := .type "tuple", data := .seq #[.ref s.heap.objs.size, .ref (zipTH1 s.heap l1).objs.size] }) rfl)
  have g2 := up2 (n1 ▸ Heap.get?_push_size (zipTH1 s.heap l1) (o := { cls := .type "tuple_iterator", data := .fields #[.ref l2, .int 0 0] }) rfl)
  have g1 := up1 (Heap.get?_push_size s.heap (o := { cls := .type "tuple_iterator", data := .fields #[.ref l1, .int 0 0] }) rfl)
  rw [n2, n3] at g5
  rw [n1] at g3
  show _ ∧ _
  rw [n4]
  exact ⟨⟨_, g5, rfl⟩, h _ ⟨g5, g3, g4, ⟨_, g1, rfl, rfl⟩, ⟨_, g2, rfl, rfl⟩, n5, fun c u e => up1 (Heap.get?_push_of_some _ e)⟩⟩
theorem callL {l1 l2 : Addr} {xs ys : Array Value} {Q : Value → Shared → Prop} (q1 : s.heap.IsList l1 xs) (q2 : s.heap.IsList l2 ys)
    (h : ∀ h', Five s.heap h' (fun g c => g.IsListIter c l1 0) (fun g c => g.IsListIter c l2 0) → Q (.ref (s.heap.objs.size + 4)) { s with heap := h' }) :
    wpAny (model prog w) A (call (.type "zip") [.ref l1, .ref l2] (kwF false)) Q E s := by
  refine callType_newKw F.called_zip (by decide) (typeCall _ _) (newCall _ _) (fun q => args3 q _ _) F.entry_zip_new (meetsL l1 l2 xs ys) ⟨q1, q2, ?_⟩
  have n1 : (zipH1 s.heap l1).objs.size = s.heap.objs.size + 1 := Heap.size_push ..
  have n2 : (zipH2 s.heap l1 l2).objs.size = s.heap.objs.size + 2 := (Heap.size_push ..).trans (by rw [n1])
  have n3 : (zipH3 s.heap l1 l2).objs.size = s.heap.objs.size + 3 := (Heap.size_push ..).trans (by rw [n2])
  have n4 : (zipH4 s.heap l1 l2).objs.size = s.heap.objs.size + 4 := (Heap.size_push ..).trans (by rw [n3])
  have n5 : (zipH5 s.heap l1 l2).objs.size = s.heap.objs.size + 5 := (Heap.size_push ..).trans (by rw [n4])
  have up4 : ∀ {c u}, (zipH4 s.heap l1 l2).get? c = some u → (zipH5 s.heap l1 l2).get? c = some u := fun e => Heap.get?_push_of_some _ e
  have up3 : ∀ {c u}, (zipH3 s.heap l1 l2).get? c = some u → (zipH5 s.heap l1 l2).get? c = some u := fun e => up4 (Heap.get?_push_of_some _ e)
  have up2 : ∀ {c u}, (zipH2 s.heap l1 l2).get? c = some u → (zipH5 s.heap l1 l2).get? c = some u := fun e => up3 (Heap.get?_push_of_some _ e)
  have up1 : ∀ {c u}, (zipH1 s.heap l1).get? c = some u → (zipH5 s.heap l1 l2).get? c = some u := fun e => up2 (Heap.get?_push_of_some _ e)
  have g5 : (zipH5 s.heap l1 l2).get? (s.heap.objs.size + 4) = some { cls := .type "zip", data := .fields #[.none, .bool false, .bool false, .ref (zipH2 s.heap l1 l2).objs.size, .ref (zipH3 s.heap l1 l2).objs.size] } := n4 ▸ Heap.get?_push_size _ rfl
  have g4 := up4 (n3 ▸ Heap.get?_push_size (zipH3 s.heap l1 l2) (o := { cls := .type "tuple", data := .seq #[.none, .none] }) rfl)
  have g3 := up3 (n2 ▸ Heap.get?_push_size (zipH2 s.heap l1 l2) (o := { cls := .type "tuple", data := .seq #[.ref s.heap.objs.size, .ref (zipH1 s.heap l1).objs.size] }) rfl)
  have g2 := up2 (n1 ▸ Heap.get?_push_size (zipH1 s.heap l1) (o := { cls := .type "list_iterator", data := .fields #[.ref l2, .int 0 0] }) rfl)
  have g1 := up1 (Heap.get?_push_size s.heap (o := { cls := .type "list_iterator", data := .fields #[.ref l1, .int 0 0] }) rfl)
  rw [n2, n3] at g5
  rw [n1] at g3
  show _ ∧ _
  rw [n4]
  exact ⟨⟨_, g5, rfl⟩, h _ ⟨g5, g3, g4, ⟨_, g1, rfl, rfl⟩, ⟨_, g2, rfl, rfl⟩, n5, fun c u e => up1 (Heap.get?_push_of_some _ e)⟩⟩
theorem callWith_typeK {M : Model} {env : Env} {pos : Pos} {T : String} {e : Expr} {rest : List Expr} {kws : List Keyword} {Q : Value → Shared → Prop}
    (h : wpAny M A (spliced (backTo pos (starEach (e :: rest) env))) (fun vs s₁ => wpAny M A (evalAll ((backToKw pos (keywordEach kws env)).map (·.2)))
      (fun zs s₂ => wpAny M A (call (.type T) vs (((backToKw pos (keywordEach kws env)).filterMap (·.1)).zip zs)) Q E s₂) E s₁) E s)
    (he : backTo pos (starEach (e :: rest) env) = (false, eval e env) :: backTo pos (starEach rest env) := by rfl)
    (hp : (backTo pos (starEach (e :: rest) env)).any (·.1) = false := by rfl)
    (ha : (backToKw pos (keywordEach kws env)).all (·.1.isSome) = true := by rfl)
    (hn : (backToKw pos (keywordEach kws env)).any (·.1.isNone) = false := by rfl) :
    wpAny M A (callWith pos (.type T) [] (backTo pos (starEach (e :: rest) env)) (backToKw pos (keywordEach kws env))) Q E s := by
  have h2 : wpAny M A (evalArgs (.type T) true (backTo pos (starEach (e :: rest) env)) (backToKw pos (keywordEach kws env))) (fun a s₁ => wpAny M A (call (.type T) ([] ++ a.pos) a.kw) Q E s₁) E s := by
    rw [he] at h ⊢
    exact evalArgs_kwB ha h
  unfold callWith
  refine wpAny_bind (wpAny_holding (wpAny_mono h2 (fun a t q => wpAny_bind (wpAny_standAt ?_)) fun _ _ x => x))
  simp only [hp, hn, Bool.or_false]
  exact wpAny_bind (wpAny_pure (wpAny_bind (wpAny_mono q (fun r t2 q2 => wpAny_bind (wpAny_holding (wpAny_point (wpAny_pure q2)))) fun _ _ x => x)))
end
theorem pi_zipK {X : Cx} {e e2 : Expr} {ta : TA} {p pos tpos kpos cpos : Pos} {elts : List Expr} {kk j : Nat} (hg : Gl X "zip") (hm : X.mg "zip" = none) (ha : PA X [e, e2] ta)
    (he : backTo pos (starEach [e, e2] X.env) = (false, eval e X.env) :: backTo pos (starEach [e2] X.env) := by rfl) (hp : (backTo pos (starEach [e, e2] X.env)).any (·.1) = false := by rfl) :
    PI X (.Tuple elts kk tpos) (.Call (.Name "zip" p) [e, e2] [⟨some "strict", .Constant (.bool false) j cpos, kpos⟩] pos) (iZipA X.K ta) := by
  refine ⟨fun pins s σ H R I h => ?_⟩
  refine wpAny_Call_Name_kw (ld_blt I hg hm PyProof.Rows.boot_zip (callWith_typeK (thn (ha.run pos pins s σ H _ I h) fun us s1 ⟨vs, H1, I1, r1, q1⟩ => ?_) he hp))
  obtain ⟨a, b, xs, ys, ex, q1⟩ := q1
  subst ex
  have hk : PK X [⟨some "strict", .Constant (.bool false) j cpos, kpos⟩] (tCons (tC (.bl false)) tNil) := pk_cons pe_bl pk_nil
  refine thn (hk.run pos pins s1 σ H1 (fun zs H2 => zs = [V.bl false] ∧ H2 = H1) I1 ⟨rfl, rfl⟩) fun ws s2 ⟨zs, H2, I2, r2, ez, eH⟩ => ?_
  subst ez
  rw [eH] at I2
  cases r2 with
  | cons rz rn =>
  cases rn
  cases rz
  cases r1 with
  | cons r rr =>
    cases rr with
    | cons r' rr =>
      cases rr
      cases r
      cases r'
      have five : ∀ c, c ∈ [s2.heap.objs.size + 4, s2.heap.objs.size + 2, s2.heap.objs.size + 3, s2.heap.objs.size, s2.heap.objs.size + 1] → FpOk X pins H1 c := fun c hc => by
        have hle : s2.heap.objs.size ≤ c := by
          simp only [List.mem_cons, List.not_mem_nil, or_false] at hc
          omega
        exact I2.fpOk hle (I2.hok.fresh hle)
      rcases q1 with ⟨hqx, hqy, q⟩ | ⟨hqx, hqy, q⟩
      · obtain ⟨its, rv, p1, _⟩ := I2.list hqx
        obtain ⟨its2, rv2, p2, _⟩ := I2.list hqy
        refine callL p1.isList p2.isList fun h' f5 => wpAny_pyIter_zip f5.z ?_
        have I3 : Inv X pins σ H1 { s2 with heap := h' } := I2.kept (t' := s2.toks) f5.k
        exact ⟨s2.heap.objs.size + 4, [s2.heap.objs.size + 4, s2.heap.objs.size + 2, s2.heap.objs.size + 3, s2.heap.objs.size, s2.heap.objs.size + 1], _, _, H1, rfl, I3, turn_zip (PySem.W.ktu_apart s2.heap.objs.size a b p1.lt p2.lt), ⟨f5.z, f5.i, ⟨_, _, f5.o⟩, f5.a, f5.b⟩, five, q⟩
      · obtain ⟨its, rv, p1, _⟩ := I2.tuple hqx
        obtain ⟨its2, rv2, p2, _⟩ := I2.tuple hqy
        obtain ⟨o1, ho1, _⟩ := id p1
        obtain ⟨o2, ho2, _⟩ := id p2
        refine callT (show s2.heap.IsTuple a its.toArray from p1) (show s2.heap.IsTuple b its2.toArray from p2) fun h' f5 => wpAny_pyIter_zip f5.z ?_
        have I3 : Inv X pins σ H1 { s2 with heap := h' } := I2.kept (t' := s2.toks) f5.k
        exact ⟨s2.heap.objs.size + 4, [s2.heap.objs.size + 4, s2.heap.objs.size + 2, s2.heap.objs.size + 3, s2.heap.objs.size, s2.heap.objs.size + 1], _, _, H1, rfl, I3, turn_zipT (PySem.W.ktu_apart s2.heap.objs.size a b (Heap.lt_size ho1) (Heap.lt_size ho2)), ⟨f5.z, f5.i, ⟨_, _, f5.o⟩, f5.a, f5.b⟩, five, q⟩
end ZK

/-! x in xs, not in, where items are lists or tuples. -/
namespace DL
open PySem PySem.Spec PyProof.Rows L2 RZ
section
variable {K : PySem.W.Frag} {mg : Str → Option Value} {E : XW} {W : Wd} {F0 B F H F' H' : Hp} {σ tv us vs : L2.St} {ρ ρ' tr ss : Evn} {v : V} {d : D} {s : Sl} {p : Addr} {i : Nat} {α β : Type}
def canIn (d : D) : Bool := d.canLay0 && decide (d.depth ≤ 50)
def rInS (K : PySem.W.Frag) (neg : Bool) : R2 := fun x y H Q => ∃ (a : Addr) (ws : List V) (d : D) (ds : List D), y = .ref a ∧ (SqL K H a ws ∨ SqT K H a ws) ∧ Dp K H x d ∧ DpAll K H ws ds ∧ canIn d = true ∧ ds.all canIn = true ∧ Q (.bl (if neg then !inD d ds else inD d ds)) H
open Classical in
/-- the item is, as data, equal to d -/
noncomputable def isData (h : Heap) (d : D) (w : Value) : Bool := decide (∃ d' as, Reads h w d' as ∧ PyData.eqv d' d = true)
open Classical in
theorem isData_of {h : Heap} {w : Value} {d e : D} {as : List Addr} (r : Reads h w e as) : isData h d w = PyData.eqv e d := by
  unfold isData
  cases q : PyData.eqv e d with
  | true => exact decide_eq_true ⟨e, as, r, q⟩
  | false =>
    refine decide_eq_false ?_
    rintro ⟨e', bs, r', q'⟩
    obtain ⟨z, _⟩ := reads_det (fun _ _ g _ => g) r r'
    rw [z, q] at q'
    cases q'
theorem in_each {X : Cx} {pins : List (Addr × Obj)} {σ : L2.St} {H : Hp} {s : Shared} (I : Inv X pins σ H s) {A : Around} {x : Value} {d : D} {bs : List Addr} (rx : Reads s.heap x d bs) (cx : canIn d = true) (hu : A.units + 50 < cLine) :
    ∀ {ws : List V} {us : List Value} (r : Vals ws us) {ds : List D}, DpAll X.K H ws ds → ds.all canIn = true → (∀ y ∈ us, SeqAt.EqAt A s y x (isData s.heap d y)) ∧ us.any (isData s.heap d) = inD d ds := by
  have cx1 : d.canLay0 = true := (Bool.and_eq_true_iff.mp cx).1
  have cx2 : d.depth ≤ 50 := of_decide_eq_true (Bool.and_eq_true_iff.mp cx).2
  intro ws us r
  induction r with
  | nil =>
    intro ds h c
    cases h
    exact ⟨fun _ q => (by cases q), rfl⟩
  | cons r1 r2 ih =>
    intro ds h c
    cases h with
    | cons h1 h2 =>
      rw [List.all_cons, Bool.and_eq_true] at c
      obtain ⟨as, rd⟩ := Dp.reads I _ _ _ h1 r1
      have e1 := isData_of (d := d) rd
      obtain ⟨i1, i2⟩ := ih h2 c.2
      refine ⟨fun y hy => ?_, ?_⟩
      · rcases List.mem_cons.mp hy with q | q
        · rw [q, e1]
          exact SeqAt.eqAt_reads _ _ A s _ _ _ _ rd rx (Bool.and_eq_true_iff.mp c.1).1 cx1 (Nat.lt_of_le_of_lt (Nat.add_le_add_left (Nat.le_trans (Nat.min_le_right _ _) cx2) _) hu)
        · exact i1 y q
      · rw [List.any_cons, i2, e1]
        unfold inD
        rw [List.any_cons]
theorem op_inS {X : Cx} (hu : X.A.units + 64 < cLine) : OpR X (compareOp .In) (rInS X.K false) := by
  intro pins s σ H x y v u Q I rx ry h
  obtain ⟨a, ws, d, ds, rfl, hq, hx, hd, c1, c2, q⟩ := h
  cases ry
  obtain ⟨bs, rdx⟩ := Dp.reads I d x v hx rx
  have hu2 : X.A.in1.units + 50 < cLine := by show X.A.units + 1 + 50 < cLine; omega
  rcases hq with hq | hq
  · obtain ⟨its, r, pl, hz⟩ := I.list hq
    obtain ⟨i1, i2⟩ := in_each I rdx c1 hu2 r hd c2
    refine SeqAt.in_listAt (isData s.heap d) pl.isList (fun w hw => i1 w (by simpa using hw)) ⟨.bl _, H, I, rfl, ?_⟩
    rw [show its.toArray.any (isData s.heap d) = its.any (isData s.heap d) by simp, i2]
    exact q
  · obtain ⟨its, r, pl, hz⟩ := I.tuple hq
    obtain ⟨i1, i2⟩ := in_each I rdx c1 hu2 r hd c2
    refine SeqAt.in_tupleAt (isData s.heap d) pl (fun w hw => i1 w (by simpa using hw)) ⟨.bl _, H, I, rfl, ?_⟩
    rw [show its.toArray.any (isData s.heap d) = its.any (isData s.heap d) by simp, i2]
    exact q
theorem op_notInS {X : Cx} (hu : X.A.units + 64 < cLine) : OpR X (compareOp .NotIn) (rInS X.K true) := by
  intro pins s σ H x y v u Q I rx ry h
  obtain ⟨a, ws, d, ds, rfl, hq, hx, hd, c1, c2, q⟩ := h
  cases ry
  obtain ⟨bs, rdx⟩ := Dp.reads I d x v hx rx
  have hu2 : X.A.in1.units + 50 < cLine := by show X.A.units + 1 + 50 < cLine; omega
  rcases hq with hq | hq
  · obtain ⟨its, r, pl, hz⟩ := I.list hq
    obtain ⟨i1, i2⟩ := in_each I rdx c1 hu2 r hd c2
    refine SeqAt.notIn_listAt (isData s.heap d) pl.isList (fun w hw => i1 w (by simpa using hw)) ⟨.bl _, H, I, rfl, ?_⟩
    rw [show its.toArray.any (isData s.heap d) = its.any (isData s.heap d) by simp, i2]
    exact q
  · obtain ⟨its, r, pl, hz⟩ := I.tuple hq
    obtain ⟨i1, i2⟩ := in_each I rdx c1 hu2 r hd c2
    refine SeqAt.notIn_tupleAt (isData s.heap d) pl (fun w hw => i1 w (by simpa using hw)) ⟨.bl _, H, I, rfl, ?_⟩
    rw [show its.toArray.any (isData s.heap d) = its.any (isData s.heap d) by simp, i2]
    exact q
def inSOp (neg : Bool) (x xs : D) : Option Sl := match xs with
  | .list ds => if canIn x && ds.all canIn then some (.fr (.bool (if neg then !inD x ds else inD x ds))) else none
  | .tuple ds => if canIn x && ds.all canIn then some (.fr (.bool (if neg then !inD x ds else inD x ds))) else none
  | _ => none
theorem vr_inS {neg : Bool} : VR2 K (rInS K neg) (inSOp neg) := by
  intro F H x y dx dy s Q fh r1 r2 e q
  unfold inSOp at e
  split at e
  · rename_i ds
    split at e
    · rename_i hc
      rw [Bool.and_eq_true] at hc
      cases e
      obtain ⟨a, vs, rfl, h1, h2⟩ := r2.lst fh
      exact ⟨a, vs, dx, ds, rfl, .inl (.of h1), r1.dp fh, dtAll_dp _ _ (dpAll_mono fh _ _ h2), hc.1, hc.2, q _ F H (.refl fh) (.bl _)⟩
    · cases e
  · rename_i ds
    split at e
    · rename_i hc
      rw [Bool.and_eq_true] at hc
      cases e
      obtain ⟨a, vs, rfl, h1, h2, _⟩ := r2.tup fh
      exact ⟨a, vs, dx, ds, rfl, .inr h1, r1.dp fh, dtAll_dp _ _ (dpAll_mono fh _ _ h2), hc.1, hc.2, q _ F H (.refl fh) (.bl _)⟩
    · cases e
  · cases e
end
end DL

/-! x.index(y), x a list or a tuple made at run time. -/
namespace DL
open PySem PySem.Spec PyProof.Rows L2 RZ
section
variable {X : Cx} {K : PySem.W.Frag} {mg : Str → Option Value} {E : XW} {W : Wd} {F0 B F H F' H' : Hp} {σ tv us vs : L2.St} {ρ ρ' tr ss : Evn} {v : V} {d : D} {s : Sl} {c c' : Cn} {p : Addr} {i : Nat} {α β : Type}
def rTIx (K : PySem.W.Frag) : V → List V → Hp → VK → Prop := fun x xs H Q => ∃ p, ∃ ys : List Str, ∃ z j, x = .ref p ∧ xs = [.str z] ∧ SqT K H p (ys.map V.str) ∧ ys[j]? = some z ∧ (∀ m, m < j → ys[m]? ≠ some z) ∧ Q (.int (j : Nat)) H
def tIxm (K : PySem.W.Frag) (to : TE) (t : TA) : TE := fun σ H Q => to σ H fun x H1 => (tyV K "list" x H1 ∧ t σ H1 fun xs H2 => rIndex K x xs H2 Q) ∨ ((∃ p ys, x = .ref p ∧ SqN H1 p ys) ∧ t σ H1 fun xs H2 => rTIx K x xs H2 Q)
theorem pe_ixm {o e : Expr} {es : List Expr} {to : TE} {t : TA} {apos cpos : Pos} (ho : PE X o to) (ha : PA X (e :: es) t)
    (hbase : attributeBase o "index" X.env (eval o X.env) = eval o X.env := by rfl)
    (hfew : ((backTo cpos (starEach (e :: es) X.env)).all (fun x => !x.1) && (backToKw cpos (keywordEach [] X.env)).all (fun x => x.1.isSome)
      && decide ((e :: es).length + ([] : List Keyword).length + (if ([] : List Keyword).isEmpty then 0 else 1) < 30)) = true := by rfl)
    (hline : (apos.endLine == cpos.line) = true := by rfl) (hs : starEach (e :: es) X.env = (false, eval e X.env) :: starEach es X.env := by rfl) (hplain : (backTo cpos (starEach es X.env)).any (·.1) = false := by rfl) :
    PE X (.Call (.Attribute o "index" apos) (e :: es) [] cpos) (tIxm X.K to t) := by
  refine ⟨fun pins s σ H Q I h => ?_⟩
  refine wpAny_Call_method_late hbase hfew hline rfl (thn (ho.run pins s σ H _ I h) fun v s1 ⟨x, H1, I1, r1, q1⟩ => ?_)
  have hargs : (false || (backTo cpos (starEach es X.env)).any (·.1)) = false := by rw [hplain] <;> rfl
  rcases q1 with ⟨ty, q1⟩ | ⟨⟨p, ys, rfl, its, hp⟩, q1⟩
  · obtain ⟨h1, h2⟩ := tyV_is I1 r1 ty
    refine ⟨"list", "list.index", PySem.F.plainAttrs_list, PySem.F.slot_list_index, PySem.F.type_list_index, h1, h2, ?_⟩
    have hA := ha.run cpos pins s1 σ H1 _ I1 q1
    rw [hs] at hA ⊢
    exact Calls.callWith_builtin hargs (Calls.evalArgs_plain (thn hA fun us s2 ⟨vs, H2, I2, r2, q2⟩ => mt_index pins s2 σ H2 x vs v us Q I2 r1 r2 q2))
  · cases r1
    obtain ⟨e1, _⟩ := (show ObjOk X.prog X.w H1 s1.heap p (.frz (tupO its) (.tup ys)) from I1.hok p _ hp)
    refine ⟨"tuple", "tuple.index", PySem.F.plainAttrs_tuple, PySem.F.slot_tuple_index, PySem.F.type_tuple_index, ⟨_, e1, rfl⟩, fun a z => ?_, ?_⟩
    · cases z
      exact ⟨_, e1, rfl⟩
    have hA := ha.run cpos pins s1 σ H1 _ I1 q1
    rw [hs] at hA ⊢
    exact Calls.callWith_builtin hargs (Calls.evalArgs_plain (thn hA fun us s2 ⟨vs, H2, I2, r2, q2⟩ => mt_tup_index pins s2 σ H2 (.ref p) vs (.ref p) us Q I2 rfl r2 q2))
def isStrD : D → Bool
  | .str _ => true
  | _ => false
def ixmOp (xs y : D) : Option Sl := match xs, y with
  | .list ds, y => indexOp (.list ds) y
  | .tuple ds, .str z => if ds.all isStrD then (firstAt (.str z) ds).map fun j => .fr (.int j) else none
  | _, _ => none
def fIxm (f g : Evn → Res Sl) (ρ : Evn) : Res Sl := (f ρ).bind fun s1 ρ1 => match rd ρ1 s1 with
  | some (.list _) => (g ρ1).bind fun s2 ρ2 => ofOpt ρ2 (match rd ρ2 s1, rd ρ2 s2 with
    | some (.list ds), some d2 => ixmOp (.list ds) d2
    | _, _ => none)
  | some (.tuple _) => (g ρ1).bind fun s2 ρ2 => ofOpt ρ2 (match rd ρ2 s1, rd ρ2 s2 with
    | some (.tuple ds), some d2 => ixmOp (.tuple ds) d2
    | _, _ => none)
  | _ => .bad
theorem strs_all : ∀ {ds : List D} {vs : List V}, ds.all isStrD = true → DtAll K F vs ds → ∃ ys : List Str, ds = ys.map PyData.str ∧ vs = ys.map V.str
  | _, _, _, .nil => ⟨[], rfl, rfl⟩
  | d :: ds, _, h, .cons r t => by
    rw [List.all_cons, Bool.and_eq_true] at h
    obtain ⟨ys, rfl, rfl⟩ := strs_all h.2 t
    cases d with
    | str x =>
      cases r
      exact ⟨x :: ys, rfl, rfl⟩
    | _ => cases h.1
theorem vr_tix : VR2 K (fun x y H Q => rTIx K x [y] H Q) (fun a b => match a with
    | .tuple ds => ixmOp (.tuple ds) b
    | _ => none) := by
  intro F H x y dx dy s Q fh r1 r2 e q
  cases dx with
  | tuple ds =>
    cases dy with
    | str z =>
      have e : (if ds.all isStrD then (firstAt (.str z) ds).map fun j => Sl.fr (.int j) else none) = some s := e
      split at e
      · rename_i hc
        obtain ⟨a, vs, rfl, h1, h2, _⟩ := r1.tup fh
        obtain ⟨ys, rfl, rfl⟩ := strs_all hc h2
        cases ej : firstAt (.str z) (ys.map PyData.str) with
        | none => rw [ej] at e; cases e
        | some j =>
          rw [ej] at e
          cases e
          obtain ⟨⟨w, w1, w2⟩, w3⟩ := firstAt_ok ej
          rw [RepC.str r2]
          rw [List.getElem?_map] at w1
          cases ey : ys[j]? with
          | none => rw [ey] at w1; cases w1
          | some y =>
            rw [ey] at w1
            cases w1
            have ez : y = z := by simpa [PyData.eqv] using w2
            refine ⟨a, ys, z, j, rfl, rfl, h1, by rw [ey, ez], fun m hm hz => ?_, q _ F H (.refl fh) (.int _)⟩
            have := w3 m (.str z) hm (by rw [List.getElem?_map, hz]; rfl)
            simp [PyData.eqv] at this
      · cases e
    | _ => cases e
  | _ => cases e
theorem tj_ixm {to te : TE} {f g : Evn → Res Sl} (ha : TJ K mg E to f) (hb : TJ K mg E te g) : TJ K mg E (tIxm K to (tCons te tNil)) (fIxm f g) := by
  intro W F H σ tv ρ tr Q L S hW
  refine ha.run L S (fun _ _ _ h => h) hW fun s1 ρ1 x F1 H1 L1 S1 hW1 => ?_
  split at hW1
  · rename_i ds e1
    have r1 : RepC K F1 H1 x (.list ds) := S4.read (L1.cut (by simp)) (us := []) (ss := []) (by simpa using S1) e1
    obtain ⟨a, ws, ea, h1, h2⟩ := r1.lst S1.fh
    subst ea
    refine .inl ⟨.inl ⟨rfl, ws, .of h1⟩, hb.run L1 S1 (fun _ _ _ h => h.push L (by simp)) hW1 fun s2 ρ2 y F2 H2 L2 S2 hW2 => ?_⟩
    have Lb := L2.cut (us := [some y]) (ss := [some s2]) (by simp)
    have La : Ln W σ tv ρ2 tr := Lb.cut (by simp)
    have Sa : S4 K W F2 H2 σ tv ρ2 tr := S4.cut Lb (S4.cut L2 S2 (by simp)) (by simp)
    split at hW2
    · rename_i ds2 d2 e2 e3
      have q1 : RepC K F2 H2 (.ref a) (.list ds2) := S4.read La (us := [some y]) (ss := [some s2]) (by simpa using S2) e2
      have q2 : RepC K F2 H2 y d2 := S4.read Lb (us := []) (ss := []) (by simpa using S2) e3
      have hW2 : Wants _ _ (ofOpt ρ2 (indexOp (.list ds2) d2)) := hW2
      cases eo : indexOp (.list ds2) d2 with
      | none => rw [eo] at hW2; exact hW2.elim
      | some s =>
        rw [eo] at hW2
        exact vr_index F2 H2 _ y _ d2 s Q Sa.fh q1 q2 eo fun v F' H' g ok => hW2 v F' H' (S4.result Sa g ok)
    · exact hW2.elim
  · rename_i ds e1
    have r1 : RepC K F1 H1 x (.tuple ds) := S4.read (L1.cut (by simp)) (us := []) (ss := []) (by simpa using S1) e1
    obtain ⟨a, ws, ea, h1, h2⟩ := r1.tupN S1.fh
    subst ea
    refine .inr ⟨⟨a, ws, rfl, h1⟩, hb.run L1 S1 (fun _ _ _ h => h.push L (by simp)) hW1 fun s2 ρ2 y F2 H2 L2 S2 hW2 => ?_⟩
    have Lb := L2.cut (us := [some y]) (ss := [some s2]) (by simp)
    have La : Ln W σ tv ρ2 tr := Lb.cut (by simp)
    have Sa : S4 K W F2 H2 σ tv ρ2 tr := S4.cut Lb (S4.cut L2 S2 (by simp)) (by simp)
    split at hW2
    · rename_i ds2 d2 e2 e3
      have q1 : RepC K F2 H2 (.ref a) (.tuple ds2) := S4.read La (us := [some y]) (ss := [some s2]) (by simpa using S2) e2
      have q2 : RepC K F2 H2 y d2 := S4.read Lb (us := []) (ss := []) (by simpa using S2) e3
      have hW2 : Wants _ _ (ofOpt ρ2 (ixmOp (.tuple ds2) d2)) := hW2
      cases eo : ixmOp (.tuple ds2) d2 with
      | none => rw [eo] at hW2; exact hW2.elim
      | some s =>
        rw [eo] at hW2
        exact vr_tix F2 H2 _ y (.tuple ds2) d2 s Q Sa.fh q1 q2 eo fun v F' H' g ok => hW2 v F' H' (S4.result Sa g ok)
    · exact hW2.elim
  · exact hW1.elim
end
end DL

/-! dict(xs)[k], xs a list or a tuple of pairs whose keys are texts, k a variable. -/
namespace DL
open PySem PySem.Spec PyProof.Rows L2 RZ
section
variable {X : Cx} {K : PySem.W.Frag} {mg : Str → Option Value} {E : XW} {W : Wd} {F0 B F H F' H' : Hp} {σ tv us vs : L2.St} {ρ ρ' tr ss : Evn} {v : V} {d : D} {s : Sl} {c c' : Cn} {p : Addr} {i : Nat} {α β : Type}
def rDictP (K : PySem.W.Frag) : List V → Hp → VK → Prop := fun xs H Q => ∃ (a : Addr) (ps : List Addr) (kvs : List (Key × V)), xs = [.ref a] ∧ (SqL K H a (ps.map V.ref) ∨ SqN H a (ps.map V.ref)) ∧ Paired (fun p kv => SqT K H p [kV kv.1, kv.2]) ps kvs ∧
    ∀ p, H p = none → Q (.ref p) (upd H p (.dK (mergeK [] kvs)))
theorem call_dictN (hcalm : X.calm = true) : CallR X (.type "dict") (rDictP X.K) := by
  intro pins s σ H xs us Q I r q
  obtain ⟨a, ps, kvs, ex, hq, hp, q⟩ := q
  rcases hq with hq | ⟨its, hq⟩
  · exact call_dictP hcalm pins s σ H xs us Q I r ⟨a, ps, kvs, ex, hq, hp, q⟩
  subst ex
  rw [Vals.ref1 r]
  obtain ⟨e1, hz, its2, rv, o2, e2, _, n2, d2⟩ := (show ObjOk X.prog X.w H s.heap a (.frz (tupO its) (.tup (ps.map V.ref))) from I.hok a _ hq)
  have e3 := refs_at rv
  have eo : tupO its = o2 := by
    rw [e1] at e2
    exact Option.some.inj e2
  subst eo
  have ei : its = (ps.map Value.ref).toArray := by
    rw [e3] at d2
    cases d2
    rfl
  subst ei
  rw [List.length_map] at hz
  obtain ⟨prs, rel, hl, hpr⟩ := pairs_of I hp
  -- the pairs' values
  have vals : ∀ (l : List Addr) (qs : List (Key × Value)), qs.length = l.length → (∀ (j : Nat) (q : Key × Value), qs[j]? = some q → ∃ (b : Addr) (u : Value), l[j]? = some b ∧ IsTup s.heap b #[u, q.2] ∧ keyIs q.1 u = true) →
      ∃ uv : List (Value × Value), uv.length = l.length ∧ ∀ (j : Nat) (k v : Value), uv[j]? = some (k, v) → ∃ (b : Addr) (q : Key × Value), l[j]? = some b ∧ qs[j]? = some q ∧ q.2 = v ∧ IsTup s.heap b #[k, v] ∧ keyIs q.1 k = true := by
    intro l
    induction l with
    | nil => exact fun qs _ _ => ⟨[], rfl, fun j k v h => by simp at h⟩
    | cons b l ih =>
      intro qs hl h
      cases qs with
      | nil => cases hl
      | cons q qs =>
        obtain ⟨uv, h1, h2⟩ := ih qs (by simpa using hl) fun j q' e => by
          obtain ⟨b', u, z1, z2, z3⟩ := h (j + 1) q' (by simpa using e)
          exact ⟨b', u, by simpa using z1, z2, z3⟩
        obtain ⟨b', u, z1, z2, z3⟩ := h 0 q rfl
        cases z1
        refine ⟨(u, q.2) :: uv, by simp [h1], fun j k v e => ?_⟩
        cases j with
        | zero =>
          cases e
          exact ⟨b, q, rfl, rfl, rfl, z2, z3⟩
        | succ j =>
          obtain ⟨b2, q2, y1, y2, y3⟩ := h2 j k v (by simpa using e)
          exact ⟨b2, q2, by simpa using y1, by simpa using y2, y3⟩
  obtain ⟨uv, hu1, hu2⟩ := vals ps prs hl hpr
  refine PySem.call_dict_pairs (knd := mixKind X.prog X.w) (kvs := prs) (PySem.PairArg.tuple a (ps.map Value.ref).toArray (fun j => ps.getD j 0) uv) (I.ok.hd hcalm)
    ⟨⟨_, _, e1, rfl, rfl, rfl⟩, by simp [hu1], fun j k v e => ?_⟩ ⟨by rw [hl, hu1], fun j k v e => ?_⟩ (by rw [hu1]; exact hz) fun h' tk hd' k => ?_
  · obtain ⟨b, q', y1, y2, y3, y4, y5⟩ := hu2 j k v e
    have eb : ps.getD j 0 = b := by rw [List.getD_eq_getElem?_getD, y1]; rfl
    refine ⟨by simp [y1], .inl ?_⟩
    show s.heap.IsTuple (ps.getD j 0) #[k, v]
    rw [eb]
    exact y4
  · obtain ⟨b, q', y1, y2, y3, y4, y5⟩ := hu2 j k v e
    obtain ⟨qk, qv⟩ := q'
    cases y3
    exact ⟨qk, y2, y5⟩
  · have hm : (s.heap.objs.size == sysModules) = false := beq_eq_false_iff_ne.mpr (Nat.ne_of_gt I.big)
    have hlen : (mergeK [] kvs).length ≤ sizeLine := by
      refine Nat.le_trans (length_mergeK kvs []) ?_
      rw [List.length_nil, Nat.zero_add, rel.length, hl]
      exact hz
    exact ⟨.ref s.heap.objs.size, upd H s.heap.objs.size (.dK (mergeK [] kvs)), I.laid (t' := tk) (fun b o e => k b o (by simp) e) (Nat.le_refl _) (show ObjOk X.prog X.w _ _ _ (.dK (mergeK [] kvs)) from ⟨hlen, hm, merged [] prs, KV.merge rel .nil, hd'⟩), rfl, q _ (I.hok.fresh (Nat.le_refl _))⟩
theorem pe_dix {e k : Expr} {te tk : TE} {p pos pos2 : Pos} (hc : X.calm = true) (hu : X.A.units + 64 < cLine) (hg : Gl X "dict") (hm : X.mg "dict" = none) (he : PE X e te) (hk : PE X k tk) (hs : NoSl k)
    (na : starEach [e] X.env = (false, eval e X.env) :: starEach [] X.env := by rfl) : PE X (.Subscript (.Call (.Name "dict" p) [e] [] pos) k pos2) (tDGet (tCB (rDictP X.K) (tCons te tNil)) tk) :=
  pe_dget (by omega) (pe_callTy (call_dictN hc) hg hm PyProof.Rows.boot_dict (pa_cons he pa_nil na) (he := na)) hk hs
/-- the value of the last pair with this key -/
def lastP {β : Type} (z : Str) : List (Str × β) → Option β → Option β
  | [], o => o
  | p :: r, o => lastP z r (if z = p.1 then some p.2 else o)
def pairD : D → Option (Str × D)
  | .tuple [.str k, v] => some (k, v)
  | _ => none
theorem pairD_ok {d : D} {p : Str × D} (h : pairD d = some p) : d = .tuple [.str p.1, p.2] := by
  unfold pairD at h
  split at h
  · cases h
    rfl
  · cases h
def pairsD : List D → Option (List (Str × D))
  | [] => some []
  | d :: r => match pairD d, pairsD r with
    | some p, some ps => some (p :: ps)
    | _, _ => none
def dixOp (ds : List D) (z : Str) : Option D := (pairsD ds).bind fun ps => lastP z ps none
def fDix (f : Evn → Res Sl) (i : Nat) (ρ : Evn) : Res Sl := (f ρ).bind fun s ρ1 => match rd ρ1 s, ρ1[i]? with
  | some (.tuple ds), some (some (.fr (.str z))) => (match dixOp ds z with
    | some d => .ok (.fr d) ρ1
    | none => .bad)
  | some (.list ds), some (some (.fr (.str z))) => (match dixOp ds z with
    | some d => .ok (.fr d) ρ1
    | none => .bad)
  | _, _ => .bad
theorem valV_merge {z : Str} : ∀ (ps : List (Str × V)) (acc : List (Key × V)), valV (mergeK acc (ps.map fun p => ((Sum.inr p.1 : Key), p.2))) (Sum.inr z) = lastP z ps (valV acc (Sum.inr z))
  | [], acc => rfl
  | p :: r, acc => by
    show valV (mergeK (putK acc (Sum.inr p.1) p.2) (r.map fun p => ((Sum.inr p.1 : Key), p.2))) (Sum.inr z) = lastP z r (if z = p.1 then some p.2 else valV acc (Sum.inr z))
    rw [valV_merge r, valV_put]
    by_cases h : z = p.1
    · rw [if_pos (by rw [h]), if_pos h]
    · rw [if_neg (fun e => h (Sum.inr.inj e)), if_neg h]
theorem pairs_dt (fh : Same F H) : ∀ {ds : List D} {ws : List V} {ps : List (Str × D)}, DtAll K F ws ds → pairsD ds = some ps →
    ∃ (as : List Addr) (vs : List (Str × V)), ws = as.map V.ref ∧ Paired (fun p kv => SqT K H p [kV kv.1, kv.2]) as (vs.map fun p => ((Sum.inr p.1 : Key), p.2)) ∧ Paired (fun (a : Str × V) (b : Str × D) => a.1 = b.1 ∧ Dt K F a.2 b.2) vs ps
  | _, _, _, .nil, h => by
    cases h
    exact ⟨[], [], rfl, .nil, .nil⟩
  | d :: ds, _, _, .cons r t, h => by
    unfold pairsD at h
    cases e0 : pairD d with
    | none => rw [e0] at h; cases h
    | some p =>
      cases e : pairsD ds with
      | none => rw [e0, e] at h; cases h
      | some ps =>
        rw [e0, e] at h
        cases h
        have e1 := pairD_ok e0
        subst e1
        obtain ⟨as, vs, rfl, h1, h2⟩ := pairs_dt fh t e
        cases r with
        | @tup a xs _ hs ha =>
          cases ha with
          | cons ha1 ha =>
            cases ha with
            | cons ha2 ha =>
              cases ha
              cases ha1
              exact ⟨a :: as, (p.1, _) :: vs, rfl, .cons (same_sqT fh hs.sq) h1, .cons ⟨rfl, ha2⟩ h2⟩
theorem last_dt {z : Str} : ∀ {vs : List (Str × V)} {ps : List (Str × D)} {o : Option V} {o' : Option D} {d : D}, Paired (fun (a : Str × V) (b : Str × D) => a.1 = b.1 ∧ Dt K F a.2 b.2) vs ps → (∀ d, o' = some d → ∃ v, o = some v ∧ Dt K F v d) →
    lastP z ps o' = some d → ∃ v, lastP z vs o = some v ∧ Dt K F v d
  | _, _, o, o', d, .nil, h, e => h d e
  | a :: vs, b :: ps, o, o', d, .cons r t, h, e => by
    refine last_dt (o := if z = a.1 then some a.2 else o) (o' := if z = b.1 then some b.2 else o') t (fun d' e' => ?_) e
    rw [r.1]
    by_cases hz : z = b.1
    · rw [if_pos hz] at e'
      rw [if_pos hz]
      cases e'
      exact ⟨_, rfl, r.2⟩
    · rw [if_neg hz] at e'
      rw [if_neg hz]
      exact h d' e'
theorem tj_dix {te : TE} {f : Evn → Res Sl} (h : TJ K mg E te f) (i : Nat) : TJ K mg E (tDGet (tCB (rDictP K) (tCons te tNil)) (tVar i)) (fDix f i) := by
  intro W F H σ tv ρ tr Q L S hW
  refine h.run L S (fun _ _ _ h => h) hW fun s ρ1 x F1 H1 L1 S1 hW1 => ?_
  have Sa := S4.cut L1 S1 (by simp)
  have La : Ln W σ tv ρ1 tr := L1.cut (by simp)
  have key : ∀ {ds ws : List _} {a : Addr} {z : Str} {d : D}, x = .ref a → (SqL K H1 a ws ∨ SqN H1 a ws) → DtAll K F1 ws ds → ρ1[i]? = some (some (.fr (.str z))) → dixOp ds z = some d →
      Wants (Fly K mg E W σ tv tr) (fun s ρ' => ∀ v F' H', S4 K W F' H' σ (tv ++ [some v]) ρ' (tr ++ [some s]) → Q v H') (.ok (.fr d) ρ1) →
      rDictP K [x] H1 (fun v H2 => tVar i σ H2 fun y H3 => ∃ a v', v = .ref a ∧ DGet H3 a y (some v') ∧ Q v' H3) := by
    intro ds ws a z d ex hs hd hi ed hQ
    subst ex
    have hlen := (List.getElem?_eq_some_iff.mp hi).1
    obtain ⟨w, w1, w2⟩ := Sa.fr i (.str z) (by rw [List.getElem?_append_left hlen]; exact hi)
    cases w2
    rw [List.getElem?_append_left (by rw [La.s, ← La.r]; exact hlen)] at w1
    unfold dixOp at ed
    cases ep : pairsD ds with
    | none => rw [ep] at ed; cases ed
    | some ps =>
      rw [ep] at ed
      have ed : lastP z ps none = some d := ed
      obtain ⟨as, vs, rfl, h1, h2⟩ := pairs_dt Sa.fh hd ep
      obtain ⟨v, e1, e2⟩ := last_dt (o := none) (o' := none) h2 (fun d e => by cases e) ed
      refine ⟨a, as, _, rfl, hs, h1, fun p hp => ⟨_, w1, p, v, rfl, ?_, hQ v _ _ (S4.result (s := .fr d) Sa (.laid Sa.fh hp) e2)⟩⟩
      have g := DGet.k (H := upd H1 p (.dK (mergeK [] (vs.map fun p => ((Sum.inr p.1 : Key), p.2))))) (k := (Sum.inr z : Key)) upd_same
      rw [valV_merge, valV_nil, e1] at g
      exact g
  split at hW1
  · rename_i ds z e1 e2
    have r1 : RepC K F1 H1 x (.tuple ds) := S4.read La (us := []) (ss := []) (by simpa using S1) e1
    obtain ⟨a, ws, ea, h1, h2⟩ := r1.tupN S1.fh
    split at hW1
    · rename_i d ed
      exact key ea (.inr h1) h2 e2 ed hW1
    · exact hW1.elim
  · rename_i ds z e1 e2
    have r1 : RepC K F1 H1 x (.list ds) := S4.read La (us := []) (ss := []) (by simpa using S1) e1
    obtain ⟨a, ws, ea, h1, h2⟩ := r1.lst S1.fh
    split at hW1
    · rename_i d ed
      exact key ea (.inl (.of h1)) h2 e2 ed hW1
    · exact hW1.elim
  · exact hW1.elim
end
end DL

namespace DL
open PySem PySem.Spec PyProof.Rows L2
/-! ### a list times an int -/
section
variable {K : PySem.W.Frag} {F : Hp}
theorem dtAll_rep {vs : List V} {ds : List D} (h : DtAll K F vs ds) : ∀ k : Nat, DtAll K F (List.replicate k vs).flatten (List.replicate k ds).flatten
  | 0 => .nil
  | k + 1 => by
    rw [List.replicate_succ, List.replicate_succ, List.flatten_cons, List.flatten_cons]
    exact dpAll_app h (dtAll_rep h k)
def repOp (a b : D) : Option Sl := match a, b with
  | .list ds, .int k => if 0 ≤ k ∧ k ≤ 1000 ∧ ds.length ≤ 100 then some (.ow (.lst (List.replicate k.toNat ds).flatten)) else none
  | _, _ => none
theorem vr_rep : VR2 K rRep repOp := by
  intro F H x y dx dy s Q fh r1 r2 e q
  unfold repOp at e
  split at e
  · rename_i ds k
    split at e
    · rename_i h
      cases e
      obtain ⟨a, vs, rfl, h1, h2⟩ := r1.lst fh
      rw [RepC.int r2]
      have hl := dpAll_len h2
      refine ⟨a, k, vs, rfl, rfl, h1, by omega, by omega, ?_, fun p hp => q _ F _ (.laid fh hp) (.new_lst fh hp (dtAll_rep h2 _))⟩
      have a1 : vs.length * k.toNat ≤ 100 * 1000 := Nat.mul_le_mul (by omega) (by omega)
      rw [sizeLine_eq]
      omega
    · cases e
  · cases e
end
end DL

/-! DX: rules by which a denotation is run, construct by construct (each premise gives what the next one needs). -/
namespace DL
open PySem PySem.Spec PyProof.Rows L2 RZ
section
variable {α : Type} {f g f1 f2 : Evn → Res Sl} {fa ga : Evn → Res (List Sl)} {c1 c2 : Evn → Res Bool} {A B : Evn → Res Fl} {it : Evn → Res (List D)} {ρ ρ1 ρ2 ρ3 ρ0 ρb : Evn} {s s1 s2 s3 : Sl} {ss : List Sl} {b b1 b2 : Bool} {d d1 d2 : D} {ds es : List D} {i j : Nat}
theorem x_nil : fNil ρ = .ok [] ρ := rfl
theorem x_cons (h : f ρ = .ok s ρ1) (h2 : ga ρ1 = .ok ss ρ2) : fCons f ga ρ = .ok (s :: ss) ρ2 := by rw [fCons, h]; simp only [Res.bind]; rw [h2]
theorem x_c : fC d ρ = .ok (.fr d) ρ := rfl
theorem x_op {op : D → D → Option Sl} (h1 : f ρ = .ok s1 ρ1) (h2 : g ρ1 = .ok s2 ρ2) (r1 : rd ρ2 s1 = some d1) (r2 : rd ρ2 s2 = some d2) (e : op d1 d2 = some s) : fOp op f g ρ = .ok s ρ2 := by
  rw [fOp, h1]; simp only [Res.bind]; rw [h2]; simp only [Res.bind, r1, r2, e, ofOpt]
theorem x_un {op : D → Option Sl} (h1 : f ρ = .ok s1 ρ1) (r1 : rd ρ1 s1 = some d1) (e : op d1 = some s) : fUn op f ρ = .ok s ρ1 := by
  rw [fUn, h1]; simp only [Res.bind, r1, e, ofOpt]
theorem x_cb {op : List D → Option Sl} (h : fa ρ = .ok ss ρ1) (r : rds ρ1 ss = some ds) (e : op ds = some s) : fCB op fa ρ = .ok s ρ1 := by
  rw [fCB, h]; simp only [Res.bind, r, e, ofOpt]
theorem x_bl {op : D → D → Option Sl} {xs : List D} (h1 : f ρ = .ok s1 ρ1) (r0 : rd ρ1 s1 = some (.list ds)) (h2 : g ρ1 = .ok s2 ρ2) (r1 : rd ρ2 s1 = some d1) (r2 : rd ρ2 s2 = some d2) (e : op d1 d2 = some s) : fBL op f g ρ = .ok s ρ2 := by
  rw [fBL, h1]; simp only [Res.bind, r0]; rw [h2]; simp only [r1, r2, e, ofOpt]
theorem x_m1 {op : D → D → Option Sl} {x : Str} (h1 : f ρ = .ok (.fr (.str x)) ρ1) (h2 : g ρ1 = .ok s2 ρ2) (r2 : rd ρ2 s2 = some d2) (e : op (.str x) d2 = some s) : fM1 op f g ρ = .ok s ρ2 := by
  rw [fM1, h1]; simp only [Res.bind]; rw [h2]; simp only [r2, e, ofOpt]
theorem x_fz (h : f ρ = .ok s ρ1) (r : frz ρ1 s = some (d, ρ2)) : fFz f ρ = .ok (.fr d) ρ2 := by
  rw [fFz, h]; simp only [Res.bind, r]
theorem z_fr : frz ρ (.fr d) = some (d, ρ) := rfl
theorem z_ow : frz ρ (.ow (.lst ds)) = some (.list ds, ρ) := rfl
theorem z_br (h : ρ[i]? = some (some (.ow (.lst ds)))) (e : ρ.set i (some (.fr (.list ds))) = ρ1) : frz ρ (.br i) = some (.list ds, ρ1) := by
  simp only [frz, h, Cn.rd, e]
theorem x_tup (h : fa ρ = .ok ss ρ1) (r : frs ss = some ds) (hl : ds.length ≤ 100000) : fTup fa ρ = .ok (.fr (.tuple ds)) ρ1 := by
  rw [fTup, h]; simp only [Res.bind, r, if_pos hl]
theorem x_lst (h : fa ρ = .ok ss ρ1) (r : frs ss = some ds) (hl : ds.length ≤ 100000) : fLst fa ρ = .ok (.ow (.lst ds)) ρ1 := by
  rw [fLst, h]; simp only [Res.bind, r, if_pos hl]
theorem x_tst (h : f ρ = .ok (.fr (.bool b)) ρ1) : fTest f ρ = .ok b ρ1 := by rw [fTest, h]; rfl
theorem x_not (h : c1 ρ = .ok b ρ1) : fNot c1 ρ = .ok (!b) ρ1 := by rw [fNot, h]; rfl
theorem x_notV (h : f ρ = .ok (.fr (.bool b)) ρ1) : fNotV f ρ = .ok (.fr (.bool !b)) ρ1 := by rw [fNotV, h]; rfl
theorem x_and (h1 : c1 ρ = .ok b1 ρ1) (h2 : c2 ρ1 = .ok b2 ρ1) : fAnd c1 c2 ρ = .ok (b1 && b2) ρ1 := by
  rw [fAnd, h1]; simp only [Res.bind]; cases b1 <;> simp [h2]
theorem x_or (h1 : c1 ρ = .ok b1 ρ1) (h2 : c2 ρ1 = .ok b2 ρ1) : fOr c1 c2 ρ = .ok (b1 || b2) ρ1 := by
  rw [fOr, h1]; simp only [Res.bind]; cases b1 <;> simp [h2]
theorem x_andV (h1 : f ρ = .ok (.fr (.bool b1)) ρ1) (h2 : g ρ1 = .ok (.fr (.bool b2)) ρ1) : fAndV f g ρ = .ok (.fr (.bool (b1 && b2))) ρ1 := by
  rw [fAndV, h1]; simp only [Res.bind, asB]; cases b1 <;> simp [h2]
theorem x_orV (h1 : f ρ = .ok (.fr (.bool b1)) ρ1) (h2 : g ρ1 = .ok (.fr (.bool b2)) ρ1) : fOrV f g ρ = .ok (.fr (.bool (b1 || b2))) ρ1 := by
  rw [fOrV, h1]; simp only [Res.bind, asB]; cases b1 <;> simp [h2]
/-- the second one is looked at only where the first one says so -/
theorem x_andK {r : Res Bool} (h1 : c1 ρ = .ok b1 ρ1) (h2 : cond b1 (c2 ρ1) (.ok false ρ1) = r) : fAnd c1 c2 ρ = r := by
  rw [fAnd, h1]; simp only [Res.bind]; cases b1 <;> simpa using h2
theorem x_orK {r : Res Bool} (h1 : c1 ρ = .ok b1 ρ1) (h2 : cond b1 (.ok true ρ1) (c2 ρ1) = r) : fOr c1 c2 ρ = r := by
  rw [fOr, h1]; simp only [Res.bind]; cases b1 <;> simpa using h2
theorem x_andVK {r : Res Sl} (h1 : f ρ = .ok (.fr (.bool b1)) ρ1) (h2 : cond b1 (g ρ1) (.ok (.fr (.bool false)) ρ1) = r) : fAndV f g ρ = r := by
  rw [fAndV, h1]; simp only [Res.bind, asB]; cases b1 <;> simpa using h2
theorem x_orVK {r : Res Sl} (h1 : f ρ = .ok (.fr (.bool b1)) ρ1) (h2 : cond b1 (.ok (.fr (.bool true)) ρ1) (g ρ1) = r) : fOrV f g ρ = r := by
  rw [fOrV, h1]; simp only [Res.bind, asB]; cases b1 <;> simpa using h2
theorem x_if {r : Res Sl} (h1 : c1 ρ = .ok b1 ρ1) (h2 : cond b1 (f ρ1) (g ρ1) = r) : fIf c1 f g ρ = r := by
  rw [fIf, h1]; simp only [Res.bind]; cases b1 <;> simpa using h2
theorem x_ifS {r : Res Fl} (h1 : c1 ρ = .ok b1 ρ1) (h2 : cond b1 (A ρ1) (B ρ1) = r) : fIfS c1 A B ρ = r := by
  rw [fIfS, h1]; simp only [Res.bind]; cases b1 <;> simpa using h2
theorem x_seqIf {C : Evn → Res Fl} {r : Res Fl} (h1 : c1 ρ = .ok b1 ρ1) (h2 : cond b1 (fSeq A C ρ1) (fSeq B C ρ1) = r) : fSeq (fIfS c1 A B) C ρ = r := by
  rw [← h2]; simp only [fSeq, fIfS, h1, Res.bind]; cases b1 <;> rfl
theorem x_condT {β : Type} {x y r : β} (hb : b = true) (h : x = r) : cond b x y = r := by subst hb; exact h
theorem x_condF {β : Type} {x y r : β} (hb : b = false) (h : y = r) : cond b x y = r := by subst hb; exact h
theorem x_seqSeq {C : Evn → Res Fl} {r : Res Fl} (h : fSeq A (fSeq B C) ρ = r) : fSeq (fSeq A B) C ρ = r := by
  rw [← h]
  simp only [fSeq]
  cases A ρ with
  | bad => rfl
  | exc c d ρ => rfl
  | ok fl ρ => cases fl <;> rfl
theorem x_next : fNext ρ = .ok .nx ρ := rfl
theorem x_seqNext {r : Res Fl} (h : B ρ = r) : fSeq fNext B ρ = r := h
theorem x_seqRet (h : f ρ = .ok s ρ1) : fSeq (fRet f) B ρ = .ok (.rt s) ρ1 := by rw [fSeq, fRet, h]; rfl
theorem x_seq {r : Res Fl} (h : A ρ = .ok .nx ρ1) (h2 : B ρ1 = r) : fSeq A B ρ = r := by rw [fSeq, h]; exact h2
theorem x_ret (h : f ρ = .ok s ρ1) : fRet f ρ = .ok (.rt s) ρ1 := by rw [fRet, h]; rfl
theorem x_drop (h : f ρ = .ok s ρ1) : fDrop f ρ = .ok .nx ρ1 := by rw [fDrop, h]; rfl
theorem x_asg {r : Res Fl} (h : f ρ = .ok s ρ1) (p : put1 i ρ1 s = r) : fAsg i f ρ = r := by rw [fAsg, h]; exact p
theorem p_fr (hi : decide (i < ρ.length) = true) (e : ρ.set i (some (.fr d)) = ρ1) : put1 i ρ (.fr d) = .ok .nx ρ1 := by
  rw [put1, if_pos (of_decide_eq_true hi), e]
theorem p_ow {c : Cn} (hi : decide (i < ρ.length) = true) (e : ρ.set i (some (.ow c)) = ρ1) : put1 i ρ (.ow c) = .ok .nx ρ1 := by
  rw [put1, if_pos (of_decide_eq_true hi), e]
theorem p_br (hz : frz ρ (.br j) = some (d, ρ1)) (hi : decide (i < ρ1.length) = true) (e : ρ1.set i (some (.fr d)) = ρ2) : put1 i ρ (.br j) = .ok .nx ρ2 := by
  simp only [put1, hz, if_pos (of_decide_eq_true hi), e]
theorem x_par {is : List Nat} (h : fa ρ = .ok ss ρ1) (p : (decide (is.length = ss.length) && ss.all plainS && is.all fun i => decide (i < ρ1.length)) = true) (e : setE ρ1 is ss = ρ2) : fPar is fa ρ = .ok .nx ρ2 := by
  simp only [Bool.and_eq_true, decide_eq_true_eq, List.all_eq_true (l := is)] at p
  rw [fPar, h]
  simp only [Res.bind]
  rw [if_pos ⟨p.1.1, p.1.2, fun i hi => by simpa using p.2 i hi⟩, e]
theorem x_unp {gt : D → Evn → Option Evn} (h : fFz f ρ = .ok (.fr d) ρ1) (e : gt d ρ1 = some ρ2) : fUnp gt f ρ = .ok .nx ρ2 := by
  rw [fUnp, h]; simp only [Res.bind, e]
theorem x_iterS (h : fFz f ρ = .ok s ρ1) (e : asS ρ1 s = .ok ds ρ2) : fIterS f ρ = .ok ds ρ2 := by rw [fIterS, h]; exact e
theorem i_l : asS ρ (.fr (.list ds)) = .ok ds ρ := rfl
theorem i_t : asS ρ (.fr (.tuple ds)) = .ok ds ρ := rfl
theorem rng0 (k : Nat) : rng 0 k = (List.range k).map fun (i : Nat) => PyData.int (i : Int) := by simp [rng]
theorem x_range1 {n : Int} {k : Nat} (h : fa ρ = .ok ss ρ1) (r : rds ρ1 ss = some [.int n]) (hk : n = (k : Int)) (hn : k ≤ 1000000) : fRange1 fa ρ = .ok ((List.range k).map fun (i : Nat) => PyData.int (i : Int)) ρ1 := by
  subst hk
  rw [fRange1, h]
  simp only [Res.bind, r]
  rw [if_pos ⟨by omega, by omega⟩, Int.toNat_natCast, rng0]
theorem x_enum (h : fa ρ = .ok [.fr (.list ds)] ρ1) : fEnum fa ρ = .ok (enumD ds) ρ1 := by rw [fEnum, h]; rfl
theorem x_zipL (h : fa ρ = .ok [.fr (.list ds), .fr (.list es)] ρ1) : fZip fa ρ = .ok (zipD ds es) ρ1 := by rw [fZip, h]; rfl
theorem x_zipT (h : fa ρ = .ok [.fr (.tuple ds), .fr (.tuple es)] ρ1) : fZip fa ρ = .ok (zipD ds es) ρ1 := by rw [fZip, h]; rfl
theorem x_nopart : fNoPart ρ = .ok none ρ := rfl
theorem x_part {n : Int} (h : f ρ = .ok (.fr (.int n)) ρ1) : fPart f ρ = .ok (some n) ρ1 := by rw [fPart, h]; rfl
theorem x_sl {lo hi : Evn → Res (Option Int)} {l u : Option Int} (h : f ρ = .ok s ρ1) (hl : lo ρ1 = .ok l ρ2) (hu : hi ρ2 = .ok u ρ3) (r : rd ρ3 s = some d) (e : slOp d l u = some s1) : fSl f lo hi ρ = .ok s1 ρ3 := by
  rw [fSl, h]; simp only [Res.bind, hl, hu, r, e, ofOpt]
theorem x_callV {den : Option Cn → List D → Ret} (h : fa ρ = .ok ss ρ1) (r : rds ρ1 ss = some ds) (e : den none ds = .ok s none) (hn : (allFr ss || noLstS s) = true) : fCallV den fa ρ = .ok s ρ1 := by
  rw [fCallV, h]; simp only [Res.bind, callV, r, e, hn, if_true]
theorem x_callT {den : Option Cn → List D → Ret} {t : Sl} {c c' : Cn} (h : fa ρ = .ok (.br i :: ss) ρ1) (hi : ρ1[i]? = some (some t)) (ho : t.own = some c) (r : rds ρ1 ss = some ds) (hb : noBr i ss = true) (e : den (some c) ds = .ok s (some c')) (hn : (allFr ss || (noLstS s && noLstC c')) = true) (hs : ρ1.set i (some (t.put c')) = ρ2) : fCallT den fa ρ = .ok s ρ2 := by
  rw [fCallT, h]; simp only [Res.bind, callT, hi, ho, r, hb, e, hn, if_true, hs]
theorem x_callO {den : Option Cn → List D → Ret} {c c' : Cn} (h : fa ρ = .ok [.ow c] ρ1) (e : den (some c) [] = .ok s (some c')) : fCallO den fa ρ = .ok s ρ1 := by
  rw [fCallO, h]; simp only [Res.bind, callO, e]
theorem x_append {t t1 : Sl} {c0 : Cn} (h0 : ρ[i]? = some (some t)) (o0 : t.own = some c0) (h : fFz f ρ = .ok (.fr d) ρ1) (h1 : ρ1[i]? = some (some t1)) (o1 : t1.own = some (.lst ds)) (hs : ρ1.set i (some (t1.put (.lst (ds ++ [d])))) = ρ2) (hl : ds.length < 100000) : fAppend i f ρ = .ok (.fr .none) ρ2 := by
  unfold fAppend; simp only [h0, o0, h, Res.bind, h1, o1, if_pos hl, hs]
theorem x_extend {t t1 : Sl} {c0 : Cn} (h0 : ρ[i]? = some (some t)) (o0 : t.own = some c0) (h : fFz f ρ = .ok (.fr (.list es)) ρ1) (h1 : ρ1[i]? = some (some t1)) (o1 : t1.own = some (.lst ds)) (hs : ρ1.set i (some (t1.put (.lst (ds ++ es)))) = ρ2) (hl : ds.length + es.length < 100000) : fExtend i f ρ = .ok (.fr .none) ρ2 := by
  unfold fExtend; simp only [h0, o0, h, Res.bind, h1, o1, if_pos hl, hs]
def noDict : D → Bool
  | .dict _ => false
  | _ => true
theorem x_isi {T : String} (h : f ρ = .ok s ρ1) (r : rd ρ1 s = some d) (hd : noDict d = true) : fIsi T f ρ = .ok (.fr (.bool (isTy T d))) ρ1 := by
  simp only [fIsi, h, Res.bind, r]
  cases d <;> first | rfl | cases hd
theorem x_isi2 {T U : String} (h : f ρ = .ok s ρ1) (r : rd ρ1 s = some d) (hd : noDict d = true) : fIsi2 T U f ρ = .ok (.fr (.bool (isTy T d || isTy U d))) ρ1 := by
  simp only [fIsi2, h, Res.bind, r]
  cases d <;> first | rfl | cases hd
theorem x_for {gt : D → Evn → Option Evn} {r : Res Fl} (ei : it ρ = .ok ds ρ1) (h : fLoop gt A ds ρ1 = r) : fFor it gt A ρ = r := by rw [fFor, ei]; exact h
theorem x_loop0 {gt : D → Evn → Option Evn} : fLoop gt A [] ρ = .ok .nx ρ := rfl
theorem x_loop {gt : D → Evn → Option Evn} {r : Res Fl} (eg : gt d ρ = some ρ1) (h : A ρ1 = .ok .nx ρ2) (h2 : fLoop gt A ds ρ2 = r) : fLoop gt A (d :: ds) ρ = r := by
  rw [fLoop, eg]; simp only []; rw [h]; exact h2
theorem x_loopCt {gt : D → Evn → Option Evn} {r : Res Fl} (eg : gt d ρ = some ρ1) (h : A ρ1 = .ok .ct ρ2) (h2 : fLoop gt A ds ρ2 = r) : fLoop gt A (d :: ds) ρ = r := by
  rw [fLoop, eg]; simp only []; rw [h]; exact h2
theorem x_loopRt {gt : D → Evn → Option Evn} (eg : gt d ρ = some ρ1) (h : A ρ1 = .ok (.rt s) ρ2) : fLoop gt A (d :: ds) ρ = .ok (.rt s) ρ2 := by
  rw [fLoop, eg]; simp only []; rw [h]; rfl
theorem x_whileF {n : Nat} (h : c1 ρ = .ok false ρ1) : fWhile (n + 1) c1 A ρ = .ok .nx ρ1 := by rw [fWhile, h]; rfl
theorem x_whileT {n : Nat} {r : Res Fl} (h : c1 ρ = .ok true ρ1) (h1 : A ρ1 = .ok .nx ρ2) (h2 : fWhile n c1 A ρ2 = r) : fWhile (n + 1) c1 A ρ = r := by
  rw [fWhile, h]; simp only [Res.bind, if_true]; rw [h1]; exact h2
/-- a loop that goes on to its end: E tells the slots by the state, step the state behind an item -/
theorem x_fold {S : Type} {gt : D → Evn → Option Evn} (enc : α → D) (E : S → Evn) (step : S → α → S) (I : S → List α → Prop) : ∀ (xs : List α) (z : S), I z xs →
    (∀ z x r, I z (x :: r) → I (step z x) r ∧ ∃ ρ1, gt (enc x) (E z) = some ρ1 ∧ A ρ1 = .ok .nx (E (step z x))) → fLoop gt A (xs.map enc) (E z) = .ok .nx (E (xs.foldl step z))
  | [], z, _, _ => rfl
  | x :: xs, z, hI, H => by
    obtain ⟨h1, ρ1, e1, e2⟩ := H z x xs hI
    rw [List.map_cons]
    exact x_loop e1 e2 (x_fold enc E step I xs _ h1 H)
theorem x_turns {enc : α → D} {gt : D → Evn → Option Evn} {ks : List Nat} {p : α → Bool} {F : α → D} : ∀ (xs : List α) (acc : List D),
    (∀ x ∈ xs, ∃ ρ1, gt (enc x) ρ0 = some ρ1 ∧ ∃ ρ2, c1 ρ1 = .ok (p x) ρ2 ∧ (p x = true → ∃ ρ3, fFz f ρ2 = .ok (.fr (F x)) ρ3 ∧ wipeE ρ3 ks = ρ0) ∧ (p x = false → wipeE ρ2 ks = ρ0)) → fTurns ks gt c1 f (xs.map enc) acc ρ0 = .ok (acc ++ (xs.filter p).map F) ρ0
  | [], acc, _ => by simp [fTurns]
  | x :: xs, acc, H => by
    obtain ⟨ρ1, e1, ρ2, e2, e3, e4⟩ := H x List.mem_cons_self
    have ih := fun a => x_turns (p := p) (F := F) xs a fun y hy => H y (List.mem_cons_of_mem _ hy)
    rw [List.map_cons, fTurns, e1]
    simp only []
    rw [e2]
    simp only [Res.bind]
    cases hp : p x with
    | true =>
      obtain ⟨ρ3, e5, e6⟩ := e3 hp
      simp only [if_true]
      rw [e5]
      simp only []
      rw [e6, ih, List.filter_cons_of_pos hp]
      simp
    | false =>
      simp only [Bool.false_eq_true, if_false]
      rw [e4 hp, ih, List.filter_cons_of_neg (by simp [hp])]
/-- a comprehension with a test -/
theorem x_lcF {enc : α → D} {xs : List α} {gt : D → Evn → Option Evn} {ks : List Nat} {p : α → Bool} {F : α → D} (ei : it ρ = .ok (xs.map enc) ρ1) (hk : (ks.all fun k => decide (k < ρ1.length)) = true) (ew : wipeE ρ1 ks = ρ0) (eb : backE ρ1 ρ0 ks = ρb)
    {ρx ρy : α → Evn} (H1 : ∀ x ∈ xs, gt (enc x) ρ0 = some (ρx x)) (H2 : ∀ x ∈ xs, c1 (ρx x) = .ok (p x) (ρx x)) (H3 : ∀ x ∈ xs, p x = true → fFz f (ρx x) = .ok (.fr (F x)) (ρy x)) (H4 : ∀ x ∈ xs, wipeE (ρx x) ks = ρ0) (H5 : ∀ x ∈ xs, wipeE (ρy x) ks = ρ0) (hz : xs.length ≤ 100000) :
    fLc ks it gt c1 f ρ = .ok (.ow (.lst ((xs.filter p).map F))) ρb := by
  rw [fLc, ei]
  simp only [Res.bind]
  rw [if_pos ⟨by rw [List.length_map]; exact hz, by simpa using hk⟩, ew, x_turns (p := p) (F := F) xs [] fun x hx => ⟨ρx x, H1 x hx, ρx x, H2 x hx, fun hp => ⟨ρy x, H3 x hx hp, H5 x hx⟩, fun _ => H4 x hx⟩]
  simp only [noExc, Res.bind, List.nil_append]
  rw [eb]
/-- a comprehension without one -/
theorem x_lcM {enc : α → D} {xs : List α} {gt : D → Evn → Option Evn} {ks : List Nat} {F : α → D} (ei : it ρ = .ok (xs.map enc) ρ1) (hk : (ks.all fun k => decide (k < ρ1.length)) = true) (ew : wipeE ρ1 ks = ρ0) (eb : backE ρ1 ρ0 ks = ρb)
    {ρx ρy : α → Evn} (H1 : ∀ x ∈ xs, gt (enc x) ρ0 = some (ρx x)) (H3 : ∀ x ∈ xs, fFz f (ρx x) = .ok (.fr (F x)) (ρy x)) (H5 : ∀ x ∈ xs, wipeE (ρy x) ks = ρ0) (hz : xs.length ≤ 100000) :
    fLc ks it gt (fun ρ => .ok true ρ) f ρ = .ok (.ow (.lst (xs.map F))) ρb := by
  rw [fLc, ei]
  simp only [Res.bind]
  rw [if_pos ⟨by rw [List.length_map]; exact hz, by simpa using hk⟩, ew, x_turns (p := fun _ => true) (F := F) xs [] fun x hx => ⟨ρx x, H1 x hx, ρx x, rfl, fun _ => ⟨ρy x, H3 x hx, H5 x hx⟩, fun z => by cases z⟩]
  simp only [noExc, Res.bind, List.nil_append]
  rw [eb, List.filter_eq_self.mpr fun _ _ => rfl]
/-! ### targets -/
theorem g_nm (hi : decide (i < ρ.length) = true) (e : ρ.set i (some (.fr d)) = ρ1) : gNm i d ρ = some ρ1 := by rw [gNm, if_pos (of_decide_eq_true hi), e]
theorem g_nil : gNilF [] ρ = some ρ := rfl
theorem g_cons {gt : D → Evn → Option Evn} {gs : List D → Evn → Option Evn} (h : gt d ρ = some ρ1) (h2 : gs ds ρ1 = some ρ2) : gConsF gt gs (d :: ds) ρ = some ρ2 := by simp only [gConsF, h]; exact h2
theorem g_seqT {n : Nat} {gs : List D → Evn → Option Evn} (hl : ds.length = n) (h : gs ds ρ = some ρ1) : gSeqF n gs (.tuple ds) ρ = some ρ1 := by simp only [gSeqF, if_pos hl]; exact h
theorem g_seqL {n : Nat} {gs : List D → Evn → Option Evn} (hl : ds.length = n) (h : gs ds ρ = some ρ1) : gSeqF n gs (.list ds) ρ = some ρ1 := by simp only [gSeqF, if_pos hl]; exact h
/-! ### values -/
theorem v_bools : ∀ bs : List Bool, bools (bs.map PyData.bool) = some bs
  | [] => rfl
  | b :: bs => by simp [bools, v_bools bs]
theorem v_ints : ∀ bs : List Int, intsD (bs.map PyData.int) = some bs
  | [] => rfl
  | b :: bs => by simp [intsD, v_ints bs]
theorem v_all {xs : List α} {p : α → Bool} : allOp [.list (xs.map fun x => .bool (p x))] = some (.fr (.bool (xs.all p))) := by
  have e : xs.map (fun x => PyData.bool (p x)) = (xs.map p).map PyData.bool := by rw [List.map_map]; rfl
  rw [e]
  simp only [allOp, v_bools, Option.map_some]
  rw [List.all_map]
  rfl
theorem v_any {xs : List α} {p : α → Bool} : anyOp [.list (xs.map fun x => .bool (p x))] = some (.fr (.bool (xs.any p))) := by
  have e : xs.map (fun x => PyData.bool (p x)) = (xs.map p).map PyData.bool := by rw [List.map_map]; rfl
  rw [e]
  simp only [anyOp, v_bools, Option.map_some]
  rw [List.any_map]
  rfl
theorem v_sum {xs : List α} {p : α → Int} : sumOp [.list (xs.map fun x => .int (p x))] = some (.fr (.int ((xs.map p).sum))) := by
  have e : xs.map (fun x => PyData.int (p x)) = (xs.map p).map PyData.int := by rw [List.map_map]; rfl
  rw [e]
  simp only [sumOp, v_ints, Option.map_some]
theorem v_lenL {xs : List α} {F : α → D} : lenOp [.list (xs.map F)] = some (.fr (.int xs.length)) := by simp [lenOp]
theorem v_lenT {xs : List α} {F : α → D} : lenOp [.tuple (xs.map F)] = some (.fr (.int xs.length)) := by simp [lenOp]
theorem x_enumM {enc : α → D} {xs : List α} (h : fa ρ = .ok [.fr (.list (xs.map enc))] ρ1) : fEnum fa ρ = .ok (xs.zipIdx.map fun p => .tuple [.int (p.2 : Int), enc p.1]) ρ1 := by
  rw [x_enum h]
  congr 1
  unfold enumD
  apply List.ext_getElem?
  intro k
  simp only [List.getElem?_zipWith, List.getElem?_map, List.getElem?_zipIdx, List.length_map, List.getElem?_range']
  by_cases hk : k < xs.length
  · simp [hk]
  · simp [hk]
theorem v_zip {β : Type} {e1 : α → D} {e2 : β → D} : ∀ (xs : List α) (ys : List β), zipD (xs.map e1) (ys.map e2) = (xs.zip ys).map fun p => .tuple [e1 p.1, e2 p.2]
  | [], ys => by cases ys <;> rfl
  | _ :: _, [] => rfl
  | x :: xs, y :: ys => by
    have := v_zip (e1 := e1) (e2 := e2) xs ys
    unfold zipD at this ⊢
    rw [List.map_cons, List.map_cons, List.zipWith_cons_cons, this]
    rfl
theorem x_zipLM {β : Type} {e1 : α → D} {e2 : β → D} {xs : List α} {ys : List β} (h : fa ρ = .ok [.fr (.list (xs.map e1)), .fr (.list (ys.map e2))] ρ1) : fZip fa ρ = .ok ((xs.zip ys).map fun p => .tuple [e1 p.1, e2 p.2]) ρ1 := by rw [x_zipL h, v_zip]
theorem x_zipTM {β : Type} {e1 : α → D} {e2 : β → D} {xs : List α} {ys : List β} (h : fa ρ = .ok [.fr (.tuple (xs.map e1)), .fr (.tuple (ys.map e2))] ρ1) : fZip fa ρ = .ok ((xs.zip ys).map fun p => .tuple [e1 p.1, e2 p.2]) ρ1 := by rw [x_zipT h, v_zip]
theorem r_fr : rd ρ (.fr d) = some d := rfl
theorem r_ow : rd ρ (.ow (.lst ds)) = some (.list ds) := rfl
theorem r_br (h : ρ[i]? = some (some (.ow (.lst ds)))) : rd ρ (.br i) = some (.list ds) := by simp only [rd, h, Sl.own, Option.map, Cn.rd]
theorem r_bi (h : ρ[i]? = some (some (.io j (.lst ds)))) : rd ρ (.br i) = some (.list ds) := by simp only [rd, h, Sl.own, Option.map, Cn.rd]
theorem r_nil : rds ρ [] = some [] := rfl
theorem r_cons (h : rd ρ s = some d) (h2 : rds ρ ss = some ds) : rds ρ (s :: ss) = some (d :: ds) := by simp only [rds, h, h2]
theorem q_nil : frs [] = some [] := rfl
theorem q_cons (h : frs ss = some ds) : frs (.fr d :: ss) = some (d :: ds) := by simp only [frs, h]
theorem x_chain {o1 o2 : D → D → Option Sl} {h : Evn → Res Sl} {i j k : Int} (h1 : f ρ = .ok (.fr (.int i)) ρ1) (h2 : g ρ1 = .ok (.fr (.int j)) ρ2) (e1 : o1 (.int i) (.int j) = some (.fr (.bool b1))) (h3 : h ρ2 = .ok (.fr (.int k)) ρ2) (e2 : o2 (.int j) (.int k) = some (.fr (.bool b2))) : fChain o1 o2 f g h ρ = .ok (.fr (.bool (b1 && b2))) ρ2 := by
  simp only [fChain, h1, Res.bind, h2, e1]
  cases b1
  · rfl
  · simp only [h3, e2, Bool.true_and]
def seqQ : D → Bool
  | .list _ => true
  | .tuple _ => true
  | _ => false
theorem x_ixm (h1 : f ρ = .ok s1 ρ1) (r0 : rd ρ1 s1 = some d1) (hq : seqQ d1 = true) (h2 : g ρ1 = .ok s2 ρ2) (r1 : rd ρ2 s1 = some d1) (r2 : rd ρ2 s2 = some d2) (e : ixmOp d1 d2 = some s) : fIxm f g ρ = .ok s ρ2 := by
  cases d1 <;> first | (simp only [fIxm, h1, Res.bind, r0, h2, r1, r2, e, ofOpt]; done) | (cases hq)
theorem x_aug {op : D → D → Option Sl} {r : Res Fl} (h0 : ρ[i]? = some (some (.fr d1))) (h : f ρ = .ok s ρ1) (rr : rd ρ1 s = some d2) (e : op d1 d2 = some (.fr d)) (hi : decide (i < ρ1.length) = true) (hs : ρ1.set i (some (.fr d)) = ρ2) : fAug i op f ρ = .ok .nx ρ2 := by
  simp only [fAug, h0, h, Res.bind, rr, e, if_pos (of_decide_eq_true hi), hs]
theorem x_ssc {enc : α → D} {xs : List α} {gt : D → Evn → Option Evn} {ks : List Nat} {F : α → D} (ei : it ρ = .ok (xs.map enc) ρ1) (hk : (ks.all fun k => decide (k < ρ1.length)) = true) (ew : wipeE ρ1 ks = ρ0) (eb : backE ρ1 ρ0 ks = ρb)
    {ρx ρy : α → Evn} (H1 : ∀ x ∈ xs, gt (enc x) ρ0 = some (ρx x)) (H3 : ∀ x ∈ xs, fFz f (ρx x) = .ok (.fr (F x)) (ρy x)) (H5 : ∀ x ∈ xs, wipeE (ρy x) ks = ρ0) (e : ssTop (xs.map F) = some s) (hz : xs.length ≤ 100000) :
    fSsc ks it gt (fun ρ => .ok true ρ) f ρ = .ok s ρb := by
  rw [fSsc, ei]
  simp only [Res.bind]
  rw [if_pos ⟨by rw [List.length_map]; exact hz, by simpa using hk⟩, ew, x_turns (p := fun _ => true) (F := F) xs [] fun x hx => ⟨ρx x, H1 x hx, ρx x, rfl, fun _ => ⟨ρy x, H3 x hx, H5 x hx⟩, fun z => by cases z⟩]
  simp only [noExc, Res.bind, List.nil_append]
  rw [eb, List.filter_eq_self.mpr fun _ _ => rfl, e]
  rfl
theorem x_turns2 {β : Type} {enc : α → D} {enc1 : α → β → D} {gt gt1 : D → Evn → Option Evn} {it1 : Evn → Res (List D)} {ks ks1 : List Nat} {p : α → Bool} {q : α → β → Bool} {ys : α → List β} {F : α → β → D} : ∀ (xs : List α) (acc : List D), acc.length + (xs.map fun x => (ys x).length).sum ≤ 100000 →
    (∀ x ∈ xs, ∃ ρ1, gt (enc x) ρ0 = some ρ1 ∧ c1 ρ1 = .ok (p x) ρ1 ∧ wipeE ρ1 ks = ρ0 ∧ (p x = true → it1 ρ1 = .ok ((ys x).map (enc1 x)) ρ1 ∧ (∀ k ∈ ks1, k < ρ1.length) ∧ wipeE ρ1 ks1 = ρ1 ∧ ∀ y ∈ ys x, ∃ ρ2, gt1 (enc1 x y) ρ1 = some ρ2 ∧ c2 ρ2 = .ok (q x y) ρ2 ∧ wipeE ρ2 ks1 = ρ1 ∧ (q x y = true → ∃ ρ3, fFz f ρ2 = .ok (.fr (F x y)) ρ3 ∧ wipeE ρ3 ks1 = ρ1))) →
    fTurns2 ks gt c1 it1 ks1 gt1 c2 f (xs.map enc) acc ρ0 = .ok (acc ++ (xs.filter p).flatMap fun x => ((ys x).filter (q x)).map (F x)) ρ0
  | [], acc, _, _ => by simp [fTurns2]
  | x :: xs, acc, hz, H => by
    obtain ⟨ρ1, e1, e2, e3, e4⟩ := H x List.mem_cons_self
    rw [List.map_cons, List.sum_cons] at hz
    rw [List.map_cons, fTurns2, e1]
    simp only []
    rw [e2]
    simp only [Res.bind]
    cases hp : p x with
    | true =>
      obtain ⟨e5, e6, e7, e8⟩ := e4 hp
      simp only [if_true]
      rw [e5]
      simp only []
      rw [if_pos ⟨by rw [List.length_map]; omega, e6⟩, e7, x_turns (p := q x) (F := F x) (ys x) acc fun y hy => by
        obtain ⟨ρ2, a1, a2, a3, a4⟩ := e8 y hy
        exact ⟨ρ2, a1, ρ2, a2, a4, fun _ => a3⟩]
      simp only []
      have hl : (((ys x).filter (q x)).map (F x)).length ≤ (ys x).length := by rw [List.length_map]; exact List.length_filter_le _ _
      rw [e3, x_turns2 (p := p) (q := q) (ys := ys) (F := F) xs _ (by rw [List.length_append]; omega) fun y hy => H y (List.mem_cons_of_mem _ hy), List.filter_cons_of_pos hp, List.flatMap_cons, List.append_assoc]
    | false =>
      simp only [Bool.false_eq_true, if_false]
      rw [e3, x_turns2 (p := p) (q := q) (ys := ys) (F := F) xs _ (by omega) fun y hy => H y (List.mem_cons_of_mem _ hy), List.filter_cons_of_neg (by simp [hp])]
/-- a comprehension with two for -/
theorem x_lc2 {β : Type} {enc : α → D} {enc1 : α → β → D} {xs : List α} {gt gt1 : D → Evn → Option Evn} {it1 : Evn → Res (List D)} {ks ks1 : List Nat} {p : α → Bool} {q : α → β → Bool} {ys : α → List β} {F : α → β → D} {ρx : α → Evn} {ρy ρz : α → β → Evn} (ei : it ρ = .ok (xs.map enc) ρ1) (hk : (ks.all fun k => decide (k < ρ1.length)) = true) (ew : wipeE ρ1 ks = ρ0) (eb : backE ρ1 ρ0 ks = ρb)
    (H1 : ∀ x ∈ xs, gt (enc x) ρ0 = some (ρx x)) (H2 : ∀ x ∈ xs, c1 (ρx x) = .ok (p x) (ρx x)) (H3 : ∀ x ∈ xs, wipeE (ρx x) ks = ρ0) (H4 : ∀ x ∈ xs, it1 (ρx x) = .ok ((ys x).map (enc1 x)) (ρx x)) (H5 : ∀ x ∈ xs, (ks1.all fun k => decide (k < (ρx x).length)) = true) (H6 : ∀ x ∈ xs, wipeE (ρx x) ks1 = ρx x)
    (G1 : ∀ x ∈ xs, ∀ y ∈ ys x, gt1 (enc1 x y) (ρx x) = some (ρy x y)) (G2 : ∀ x ∈ xs, ∀ y ∈ ys x, c2 (ρy x y) = .ok (q x y) (ρy x y)) (G3 : ∀ x ∈ xs, ∀ y ∈ ys x, wipeE (ρy x y) ks1 = ρx x) (G4 : ∀ x ∈ xs, ∀ y ∈ ys x, fFz f (ρy x y) = .ok (.fr (F x y)) (ρz x y)) (G5 : ∀ x ∈ xs, ∀ y ∈ ys x, wipeE (ρz x y) ks1 = ρx x) (hz : (xs.map fun x => (ys x).length).sum ≤ 100000) :
    fLc2 ks it gt c1 it1 ks1 gt1 c2 f ρ = .ok (.ow (.lst ((xs.filter p).flatMap fun x => ((ys x).filter (q x)).map (F x)))) ρb := by
  rw [fLc2, ei]
  simp only [Res.bind]
  rw [if_pos (by simpa using hk), ew, x_turns2 (p := p) (q := q) (ys := ys) (F := F) (enc1 := enc1) xs [] (by simpa using hz) fun x hx => ⟨ρx x, H1 x hx, H2 x hx, H3 x hx, fun _ => ⟨H4 x hx, by simpa using H5 x hx, H6 x hx, fun y hy => ⟨ρy x y, G1 x hx y hy, G2 x hx y hy, G3 x hx y hy, fun _ => ⟨ρz x y, G4 x hx y hy, G5 x hx y hy⟩⟩⟩⟩]
  simp only [noExc, Res.bind, List.nil_append]
  rw [eb]
theorem x_callVx {den : Option Cn → List D → Ret} (e : den none ds = .ok s none) (h : fa ρ = .ok ss ρ1) (r : rds ρ1 ss = some ds) (hn : (allFr ss || noLstS s) = true) : fCallV den fa ρ = .ok s ρ1 := x_callV h r e hn
theorem x_fin {co co' : Option Cn} {G : Evn → Res Fl} {R : Ret} (h : G ρ = .ok (.rt s) ρ1) (hc : finC co ρ1 = some co') (hr : retS ρ1 co' s = R) : finR co (G ρ) = R := by rw [h]; simp only [finR, hc, hr]
theorem x_finN {co co' : Option Cn} {G : Evn → Res Fl} (h : G ρ = .ok .nx ρ1) (hc : finC co ρ1 = some co') : finR co (G ρ) = .ok (.fr .none) co' := by rw [h]; simp only [finR, hc]
theorem c_n : finC none ρ = some none := rfl
theorem c_s {c c' : Cn} (h : ρ[0]? = some (some (.io 0 c'))) : finC (some c) ρ = some (some c') := by simp only [finC, h]
theorem t_fr {co : Option Cn} : retS ρ co (.fr d) = .ok (.fr d) co := rfl
theorem t_ow {co : Option Cn} {c : Cn} : retS ρ co (.ow c) = .ok (.ow c) co := rfl
theorem t_br {co : Option Cn} {c : Cn} (h : ρ[i]? = some (some (.ow c))) : retS ρ co (.br i) = .ok (.ow c) co := by simp only [retS, h]
theorem x_lcOF {ks : List Nat} {gt : D → Evn → Option Evn} {r : Res Sl} (h : ownL ρ j = none) (h2 : fLc ks (fIterS (fVar j)) gt c1 f ρ = r) : fLcO ks j gt c1 f ρ = r := by
  unfold fLcO
  rw [h]
  exact h2
theorem x_lcOM {enc : α → D} {xs : List α} {gt : D → Evn → Option Evn} {ks : List Nat} {F : α → D} (e0 : ownL ρ j = some (xs.map enc)) (hk : (ks.all fun k => decide (k < ρ.length) && decide (j ≠ k)) = true) (ew : wipeE ρ ks = ρ0) (eb : backE ρ ρ0 ks = ρb) (e1 : ownL ρ0 j = some (xs.map enc))
    {ρx ρy : α → Evn} (H1 : ∀ x ∈ xs, gt (enc x) ρ0 = some (ρx x)) (H3 : ∀ x ∈ xs, fFz f (ρx x) = .ok (.fr (F x)) (ρy x)) (H5 : ∀ x ∈ xs, wipeE (ρy x) ks = ρ0) (hz : xs.length ≤ 100000) :
    fLcO ks j gt (fun ρ => .ok true ρ) f ρ = .ok (.ow (.lst (xs.map F))) ρb := by
  simp only [List.all_eq_true, Bool.and_eq_true, decide_eq_true_eq] at hk
  unfold fLcO
  simp only [e0]
  rw [if_pos ⟨by rw [List.length_map]; exact hz, fun k hq => (hk k hq).1, fun q => (hk j q).2 rfl⟩, ew, x_turns (p := fun _ => true) (F := F) xs [] fun x hx => ⟨ρx x, by rw [gOwn, if_pos e1]; exact H1 x hx, ρx x, rfl, fun _ => ⟨ρy x, H3 x hx, H5 x hx⟩, fun z => by cases z⟩]
  simp only [noExc, Res.bind, List.nil_append]
  rw [if_pos e1, eb, List.filter_eq_self.mpr fun _ _ => rfl]
theorem id_imp {b : Bool} {P : Prop} (h : b = true → P) : b = true → P := h
theorem id_int {x r : Int} (h : x = r) : x = r := h
theorem id_oc {x r : Option (Option Cn)} (h : x = r) : x = r := h
theorem id_ret {x r : Ret} (h : x = r) : x = r := h
theorem id_le {x r : Nat} (h : x ≤ r) : x ≤ r := h
theorem id_lt {x r : Nat} (h : x < r) : x < r := h
theorem id_bo {x r : Bool} (h : x = r) : x = r := h
theorem id_ocn {x r : Option Cn} (h : x = r) : x = r := h
theorem id_fl {x r : Res Fl} (h : x = r) : x = r := h
theorem id_sl {x r : Res Sl} (h : x = r) : x = r := h
theorem id_ls {x r : Res (List Sl)} (h : x = r) : x = r := h
theorem id_ld {x r : Res (List D)} (h : x = r) : x = r := h
theorem id_b {x r : Res Bool} (h : x = r) : x = r := h
theorem id_oi {x r : Res (Option Int)} (h : x = r) : x = r := h
theorem id_ev {x r : Evn} (h : x = r) : x = r := h
theorem id_oev {x r : Option Evn} (h : x = r) : x = r := h
theorem id_od {x r : Option D} (h : x = r) : x = r := h
theorem id_ods {x r : Option (List D)} (h : x = r) : x = r := h
theorem id_osl {x r : Option Sl} (h : x = r) : x = r := h
theorem id_oosl {x r : Option (Option Sl)} (h : x = r) : x = r := h
theorem id_oode {x r : Option (D × Evn)} (h : x = r) : x = r := h
end
end DL

/-! raise C(e): own classes over a built-in exception class, whose __init__ calls the base's and keeps what it is given as .what -/
namespace DL
open PySem PySem.Spec PyProof.Rows L2

/-- what the written part says of the class C, whose built-in base makes by newId -/
structure OxL (K : PySem.W.Frag) (C : Addr) (bmB : List Value) (newId : String) : Prop where
  cls : ∃ (nm q : Str) (N : Addr) (bs bm : List Value) (sn : List Str) (sub : List Value) (ab : Bool) (col : Option Bool) (dd : Option Addr) (k0 k1 k2 k3 k5 : Option Value),
    K.lookup C = some (excClassObj nm q C N bs bm true sn sub ab col dd k0 k1 k2 k3 k5 newId) ∧ PySem.W.excTail bmB bm = true
  sa : PySem.W.findIn K (.ref C) "__setattr__" = some (some (.builtin "object.__setattr__"))
  exC : PySem.W.subIn K (.ref C) (.type "BaseException") = some true
  tyC : PySem.W.typeIn K (.ref C) = some (.type "type")
  kC : PySem.W.keepIn K (.ref C) = true
  wh : PySem.W.findIn K (.ref C) "what" = some none

section
variable {prog : Program} {w : World} {A : Around} {E : Value → Shared → Prop} {R : Result → Shared → Prop} {hp : Heap} {g : Array GenState} {d : Drawn} {t : Nat} {os : OsState} {B : String} {bmB : List Value}
open Builtin.ObjectAttr in
/-- the first field of an exception that has no dict yet -/
theorem osa_first {K : PySem.W.Frag} {name : Str} {tk : Tok} {v : Value} {x C : Addr} {fv : Array Value} {cd : ClassData} (SF : StoreFacts B bmB "object.__setattr__" "object")
    (X : K.In hp) (hx : hp.get? x = some { cls := .ref C, data := .fields fv }) (hcd : PySem.W.clsIn K C = some cd) (ho : PySem.W.excOver K C bmB = true) (hh : cd.hasDict = true) (ha : PySem.W.findIn K (.ref C) name = some none)
    (hq : ∀ h' tk' dx, (∀ b o, b ≠ x → hp.get? b = some o → h'.get? b = some o) → hp.objs.size ≤ dx → dx ≠ x → h'.get? x = some { cls := .ref C, dict := some dx, data := .fields fv } →
      h'.Ns1 dx (fun y => if y = name then some v else none) → R (.ok (.ret .none)) ⟨h', g, d, tk', os⟩) :
    codeAny (model prog w) A (.call (.builtin "object.__setattr__") ⟨[.ref x, .str name tk, v], []⟩) R ⟨hp, g, d, t, os⟩ := by
  have I : PySem.W.InstAt hp x { cls := .ref C, data := .fields fv } C none := ⟨hx, rfl, rfl, trivial⟩
  have hxs : x ≠ hp.objs.size := Nat.ne_of_lt (Heap.lt_size hx)
  have hcls : PySem.W.Looks (model prog w) hp (classData C) cd := PySem.W.looks_clsIn X hcd
  refine PySem.W.osa_openX (s := ⟨hp, g, d, t, os⟩) (r := none) SF X I ho (by unfold PySem.W.takerIn; rw [ha]; rfl) fun b => ?_
  dsimp only
  obtain ⟨nm, bs, mro, ns, qn, hd, sn, sb, ab, col, del⟩ := cd
  dsimp only at hh
  subst hh
  unfold storeInOwnDict ownDictForStores
  repeat (first | with_reducible refine HandSPX.store_in_new ?_ ?_ | with_reducible refine wpAny_loadPart_at hx ?_ | with_reducible refine hcls.at ?_ | wp_step)
  · exact ⟨_, #[], _, (Heap.get?_update_ne _ _ _ _ hxs.symm).trans (Heap.get?_push_at rfl rfl), rfl, fun e he => absurd he (by simp), fun _ => rfl⟩
  · intro h' tk' hn' hs
    have hx₁ : (hp.push { cls := .type "dict", data := .dict #[] }).get? x = some { cls := .ref C, data := .fields fv } := Heap.get?_push_of_some _ hx
    refine hq h' tk' hp.objs.size (fun b o hb ho => ?_) (Nat.le_refl _) hxs.symm ?_ hn'
    · exact (hs.2 b (Nat.ne_of_lt (Heap.lt_size ho))).trans ((Heap.get?_update_ne _ _ _ _ hb).trans (Heap.get?_push_of_some _ ho))
    · exact (hs.2 x hxs).trans (Heap.get?_update_self _ hx₁ rfl)
end
theorem OxL.over {K : PySem.W.Frag} {C : Addr} {bmB : List Value} {newId : String} (T : OxL K C bmB newId) : PySem.W.excOver K C bmB = true := by
  obtain ⟨nm, q, N, bs, bm, sn, sub, ab, col, dd, k0, k1, k2, k3, k5, hC, hbm⟩ := T.cls
  unfold PySem.W.excOver PySem.W.clsIn
  rw [hC]
  show ((C == C) && PySem.W.excTail bmB bm) = true
  rw [hbm]
  simp

section
variable {X : Cx} {pins : List (Addr × Obj)} {σ : L2.St} {H : Hp} {s : Shared} {a C dx : Addr} {f : Str} {y : V} {u : Value} {E : Value → Shared → Prop} {A : Around} {B newId initId : String} {bmB : List Value}
/-- self.what = y, the first one -/
theorem ost_first {Q : Unit → Shared → Prop} (SF : StoreFacts B bmB "object.__setattr__" "object") (T : OxL X.K C bmB newId) (I : Inv X pins σ H s) (e : H a = some (exo a C none)) (ry : RelV y u)
    (h : ∀ dx s', H dx = none → dx ≠ a → Inv X pins σ (upd (upd H dx (exd dx [("what", y)])) a (exo a C (some dx))) s' → Q () s') : wpAny (model X.prog X.w) A (setAttr (.ref a) "what" u) Q E s := by
  obtain ⟨nm, q, N, bs, bm, sn, sub, ab, col, dd, k0, k1, k2, k3, k5, hC, hbm⟩ := T.cls
  have hcl : PySem.W.clsIn X.K C = some { name := nm, bases := bs, mro := .ref C :: bm, ns := N, qualname := q, hasDict := true, slotNames := sn, subclasses := sub, abstract := ab, collection := col, hasDel := false } := by unfold PySem.W.clsIn; rw [hC] <;> rfl
  obtain ⟨t1, ho⟩ := exo_at I.hok e
  obtain ⟨hp, g, d, t, os⟩ := s
  refine PySem.W.set_plain I.kIn (ox := { cls := .ref C, dict := none, data := .fields #[.ref t1, .none, .none, .none, .bool false, .none] }) (od := none) ⟨ho, rfl, rfl, trivial⟩ T.sa ?_
  refine osa_first SF I.kIn ho hcl T.over rfl T.wh (fun h' tk' dx k dn dne hx hn => ?_)
  have hnd : H dx = none := I.hok.fresh dn
  have nd : ∀ {b : Addr} {o : Obj}, hp.get? b = some o → b ≠ dx := fun {b o} q => Nat.ne_of_lt (Nat.lt_of_lt_of_le (Heap.lt_size q) dn)
  have na : ∀ {b : Addr}, H b = none → b ≠ a := fun {b} n z => by rw [z, e] at n; cases n
  have Un1 : Un X.fs [] H (upd (upd H dx (exd dx [("what", y)])) a (exo a C (some dx))) hp h' := {
    keep := fun b o q n _ _ => k b o (na n) q
    slot := fun b o q n _ _ => ⟨o.slots, k b o (na n) q⟩
    free := fun b o q n _ => by rw [upd_ne (na n), upd_ne (nd q)]; exact n
    there := fun b o q _ => by
      by_cases hb : b = a
      · exact ⟨_, by rw [hb]; exact hx⟩
      · exact ⟨o, k b o hb q⟩
    tups := fun b xs q => by rw [upd_ne (at_ne e q exo_tup), upd_ne (ne_of_none q hnd)]; exact q
    frzs := fun b o v q => by rw [upd_ne (at_ne e q exo_frz), upd_ne (ne_of_none q hnd)]; exact q
    tbls := fun b ps q => ⟨#[], by rw [upd_ne (at_ne e q exo_tbl), upd_ne (ne_of_none q hnd), q]; simp⟩ }
  refine h dx _ hnd dne (I.un (t' := tk') Un1 fun b o q => ?_)
  by_cases hb : b = a
  · subst hb
    rw [upd_same] at q
    cases q
    exact exo_ok hx
  · rw [upd_ne hb] at q
    by_cases hd : b = dx
    · subst hd
      rw [upd_same] at q
      cases q
      exact exd_ok hn (relO_put (fs := []) ry fun g => True.intro)
    · rw [upd_ne hd] at q
      refine (I.hok b o q).stay (fun c v hc z => k c v ?_ z) (fun c hc => ?_) (fun c xs hc => ?_)
      · rcases hc with hc | hc
        · rw [hc]; exact hb
        · exact at_ne e hc exo_own
      · rw [upd_ne (at_ne e hc exo_own), upd_ne (ne_of_none hc hnd)]; exact hc
      · rw [upd_ne (at_ne e hc exo_tup), upd_ne (ne_of_none hc hnd)]; exact hc
/-- the base's __init__: nothing of it is told -/
theorem oinit_base {us : List Value} {Q : Value → Shared → Prop} (FB : ExcBaseFacts B newId initId bmB) (T : OxL X.K C bmB newId) (I : Inv X pins σ H s) (e : H a = some (exo a C none)) (hl : us.length ≤ sizeLine) (h : ∀ s', Inv X pins σ H s' → Q .none s') :
    wpAny (model X.prog X.w) A (call (.builtin initId) (.ref a :: us)) Q E s := by
  obtain ⟨nm, q, N, bs, bm, sn, sub, ab, col, dd, k0, k1, k2, k3, k5, hC, hbm⟩ := T.cls
  obtain ⟨t1, ho⟩ := exo_at I.hok e
  obtain ⟨hp, g, d, t, os⟩ := s
  refine wpAny_call (PySem.HandSPX.init_base FB (fun Y => PySem.W.excTail_contains Y bm hbm) (I.kIn _ _ hC) ho hl fun h' t2 k hx => ?_)
  have J := I.write (t' := t) (x := a) (e := a) (o := exo a C none) (by rw [e]; exact True.intro) (.inl rfl) k ⟨_, hx⟩ (exo_ok hx)
  have eu : upd H a (exo a C none) = H := by
    funext b
    by_cases hb : b = a
    · rw [hb, upd_same, e]
    · rw [upd_ne hb]
  rw [eu] at J
  exact h _ J

/-! ### readings and rules -/
def tBaseI (K : PySem.W.Frag) (bmB : List Value) (newId : String) (ta : TA) : TE := fun σ H Q => ta σ H fun vs H1 => ∃ (a C : Addr) (ws : List V), vs = .ref a :: ws ∧ ws.length ≤ 1000 ∧ OxL K C bmB newId ∧ H1 a = some (exo a C none) ∧ Q .non H1
def tWhat (K : PySem.W.Frag) (bmB : List Value) (newId : String) (to te : TE) : TS := fun D σ H => te σ H fun y H1 => to σ H1 fun x H2 => ∃ a C : Addr, x = .ref a ∧ OxL K C bmB newId ∧ H2 a = some (exo a C none) ∧
  ∀ dx, H2 dx = none → dx ≠ a → D.nx σ (upd (upd H2 dx (exd dx [("what", y)])) a (exo a C (some dx)))
variable {o e : Expr} {es : List Expr} {to te : TE} {ta : TA} {p p' p1 p2 pos : Pos}
theorem pe_baseI {x : Str} {T : String} {pl : Sem Bool} (FB : ExcBaseFacts B newId initId bmB) (hg : Gl X x) (hm : X.mg x = none) (hb : bootBuiltins x = some (.type T)) (hT : typeOf (.type T) = pure (.type "type"))
    (vV : PySem.W.findCls X.K (.type T) (.type "type") "__init__" = some (.val (.builtin initId))) (ha : PA X (e :: es) ta) (hst : Manifest.isStub T = false) (hin : PySem.W.handedIn (.builtin initId) = true)
    (hdk : x ≠ "__name__" := by decide) (hdb : (x == ("__debug__" : Str)) = false := by decide)
    (hc : eval (.Call (.Attribute (.Name x p1) "__init__" p2) (e :: es) [] pos) X.env = (do
      let ov ← eval (.Name x p1) X.env
      standAt p2.atName
      let (f, first) ← holding [ov] (getMethod ov "__init__" pl)
      callWith pos f first (backTo pos (starEach (e :: es) X.env)) (backToKw pos (keywordEach [] X.env))) := by rfl)
    (he : starEach (e :: es) X.env = (false, eval e X.env) :: starEach es X.env := by rfl) (hpl : (backTo pos (starEach es X.env)).any (·.1) = false := by rfl) :
    PE X (.Call (.Attribute (.Name x p1) "__init__" p2) (e :: es) [] pos) (tBaseI X.K bmB newId ta) := by
  refine ⟨fun pins s σ H Q I h => ?_⟩
  refine PySem.W.methodCall_KW (ld_blt I hg hm hb ?_ hdk hdb) hc
  obtain ⟨m, fr⟩ := I.fr
  refine PySem.W.method_type fr I.ok.mod.kin hT hst vV hin ?_
  show wpAny _ _ (callWith pos (Value.builtin initId) [] (backTo pos (starEach (e :: es) X.env)) []) _ _ _
  refine PyProof.Rows.callWith_method1 (thn (ha.run pos pins _ σ H _ (I.tok _) h) fun us s1 ⟨vs, H1, I1, r1, a, C, ws, ev, hl, T, ea, q⟩ => ?_) he hpl
  subst ev
  cases r1 with
  | @cons _ u0 _ ur ra rw' =>
    obtain rfl : u0 = Value.ref a := ra
    have hlen : ur.length ≤ sizeLine := by
      rw [← Paired.length rw', sizeLine_eq]
      omega
    exact oinit_base FB T I1 ea hlen fun s' J => ⟨.non, H1, J, rfl, q⟩
theorem ps_what (SF : StoreFacts B bmB "object.__setattr__" "object") (ho : PE X o to) (he : PE X e te) (hs : swapsWith e (some (.Attribute o "what" p')) pos.line X.env = pure false := by rfl) : PS X (.Assign [.Attribute o "what" p'] e pos) (tWhat X.K bmB newId to te) := by
  refine ⟨fun pins s σ H D I h => ?_⟩
  refine plainObj_wpAny_Assign_Attribute (thn (he.run pins s σ H _ I h) fun v s1 ⟨y, H1, I1, r1, q1⟩ => thn (ho.run pins s1 σ H1 _ I1 q1) fun u s2 ⟨x, H2, I2, r2, a, C, ex, T, ea, q⟩ => ?_) hs
  subst ex
  obtain rfl : u = Value.ref a := r2
  exact ost_first SF T I2 ea r1 fun dx s' n ne J => ⟨σ, _, J, q dx n ne⟩
end

/-- what __init__ is worth -/
def spIni (K : PySem.W.Frag) (bmB : List Value) (newId : String) : Sp := fun vs H Q E => ∃ (a C : Addr) (y : V), vs = [.ref a, y] ∧ OxL K C bmB newId ∧ H a = some (exo a C none) ∧
  ∀ dx, H dx = none → dx ≠ a → Q .non (upd (upd H dx (exd dx [("what", y)])) a (exo a C (some dx)))
theorem ini_run {K : PySem.W.Frag} {bmB : List Value} {newId : String} {vs : List V} {H : Hp} {Q : VK} {E : XK} (h : spIni K bmB newId vs H Q E) :
    tSeq (tDrop (tBaseI K bmB newId (tCons (tVar 0) tNil))) (tWhat K bmB newId (tVar 0) (tVar 1)) { nx := fun _ H' => Q .non H', rt := Q } (L2.start ["self", "what"] vs) H := by
  obtain ⟨a, C, y, rfl, T, ea, q⟩ := h
  refine ⟨.ref a, rfl, a, C, [], rfl, by decide, T, ea, y, rfl, .ref a, rfl, a, C, rfl, T, ea, fun dx h1 h2 => q dx h1 h2⟩
end DL

namespace DL
open PySem PySem.Spec PyProof.Rows L2

/-- C(e), on the way to be raised -/
def tRz (C : Addr) (ta : TA) : L2.St → Hp → XK → Prop := fun σ H Q => ta σ H fun vs H1 => ∃ y, vs = [y] ∧ ∀ dx, H1 dx = none → Q (.ref C) (some dx) (upd H1 dx (.xd [("what", y)]))
section
variable {X : Cx} {B newId initId : String} {bmB : List Value} {e : Expr} {es : List Expr} {ta : TA} {p pos : Pos}
theorem passG : Passes (L2.CX X.prog X.w) X (fun _ _ _ => False) := fun _ _ _ _ _ _ _ h => by
  obtain ⟨_, _, _, _, _, _, _, _, _, _, _, _, z⟩ := h
  exact z.elim
theorem pmk_G {x : Str} {C fI : Addr} {k : Nat} {fd : FuncData} {ps : List Str} (FB : ExcBaseFacts B newId initId bmB) (T : OxL X.K C bmB newId) (iC : PySem.W.findIn X.K (.ref C) "__init__" = some (some (.ref fI))) (tI : PySem.W.typeIn X.K (.ref fI) = some (.type "function"))
    (F1 : FnOk X.prog X.w X.K X.mg X.base (L2.CX X.prog X.w) k fI fd ps (spIni X.K bmB newId)) (hr : Room (k + 1) X.A) (hb : Binds X.K fd ps []) (hg : Gl X x) (hm : X.mg x = some (.ref C)) (ha : PA X (e :: es) ta)
    (hdb : (x == ("__debug__" : Str)) = false := by decide) (he : starEach (e :: es) X.env = (false, eval e X.env) :: starEach es X.env := by rfl) (hpl : (backTo pos (starEach es X.env)).any (·.1) = false := by rfl) :
    PMk X (.Call (.Name x p) (e :: es) [] pos) (tRz C ta) := by
  intro pins s σ H Q I h
  obtain ⟨nm, q, N, bs, bm, sn, sub, ab, col, dd, k0, k1, k2, k3, k5, hC, hbm⟩ := T.cls
  refine wpAny_Call_Name_kw (ld_glob I hg hm ?_ hdb)
  refine PySem.W.callWith_K (h₀ := X.base) I.ok.mod.kin T.kC (thn (ha.run pos pins s σ H _ I h) fun us s1 ⟨vs, H1, I1, r1, y, hvs, q1⟩ => ⟨I1.kIn, ?_⟩) he hpl
  show wpAny _ _ (call (.ref C) us) _ _ _
  subst hvs
  obtain ⟨hp, g, dr, tk, os⟩ := s1
  have hsz : hp.objs.size ≤ hp.objs.size + 1 := Nat.le_succ _
  have hn : H1 (hp.objs.size + 1) = none := I1.hok.fresh hsz
  have kk : ∀ b o, hp.get? b = some o → ((hp.push (PySem.W.kdv_tup us)).push (PySem.HandSPX.excO C hp.objs.size)).get? b = some o := fun b o e => Heap.get?_push_of_some _ (Heap.get?_push_of_some _ e)
  have hget : ((hp.push (PySem.W.kdv_tup us)).push (PySem.HandSPX.excO C hp.objs.size)).get? (hp.objs.size + 1) = some (PySem.HandSPX.excO C hp.objs.size) := by heap_get
  have I2 : Inv X pins σ (upd H1 (hp.objs.size + 1) (exo (hp.objs.size + 1) C none)) ⟨(hp.push (PySem.W.kdv_tup us)).push (PySem.HandSPX.excO C hp.objs.size), g, dr, tk, os⟩ :=
    I1.laid (t' := tk) (a := hp.objs.size + 1) (o := exo (hp.objs.size + 1) C none) (h' := (hp.push (PySem.W.kdv_tup us)).push (PySem.HandSPX.excO C hp.objs.size)) kk hsz (exo_ok hget)
  have r2 : Vals [V.ref (hp.objs.size + 1), y] (Value.ref (hp.objs.size + 1) :: us) := .cons rfl r1
  have hq : spIni X.K bmB newId [V.ref (hp.objs.size + 1), y] (upd H1 (hp.objs.size + 1) (exo (hp.objs.size + 1) C none))
      (fun v H2 => v = .non ∧ ∃ (d : Addr) (fs : List (Str × V)), H2 (hp.objs.size + 1) = some (exo (hp.objs.size + 1) C (some d)) ∧ H2 d = some (exd d fs) ∧ H1 d = none ∧ Q (.ref C) (some d) (upd (del H2 (hp.objs.size + 1)) d (.xd fs))) (fun _ _ _ => False) := by
    refine ⟨_, C, y, rfl, T, upd_same, fun dx h1 h2 => ⟨rfl, dx, [("what", y)], upd_same, ?_, ?_, ?_⟩⟩
    · rw [upd_ne h2, upd_same]
    · rw [upd_ne h2] at h1
      exact h1
    · rw [upd_ne h2] at h1
      have e : upd (del (upd (upd (upd H1 (hp.objs.size + 1) (exo (hp.objs.size + 1) C none)) dx (exd dx [("what", y)])) (hp.objs.size + 1) (exo (hp.objs.size + 1) C (some dx))) (hp.objs.size + 1)) dx (.xd [("what", y)]) = upd H1 dx (.xd [("what", y)]) := by
        funext b
        by_cases hb : b = dx
        · subst hb
          rw [upd_same, upd_same]
        · rw [upd_ne hb, upd_ne hb]
          by_cases hb2 : b = hp.objs.size + 1
          · subst hb2
            rw [del_same, hn]
          · rw [del_ne hb2, upd_ne hb2, upd_ne hb, upd_ne hb2]
      rw [e]
      exact q1 dx h1
  have hl : (Value.ref (hp.objs.size + 1) :: us).length = ps.length := by
    have e := r2.length
    rw [F1.len _ _ _ _ hq] at e
    exact e.symm
  have hus : us.length ≤ sizeLine := by
    rw [← Paired.length r1, sizeLine_eq]
    show 1 ≤ 16777216
    decide
  have hb2 := hb ⟨(hp.push (PySem.W.kdv_tup us)).push (PySem.HandSPX.excO C hp.objs.size), g, dr, tk, os⟩ (Value.ref (hp.objs.size + 1) :: us) I2.kIn (by rw [List.append_nil]; exact hl)
  rw [List.append_nil] at hb2
  refine wpAny_call (PySem.HandSPX.call_own FB (fun Y => PySem.W.excTail_contains Y bm hbm) (I1.kIn _ _ hC) (PySem.W.looks_findIn I1.kIn iC) (fun self => PySem.W.bind_fn I1.kIn self tI) hus
    (codeAny_mono (F1.run _ X.stack _ _ ⟨Value.ref (hp.objs.size + 1) :: us, []⟩ (Value.ref (hp.objs.size + 1) :: us) _ _ (fun _ _ _ => False) (hr.make C us []) (I2.env0.make C us []) hb2 r2 hq) fun r s' hq' => ?_))
  cases r with
  | error er => exact passG pins _ _ _ er s' I2 hq'
  | ok fl =>
    cases fl with
    | ret u =>
      obtain ⟨v, H2, os2, bare2, un2, hok2, rv, ev, d, fs, ea, ed, hd1, q2⟩ := hq'
      subst ev
      obtain ⟨h2, g2, d2, t2, os'⟩ := s'
      exact ⟨rv, mk_end (raises_own T.exC T.tyC) I1 hsz kk un2 hok2 os2 bare2 ea ed hd1 q2⟩
    | next => exact False.elim hq'
    | brk => exact False.elim hq'
    | cont => exact False.elim hq'
end

section
variable {K : PySem.W.Frag} {mg : Str → Option Value} {E : XW} {W : Wd} {F0 B F H F' H' : Hp} {σ tv us vs : L2.St} {ρ ρ' tr ss : Evn} {v : V} {d : D} {s : Sl}
def fRaise (c : Str) (f : Evn → Res Sl) (ρ : Evn) : Res Fl := (fFz f ρ).bind fun s ρ1 => match s with
  | .fr d => .exc c d ρ1
  | _ => .bad
theorem tsj_raise {c : Str} {C : Addr} {te : TE} {f : Evn → Res Sl} (hc : mg c = some (.ref C)) (h : TJ K mg E te f) : TSJ K mg E (fun _ σ H => tRz C (tCons te tNil) σ H fun cls d H' => E σ cls d H') (fRaise c f) := by
  intro W F H σ ρ D L S hW
  refine (tj_fz h).run L S (fun _ _ _ h => h.fly L) hW fun s ρ1 x F1 H1 L1 S1 hW1 => ?_
  refine ⟨x, rfl, fun dx hn => ?_⟩
  cases s with
  | ow _ => exact hW1.elim
  | io _ _ => exact hW1.elim
  | br _ => exact hW1.elim
  | fr d =>
    have hd := S4.top_fr (tv := []) (tr := []) L1 S1
    have Sa : S4 K W F1 H1 σ [] ρ1 [] := S4.cut (tv := []) (tr := []) L1 S1 (by simp)
    have g : Grow F1 H1 F1 (upd H1 dx (.xd [("what", x)])) := ⟨Same.refl _, Same.upd_new hn, Sa.fh.trans (Same.upd_new hn), fun _ z => .inl z⟩
    exact hW1 C dx x F1 _ σ L.s hc upd_same hd (SR.grow Sa g)
end
end DL

/-! caught = None; try: body; except (C1, ..) as n: caught = n; tail: what is caught is known behind the suite, to the def's end -/
namespace DL
open PySem PySem.Spec PyProof.Rows L2

theorem flyZ_keeps {B h h' : Heap} {l : List PySem.Env} {a : Addr} {Z : Obj → Prop} (f : HandSPX.FlyingZ B l a Z h) (k : ∀ b o, h.get? b = some o → h'.get? b = some o) : HandSPX.FlyingZ B l a Z h' := by
  obtain ⟨k1, k2, k3, oe, vs, T, oT, ts, he, hz, hd, h1, hnT, hTe, hT, hdT, h3⟩ := f
  exact ⟨fun b o q => k b o (k1 b o q), k2, k3.of_keeps fun b o q _ => ⟨o, k b o q, rfl⟩, oe, vs, T, oT, ts, k _ _ he, hz, hd, h1, hnT, hTe, k _ _ hT, hdT, h3⟩

/-- the classes that an except clause names -/
def Tst (X : Cx) (t : Expr) (cs : List Value) : Prop := ∀ (a : Addr) (pn : List (Addr × Obj)) (σ : L2.St) (H : Hp) (s : Shared) (cls : Value) (b : Bool) (Q : Bool → Shared → Prop) (E : Value → Shared → Prop),
  Inv (X.suite a pn) [] σ H s → PySem.W.Looks (model X.prog X.w) s.heap (typeOf (.ref a)) cls → PySem.W.exmAny X.K cls cs = some b → (∀ h', (∀ c o, s.heap.get? c = some o → h'.get? c = some o) → Q b { s with heap := h' }) →
  wpAny (model X.prog X.w) (X.A.mark (some (.ref a))) (eval t X.env) (fun c s₁ => wpAny (model X.prog X.w) (X.A.mark (some (.ref a))) (excMatches (.ref a) c) Q E s₁) E s
section
variable {X : Cx} {x x1 x2 x3 x4 : Str} {c c1 c2 c3 c4 : Value} {np p1 p2 p3 p4 tp : Pos} {kk : Nat}
theorem names_ld {a : Addr} {pn : List (Addr × Obj)} {σ : L2.St} {H : Hp} {s : Shared} {Q : Value → Shared → Prop} {E : Value → Shared → Prop} (hc : Names X x c) (S : Inv (X.suite a pn) [] σ H s) (q : Q c s) :
    wpAny (model X.prog X.w) (X.A.mark (some (.ref a))) (eval (.Name x np) X.env) Q E s := by
  obtain ⟨hg, hdbg, hm | ⟨hm, hv, hnn⟩⟩ := hc
  · exact ld_glob (X := X.suite a pn) S hg hm q hdbg
  · exact ld_blt (X := X.suite a pn) S hg hm hv q hnn hdbg
theorem tst2 (n1 : Names X x1 c1) (n2 : Names X x2 c2) : Tst X (.Tuple [.Name x1 p1, .Name x2 p2] kk tp) [c1, c2] := fun a pn σ H s cls b Q E S LT he hQ => by
  refine wpAny_Tuple ?_
  refine wpAny_items_cons (names_ld n1 S ?_)
  refine wpAny_items_cons (names_ld n2 S ?_)
  refine wpAny_items_nil ⟨by rw [sizeLine_eq]; show 2 ≤ 16777216; decide, ?_⟩
  have kp : ∀ q o, s.heap.get? q = some o → (s.heap.push { cls := .type "tuple", data := .seq [c1, c2].toArray }).get? q = some o := fun _ _ z => Heap.get?_push_of_some _ z
  exact (PySem.W.exm_tup2 (S.kIn.keeps kp) (LT.keeps kp) (Heap.get?_push_size s.heap rfl) he).here (hQ _ kp)
theorem tst3 (n1 : Names X x1 c1) (n2 : Names X x2 c2) (n3 : Names X x3 c3) : Tst X (.Tuple [.Name x1 p1, .Name x2 p2, .Name x3 p3] kk tp) [c1, c2, c3] := fun a pn σ H s cls b Q E S LT he hQ => by
  refine wpAny_Tuple ?_
  refine wpAny_items_cons (names_ld n1 S ?_)
  refine wpAny_items_cons (names_ld n2 S ?_)
  refine wpAny_items_cons (names_ld n3 S ?_)
  refine wpAny_items_nil ⟨by rw [sizeLine_eq]; show 3 ≤ 16777216; decide, ?_⟩
  have kp : ∀ q o, s.heap.get? q = some o → (s.heap.push { cls := .type "tuple", data := .seq [c1, c2, c3].toArray }).get? q = some o := fun _ _ z => Heap.get?_push_of_some _ z
  exact (PySem.W.exm_tup3 (S.kIn.keeps kp) (LT.keeps kp) (Heap.get?_push_size s.heap rfl) he).here (hQ _ kp)
theorem tst4 (n1 : Names X x1 c1) (n2 : Names X x2 c2) (n3 : Names X x3 c3) (n4 : Names X x4 c4) : Tst X (.Tuple [.Name x1 p1, .Name x2 p2, .Name x3 p3, .Name x4 p4] kk tp) [c1, c2, c3, c4] := fun a pn σ H s cls b Q E S LT he hQ => by
  refine wpAny_Tuple ?_
  refine wpAny_items_cons (names_ld n1 S ?_)
  refine wpAny_items_cons (names_ld n2 S ?_)
  refine wpAny_items_cons (names_ld n3 S ?_)
  refine wpAny_items_cons (names_ld n4 S ?_)
  refine wpAny_items_nil ⟨by rw [sizeLine_eq]; show 4 ≤ 16777216; decide, ?_⟩
  have kp : ∀ q o, s.heap.get? q = some o → (s.heap.push { cls := .type "tuple", data := .seq [c1, c2, c3, c4].toArray }).get? q = some o := fun _ _ z => Heap.get?_push_of_some _ z
  exact (PySem.W.exm_tup4 (S.kIn.keeps kp) (LT.keeps kp) (Heap.get?_push_size s.heap rfl) he).here (hQ _ kp)
end

section
variable {X : Cx} {pins : List (Addr × Obj)} {σ : L2.St} {H : Hp} {s : Shared}
theorem Inv.toPin {a : Addr} {q : Addr × Obj} (I : Inv (X.suite a (q :: (X.pn ++ pins))) [] σ H s) (ok : X.Ok) : Inv (X.tr (q :: (X.pn ++ pins)) X.xe) [] σ H s :=
  ⟨ok.toTry _ _, I.os, I.bare, I.base, I.loc, I.cell, I.free, I.freeC, I.pin, I.hok, I.len⟩
theorem Inv.unpin {q : Addr × Obj} (I : Inv (X.tr (q :: (X.pn ++ pins)) X.xe) [] σ H s) (ok : X.Ok) : Inv X pins σ H s :=
  ⟨ok, I.os, I.bare, I.base, I.loc, I.cell, I.free, I.freeC, fun p hp => I.pin p (List.mem_append_left _ (List.mem_cons_of_mem _ hp)), I.hok, I.len⟩
end

/-- what is wished of an exception of the body: it is caught, slot i holds it, slot j (the clause's name) is gone -/
def wEnd (K : PySem.W.Frag) (cs : List Value) (i j : Nat) (tX : Addr → Value → Option Addr → TS) (D : Ends) : WX := fun cls d σ H =>
  PySem.W.exmAny K cls cs = some true ∧ ∀ a, H a = none → tX a cls d D (((σ.set j (some (.ref a))).set i (some (.ref a))).set j none) H
section
variable {X : Cx} {body tail suite : List Stmt} {b₀ : Stmt} {t : Expr} {cs : List Value} {n : Str} {i j : Nat} {pos pos' : Pos} {tb : WX → TS} {tN : TS} {tX : Addr → Value → Option Addr → TS}
theorem pss_try (hs : X.stack = X.env :: X.outer) (hf : X.env.frame = some X.env.locals) (hN : X.N.Nodup) (hj : X.N[j]? = some n) (hln : X.env.kindOf n = some .local) (ht : Tst X t cs)
    (hb : ∀ (W : WX) (pn : List (Addr × Obj)) (xe : Value → Shared → Prop), Takes (X.tr pn xe) W → PassesOwn (model X.prog X.w) X.A X.env xe → PSs (X.tr pn xe) body (tb W))
    (hsu : ∀ (a : Addr) (pn : List (Addr × Obj)), PSs (X.suite a pn) (b₀ :: suite) (tAsg (tVar j) (gName i)))
    (hn : PSs X tail tN)
    (hx : ∀ (a : Addr) (oe : Obj) (cls : Value) (d : Option Addr) (pn : List (Addr × Obj)), Zc cls d oe → (∃ vs, oe.data = .fields vs) → PSs (X.tr ((a, oe) :: pn) X.xe) tail (tX a cls d)) :
    PSs X (.Try body [.ExceptHandler (some t) (some n) (b₀ :: suite) pos'] [] [] pos :: tail) (fun D σ H => tb (wEnd X.K cs i j tX D) { D with nx := tN D } σ H) := by
  refine ⟨fun pins s σ H D I h => wpAny_execs_cons ?_⟩
  have ok := I.ok
  have hfr : X.A.frames = some (X.env :: X.outer) := by rw [ok.frames, hs]
  have hloc : Loc X.env.scope n := .inl hln
  refine wpAny_Try_except ?_
  refine wpAny_mono ((hb (wEnd X.K cs i j tX D) (X.pn ++ pins) (fun e s₁ => wpAny (model X.prog X.w) X.A (noteFrame e X.env) (fun _ s₂ => wpAny (model X.prog X.w) X.A (setFlight e none) (fun _ s₃ =>
    wpAny (model X.prog X.w) X.A (handleBy e X.env [.ExceptHandler (some t) (some n) (b₀ :: suite) pos']) (fun f s' => match f with | .next => wpAny (model X.prog X.w) X.A (execs tail X.env) (SP X pins D) X.xe s' | f => SP X pins D f s') X.xe s₃) X.xe s₂) X.xe s₁)
      (fun u s' xx => ?_) PassesOwn.looking).run [] s σ H { D with nx := tN D } (I.toTry _) h) (fun f s1 hsp => ?_) (fun e s1 he => he)
  · -- the catch
    obtain ⟨a, B, sI, pins', σ', H', cls, d, rfl, J', nb, up, sky, na, os, ag, hb1, hyes⟩ := xx
    have J : Inv X pins σ' H' sI := J'.ofTry ok
    have sky' : Sky B (X.env :: X.outer) a (Zc cls d) X.env.locals s'.heap := by rw [← hs]; exact sky
    show wpAny (model X.prog X.w) X.A (noteFrame (.ref a) X.env) _ _ _
    refine Sky.land Zc.steady hfr hf sky' fun h3 fl3 up3 => ?_
    have J3 : Inv X pins σ' H' { s' with heap := h3 } := J.landed nb fl3.1 (up.trans up3) os ag
    obtain ⟨oe3, vs3, he3, hz3, hd3⟩ := fl3.there
    have nfr : a ∉ L2.frs (X.env :: X.outer) := fun hm => by
      obtain ⟨_, o', e', hnf⟩ := fl3.2.2.1.mem hm
      rw [he3] at e'; cases e'
      exact hnf _ hd3
    have nL : a ≠ X.env.locals := fun z => nfr (List.mem_filterMap.mpr ⟨X.env, List.mem_cons_self, by rw [hf, z]⟩)
    have nF : a ∉ X.fs := fun hm => by
      obtain ⟨e, he, q⟩ := List.mem_filterMap.mp hm
      exact nfr (List.mem_filterMap.mpr ⟨e, List.mem_cons_of_mem _ he, q⟩)
    have S3 := J3.suite he3 hd3 na nL nF
    refine wpAny_handleBy_cons (codeAny_handlers_test ?_) (by intro q; cases q)
    have LT : PySem.W.Looks (model X.prog X.w) h3 (typeOf (.ref a)) cls := fun A Q E s k q => wpAny_typeOf_ref (k _ _ he3) (by rw [hz3.1]; exact q)
    refine ht a _ σ' H' { s' with heap := h3 } cls true _ _ S3 LT hb1 fun h5 kp => ?_
    have fl5 := flyZ_keeps fl3 kp
    refine codeAny_handlers_suite_as ?_
    refine HandSPX.lands_againZ (s := { s' with heap := h5 }) fl5 fun h4 fl4 up4 => ?_
    have J4 : Inv X pins σ' H' { s' with heap := h4 } := J.landed nb fl4.1 (((up.trans up3).trans (Heap.UpToSlots.of_keeps kp)).trans up4) os ag
    obtain ⟨oe4, vs4, he4, hz4, hd4⟩ := fl4.there
    have S4 := J4.suite he4 hd4 na nL nF
    refine store_ok (X := X.suite a ((a, oe4) :: (X.pn ++ pins))) (v := .ref a) S4 hN hj hloc rfl (fun s5 S5 => ?_) (.inr hln)
    have hlen : j < σ'.length := by
      have := J4.len
      have h0 := (List.getElem?_eq_some_iff.mp hj).1
      omega
    refine wpAny_mono ((hsu a ((a, oe4) :: (X.pn ++ pins))).run [] s5 _ H' { nx := fun σ6 H6 => σ6 = (σ'.set j (some (.ref a))).set i (some (.ref a)) ∧ H6 = H', rt := fun _ _ => False } S5
      ⟨.ref a, by rw [List.getElem?_set_self hlen], rfl, rfl⟩) (fun f s6 hsp => ?_) (fun _ _ z => False.elim z)
    cases f with
    | brk =>
      obtain ⟨σ6, H6, S6, q6⟩ := hsp
      exact q6.elim
    | cont =>
      obtain ⟨σ6, H6, S6, q6⟩ := hsp
      exact q6.elim
    | ret u =>
      obtain ⟨v6, σ6, H6, S6, r6, q6⟩ := hsp
      exact q6.elim
    | next =>
      obtain ⟨σ6, H6, S6, rfl, rfl⟩ := hsp
      refine gone_ok (X := X.tr ((a, oe4) :: (X.pn ++ pins)) X.xe) (Inv.toPin S6 ok) hN hj hln fun s7 J7 => ?_
      refine wpAny_mono ((hx a oe4 cls d (X.pn ++ pins) hz4 ⟨_, hd4⟩).run [] s7 _ _ D J7 (hyes a na)) (fun f s8 h8 => ?_) (fun _ _ z => z)
      cases f with
      | next =>
        obtain ⟨σ8, H8, J8, q8⟩ := h8
        exact ⟨σ8, H8, Inv.unpin J8 ok, q8⟩
      | brk =>
        obtain ⟨σ8, H8, J8, q8⟩ := h8
        exact ⟨σ8, H8, Inv.unpin J8 ok, q8⟩
      | cont =>
        obtain ⟨σ8, H8, J8, q8⟩ := h8
        exact ⟨σ8, H8, Inv.unpin J8 ok, q8⟩
      | ret u =>
        obtain ⟨v8, σ8, H8, J8, r8, q8⟩ := h8
        exact ⟨v8, σ8, H8, Inv.unpin J8 ok, r8, q8⟩
  · cases f with
    | next =>
      obtain ⟨σ', H', J', q⟩ := hsp
      exact wpAny_execs_nil (hn.run pins s1 σ' H' D (J'.ofTry ok) q)
    | brk =>
      obtain ⟨σ', H', J', q⟩ := hsp
      exact ⟨σ', H', J'.ofTry ok, q⟩
    | cont =>
      obtain ⟨σ', H', J', q⟩ := hsp
      exact ⟨σ', H', J'.ofTry ok, q⟩
    | ret u =>
      obtain ⟨v, σ', H', J', r, q⟩ := hsp
      exact ⟨v, σ', H', J'.ofTry ok, r, q⟩
end
end DL

/-! behind an except suite: what the tail of the def makes of the exception in slot i -/
namespace DL
open PySem PySem.Spec PyProof.Rows L2

/-- what the class D must say, so that its instances are asked rightly -/
structure ExcQ (K : PySem.W.Frag) (D : Addr) : Prop where
  hg : PySem.W.findIn K (.ref D) "__getattribute__" = some (some (.builtin "BaseException.__getattribute__"))
  hk : PySem.W.findIn K (.ref D) "__getattr__" = some none
  hs : PySem.W.subIn K (.ref D) (.type "BaseException") = some true
  hd : PySem.W.hasDictIn K D = true
  ha : PySem.W.findIn K (.ref D) "__class__" = some (some (.builtin "object.__class__"))
  hn : PySem.W.specialIn K (.builtin "object.__class__") "__get__" = some (some (.builtin "getset_descriptor.__get__"))
  ht : PySem.W.takesIn K (.builtin "object.__class__") = some true
  hm : PySem.W.mroIn K D (.type "object") = some true
  wh : PySem.W.findIn K (.ref D) "what" = some none
theorem ExcQ.cl {K : PySem.W.Frag} {D : Addr} (C : ExcQ K D) : (PySem.W.clsIn K D).isSome = true := by
  obtain ⟨cd, hc, _⟩ := PySem.W.any_some C.hd
  rw [hc]; rfl
/-- isinstance(e, c), e the exception at a -/
def rIsX (K : PySem.W.Frag) (a : Addr) (cls : Value) (d : Option Addr) : List V → Hp → VK → Prop := fun xs H Q => ∃ (D dx : Addr) (fs : List (Str × V)) (c : V) (u : Value) (b : Bool), cls = .ref D ∧ d = some dx ∧ H dx = some (.xd fs) ∧ ExcQ K D ∧
  xs = [.ref a, c] ∧ ClsV c u ∧ PySem.W.kitOne K (.ref D) u = some b ∧ Q (.bl b) H
def rIsXT (K : PySem.W.Frag) (a : Addr) (cls : Value) (d : Option Addr) : List V → Hp → VK → Prop := fun xs H Q => ∃ (D dx : Addr) (fs : List (Str × V)) (tp : Addr) (cs : List V) (us : List Value) (b : Bool), cls = .ref D ∧ d = some dx ∧ H dx = some (.xd fs) ∧ ExcQ K D ∧
  xs = [.ref a, .ref tp] ∧ H tp = some (.tup cs) ∧ Paired ClsV cs us ∧ PySem.W.kitAny K (.ref D) us = some b ∧ Q (.bl b) H
/-- e.what, e the exception at a -/
def tWhatX (K : PySem.W.Frag) (a : Addr) (cls : Value) (d : Option Addr) (te : TE) : TE := fun σ H Q => te σ H fun x H1 => x = .ref a ∧ ∃ (D dx : Addr) (fs : List (Str × V)) (v : V), cls = .ref D ∧ ExcQ K D ∧ d = some dx ∧ H1 dx = some (.xd fs) ∧ fs.lookup ("what" : Str) = some v ∧ Q v H1
section
variable {X : Cx} {a : Addr} {oe : Obj} {cls : Value} {d : Option Addr} {pn : List (Addr × Obj)} {xe : Value → Shared → Prop} {pins : List (Addr × Obj)} {σ : L2.St} {H : Hp} {s : Shared}
theorem inst_at {D dx : Addr} {fs : List (Str × V)} (hz : Zc (.ref D) (some dx) oe) (hf : ∃ vs, oe.data = .fields vs) (I : Inv (X.tr ((a, oe) :: pn) xe) pins σ H s) (ea : H dx = some (.xd fs)) :
    ∃ (od : Obj) (mA : Str → Option Value), PySem.W.InstAt s.heap a oe D (some od) ∧ (∀ f, RelO (fs.lookup f) (mA f)) ∧ ∀ n, PySem.W.lookIn n od = some (mA n) := by
  obtain ⟨ha, _⟩ := I.pin (a, oe) (List.mem_append_left _ List.mem_cons_self)
  obtain ⟨vs, hd⟩ := hf
  have hx : ObjOk X.prog X.w H s.heap dx (.xd fs) := I.hok dx _ ea
  obtain ⟨mA, hns, hr⟩ := hx
  obtain ⟨od, ho, hl⟩ := lookIn_ns hns
  exact ⟨od, mA, ⟨ha, hz.1, by unfold PySem.W.notCls; rw [hd] <;> rfl, by rw [hz.2]; exact ho⟩, hr, hl⟩
theorem call_isX (hz : Zc cls d oe) (hf : ∃ vs, oe.data = .fields vs) : CallR (X.tr ((a, oe) :: pn) xe) (.builtin "isinstance") (rIsX X.K a cls d) := by
  intro pins s σ H xs us Q I r h
  obtain ⟨D, dx, fs, c, u, b, rfl, rfl, ea, C, rfl, hc, e, q⟩ := h
  obtain ⟨u1, u2, rfl, r1, r2⟩ := vals2 r
  have e2 := hc.eq r2
  subst e2
  cases (show u1 = Value.ref a from r1)
  obtain ⟨od, mA, J, _, _⟩ := inst_at hz hf I ea
  exact PySem.W.kia_one (PySem.W.kitx_exc C.cl C.hg C.hk C.hs C.ha C.hn C.ht C.hm) I.kIn J e (fun z => nomatch z) fun tk => ⟨.bl b, H, I.tok tk, rfl, q⟩
theorem call_isXT (hz : Zc cls d oe) (hf : ∃ vs, oe.data = .fields vs) : CallR (X.tr ((a, oe) :: pn) xe) (.builtin "isinstance") (rIsXT X.K a cls d) := by
  intro pins s σ H xs us Q I r h
  obtain ⟨D, dx, fs, tp, cs, ws, b, rfl, rfl, ea, C, rfl, hT, k, e, q⟩ := h
  obtain ⟨u1, u2, rfl, r1, r2⟩ := vals2 r
  cases (show u2 = Value.ref tp from r2)
  cases (show u1 = Value.ref a from r1)
  obtain ⟨od, mA, J, _, _⟩ := inst_at hz hf I ea
  obtain ⟨_, its, rv, o, h1, h2, n, h3⟩ := (show ObjOk X.prog X.w H s.heap tp (.tup cs) from I.hok tp _ hT)
  have e3 := ClsV.all k rv
  subst e3
  obtain ⟨oc, od', dt, sl⟩ := o
  simp only at h2 h3
  subst h2 h3
  exact PySem.W.kia_tup (PySem.W.kitx_exc C.cl C.hg C.hk C.hs C.ha C.hn C.ht C.hm) I.kIn J h1 e (fun z => nomatch z) fun tk => ⟨.bl b, H, I.tok tk, rfl, q⟩
theorem pe_whatX {e : Expr} {te : TE} {pos : Pos} (hz : Zc cls d oe) (hf : ∃ vs, oe.data = .fields vs) (he : PE (X.tr ((a, oe) :: pn) xe) e te) (hb : attributeBase e "what" X.env (eval e X.env) = eval e X.env := by rfl) :
    PE (X.tr ((a, oe) :: pn) xe) (.Attribute e "what" pos) (tWhatX X.K a cls d te) := by
  refine ⟨fun pins s σ H Q I h => ?_⟩
  refine attr_of hb (thn (he.run pins s σ H _ I h) fun u s1 hh => ?_)
  obtain ⟨x, H1, I1, rx, ex, D, dx, fs, v, rfl, C, rfl, ea, l, q⟩ := hh
  subst ex
  obtain rfl : u = Value.ref a := rx
  obtain ⟨od, mA, J, hr, hl⟩ := inst_at hz hf I1 ea
  obtain ⟨u, hu, ru⟩ := RelO.some_of (v := v) (o := mA "what") (by rw [← l]; exact hr "what")
  exact HandSPX.exc_get I1.kIn J C.hg C.hk C.hs (PySem.W.findObj_own C.hd C.wh rfl (by rw [hl, hu])) (handed_of ru) ⟨v, H1, I1.tok _, ru, q⟩
end

/-! ### what the tail makes of it: C its class, i its slot, d what it was given -/
section
variable {K : PySem.W.Frag} {mg : Str → Option Value} {E : XW} {W : Wd} {F H F' H' : Hp} {σ : L2.St} {ρ : Evn} {v : V} {d : D} {s : Sl} {i : Nat} {a dx C : Addr}
structure Hd (K : PySem.W.Frag) (W : Wd) (F H : Hp) (σ : L2.St) (ρ : Evn) (i : Nat) (a dx : Addr) (v : V) (d : D) : Prop where
  L : Ln W σ [] ρ []
  S : S4 K W F H σ [] ρ []
  at_ : σ[i]? = some (some (.ref a))
  xd : H dx = some (.xd [("what", v)])
  dt : Dt K F v d
theorem Hd.grow (h : Hd K W F H σ ρ i a dx v d) (g : Grow F H F' H') : Hd K W F' H' σ ρ i a dx v d := ⟨h.L, SR.grow h.S g, h.at_, g.hh _ _ h.xd, dp_mono g.ff _ _ h.dt⟩
abbrev Tx := Addr → Value → Option Addr → TE
def XJ (K : PySem.W.Frag) (i : Nat) (C : Addr) (t : Addr → Value → Option Addr → TE) (r : D → D) : Prop := ∀ (W : Wd) (F H : Hp) (σ : L2.St) (ρ : Evn) (a dx : Addr) (v : V) (d : D) (Q : VK), Hd K W F H σ ρ i a dx v d →
  (∀ v' F' H', Hd K W F' H' σ ρ i a dx v d → Dt K F' v' (r d) → Q v' H') → t a (.ref C) (some dx) σ H Q
def XTJ (K : PySem.W.Frag) (i : Nat) (C : Addr) (t : Addr → Value → Option Addr → TT) (b : Bool) : Prop := ∀ (W : Wd) (F H : Hp) (σ : L2.St) (ρ : Evn) (a dx : Addr) (v : V) (d : D) (Q : Bool → Hp → Prop), Hd K W F H σ ρ i a dx v d →
  (∀ F' H', Hd K W F' H' σ ρ i a dx v d → Q b H') → t a (.ref C) (some dx) σ H Q
def XAJ (K : PySem.W.Frag) (i : Nat) (C : Addr) (t : Addr → Value → Option Addr → TA) (r : D → List D) : Prop := ∀ (W : Wd) (F H : Hp) (σ : L2.St) (ρ : Evn) (a dx : Addr) (v : V) (d : D) (Q : List V → Hp → Prop), Hd K W F H σ ρ i a dx v d →
  (∀ vs F' H', Hd K W F' H' σ ρ i a dx v d → DtAll K F' vs (r d) → Q vs H') → t a (.ref C) (some dx) σ H Q
/-- none: the next statement's turn -/
def XSJ (K : PySem.W.Frag) (i : Nat) (C : Addr) (t : Addr → Value → Option Addr → TS) (o : Option (D → D)) : Prop := ∀ (W : Wd) (F H : Hp) (σ : L2.St) (ρ : Evn) (a dx : Addr) (v : V) (d : D) (D : Ends), Hd K W F H σ ρ i a dx v d →
  (match o with | none => ∀ F' H', Hd K W F' H' σ ρ i a dx v d → D.nx σ H' | some r => ∀ v' F' H', Hd K W F' H' σ ρ i a dx v d → Dt K F' v' (r d) → D.rt v' H') → t a (.ref C) (some dx) D σ H
theorem xj_what (q : ExcQ K C) : XJ K i C (fun a cls d => tWhatX K a cls d (tVar i)) id := fun W F H σ ρ a dx v d Q h hQ =>
  ⟨.ref a, h.at_, rfl, C, dx, _, v, rfl, q, rfl, h.xd, by simp [List.lookup], hQ v F H h h.dt⟩
theorem xj_non : XJ K i C (fun _ _ _ => tC .non) (fun _ => .none) := fun W F H σ ρ a dx v d Q h hQ => hQ _ F H h .non
theorem xj_str {x : Str} : XJ K i C (fun _ _ _ => tC (.str x)) (fun _ => .str x) := fun W F H σ ρ a dx v d Q h hQ => hQ _ F H h (.str x)
theorem xj_bl {b : Bool} : XJ K i C (fun _ _ _ => tC (.bl b)) (fun _ => .bool b) := fun W F H σ ρ a dx v d Q h hQ => hQ _ F H h (.bl b)
theorem xaj_nil : XAJ K i C (fun _ _ _ => tNil) (fun _ => []) := fun W F H σ ρ a dx v d Q h hQ => hQ [] F H h .nil
theorem xaj_cons1 {t : Addr → Value → Option Addr → TE} {r : D → D} (h1 : XJ K i C t r) : XAJ K i C (fun a c d => tCons (t a c d) tNil) (fun d => [r d]) := fun W F H σ ρ a dx v d Q h hQ =>
  h1 W F H σ ρ a dx v d _ h fun v' F' H' h' k => hQ [v'] F' H' h' (.cons k .nil)
/-- a text, then one more -/
theorem xaj_str2 {x : Str} {t : Addr → Value → Option Addr → TE} {r : D → D} (h1 : XJ K i C t r) : XAJ K i C (fun a c d => tCons (tC (.str x)) (tCons (t a c d) tNil)) (fun d => [.str x, r d]) := fun W F H σ ρ a dx v d Q h hQ =>
  h1 W F H σ ρ a dx v d _ h fun v' F' H' h' k => hQ [.str x, v'] F' H' h' (.cons (.str x) (.cons k .nil))
theorem xj_tup {t : Addr → Value → Option Addr → TA} {r : D → List D} (h1 : XAJ K i C t r) (hl : ∀ d, (r d).length ≤ 100000) : XJ K i C (fun a c d => tTupN (t a c d)) (fun d => .tuple (r d)) := fun W F H σ ρ a dx v d Q h hQ =>
  h1 W F H σ ρ a dx v d _ h fun vs F' H' h' k => ⟨by rw [dpAll_len k]; exact line5 (hl d), fun p its hp => by
    have g := Grow.froze (o := .frz (tupO its) (.tup vs)) h'.S.fh hp
    exact hQ _ _ _ (h'.grow g) (.tup ⟨its, upd_same⟩ (dpAll_mono g.ff _ _ k))⟩
theorem xj_ifT {c : Addr → Value → Option Addr → TT} {t u : Addr → Value → Option Addr → TE} {r : D → D} (hc : XTJ K i C c true) (h : XJ K i C t r) : XJ K i C (fun a x d => tIf (c a x d) (t a x d) (u a x d)) r := fun W F H σ ρ a dx v d Q g hQ =>
  hc W F H σ ρ a dx v d _ g fun F' H' g' => by
    rw [if_pos rfl]
    exact h W F' H' σ ρ a dx v d Q g' hQ
theorem xj_ifF {c : Addr → Value → Option Addr → TT} {t u : Addr → Value → Option Addr → TE} {r : D → D} (hc : XTJ K i C c false) (h : XJ K i C u r) : XJ K i C (fun a x d => tIf (c a x d) (t a x d) (u a x d)) r := fun W F H σ ρ a dx v d Q g hQ =>
  hc W F H σ ρ a dx v d _ g fun F' H' g' => by
    rw [if_neg (by decide)]
    exact h W F' H' σ ρ a dx v d Q g' hQ
theorem xtj_is {c : V} {u : Value} {b : Bool} (q : ExcQ K C) (hc : ClsV c u) (e : PySem.W.kitOne K (.ref C) u = some b) : XTJ K i C (fun a x d => tB (tCB (rIsX K a x d) (tCons (tVar i) (tCons (tC c) tNil)))) b := fun W F H σ ρ a dx v d Q h hQ =>
  ⟨.ref a, h.at_, C, dx, _, c, u, b, rfl, rfl, h.xd, q, rfl, hc, e, b, rfl, hQ F H h⟩
theorem xtj_is2 {c1 c2 : V} {u1 u2 : Value} {b : Bool} (q : ExcQ K C) (h1 : ClsV c1 u1) (h2 : ClsV c2 u2) (e : PySem.W.kitAny K (.ref C) [u1, u2] = some b) : XTJ K i C (fun a x d => tB (tCB (rIsXT K a x d) (tCons (tVar i) (tCons (tTup (tCons (tC c1) (tCons (tC c2) tNil))) tNil)))) b := fun W F H σ ρ a dx v d Q h hQ =>
  ⟨.ref a, h.at_, by rw [sizeLine_eq]; show 2 ≤ 16777216; decide, fun p hp => by
    have g : Grow F H F (upd H p (.tup [c1, c2])) := ⟨Same.refl _, Same.upd_new hp, h.S.fh.trans (Same.upd_new hp), fun _ z => .inl z⟩
    exact ⟨C, dx, _, p, [c1, c2], [u1, u2], b, rfl, rfl, (h.grow g).xd, q, rfl, upd_same, .cons h1 (.cons h2 .nil), e, b, rfl, hQ _ _ (h.grow g)⟩⟩
theorem xtj_is3 {c1 c2 c3 : V} {u1 u2 u3 : Value} {b : Bool} (q : ExcQ K C) (h1 : ClsV c1 u1) (h2 : ClsV c2 u2) (h3 : ClsV c3 u3) (e : PySem.W.kitAny K (.ref C) [u1, u2, u3] = some b) :
    XTJ K i C (fun a x d => tB (tCB (rIsXT K a x d) (tCons (tVar i) (tCons (tTup (tCons (tC c1) (tCons (tC c2) (tCons (tC c3) tNil)))) tNil)))) b := fun W F H σ ρ a dx v d Q h hQ =>
  ⟨.ref a, h.at_, by rw [sizeLine_eq]; show 3 ≤ 16777216; decide, fun p hp => by
    have g : Grow F H F (upd H p (.tup [c1, c2, c3])) := ⟨Same.refl _, Same.upd_new hp, h.S.fh.trans (Same.upd_new hp), fun _ z => .inl z⟩
    exact ⟨C, dx, _, p, [c1, c2, c3], [u1, u2, u3], b, rfl, rfl, (h.grow g).xd, q, rfl, upd_same, .cons h1 (.cons h2 (.cons h3 .nil)), e, b, rfl, hQ _ _ (h.grow g)⟩⟩
/-- e is None -/
theorem xtj_isN : XTJ K i C (fun _ _ _ => tTest (tOp (fun x y H Q => y = .non ∧ Q (.bl (decide (x = .non))) H) (tVar i) (tC .non))) false := fun W F H σ ρ a dx v d Q h hQ =>
  ⟨.ref a, h.at_, rfl, false, by simp, hQ F H h⟩
theorem xtj_not {c : Addr → Value → Option Addr → TT} {b : Bool} (hc : XTJ K i C c b) : XTJ K i C (fun a x d => tNot (c a x d)) (!b) := fun W F H σ ρ a dx v d Q h hQ =>
  hc W F H σ ρ a dx v d _ h fun F' H' h' => hQ F' H' h'
theorem xtj_andT {c e : Addr → Value → Option Addr → TT} {b : Bool} (hc : XTJ K i C c true) (he : XTJ K i C e b) : XTJ K i C (fun a x d => tAnd (c a x d) (e a x d)) b := fun W F H σ ρ a dx v d Q h hQ =>
  hc W F H σ ρ a dx v d _ h fun F' H' h' => by
    rw [if_pos rfl]
    exact he W F' H' σ ρ a dx v d Q h' hQ
theorem xtj_andF {c e : Addr → Value → Option Addr → TT} (hc : XTJ K i C c false) : XTJ K i C (fun a x d => tAnd (c a x d) (e a x d)) false := fun W F H σ ρ a dx v d Q h hQ =>
  hc W F H σ ρ a dx v d _ h fun F' H' h' => by
    rw [if_neg (by decide)]
    exact hQ F' H' h'
theorem xtj_orT {c e : Addr → Value → Option Addr → TT} (hc : XTJ K i C c true) : XTJ K i C (fun a x d => tOr (c a x d) (e a x d)) true := fun W F H σ ρ a dx v d Q h hQ =>
  hc W F H σ ρ a dx v d _ h fun F' H' h' => by
    rw [if_pos rfl]
    exact hQ F' H' h'
theorem xtj_orF {c e : Addr → Value → Option Addr → TT} {b : Bool} (hc : XTJ K i C c false) (he : XTJ K i C e b) : XTJ K i C (fun a x d => tOr (c a x d) (e a x d)) b := fun W F H σ ρ a dx v d Q h hQ =>
  hc W F H σ ρ a dx v d _ h fun F' H' h' => by
    rw [if_neg (by decide)]
    exact he W F' H' σ ρ a dx v d Q h' hQ
theorem xs_ret {t : Addr → Value → Option Addr → TE} {r : D → D} (h1 : XJ K i C t r) : XSJ K i C (fun a x d => tRet (t a x d)) (some r) := fun W F H σ ρ a dx v d D h hQ => h1 W F H σ ρ a dx v d _ h hQ
theorem xs_nx : XSJ K i C (fun _ _ _ => tNext) none := fun W F H σ ρ a dx v d D h hQ => hQ F H h
theorem xs_ifT {c : Addr → Value → Option Addr → TT} {t u : Addr → Value → Option Addr → TS} {o : Option (D → D)} (hc : XTJ K i C c true) (h : XSJ K i C t o) : XSJ K i C (fun a x d => tIfS (c a x d) (t a x d) (u a x d)) o := fun W F H σ ρ a dx v d D g hQ =>
  hc W F H σ ρ a dx v d _ g fun F' H' g' => by
    rw [if_pos rfl]
    exact h W F' H' σ ρ a dx v d D g' hQ
theorem xs_ifF {c : Addr → Value → Option Addr → TT} {t u : Addr → Value → Option Addr → TS} {o : Option (D → D)} (hc : XTJ K i C c false) (h : XSJ K i C u o) : XSJ K i C (fun a x d => tIfS (c a x d) (t a x d) (u a x d)) o := fun W F H σ ρ a dx v d D g hQ =>
  hc W F H σ ρ a dx v d _ g fun F' H' g' => by
    rw [if_neg (by decide)]
    exact h W F' H' σ ρ a dx v d D g' hQ
theorem xs_seqN {t u : Addr → Value → Option Addr → TS} {o : Option (D → D)} (h1 : XSJ K i C t none) (h2 : XSJ K i C u o) : XSJ K i C (fun a x d => tSeq (t a x d) (u a x d)) o := fun W F H σ ρ a dx v d D g hQ =>
  h1 W F H σ ρ a dx v d { D with nx := u a (.ref C) (some dx) D } g fun F' H' g' => h2 W F' H' σ ρ a dx v d D g' hQ
theorem xs_seqR {t u : Addr → Value → Option Addr → TS} {r : D → D} (h1 : XSJ K i C t (some r)) : XSJ K i C (fun a x d => tSeq (t a x d) (u a x d)) (some r) := fun W F H σ ρ a dx v d D g hQ =>
  h1 W F H σ ρ a dx v d { D with nx := u a (.ref C) (some dx) D } g hQ

/-! ### the whole -/
/-- hd: what the tail makes of an exception of the class named -/
def fTry (i j : Nat) (fb gN : Evn → Res Fl) (hd : Str → Option (D → D)) (ρ : Evn) : Res Fl := match fb ρ with
  | .ok .nx ρ1 => gN ρ1
  | .ok _ _ => .bad
  | .exc c d ρ1 => match hd c with
    | some r => if i < ρ1.length then .ok (.rt (.fr (r d))) ((ρ1.set i none).set j none) else .bad
    | none => .bad
  | .bad => .bad
theorem SR.hide {N : Nat} {ios : List Addr} {F0 B : Hp} {j : Nat} {x : Option V} (S : SR K N ios F0 B F H σ ρ) (h : ∀ (k l : Nat), ρ[k]? ≠ some (some (Sl.br l))) : SR K N ios F0 B F H (σ.set j x) (ρ.set j none) := by
  have old : ∀ {k : Nat} {s : Sl}, (ρ.set j none)[k]? = some (some s) → k ≠ j ∧ ρ[k]? = some (some s) := fun {k s} e => by
    by_cases hk : k = j
    · subst hk
      by_cases hl : k < ρ.length
      · rw [List.getElem?_set_self hl] at e; cases e
      · rw [List.getElem?_eq_none (by simpa using hl)] at e; cases e
    · rw [List.getElem?_set_ne (Ne.symm hk)] at e
      exact ⟨hk, e⟩
  have sg : ∀ {k : Nat}, k ≠ j → (σ.set j x)[k]? = σ[k]? := fun {k} hk => List.getElem?_set_ne (Ne.symm hk)
  refine ⟨by simpa using S.len, S.fh, S.f0, S.fn, S.bh, S.bs, fun k d e => ?_, fun k c e => ?_, fun k l c e => ?_, fun k l e => absurd (old e).2 (h k l), fun k l s t p e1 e2 h1 h2 e3 e4 => ?_⟩
  · obtain ⟨hk, e⟩ := old e
    rw [sg hk]
    exact S.fr k d e
  · obtain ⟨hk, e⟩ := old e
    rw [sg hk]
    exact S.ow k c e
  · obtain ⟨hk, e⟩ := old e
    rw [sg hk]
    exact S.io k l c e
  · obtain ⟨hk, e1⟩ := old e1
    obtain ⟨hl, e2⟩ := old e2
    rw [sg hk] at e3
    rw [sg hl] at e4
    exact S.sep k l s t p e1 e2 h1 h2 e3 e4
theorem S4.hide {j : Nat} {x : Option V} (L : Ln W σ [] ρ []) (S : S4 K W F H σ [] ρ []) : S4 K W F H (σ.set j x) [] (ρ.set j none) [] := by
  show SR _ _ _ _ _ _ _ (_ ++ []) (_ ++ [])
  rw [List.append_nil, List.append_nil]
  have S' : SR K W.N W.ios W.F0 W.B F H σ ρ := by
    have := S
    unfold S4 at this
    rw [List.append_nil, List.append_nil] at this
    exact this
  exact SR.hide S' (S4.nobr L S)
theorem tsj_try {tb : WX → TS} {tN : TS} {tX : Addr → Value → Option Addr → TS} {cs : List Value} {i j : Nat} {fb gN : Evn → Res Fl} {hd : Str → Option (D → D)} (hij : i ≠ j)
    (hb : ∀ Wx : WX, TSJ K mg (fun σ cls d H => Wx cls d σ H) (tb Wx) fb) (hN : TSJ K mg E tN gN)
    (hX : ∀ c r C, hd c = some r → mg c = some (.ref C) → PySem.W.exmAny K (.ref C) cs = some true ∧ XSJ K i C tX (some r)) :
    TSJ K mg E (fun D σ H => tb (wEnd K cs i j tX D) { D with nx := tN D } σ H) (fTry i j fb gN hd) := by
  intro W F H σ ρ D L S hW
  refine hb (wEnd K cs i j tX D) W F H σ ρ _ L S ?_
  unfold fTry at hW
  cases e : fb ρ with
  | bad => rw [e] at hW; exact hW
  | ok fl ρ1 =>
    rw [e] at hW
    cases fl with
    | nx => exact fun σ' F' H' L' S' => hN W F' H' σ' ρ1 D L' S' hW
    | bk => exact hW.elim
    | ct => exact hW.elim
    | rt s => exact hW.elim
  | exc c d ρ1 =>
    rw [e] at hW
    simp only at hW
    cases ec : hd c with
    | none => rw [ec] at hW; exact hW.elim
    | some r =>
      rw [ec] at hW
      simp only at hW
      by_cases hi' : i < ρ1.length
      case neg => rw [if_neg hi'] at hW; exact hW.elim
      rw [if_pos hi'] at hW
      intro C dx v F' H' σ' hl hC hx hv S'
      obtain ⟨h1, h2⟩ := hX c r C ec hC
      refine ⟨h1, fun a ha => ?_⟩
      have hr : ρ1.length = W.N := by
        have := S'.len
        simp at this
        omega
      have L' : Ln W σ' [] ρ1 [] := ⟨hl, hr, rfl⟩
      have e1 : ((σ'.set j (some (V.ref a))).set i (some (.ref a))).set j none = (σ'.set i (some (.ref a))).set j none := by
        rw [List.set_comm _ _ (Ne.symm hij), List.set_set]
      rw [e1]
      have L2 : Ln W (σ'.set i (some (.ref a))) [] (ρ1.set i none) [] := L'.set
      have S2 := S4.hide (j := i) (x := some (.ref a)) L' S'
      have S3 := S4.hide (j := j) (x := none) L2 S2
      refine h2 W F' H' _ _ a dx v d D ⟨L2.set, S3, ?_, hx, hv⟩ fun v' F'' H'' g k => ?_
      · rw [List.getElem?_set_ne (Ne.symm hij), List.getElem?_set_self (by rw [hl, ← hr]; exact hi')]
      · exact hW v' _ F'' H'' ⟨g.L.s, g.L.r, rfl⟩ (S4.result (tv := []) (tr := []) g.S (Grow.refl g.S.fh) k)
/-- what the tail makes of the classes that are raised -/
def hdL : List (Str × (D → D)) → Str → Option (D → D)
  | [], _ => none
  | (c0, r0) :: l, c => if c = c0 then some r0 else hdL l c
theorem hdL_nil {tX : Addr → Value → Option Addr → TS} {cs : List Value} : ∀ c r C, hdL [] c = some r → mg c = some (.ref C) → PySem.W.exmAny K (.ref C) cs = some true ∧ XSJ K i C tX (some r) := fun c r C h _ => by cases h
theorem hdL_cons {tX : Addr → Value → Option Addr → TS} {cs : List Value} {c0 : Str} {C0 : Addr} {r0 : D → D} {l : List (Str × (D → D))} (g : mg c0 = some (.ref C0)) (hm : PySem.W.exmAny K (.ref C0) cs = some true) (hs : XSJ K i C0 tX (some r0))
    (hl : ∀ c r C, hdL l c = some r → mg c = some (.ref C) → PySem.W.exmAny K (.ref C) cs = some true ∧ XSJ K i C tX (some r)) : ∀ c r C, hdL ((c0, r0) :: l) c = some r → mg c = some (.ref C) → PySem.W.exmAny K (.ref C) cs = some true ∧ XSJ K i C tX (some r) := fun c r C h hC => by
  unfold hdL at h
  by_cases e : c = c0
  · rw [if_pos e] at h
    cases h
    subst e
    rw [g] at hC
    cases hC
    exact ⟨hm, hs⟩
  · rw [if_neg e] at h
    exact hl c r C h hC
theorem pss_never {X : Cx} {l : List Stmt} : PSs X l tNeverS := ⟨fun _ _ _ _ _ _ h => h.elim⟩
theorem names_own {X : Cx} {x : Str} {C : Addr} (hg : Gl X x) (hm : X.mg x = some (.ref C)) (hdb : (x == ("__debug__" : Str)) = false := by decide) : Names X x (.ref C) := ⟨hg, hdb, .inl hm⟩
end
/-- the def that a class's body holds at i -/
def clsBody (s : Stmt) (i : Nat) : Stmt := match s with
  | .ClassDef _ _ _ b _ _ _ _ _ _ _ => b.getD i s
  | s => s
/-- a class that may be raised -/
structure RzC (P : Program) (w : World) (K : PySem.W.Frag) (mg : Str → Option Value) (base : Heap) (x : Str) (C : Addr) (lev : Nat) : Prop where
  g : mg x = some (.ref C)
  ex : ∃ (B newId initId : String) (bmB : List Value) (fI : Addr) (fd : FuncData), ExcBaseFacts B newId initId bmB ∧ OxL K C bmB newId ∧ PySem.W.findIn K (.ref C) "__init__" = some (some (.ref fI)) ∧ PySem.W.typeIn K (.ref fI) = some (.type "function") ∧ Binds K fd ["self", "what"] [] ∧
    FnOk P w K mg base (L2.CX P w) lev fI fd ["self", "what"] (spIni K bmB newId)
theorem pmk_R {X : Cx} {x : Str} {C : Addr} {lev : Nat} {e : Expr} {es : List Expr} {ta : TA} {p pos : Pos} (R : RzC X.prog X.w X.K X.mg X.base x C lev) (hr : RoomG (lev + 1) X.A) (hg : Gl X x) (ha : PA X (e :: es) ta)
    (hdb : (x == ("__debug__" : Str)) = false := by decide) (he : starEach (e :: es) X.env = (false, eval e X.env) :: starEach es X.env := by rfl) (hpl : (backTo pos (starEach es X.env)).any (·.1) = false := by rfl) :
    PMk X (.Call (.Name x p) (e :: es) [] pos) (tRz C ta) := by
  obtain ⟨B, newId, initId, bmB, fI, fd, FB, T, iC, tI, hb, F1⟩ := R.ex
  exact pmk_G FB T iC tI F1 hr.r hb hg R.g ha hdb he hpl
theorem typ_VE : typeOf (.type "ValueError") = pure (.type "type") := by kernel_rfl
theorem typ_LE : typeOf (.type "LookupError") = pure (.type "type") := by kernel_rfl
theorem typ_RE : typeOf (.type "RuntimeError") = pure (.type "type") := by kernel_rfl
abbrev bmVE : List Value := [.type "ValueError", .type "Exception", .type "BaseException", .type "object"]
abbrev bmLE : List Value := [.type "LookupError", .type "Exception", .type "BaseException", .type "object"]
abbrev bmRE : List Value := [.type "RuntimeError", .type "Exception", .type "BaseException", .type "object"]
end DL

namespace TX
open PySem PySem.Spec PyProof.Rows L2 RZ DL
def topS (i : Nat) : Stmt := PySem.Challenge.pw_ripepicks_k43_what_a_picking_tells.main.body.getD i (.Pass ⟨0, 0, 0, 0⟩)
abbrev s_NoFruit_init : Stmt := clsBody (topS 2) 0
theorem sc_NoFruit_init : FnScope ["self", "what"] ["self", "what"] (defScope s_NoFruit_init) := ⟨rfl, rfl, rfl, by decide +kernel, rfl, by decide +kernel, by decide +kernel⟩
/-! ### lot_of (level 1) -/
abbrev s_lot_of : Stmt := topS 5
abbrev N_lot_of : List Str := ["names"]
theorem sc_lot_of : FnScope N_lot_of ["names"] (defScope s_lot_of) := ⟨rfl, rfl, rfl, by decide +kernel, rfl, by decide +kernel, by decide +kernel⟩
def g_lot_of : Evn → Res Fl := (fRet (fCB tupleOp (fCons (fCB sortOp (fCons (fVar 0) fNil)) fNil)))
def d_lot_of : Option Cn → List PyData → Ret := denB 1 g_lot_of
/-! ### _law_tape (level 1) -/
abbrev s__law_tape : Stmt := topS 9
abbrev N__law_tape : List Str := ["_law_script", "_law_k", "_law_cell"]
theorem sc__law_tape : FnScope N__law_tape ["_law_script", "_law_k"] (defScope s__law_tape) := ⟨rfl, rfl, rfl, by decide +kernel, rfl, by decide +kernel, by decide +kernel⟩
def g__law_tape : Evn → Res Fl := (fSeq (fAsg 2 (fIf (fTest (fOp ltOp (fVar 1) (fCB lenOp (fCons (fVar 0) fNil)))) (fOp ixOp (fVar 0) (fVar 1)) (fC (.int 0))))
    (fRet (fLst (fCons (fOp mulOp (fCB absOp (fCons (fVar 2) fNil)) (fCB intOp (fCons (fOp geOp (fCB absOp (fCons (fVar 2) fNil)) (fOp powOp (fC (.int 10)) (fC (.int 18)))) fNil))) (fCons (fOp addOp (fOp addOp (fOp modOp (fVar 2) (fC (.int 2305843009213693951))) (fOp mulOp (fC (.int 39373)) (fVar 1))) (fC (.int 17))) (fCons (fC (.int 0)) fNil))))))
def d__law_tape : Option Cn → List PyData → Ret := denB 3 g__law_tape
/-! ### _law_draw (level 1) -/
abbrev s__law_draw : Stmt := topS 10
abbrev N__law_draw : List Str := ["_law_tape_here", "_law_many", "_law_found", "_law_once", "_law_twice", "_law_wide"]
theorem sc__law_draw : FnScope N__law_draw ["_law_tape_here", "_law_many"] (defScope s__law_draw) := ⟨rfl, rfl, rfl, by decide +kernel, rfl, by decide +kernel, by decide +kernel⟩
def g__law_draw : Evn → Res Fl := (fSeq (fIfS (fTest (fOp gtOp (fOp ixOp (fVar 0) (fC (.int 0))) (fC (.int 0)))) (fSeq (fAsg 2 (fOp modOp (fOp ixOp (fVar 0) (fC (.int 0))) (fVar 1)))
    (fSeq (fSetAt 0 (fOp divOp (fOp ixOp (fVar 0) (fC (.int 0))) (fVar 1)) (fC (.int 0)))
    (fRet (fVar 2)))) fNext)
    (fSeq (fSetAt 0 (fOp addOp (fOp ixOp (fVar 0) (fC (.int 2))) (fC (.int 1))) (fC (.int 2)))
    (fSeq (fAsg 3 (fOp modOp (fOp powOp (fOp addOp (fOp ixOp (fVar 0) (fC (.int 1))) (fOp mulOp (fC (.int 39373)) (fOp ixOp (fVar 0) (fC (.int 2))))) (fC (.int 5))) (fC (.int 2147483647))))
    (fSeq (fAsg 4 (fOp modOp (fOp mulOp (fOp addOp (fVar 3) (fOp ixOp (fVar 0) (fC (.int 2)))) (fOp addOp (fOp addOp (fOp modOp (fVar 3) (fC (.int 40009))) (fC (.int 7))) (fOp ixOp (fVar 0) (fC (.int 2))))) (fC (.int 2147483629))))
    (fSeq (fAsg 5 (fOp modOp (fOp addOp (fOp addOp (fOp divOp (fOp ixOp (fVar 0) (fC (.int 1))) (fC (.int 2147483647))) (fOp mulOp (fVar 4) (fC (.int 40009)))) (fOp ixOp (fVar 0) (fC (.int 2)))) (fC (.int 2305843009213693951))))
    (fRet (fOp modOp (fOp divOp (fOp modOp (fOp addOp (fOp addOp (fOp mulOp (fVar 4) (fC (.int 48271))) (fOp mulOp (fVar 5) (fC (.int 39373)))) (fVar 3)) (fC (.int 2305843009213693921))) (fC (.int 64))) (fVar 1))))))))
def d__law_draw : Option Cn → List PyData → Ret := denB 6 g__law_draw
/-! ### _law_same (level 1) -/
abbrev s__law_same : Stmt := topS 12
abbrev N__law_same : List Str := ["_law_found", "_law_due", "_law_one", "_law_two"]
theorem sc__law_same : FnScope N__law_same ["_law_found", "_law_due"] (defScope s__law_same) := ⟨rfl, rfl, rfl, by decide +kernel, rfl, by decide +kernel, by decide +kernel⟩
def g__law_same (den : Option Cn → List PyData → Ret) : Evn → Res Fl := (fSeq (fIfS (fTest (fIsi2 "list" "tuple" (fVar 1))) (fSeq (fIfS (fOr (fTest (fOp (eqOp true) (fIsi "list" (fVar 0)) (fIsi "list" (fVar 1)))) (fTest (fOp (eqOp true) (fIsi "tuple" (fVar 0)) (fIsi "tuple" (fVar 1))))) (fRet (fC (.bool false))) fNext)
    (fRet (fAndV (fOp (eqOp false) (fCB lenOp (fCons (fVar 0) fNil)) (fCB lenOp (fCons (fVar 1) fNil))) (fCB allOp (fCons (fLc [2, 3] (fZip (fCons (fFz (fVar 0)) (fCons (fFz (fVar 1)) fNil))) (gSeqF 2 (gConsF (gNm 2) (gConsF (gNm 3) gNilF))) (fun ρ => .ok true ρ) (fCallV den (fCons (fVar 2) (fCons (fVar 3) fNil)))) fNil))))) fNext)
    (fSeq (fIfS (fOr (fTest (fOp (isN false) (fVar 1) (fC .none))) (fTest (fIsi2 "str" "bool" (fVar 1)))) (fRet (fAndV (fOp (eqOp false) (fIsi "bool" (fVar 0)) (fIsi "bool" (fVar 1))) (fOp (eqOp false) (fVar 0) (fVar 1)))) fNext)
    (fRet (fAndV (fIsi "int" (fVar 0)) (fAndV (fNotV (fIsi "bool" (fVar 0))) (fOp (eqOp false) (fVar 0) (fVar 1)))))))
def d__law_same : Nat → Option Cn → List PyData → Ret
  | 0 => fun _ _ => .bad
  | n + 1 => denB 4 (g__law_same (d__law_same n))
/-! ### _law_in (level 1) -/
abbrev s__law_in : Stmt := topS 15
abbrev N__law_in : List Str := ["_law_one", "_law_other", "_law_name"]
theorem sc__law_in : FnScope N__law_in ["_law_one", "_law_other"] (defScope s__law_in) := ⟨rfl, rfl, rfl, by decide +kernel, rfl, by decide +kernel, by decide +kernel⟩
def g__law_in : Evn → Res Fl := (fRet (fCB allOp (fCons (fLc [2] (fIterS (fVar 0)) (gNm 2) (fun ρ => .ok true ρ) (fOp (inOp false) (fVar 2) (fVar 1))) fNil)))
def d__law_in : Option Cn → List PyData → Ret := denB 3 g__law_in
/-! ### _law_known (level 1) -/
abbrev s__law_known : Stmt := topS 23
abbrev N__law_known : List Str := ["_law_entry", "_law_plum", "_law_liking_here", "_law_row", "_law_by", "_law_not_by", "_law_gone", "_law_name"]
theorem sc__law_known : FnScope N__law_known ["_law_entry", "_law_plum"] (defScope s__law_known) := ⟨rfl, rfl, rfl, by decide +kernel, rfl, by decide +kernel, by decide +kernel⟩
def g__law_known : Evn → Res Fl := (fSeq (fUnp (gSeqF 2 (gConsF (gNm 2) (gConsF (gNm 3) gNilF))) (fVar 0))
    (fSeq (fPar [4, 5, 6] (fCons (fC .none) (fCons (fC .none) (fCons (fLst fNil) fNil))))
    (fSeq (fFor (fIterS (fVar 3)) (gNm 7) (fSeq (fIfS (fTest (fOp (eqOp false) (fVar 7) (fVar 1))) (fAsg 4 (fCB tupleOp (fCons (fCB sortOp (fCons (fVar 6) fNil)) fNil))) (fIfS (fAnd (fTest (fOp (isN false) (fVar 4) (fC .none))) (fTest (fOp gtOp (fIxm (fVar 2) (fVar 7)) (fIxm (fVar 2) (fVar 1))))) (fAsg 5 (fCB tupleOp (fCons (fCB sortOp (fCons (fVar 6) fNil)) fNil))) fNext))
    (fDrop (fAppend 6 (fVar 7)))))
    (fRet (fIf (fTest (fOp (isN true) (fVar 4) (fC .none))) (fTup (fCons (fVar 4) (fCons (fVar 5) fNil))) (fTup (fCons (fC .none) (fCons (fCB tupleOp (fCons (fCB sortOp (fCons (fVar 3) fNil)) fNil)) fNil))))))))
def d__law_known : Option Cn → List PyData → Ret := denB 8 g__law_known
/-! ### _law_names (level 2) -/
abbrev s__law_names : Stmt := topS 13
abbrev N__law_names : List Str := ["_law_tape_here", "_law_many", "_law_letters", "_law_shift", "_law_stem", "_law_k", "_law_at", "_law_step", "_law_found", "_law_head", "_law_tail", "_law_way", "_law_sign"]
theorem sc__law_names : FnScope N__law_names ["_law_tape_here", "_law_many"] (defScope s__law_names) := ⟨rfl, rfl, rfl, by decide +kernel, rfl, by decide +kernel, by decide +kernel⟩
def g__law_names : Evn → Res Fl := (fSeq (fPar [2, 3] (fCons (fC (.str "abcdefghijklmnopqrstuvwxyz")) (fCons (fCallT d__law_draw (fCons (fVar 0) (fCons (fC (.int 26)) fNil))) fNil)))
    (fSeq (fAsg 4 (fM1 joinOp (fC (.str "")) (fLc [5] (fRange1 (fCons (fCallT d__law_draw (fCons (fVar 0) (fCons (fC (.int 8)) fNil))) fNil)) (gNm 5) (fun ρ => .ok true ρ) (fOp ixOp (fVar 2) (fCallT d__law_draw (fCons (fVar 0) (fCons (fC (.int 26)) fNil)))))))
    (fSeq (fPar [6, 7, 8] (fCons (fCallT d__law_draw (fCons (fVar 0) (fCons (fOp addOp (fCB lenOp (fCons (fVar 4) fNil)) (fC (.int 1))) fNil))) (fCons (fOp ixOp (fLst (fCons (fC (.int 1)) (fCons (fC (.int 7)) (fCons (fC (.int 25)) fNil)))) (fCallT d__law_draw (fCons (fVar 0) (fCons (fC (.int 3)) fNil)))) (fCons (fLst fNil) fNil))))
    (fSeq (fPar [9, 10] (fCons (fSl (fVar 4) fNoPart (fPart (fVar 6))) (fCons (fSl (fVar 4) (fPart (fVar 6)) fNoPart) fNil)))
    (fSeq (fFor (fRange1 (fCons (fVar 1) fNil)) (gNm 5) (fSeq (fAsg 11 (fOp mulOp (fOp modOp (fOp addOp (fOp addOp (fVar 3) (fVar 6)) (fCB lenOp (fCons (fVar 4) fNil))) (fC (.int 3))) (fCB intOp (fCons (fOp (eqOp true) (fVar 10) (fC (.str ""))) fNil))))
    (fSeq (fAsg 12 (fOp ixOp (fVar 2) (fOp modOp (fOp addOp (fVar 3) (fOp mulOp (fVar 7) (fOp ixOp (fLst (fCons (fVar 5) (fCons (fOp divOp (fVar 5) (fC (.int 2))) (fCons (fVar 5) fNil)))) (fVar 11)))) (fC (.int 26)))))
    (fDrop (fAppend 8 (fOp addOp (fOp addOp (fVar 9) (fVar 12)) (fOp ixOp (fLst (fCons (fVar 10) (fCons (fOp mulOp (fVar 10) (fOp modOp (fVar 5) (fC (.int 2)))) (fCons (fSl (fVar 10) fNoPart (fPart (fOp modOp (fVar 5) (fOp addOp (fCB lenOp (fCons (fVar 10) fNil)) (fC (.int 1)))))) fNil)))) (fVar 11))))))))
    (fRet (fVar 8)))))))
def d__law_names : Option Cn → List PyData → Ret := denB 13 g__law_names
/-! ### _law_part (level 2) -/
abbrev s__law_part : Stmt := topS 14
abbrev N__law_part : List Str := ["_law_tape_here", "_law_some", "_law_many", "_law_left", "_law_k"]
theorem sc__law_part : FnScope N__law_part ["_law_tape_here", "_law_some", "_law_many"] (defScope s__law_part) := ⟨rfl, rfl, rfl, by decide +kernel, rfl, by decide +kernel, by decide +kernel⟩
def g__law_part : Evn → Res Fl := (fSeq (fAsg 3 (fCB listOp (fCons (fVar 1) fNil)))
    (fRet (fLc [4] (fRange1 (fCons (fCB min2Op (fCons (fVar 2) (fCons (fCB lenOp (fCons (fVar 3) fNil)) fNil))) fNil)) (gNm 4) (fun ρ => .ok true ρ) (fPopAt 3 (fCallT d__law_draw (fCons (fVar 0) (fCons (fCB lenOp (fCons (fVar 3) fNil)) fNil)))))))
def d__law_part : Option Cn → List PyData → Ret := denB 5 g__law_part
/-! ### _law_least (level 2) -/
abbrev s__law_least : Stmt := topS 16
abbrev N__law_least : List Str := ["_law_lots", "_law_some", "_law_lot", "_law_found", "_law_other"]
theorem sc__law_least : FnScope N__law_least ["_law_lots"] (defScope s__law_least) := ⟨rfl, rfl, rfl, by decide +kernel, rfl, by decide +kernel, by decide +kernel⟩
def g__law_least : Evn → Res Fl := (fSeq (fAsg 1 (fLc [2] (fIterS (fVar 0)) (gNm 2) (fun ρ => .ok true ρ) (fCB tupleOp (fCons (fCB sortOp (fCons (fVar 2) fNil)) fNil))))
    (fSeq (fAsg 3 (fLc [2] (fIterS (fVar 1)) (gNm 2) (fNot (fTest (fCB anyOp (fCons (fLc [4] (fIterS (fVar 1)) (gNm 4) (fun ρ => .ok true ρ) (fAndV (fOp (eqOp true) (fVar 4) (fVar 2)) (fCallV d__law_in (fCons (fVar 4) (fCons (fVar 2) fNil))))) fNil)))) (fVar 2)))
    (fRet (fCB tupleOp (fCons (fCB ssOp (fCons (fVar 3) fNil)) fNil)))))
def d__law_least : Option Cn → List PyData → Ret := denB 5 g__law_least
/-! ### _law_ripe (level 2) -/
abbrev s__law_ripe : Stmt := topS 20
abbrev N__law_ripe : List Str := ["_law_orchard_here", "_law_gone", "_law_found", "_law_plum", "_law_lots", "_law_lot"]
theorem sc__law_ripe : FnScope N__law_ripe ["_law_orchard_here", "_law_gone"] (defScope s__law_ripe) := ⟨rfl, rfl, rfl, by decide +kernel, rfl, by decide +kernel, by decide +kernel⟩
def g__law_ripe : Evn → Res Fl := (fSeq (fAsg 2 (fLst fNil))
    (fSeq (fFor (fIterS (fVar 0)) (gSeqF 2 (gConsF (gNm 3) (gConsF (gNm 4) gNilF))) (fIfS (fAnd (fTest (fOp (inOp true) (fVar 3) (fVar 1))) (fTest (fCB anyOp (fCons (fLc [5] (fIterS (fVar 4)) (gNm 5) (fun ρ => .ok true ρ) (fCallV d__law_in (fCons (fVar 5) (fCons (fVar 1) fNil)))) fNil)))) (fDrop (fAppend 2 (fVar 3))) fNext))
    (fRet (fVar 2))))
def d__law_ripe : Option Cn → List PyData → Ret := denB 6 g__law_ripe
/-! ### known (level 3) -/
abbrev s_known : Stmt := topS 7
abbrev N_known : List Str := ["picking", "fruit", "liking", "row", "ahead", "better", "lesser", "place", "name"]
theorem sc_known : FnScope N_known ["picking", "fruit"] (defScope s_known) := ⟨rfl, rfl, rfl, by decide +kernel, rfl, by decide +kernel, by decide +kernel⟩
def g_known : Evn → Res Fl := (fSeq (fUnp (gSeqF 2 (gConsF (gNm 2) (gConsF (gNm 3) gNilF))) (fVar 0))
    (fSeq (fIfS (fTest (fOp (inOp true) (fVar 1) (fVar 2))) (fRaise "NoFruit" (fVar 1)) fNext)
    (fSeq (fIfS (fTest (fOp (inOp true) (fVar 1) (fVar 3))) (fRet (fTup (fCons (fC .none) (fCons (fCallV d_lot_of (fCons (fVar 3) fNil)) fNil)))) fNext)
    (fSeq (fAsg 4 (fSl (fCB listOp (fCons (fVar 3) fNil)) fNoPart (fPart (fBL indexOp (fCB listOp (fCons (fVar 3) fNil)) (fVar 1)))))
    (fSeq (fAsg 5 (fSl (fCB listOp (fCons (fVar 2) fNil)) fNoPart (fPart (fBL indexOp (fCB listOp (fCons (fVar 2) fNil)) (fVar 1)))))
    (fSeq (fAsg 6 (fLc [7, 8] (fEnum (fCons (fFz (fVar 4)) fNil)) (gSeqF 2 (gConsF (gNm 7) (gConsF (gNm 8) gNilF))) (fTest (fOp (inOp true) (fVar 8) (fVar 5))) (fVar 7)))
    (fRet (fTup (fCons (fCallV d_lot_of (fCons (fVar 4) fNil)) (fCons (fIf (fTest (fOp gtOp (fCB lenOp (fCons (fVar 6) fNil)) (fC (.int 0)))) (fCallV d_lot_of (fCons (fSl (fVar 4) fNoPart (fPart (fOp ixOp (fVar 6) (fUn negOp (fC (.int 1)))))) fNil)) (fC .none)) fNil))))))))))
def d_known : Option Cn → List PyData → Ret := denB 9 g_known
/-! ### _law_pairs (level 3) -/
abbrev s__law_pairs : Stmt := topS 17
abbrev N__law_pairs : List Str := ["_law_tape_here", "_law_names_here", "_law_found", "_law_k", "_law_plum", "_law_lots", "_law_turn", "_law_some"]
theorem sc__law_pairs : FnScope N__law_pairs ["_law_tape_here", "_law_names_here"] (defScope s__law_pairs) := ⟨rfl, rfl, rfl, by decide +kernel, rfl, by decide +kernel, by decide +kernel⟩
def g__law_pairs : Evn → Res Fl := (fSeq (fAsg 2 (fLst fNil))
    (fSeq (fFor (fEnum (fCons (fFz (fVar 1)) fNil)) (gSeqF 2 (gConsF (gNm 3) (gConsF (gNm 4) gNilF))) (fSeq (fAsg 5 (fLst fNil))
    (fSeq (fFor (fRange1 (fCons (fOp ixOp (fLst (fCons (fC (.int 1)) (fCons (fC (.int 1)) (fCons (fC (.int 2)) (fCons (fC (.int 3)) (fCons (fC (.int 1)) (fCons (fC (.int 2)) (fCons (fC (.int 1)) (fCons (fC (.int 1)) (fCons (fC (.int 2)) (fCons (fC (.int 0)) fNil))))))))))) (fCallT d__law_draw (fCons (fVar 0) (fCons (fC (.int 10)) fNil)))) fNil)) (gNm 6) (fSeq (fAsg 7 (fIf (fTest (fOp gtOp (fCallT d__law_draw (fCons (fVar 0) (fCons (fC (.int 6)) fNil))) (fC (.int 0)))) (fSl (fVar 1) fNoPart (fPart (fVar 3))) (fOp addOp (fSl (fVar 1) fNoPart (fPart (fVar 3))) (fSl (fVar 1) (fPart (fOp addOp (fVar 3) (fC (.int 1)))) fNoPart))))
    (fDrop (fAppend 5 (fCallT d__law_part (fCons (fVar 0) (fCons (fVar 7) (fCons (fCallT d__law_draw (fCons (fVar 0) (fCons (fC (.int 4)) fNil))) fNil))))))))
    (fDrop (fAppend 2 (fTup (fCons (fVar 4) (fCons (fFz (fVar 5)) fNil))))))))
    (fRet (fVar 2))))
def d__law_pairs : Option Cn → List PyData → Ret := denB 8 g__law_pairs
/-! ### _law_made (level 3) -/
abbrev s__law_made : Stmt := topS 18
abbrev N__law_made : List Str := ["_law_pairs_here", "_law_plum", "_law_lots"]
theorem sc__law_made : FnScope N__law_made ["_law_pairs_here"] (defScope s__law_made) := ⟨rfl, rfl, rfl, by decide +kernel, rfl, by decide +kernel, by decide +kernel⟩
def g__law_made : Evn → Res Fl := (fRet (fCB tupleOp (fCons (fCB sortOp (fCons (fLc [1, 2] (fIterS (fVar 0)) (gSeqF 2 (gConsF (gNm 1) (gConsF (gNm 2) gNilF))) (fun ρ => .ok true ρ) (fTup (fCons (fVar 1) (fCons (fCallV d__law_least (fCons (fVar 2) fNil)) fNil)))) fNil)) fNil)))
def d__law_made : Option Cn → List PyData → Ret := denB 3 g__law_made
/-! ### _law_pick (level 3) -/
abbrev s__law_pick : Stmt := topS 21
abbrev N__law_pick : List Str := ["_law_orchard_here", "_law_liking_here", "_law_gone", "_law_some", "_law_name"]
theorem sc__law_pick : FnScope N__law_pick ["_law_orchard_here", "_law_liking_here"] (defScope s__law_pick) := ⟨rfl, rfl, rfl, by decide +kernel, rfl, by decide +kernel, by decide +kernel⟩
def g__law_pick : Evn → Res Fl := (fSeq (fPar [2, 3] (fCons (fLst fNil) (fCons (fCallV d__law_ripe (fCons (fVar 0) (fCons (fLst fNil) fNil))) fNil)))
    (fSeq (fWhile 1000 (fTest (fOp (eqOp true) (fVar 3) (fLst fNil))) (fSeq (fDrop (fAppend 2 (fOp ixOp (fLc [4] (fIterS (fVar 1)) (gNm 4) (fTest (fOp (inOp false) (fVar 4) (fVar 3))) (fVar 4)) (fC (.int 0)))))
    (fAsg 3 (fCallV d__law_ripe (fCons (fVar 0) (fCons (fVar 2) fNil))))))
    (fRet (fVar 2))))
def d__law_pick : Option Cn → List PyData → Ret := denB 5 g__law_pick
/-! ### _law_liking (level 3) -/
abbrev s__law_liking : Stmt := topS 22
abbrev N__law_liking : List Str := ["_law_tape_here", "_law_orchard_here", "_law_plum", "_law_lots"]
theorem sc__law_liking : FnScope N__law_liking ["_law_tape_here", "_law_orchard_here"] (defScope s__law_liking) := ⟨rfl, rfl, rfl, by decide +kernel, rfl, by decide +kernel, by decide +kernel⟩
def g__law_liking : Evn → Res Fl := (fRet (fCB tupleOp (fCons (fCallT d__law_part (fCons (fVar 0) (fCons (fLc [2, 3] (fIterS (fVar 1)) (gSeqF 2 (gConsF (gNm 2) (gConsF (gNm 3) gNilF))) (fun ρ => .ok true ρ) (fVar 2)) (fCons (fCB lenOp (fCons (fVar 1) fNil)) fNil)))) fNil)))
def d__law_liking : Option Cn → List PyData → Ret := denB 4 g__law_liking
/-! ### _law_orchard (level 4) -/
abbrev s__law_orchard : Stmt := topS 19
abbrev N__law_orchard : List Str := ["_law_tape_here", "_law_few", "_law_most"]
theorem sc__law_orchard : FnScope N__law_orchard ["_law_tape_here", "_law_few", "_law_most"] (defScope s__law_orchard) := ⟨rfl, rfl, rfl, by decide +kernel, rfl, by decide +kernel, by decide +kernel⟩
def g__law_orchard : Evn → Res Fl := (fRet (fCallV d__law_made (fCons (fCallT d__law_pairs (fCons (fVar 0) (fCons (fFz (fCallT d__law_names (fCons (fVar 0) (fCons (fOp addOp (fVar 1) (fCallT d__law_draw (fCons (fVar 0) (fCons (fOp addOp (fOp subOp (fVar 2) (fVar 1)) (fC (.int 1))) fNil)))) fNil)))) fNil))) fNil)))
def d__law_orchard : Option Cn → List PyData → Ret := denB 3 g__law_orchard
/-! ### _law_refused (level 4) -/
abbrev s__law_refused : Stmt := topS 24
abbrev N__law_refused : List Str := ["_law_entry", "_law_plum", "_law_caught", "error"]
theorem sc__law_refused : FnScope N__law_refused ["_law_entry", "_law_plum"] (defScope s__law_refused) := ⟨rfl, rfl, rfl, by decide +kernel, rfl, by decide +kernel, by decide +kernel⟩
def g__law_refused : Evn → Res Fl := (fSeq (fAsg 2 (fC .none))
    (fTry 2 3 (fDrop (fCallV d_known (fCons (fVar 0) (fCons (fVar 1) fNil)))) fBadS (hdL [("NoFruit", id)])))
def d__law_refused : Option Cn → List PyData → Ret := denB 4 g__law_refused
/-! ### _law_right (level 5) -/
abbrev s__law_right : Stmt := topS 25
abbrev N__law_right : List Str := ["_law_tape_here", "_law_turn", "_law_orchard_here", "_law_liking_here", "_law_row", "_law_entry", "_law_kept", "_law_plum", "_law_due", "_law_told", "_law_strange", "_law_one", "_law_odd"]
theorem sc__law_right : FnScope N__law_right ["_law_tape_here"] (defScope s__law_right) := ⟨rfl, rfl, rfl, by decide +kernel, rfl, by decide +kernel, by decide +kernel⟩
def g__law_right : Evn → Res Fl := (fSeq (fFor (fRange1 (fCons (fC (.int 4)) fNil)) (gNm 1) (fSeq (fAsg 2 (fCallT d__law_orchard (fCons (fVar 0) (fCons (fC (.int 1)) (fCons (fC (.int 9)) fNil)))))
    (fSeq (fAsg 3 (fCallT d__law_liking (fCons (fVar 0) (fCons (fVar 2) fNil))))
    (fSeq (fAsg 4 (fFz (fCallV d__law_pick (fCons (fVar 2) (fCons (fVar 3) fNil)))))
    (fSeq (fIfS (fTest (fOp (eqOp false) (fCallT d__law_draw (fCons (fVar 0) (fCons (fC (.int 4)) fNil))) (fC (.int 0)))) (fAsg 4 (fFz (fCallT d__law_part (fCons (fVar 0) (fCons (fVar 3) (fCons (fCallT d__law_draw (fCons (fVar 0) (fCons (fOp addOp (fCB lenOp (fCons (fVar 3) fNil)) (fC (.int 1))) fNil))) fNil)))))) fNext)
    (fSeq (fPar [5, 6] (fCons (fTup (fCons (fVar 3) (fCons (fVar 4) fNil))) (fCons (fCB reprOp (fCons (fTup (fCons (fVar 3) (fCons (fVar 4) fNil))) fNil)) fNil)))
    (fSeq (fFor (fIterS (fVar 3)) (gNm 7) (fSeq (fAsg 8 (fCallV d__law_known (fCons (fVar 5) (fCons (fVar 7) fNil))))
    (fSeq (fAsg 9 (fFz (fLst (fCons (fCallV d_known (fCons (fVar 5) (fCons (fVar 7) fNil))) (fCons (fCallV (denK [1, 0] d_known) (fCons (fVar 7) (fCons (fLst (fCons (fFz (fCB listOp (fCons (fVar 3) fNil))) (fCons (fCB tupleOp (fCons (fVar 4) fNil)) fNil))) fNil))) fNil)))))
    (fIfS (fNot (fTest (fCallV (d__law_same 12) (fCons (fVar 9) (fCons (fLst (fCons (fVar 8) (fCons (fVar 8) fNil))) fNil))))) (fRet (fC (.bool false))) fNext))))
    (fSeq (fAsg 10 (fOp ixOp (fLc [11] (fIterS (fTup (fCons (fC (.str "zzzzzzzz")) (fCons (fC (.str "yyyyyyyy")) fNil)))) (gNm 11) (fTest (fOp (inOp true) (fVar 11) (fVar 3))) (fVar 11)) (fC (.int 0))))
    (fIfS (fOr (fTest (fOp (eqOp true) (fLc [12] (fIterS (fTup (fCons (fVar 10) (fCons (fC (.str "")) (fCons (fC (.str "A")) fNil))))) (gNm 12) (fun ρ => .ok true ρ) (fCallV d__law_refused (fCons (fVar 5) (fCons (fVar 12) fNil)))) (fLst (fCons (fVar 10) (fCons (fC (.str "")) (fCons (fC (.str "A")) fNil)))))) (fTest (fOp (eqOp true) (fCB reprOp (fCons (fVar 5) fNil)) (fVar 6)))) (fRet (fC (.bool false))) fNext)))))))))
    (fRet (fC (.bool true))))
def d__law_right : Option Cn → List PyData → Ret := denB 13 g__law_right
/-! ### law (level 6) -/
abbrev s_law : Stmt := topS 26
abbrev N_law : List Str := ["_law_script", "_law_cells", "_law_k"]
theorem sc_law : FnScope N_law ["_law_script"] (defScope s_law) := ⟨rfl, rfl, rfl, by decide +kernel, rfl, by decide +kernel, by decide +kernel⟩
def g_law : Evn → Res Fl := (fSeq (fFor (fRange1 (fCons (fCB max2Op (fCons (fC (.int 1)) (fCons (fCB lenOp (fCons (fVar 1) fNil)) fNil))) fNil)) (gNm 2) (fIfS (fNot (fTest (fCallO d__law_right (fCons (fCallV d__law_tape (fCons (fVar 1) (fCons (fVar 2) fNil))) fNil)))) (fRet (fC (.bool false))) fNext))
    (fRet (fC (.bool true))))
abbrev s__law_folded : Stmt := topS 11
abbrev N__law_folded : List Str := ["_law_script", "_law_many", "_law_cells", "_law_k", "_law_cell"]
theorem sc__law_folded : FnScope N__law_folded ["_law_script", "_law_many"] (defScope s__law_folded) := ⟨rfl, rfl, rfl, by decide +kernel, rfl, by decide +kernel, by decide +kernel⟩
end TX

namespace TX
open PySem PySem.Spec PyProof.Rows L2 RZ DL
theorem ok__law_folded {P : Program} {w : World} {K : PySem.W.Frag} {mg : Str → Option Value} {base : Heap} {k : Nat} {f : Addr} {fd : FuncData} (F : Fun K "_law_folded" "_law_folded" s__law_folded f fd) (m_list : mg "list" = none) (m_enumerate : mg "enumerate" = none) :
    FnG P w K mg base (L2.CX P w) (k + 1) f fd ["_law_script", "_law_many"] (spFold K) :=
  okG F sc__law_folded (fun vs H Q E h => by obtain ⟨_, _, _, rfl, _⟩ := h; rfl) fun cdv A outer s H vs Q E hr h => ⟨tFold K,
    pss_cons (ps_set (i := 2) sc__law_folded.nd rfl (Or.inl rfl) (pe_callTy call_list_of rfl m_list boot_list (pa_cons (pe_slice sl_list (pv 0) po_none (po_some (pv 1))) pa_nil)))
      (pss_cons (ps_for (passes_of rfl) rfl (pi_enum rfl m_enumerate (pa_cons (pe_slice sl_list (pv 0) (po_some (pv 1)) (po_some pe_int)) pa_nil))
          (pg_tup rfl (pgs_cons (pg_name (i := 3) sc__law_folded.nd rfl (Or.inl rfl)) (pgs_cons (pg_name (i := 4) sc__law_folded.nd rfl (Or.inl rfl)) pgs_nil)))
        (pss_one (ps_asg (pe_op op_add (pe_ix ix_list (pv 2) (pe_op op_mod (pv 3) (pv 1)) (fun _ _ => rfl)) (pe_op op_mul (pv 4) (pe_op op_add (pv 3) pe_int))) (pg_sub (pv 2) (pe_op op_mod (pv 3) (pv 1)) set_list))))
      (pss_one (ps_ret (pv 2)))), fold_run rfl h⟩
theorem ok_NoFruit_init {P : Program} {w : World} {K : PySem.W.Frag} {mg : Str → Option Value} {base : Heap} {k : Nat} {f : Addr} {fd : FuncData} (F : Fun K "__init__" "NoFruit.__init__" s_NoFruit_init f fd) (m_LookupError : mg "LookupError" = none)
    (v_LookupError : PySem.W.findCls K (.type "LookupError") (.type "type") "__init__" = some (.val (.builtin "LookupError.__init__"))) : FnOk P w K mg base (L2.CX P w) (k + 1) f fd ["self", "what"] (spIni K bmLE "LookupError.__new__") :=
  Fun.okX F sc_NoFruit_init (fun vs H Q E h => by obtain ⟨_, _, _, rfl, _⟩ := h; rfl) fun cdv A outer s H vs Q E hr h => ⟨_, pss_cons (ps_expr (pe_baseI PySem.F.excBase_LookupError rfl m_LookupError PyProof.Rows.Boot.«LookupError» typ_LE v_LookupError (pa_cons (pv 0) pa_nil) (by decide +kernel) (by decide +kernel))) (pss_one (ps_what PySem.F.store_LookupError (pv 0) (pv 1))), ini_run h⟩
theorem ok_lot_of {P : Program} {w : World} {K : PySem.W.Frag} {mg : Str → Option Value} {base : Heap} {k : Nat} {f : Addr} {fd : FuncData} (F : Fun K "lot_of" "lot_of" s_lot_of f fd) (m_tuple : mg "tuple" = none) (m_sorted : mg "sorted" = none) :
    FnG P w K mg base (L2.CX P w) (k + 1) f fd ["names"] (spD K mg 1 d_lot_of) :=
  fn_den F sc_lot_of fun cdv A outer s H E hr => ⟨_, (pss_one (ps_ret (pe_callTy call_tupleN rfl m_tuple boot_tuple (pa_cons (pe_callB (cr_sortD hr.units) rfl m_sorted boot_sorted (pa_cons (pv 0) pa_nil)) pa_nil)))),
    (tsj_ret (tj_cb vr_tuple (taj_cons (tj_cb vr_sort (taj_cons (tj_var 0) taj_nil)) taj_nil)))⟩
theorem ok__law_tape {P : Program} {w : World} {K : PySem.W.Frag} {mg : Str → Option Value} {base : Heap} {k : Nat} {f : Addr} {fd : FuncData} (F : Fun K "_law_tape" "_law_tape" s__law_tape f fd) (m_len : mg "len" = none) (m_abs : mg "abs" = none) (m_int : mg "int" = none) :
    FnG P w K mg base (L2.CX P w) (k + 1) f fd ["_law_script", "_law_k"] (spD K mg 2 d__law_tape) :=
  fn_den F sc__law_tape fun cdv A outer s H E hr => ⟨_, (pss_cons (ps_set (i := 2) sc__law_tape.nd rfl (Or.inl rfl) (pe_ifExp (pt_cmpR op_ltU (pv 1) (pe_callB call_len rfl m_len PySem.boot_len (pa_cons (pv 0) pa_nil)) (nomark _)) (pe_ix ix_seq (pv 0) (pv 1) (fun _ _ => rfl)) pe_int))
      (pss_one (ps_ret (pe_lst (pa_cons (pe_op op_mulU (pe_callB call_abs rfl m_abs boot_abs (pa_cons (pv 2) pa_nil)) (pe_callTy call_int1 rfl m_int boot_int (pa_cons (pe_cmpR op_ge (pe_callB call_abs rfl m_abs boot_abs (pa_cons (pv 2) pa_nil)) (pe_op op_pow pe_int pe_int) (nomark _)) pa_nil))) (pa_cons (pe_op op_addU (pe_op op_addU (pe_op op_mod (pv 2) pe_int) (pe_op op_mulU pe_int (pv 1))) pe_int) (pa_cons pe_int pa_nil))))))),
    (tsj_seq (tsj_asg (tj_if (ttj_val (tj_op vr_ltU (tj_var 1) (tj_cb vr_len (taj_cons (tj_var 0) taj_nil)))) (tj_op vr_ix (tj_var 0) (tj_var 1)) tj_int))
      (tsj_ret (tj_lst (taj_cons (tj_op vr_mulU (tj_cb vr_abs (taj_cons (tj_var 2) taj_nil)) (tj_cb vr_int (taj_cons (tj_op vr_cmp (tj_cb vr_abs (taj_cons (tj_var 2) taj_nil)) (tj_op vr_pow tj_int tj_int)) taj_nil))) (taj_cons (tj_op vr_addU (tj_op vr_addU (tj_op vr_mod (tj_var 2) tj_int) (tj_op vr_mulU tj_int (tj_var 1))) tj_int) (taj_cons tj_int taj_nil))))))⟩
theorem ok__law_draw {P : Program} {w : World} {K : PySem.W.Frag} {mg : Str → Option Value} {base : Heap} {k : Nat} {f : Addr} {fd : FuncData} (F : Fun K "_law_draw" "_law_draw" s__law_draw f fd) :
    FnG P w K mg base (L2.CX P w) (k + 1) f fd ["_law_tape_here", "_law_many"] (spD K mg 2 d__law_draw) :=
  fn_den F sc__law_draw fun cdv A outer s H E hr => ⟨_, (pss_cons (ps_if (pt_cmpR op_gt (pe_ix ix_seq (pv 0) pe_int (fun _ _ => rfl)) pe_int (nomark _)) (pss_cons (ps_set (i := 2) sc__law_draw.nd rfl (Or.inl rfl) (pe_op op_mod (pe_ix ix_seq (pv 0) pe_int (fun _ _ => rfl)) (pv 1)))
      (pss_cons (ps_asg (pe_op op_fdivW (pe_ix ix_seq (pv 0) pe_int (fun _ _ => rfl)) (pv 1)) (pg_sub (pv 0) pe_int set_list))
      (pss_one (ps_ret (pv 2))))) pss_nil)
      (pss_cons (ps_asg (pe_op op_addU (pe_ix ix_seq (pv 0) pe_int (fun _ _ => rfl)) pe_int) (pg_sub (pv 0) pe_int set_list))
      (pss_cons (ps_set (i := 3) sc__law_draw.nd rfl (Or.inl rfl) (pe_op op_mod (pe_op op_pow (pe_op op_addU (pe_ix ix_seq (pv 0) pe_int (fun _ _ => rfl)) (pe_op op_mulU pe_int (pe_ix ix_seq (pv 0) pe_int (fun _ _ => rfl)))) pe_int) pe_int))
      (pss_cons (ps_set (i := 4) sc__law_draw.nd rfl (Or.inl rfl) (pe_op op_mod (pe_op op_mulU (pe_op op_addU (pv 3) (pe_ix ix_seq (pv 0) pe_int (fun _ _ => rfl))) (pe_op op_addU (pe_op op_addU (pe_op op_mod (pv 3) pe_int) pe_int) (pe_ix ix_seq (pv 0) pe_int (fun _ _ => rfl)))) pe_int))
      (pss_cons (ps_set (i := 5) sc__law_draw.nd rfl (Or.inl rfl) (pe_op op_mod (pe_op op_addU (pe_op op_addU (pe_op op_fdivW (pe_ix ix_seq (pv 0) pe_int (fun _ _ => rfl)) pe_int) (pe_op op_mulU (pv 4) pe_int)) (pe_ix ix_seq (pv 0) pe_int (fun _ _ => rfl))) pe_int))
      (pss_one (ps_ret (pe_op op_mod (pe_op op_fdivW (pe_op op_mod (pe_op op_addU (pe_op op_addU (pe_op op_mulU (pv 4) pe_int) (pe_op op_mulU (pv 5) pe_int)) (pv 3)) pe_int) pe_int) (pv 1))))))))),
    (tsj_seq (tsj_if (ttj_val (tj_op vr_cmp (tj_op vr_ix (tj_var 0) tj_int) tj_int)) (tsj_seq (tsj_asg (tj_op vr_mod (tj_op vr_ix (tj_var 0) tj_int) (tj_var 1)))
      (tsj_seq (tsj_setAt (tj_op vr_div (tj_op vr_ix (tj_var 0) tj_int) (tj_var 1)) tj_int)
      (tsj_ret (tj_var 2)))) tsj_next)
      (tsj_seq (tsj_setAt (tj_op vr_addU (tj_op vr_ix (tj_var 0) tj_int) tj_int) tj_int)
      (tsj_seq (tsj_asg (tj_op vr_mod (tj_op vr_pow (tj_op vr_addU (tj_op vr_ix (tj_var 0) tj_int) (tj_op vr_mulU tj_int (tj_op vr_ix (tj_var 0) tj_int))) tj_int) tj_int))
      (tsj_seq (tsj_asg (tj_op vr_mod (tj_op vr_mulU (tj_op vr_addU (tj_var 3) (tj_op vr_ix (tj_var 0) tj_int)) (tj_op vr_addU (tj_op vr_addU (tj_op vr_mod (tj_var 3) tj_int) tj_int) (tj_op vr_ix (tj_var 0) tj_int))) tj_int))
      (tsj_seq (tsj_asg (tj_op vr_mod (tj_op vr_addU (tj_op vr_addU (tj_op vr_div (tj_op vr_ix (tj_var 0) tj_int) tj_int) (tj_op vr_mulU (tj_var 4) tj_int)) (tj_op vr_ix (tj_var 0) tj_int)) tj_int))
      (tsj_ret (tj_op vr_mod (tj_op vr_div (tj_op vr_mod (tj_op vr_addU (tj_op vr_addU (tj_op vr_mulU (tj_var 4) tj_int) (tj_op vr_mulU (tj_var 5) tj_int)) (tj_var 3)) tj_int) tj_int) (tj_var 1))))))))⟩
theorem ok__law_same {P : Program} {w : World} {K : PySem.W.Frag} {mg : Str → Option Value} {base : Heap} {k : Nat} {f : Addr} {fd : FuncData} (F : Fun K "_law_same" "_law_same" s__law_same f fd) (m_isinstance : mg "isinstance" = none) (m_list : mg "list" = none) (m_tuple : mg "tuple" = none) (m_len : mg "len" = none) (m_all : mg "all" = none) (m_zip : mg "zip" = none) (m_str : mg "str" = none) (m_bool : mg "bool" = none) (m_int : mg "int" = none) {n : Nat} (C__law_same : Cal P w K mg base "_law_same" ["_law_found", "_law_due"] k (spD K mg 2 (d__law_same n))) :
    FnG P w K mg base (L2.CX P w) (k + 1) f fd ["_law_found", "_law_due"] (spD K mg 2 (d__law_same (n + 1))) :=
  fn_den F sc__law_same fun cdv A outer s H E hr => ⟨_, (pss_cons (ps_if (pt_val (pe_callB call_isiT rfl m_isinstance boot_isinstance (pa_cons (pv 1) (pa_cons (pe_tup (pa_cons (pe_bltn (v := V.ty "list") rfl m_list boot_list rfl) (pa_cons (pe_bltn (v := V.ty "tuple") rfl m_tuple boot_tuple rfl) pa_nil))) pa_nil)))) (pss_cons (ps_if (PW.pt (pw_or (pt_cmpR (op_neD hr.units) (pe_callB call_isi rfl m_isinstance boot_isinstance (pa_cons (pv 0) (pa_cons (pe_bltn (v := V.ty "list") rfl m_list boot_list rfl) pa_nil))) (pe_callB call_isi rfl m_isinstance boot_isinstance (pa_cons (pv 1) (pa_cons (pe_bltn (v := V.ty "list") rfl m_list boot_list rfl) pa_nil))) (nomark _)) (pw_or1 (pt_cmpR (op_neD hr.units) (pe_callB call_isi rfl m_isinstance boot_isinstance (pa_cons (pv 0) (pa_cons (pe_bltn (v := V.ty "tuple") rfl m_tuple boot_tuple rfl) pa_nil))) (pe_callB call_isi rfl m_isinstance boot_isinstance (pa_cons (pv 1) (pa_cons (pe_bltn (v := V.ty "tuple") rfl m_tuple boot_tuple rfl) pa_nil))) (nomark _))))) (pss_one (ps_ret pe_bl)) pss_nil)
      (pss_one (ps_ret (pe_and (pe_cmpR (op_eqD hr.units) (pe_callB call_len rfl m_len PySem.boot_len (pa_cons (pv 0) pa_nil)) (pe_callB call_len rfl m_len PySem.boot_len (pa_cons (pv 1) pa_nil)) (nomark _)) (pe_one (pe_callB (cr_all rfl) rfl m_all boot_all (pa_cons (pe_lc (own := [("_law_one", 2), ("_law_two", 3)]) rfl sc__law_same.nd (RZ.pi_zipA rfl m_zip (pa_cons (pv 0) (pa_cons (pv 1) pa_nil))) (blkOk_by (N := N__law_same) (sc := defScope s__law_same) (own := [("_law_one", 2), ("_law_two", 3)]) (by decide +kernel)) (fun _ _ _ _ _ => (pg_seq rfl (pgs_cons (pg_name (i := 2) sc__law_same.nd rfl (by first | exact Or.inl rfl | exact Or.inr rfl)) (pgs_cons (pg_name (i := 3) sc__law_same.nd rfl (by first | exact Or.inl rfl | exact Or.inr rfl)) pgs_nil)))) (fun _ _ _ _ _ => pts_nil) (fun _ _ _ _ _ => (pe_calB C__law_same hr (by rfl) (pa_cons (pv 2) (pa_cons (pv 3) pa_nil))))) pa_nil))))))) pss_nil)
      (pss_cons (ps_if (PW.pt (pw_or (pt_cmpR op_isN (pv 1) pe_non (nomark _)) (pw_or1 (pt_val (pe_callB call_isiT rfl m_isinstance boot_isinstance (pa_cons (pv 1) (pa_cons (pe_tup (pa_cons (pe_bltn (v := V.ty "str") rfl m_str boot_str rfl) (pa_cons (pe_bltn (v := V.ty "bool") rfl m_bool boot_bool rfl) pa_nil))) pa_nil))))))) (pss_one (ps_ret (pe_and (pe_cmpR (op_eqD hr.units) (pe_callB call_isi rfl m_isinstance boot_isinstance (pa_cons (pv 0) (pa_cons (pe_bltn (v := V.ty "bool") rfl m_bool boot_bool rfl) pa_nil))) (pe_callB call_isi rfl m_isinstance boot_isinstance (pa_cons (pv 1) (pa_cons (pe_bltn (v := V.ty "bool") rfl m_bool boot_bool rfl) pa_nil))) (nomark _)) (pe_one (pe_cmpR (op_eqD hr.units) (pv 0) (pv 1) (nomark _)))))) pss_nil)
      (pss_one (ps_ret (pe_and (pe_callB call_isi rfl m_isinstance boot_isinstance (pa_cons (pv 0) (pa_cons (pe_bltn (v := V.ty "int") rfl m_int boot_int rfl) pa_nil))) (pe_and (pe_not (pe_callB call_isi rfl m_isinstance boot_isinstance (pa_cons (pv 0) (pa_cons (pe_bltn (v := V.ty "bool") rfl m_bool boot_bool rfl) pa_nil)))) (pe_one (pe_cmpR (op_eqD hr.units) (pv 0) (pv 1) (nomark _))))))))),
    (tsj_seq (tsj_if (ttj_B (tj_isi2 rfl rfl (tj_var 1))) (tsj_seq (tsj_if (ttj_or (ttj_val (tj_op vr_neD (tj_isi rfl (tj_var 0)) (tj_isi rfl (tj_var 1)))) (ttj_val (tj_op vr_neD (tj_isi rfl (tj_var 0)) (tj_isi rfl (tj_var 1))))) (tsj_ret tj_bl) tsj_next)
      (tsj_ret (tj_andV (tj_op vr_eqD (tj_cb vr_len (taj_cons (tj_var 0) taj_nil)) (tj_cb vr_len (taj_cons (tj_var 1) taj_nil))) (tj_cb vr_all (taj_cons (tj_lc (ks := [2, 3]) (tij_zip (taj_cons (tj_fz (tj_var 0)) (taj_cons (tj_fz (tj_var 1)) taj_nil))) (tgj_seq (tgsj_cons (tgj_name 2) (tgsj_cons (tgj_name 3) tgsj_nil))) ttj_yes (tj_callV (taj_cons (tj_var 2) (taj_cons (tj_var 3) taj_nil)) (cons_len (cons_len nil_len))) (by decide)) taj_nil))))) tsj_next)
      (tsj_seq (tsj_if (ttj_or (ttj_val (tj_op vr_isN (tj_var 1) tj_non)) (ttj_B (tj_isi2 rfl rfl (tj_var 1)))) (tsj_ret (tj_andV (tj_op vr_eqD (tj_isi rfl (tj_var 0)) (tj_isi rfl (tj_var 1))) (tj_op vr_eqD (tj_var 0) (tj_var 1)))) tsj_next)
      (tsj_ret (tj_andV (tj_isi rfl (tj_var 0)) (tj_andV (tj_notV (tj_isi rfl (tj_var 0))) (tj_op vr_eqD (tj_var 0) (tj_var 1)))))))⟩
theorem ok__law_in {P : Program} {w : World} {K : PySem.W.Frag} {mg : Str → Option Value} {base : Heap} {k : Nat} {f : Addr} {fd : FuncData} (F : Fun K "_law_in" "_law_in" s__law_in f fd) (m_all : mg "all" = none) :
    FnG P w K mg base (L2.CX P w) (k + 1) f fd ["_law_one", "_law_other"] (spD K mg 2 d__law_in) :=
  fn_den F sc__law_in fun cdv A outer s H E hr => ⟨_, (pss_one (ps_ret (pe_callB (cr_all rfl) rfl m_all boot_all (pa_cons (pe_lc (own := [("_law_name", 2)]) rfl sc__law_in.nd (pi_seq (pv 0)) (blkOk_by (N := N__law_in) (sc := defScope s__law_in) (own := [("_law_name", 2)]) (by decide +kernel)) (fun _ _ _ _ _ => (pg_name (i := 2) sc__law_in.nd rfl (by first | exact Or.inl rfl | exact Or.inr rfl))) (fun _ _ _ _ _ => pts_nil) (fun _ _ _ _ _ => (pe_cmpR op_in_seq (pv 2) (pv 1) (by rfl)))) pa_nil)))),
    (tsj_ret (tj_cb vr_all (taj_cons (tj_lc (ks := [2]) (tij_seq (tj_var 0)) (tgj_name 2) ttj_yes (tj_op vr_in (tj_var 2) (tj_var 1)) (by decide)) taj_nil)))⟩
theorem ok__law_known {P : Program} {w : World} {K : PySem.W.Frag} {mg : Str → Option Value} {base : Heap} {k : Nat} {f : Addr} {fd : FuncData} (F : Fun K "_law_known" "_law_known" s__law_known f fd) (m_tuple : mg "tuple" = none) (m_sorted : mg "sorted" = none) :
    FnG P w K mg base (L2.CX P w) (k + 1) f fd ["_law_entry", "_law_plum"] (spD K mg 2 d__law_known) :=
  fn_den F sc__law_known fun cdv A outer s H E hr => ⟨_, (pss_cons (ps_asg (pv 0) (pg_seq rfl (pgs_cons (pg_name (i := 2) sc__law_known.nd rfl (Or.inl rfl)) (pgs_cons (pg_name (i := 3) sc__law_known.nd rfl (Or.inl rfl)) pgs_nil))))
      (pss_cons (ps_par3 rfl sc__law_known.nd (i := 4) (j := 5) (l := 6) rfl rfl rfl (by decide) (by decide) (by decide) rfl rfl rfl (pa_cons pe_non (pa_cons pe_non (pa_cons (pe_lst pa_nil) pa_nil))) rfl)
      (pss_cons (ps_for (passes_of rfl) rfl (pi_seq (pv 3)) (pg_name (i := 7) sc__law_known.nd rfl (Or.inl rfl)) (pss_cons (ps_if (pt_cmpR (op_eqD hr.units) (pv 7) (pv 1) (nomark _)) (pss_one (ps_set (i := 4) sc__law_known.nd rfl (Or.inl rfl) (pe_callTy call_tupleN rfl m_tuple boot_tuple (pa_cons (pe_callB (cr_sortD hr.units) rfl m_sorted boot_sorted (pa_cons (pv 6) pa_nil)) pa_nil)))) (pss_one (ps_if (PW.pt (pw_and (pt_cmpR op_isN (pv 4) pe_non (nomark _)) (pw_and1 (pt_cmpR op_gt (pe_ixm (pv 2) (pa_cons (pv 7) pa_nil)) (pe_ixm (pv 2) (pa_cons (pv 1) pa_nil)) (nomark _))))) (pss_one (ps_set (i := 5) sc__law_known.nd rfl (Or.inl rfl) (pe_callTy call_tupleN rfl m_tuple boot_tuple (pa_cons (pe_callB (cr_sortD hr.units) rfl m_sorted boot_sorted (pa_cons (pv 6) pa_nil)) pa_nil)))) pss_nil)))
      (pss_one (ps_expr (pe_bm PySem.F.plainAttrs_list PySem.F.slot_list_append PySem.F.type_list_append mt_append (pv 6) (pa_cons (pv 7) pa_nil))))))
      (pss_one (ps_ret (pe_ifExp (pt_cmpR op_notN (pv 4) pe_non (nomark _)) (pe_tupN (pa_cons (pv 4) (pa_cons (pv 5) pa_nil))) (pe_tupN (pa_cons pe_non (pa_cons (pe_callTy call_tupleN rfl m_tuple boot_tuple (pa_cons (pe_callB (cr_sortD hr.units) rfl m_sorted boot_sorted (pa_cons (pv 3) pa_nil)) pa_nil)) pa_nil))))))))),
    (tsj_seq (tsj_unp (tj_var 0) (tgj_seq (tgsj_cons (tgj_name 2) (tgsj_cons (tgj_name 3) tgsj_nil))))
      (tsj_seq (tsj_par3 (taj_cons tj_non (taj_cons tj_non (taj_cons (tj_lst taj_nil) taj_nil))))
      (tsj_seq (tsj_for (tij_seq (tj_var 3)) (tgj_name 7) (tsj_seq (tsj_if (ttj_val (tj_op vr_eqD (tj_var 7) (tj_var 1))) (tsj_asg (tj_cb vr_tuple (taj_cons (tj_cb vr_sort (taj_cons (tj_var 6) taj_nil)) taj_nil))) (tsj_if (ttj_and (ttj_val (tj_op vr_isN (tj_var 4) tj_non)) (ttj_val (tj_op vr_cmp (tj_ixm (tj_var 2) (tj_var 7)) (tj_ixm (tj_var 2) (tj_var 1))))) (tsj_asg (tj_cb vr_tuple (taj_cons (tj_cb vr_sort (taj_cons (tj_var 6) taj_nil)) taj_nil))) tsj_next))
      (tsj_drop (tj_append (tj_var 7)))))
      (tsj_ret (tj_if (ttj_val (tj_op vr_notN (tj_var 4) tj_non)) (tj_tup (taj_cons (tj_var 4) (taj_cons (tj_var 5) taj_nil))) (tj_tup (taj_cons tj_non (taj_cons (tj_cb vr_tuple (taj_cons (tj_cb vr_sort (taj_cons (tj_var 3) taj_nil)) taj_nil)) taj_nil))))))))⟩
theorem ok__law_names {P : Program} {w : World} {K : PySem.W.Frag} {mg : Str → Option Value} {base : Heap} {k : Nat} {f : Addr} {fd : FuncData} (F : Fun K "_law_names" "_law_names" s__law_names f fd) {lev__law_draw : Nat} (C__law_draw : Cal P w K mg base "_law_draw" ["_law_tape_here", "_law_many"] lev__law_draw (spD K mg 2 d__law_draw)) (l__law_draw : lev__law_draw ≤ k) (m_range : mg "range" = none) (m_len : mg "len" = none) (m_int : mg "int" = none) :
    FnG P w K mg base (L2.CX P w) (k + 1) f fd ["_law_tape_here", "_law_many"] (spD K mg 2 d__law_names) :=
  fn_den F sc__law_names fun cdv A outer s H E hr => ⟨_, (pss_cons (ps_asg (pe_tup (pa_cons pe_str (pa_cons (pe_cal (E := fun _ => E) C__law_draw (hr.mono l__law_draw) rfl (fun σ => passAt (takes_of rfl rfl rfl rfl) σ) (pa_cons (pv 0) (pa_cons pe_int pa_nil))) pa_nil))) (pg_tup rfl (pgs_cons (pg_name (i := 2) sc__law_names.nd rfl (Or.inr rfl)) (pgs_cons (pg_name (i := 3) sc__law_names.nd rfl (Or.inl rfl)) pgs_nil))))
      (pss_cons (ps_set (i := 4) sc__law_names.nd rfl (Or.inl rfl) (pe_m1 PySem.F.slot_str_join PySem.F.type_str_join mt_join pe_str (pe_lc (own := [("_law_k", 5)]) rfl sc__law_names.nd (pi_range1 rfl m_range (pa_cons (pe_cal (E := fun _ => E) C__law_draw (hr.mono l__law_draw) rfl (fun σ => passAt (takes_of rfl rfl rfl rfl) σ) (pa_cons (pv 0) (pa_cons pe_int pa_nil))) pa_nil)) (blkOk_by (N := N__law_names) (sc := defScope s__law_names) (own := [("_law_k", 5)]) (by decide +kernel)) (fun _ _ _ _ _ => (pg_name (i := 5) sc__law_names.nd rfl (by first | exact Or.inl rfl | exact Or.inr rfl))) (fun _ _ _ _ _ => pts_nil) (fun _ _ _ _ _ => (pe_ix ix_seq (pv 2) (pe_calB C__law_draw (hr.mono l__law_draw) (by rfl) (pa_cons (pv 0) (pa_cons pe_int pa_nil))) (fun _ _ => rfl))))))
      (pss_cons (ps_par3 rfl sc__law_names.nd (i := 6) (j := 7) (l := 8) rfl rfl rfl (by decide) (by decide) (by decide) rfl rfl rfl (pa_cons (pe_cal (E := fun _ => E) C__law_draw (hr.mono l__law_draw) rfl (fun σ => passAt (takes_of rfl rfl rfl rfl) σ) (pa_cons (pv 0) (pa_cons (pe_op op_addU (pe_callB call_len rfl m_len PySem.boot_len (pa_cons (pv 4) pa_nil)) pe_int) pa_nil))) (pa_cons (pe_ix ix_seq (pe_lst (pa_cons pe_int (pa_cons pe_int (pa_cons pe_int pa_nil)))) (pe_cal (E := fun _ => E) C__law_draw (hr.mono l__law_draw) rfl (fun σ => passAt (takes_of rfl rfl rfl rfl) σ) (pa_cons (pv 0) (pa_cons pe_int pa_nil))) (fun _ _ => rfl)) (pa_cons (pe_lst pa_nil) pa_nil))) rfl)
      (pss_cons (ps_par rfl sc__law_names.nd (i := 9) (j := 10) rfl rfl (by decide) rfl rfl (pa_cons (pe_slice sl_3 (pv 4) po_none (po_some (pv 6))) (pa_cons (pe_slice sl_3 (pv 4) (po_some (pv 6)) po_none) pa_nil)) rfl)
      (pss_cons (ps_for (passes_of rfl) rfl (pi_range1 rfl m_range (pa_cons (pv 1) pa_nil)) (pg_name (i := 5) sc__law_names.nd rfl (Or.inl rfl)) (pss_cons (ps_set (i := 11) sc__law_names.nd rfl (Or.inl rfl) (pe_op op_mulU (pe_op op_mod (pe_op op_addU (pe_op op_addU (pv 3) (pv 6)) (pe_callB call_len rfl m_len PySem.boot_len (pa_cons (pv 4) pa_nil))) pe_int) (pe_callTy call_int1 rfl m_int boot_int (pa_cons (pe_cmpR (op_neD hr.units) (pv 10) pe_str (nomark _)) pa_nil))))
      (pss_cons (ps_set (i := 12) sc__law_names.nd rfl (Or.inl rfl) (pe_ix ix_seq (pv 2) (pe_op op_mod (pe_op op_addU (pv 3) (pe_op op_mulU (pv 7) (pe_ix ix_seq (pe_lst (pa_cons (pv 5) (pa_cons (pe_op op_fdivW (pv 5) pe_int) (pa_cons (pv 5) pa_nil)))) (pv 11) (fun _ _ => rfl)))) pe_int) (fun _ _ => rfl)))
      (pss_one (ps_expr (pe_bm PySem.F.plainAttrs_list PySem.F.slot_list_append PySem.F.type_list_append mt_append (pv 8) (pa_cons (pe_op op_addU (pe_op op_addU (pv 9) (pv 12)) (pe_ix ix_seq (pe_lst (pa_cons (pv 10) (pa_cons (pe_op op_mulU (pv 10) (pe_op op_mod (pv 5) pe_int)) (pa_cons (pe_slice sl_3 (pv 10) po_none (po_some (pe_op op_mod (pv 5) (pe_op op_addU (pe_callB call_len rfl m_len PySem.boot_len (pa_cons (pv 10) pa_nil)) pe_int)))) pa_nil)))) (pv 11) (fun _ _ => rfl))) pa_nil)))))))
      (pss_one (ps_ret (pv 8)))))))),
    (tsj_seq (tsj_parT (is := [2, 3]) (taj_cons tj_str (taj_cons (tj_callT (taj_cons (tj_var 0) (taj_cons tj_int taj_nil)) (cons_len (cons_len nil_len))) taj_nil)) rfl (by decide))
      (tsj_seq (tsj_asg (tj_m1 vr_join tj_str (tj_lc (ks := [5]) (tij_range1 (taj_cons (tj_callT (taj_cons (tj_var 0) (taj_cons tj_int taj_nil)) (cons_len (cons_len nil_len))) taj_nil)) (tgj_name 5) ttj_yes (tj_op vr_ix (tj_var 2) (tj_callT (taj_cons (tj_var 0) (taj_cons tj_int taj_nil)) (cons_len (cons_len nil_len)))) (by decide))))
      (tsj_seq (tsj_par3 (taj_cons (tj_callT (taj_cons (tj_var 0) (taj_cons (tj_op vr_addU (tj_cb vr_len (taj_cons (tj_var 4) taj_nil)) tj_int) taj_nil)) (cons_len (cons_len nil_len))) (taj_cons (tj_op vr_ix (tj_lst (taj_cons tj_int (taj_cons tj_int (taj_cons tj_int taj_nil)))) (tj_callT (taj_cons (tj_var 0) (taj_cons tj_int taj_nil)) (cons_len (cons_len nil_len)))) (taj_cons (tj_lst taj_nil) taj_nil))))
      (tsj_seq (tsj_par (taj_cons (tj_sl (tj_var 4) toj_none (toj_some (tj_var 6))) (taj_cons (tj_sl (tj_var 4) (toj_some (tj_var 6)) toj_none) taj_nil)))
      (tsj_seq (tsj_for (tij_range1 (taj_cons (tj_var 1) taj_nil)) (tgj_name 5) (tsj_seq (tsj_asg (tj_op vr_mulU (tj_op vr_mod (tj_op vr_addU (tj_op vr_addU (tj_var 3) (tj_var 6)) (tj_cb vr_len (taj_cons (tj_var 4) taj_nil))) tj_int) (tj_cb vr_int (taj_cons (tj_op vr_neD (tj_var 10) tj_str) taj_nil))))
      (tsj_seq (tsj_asg (tj_op vr_ix (tj_var 2) (tj_op vr_mod (tj_op vr_addU (tj_var 3) (tj_op vr_mulU (tj_var 7) (tj_op vr_ix (tj_lst (taj_cons (tj_var 5) (taj_cons (tj_op vr_div (tj_var 5) tj_int) (taj_cons (tj_var 5) taj_nil)))) (tj_var 11)))) tj_int)))
      (tsj_drop (tj_append (tj_op vr_addU (tj_op vr_addU (tj_var 9) (tj_var 12)) (tj_op vr_ix (tj_lst (taj_cons (tj_var 10) (taj_cons (tj_op vr_mulU (tj_var 10) (tj_op vr_mod (tj_var 5) tj_int)) (taj_cons (tj_sl (tj_var 10) toj_none (toj_some (tj_op vr_mod (tj_var 5) (tj_op vr_addU (tj_cb vr_len (taj_cons (tj_var 10) taj_nil)) tj_int)))) taj_nil)))) (tj_var 11))))))))
      (tsj_ret (tj_var 8)))))))⟩
theorem ok__law_part {P : Program} {w : World} {K : PySem.W.Frag} {mg : Str → Option Value} {base : Heap} {k : Nat} {f : Addr} {fd : FuncData} (F : Fun K "_law_part" "_law_part" s__law_part f fd) {lev__law_draw : Nat} (C__law_draw : Cal P w K mg base "_law_draw" ["_law_tape_here", "_law_many"] lev__law_draw (spD K mg 2 d__law_draw)) (l__law_draw : lev__law_draw ≤ k) (m_list : mg "list" = none) (m_range : mg "range" = none) (m_min : mg "min" = none) (m_len : mg "len" = none) :
    FnG P w K mg base (L2.CX P w) (k + 1) f fd ["_law_tape_here", "_law_some", "_law_many"] (spD K mg 3 d__law_part) :=
  fn_den F sc__law_part fun cdv A outer s H E hr => ⟨_, (pss_cons (ps_set (i := 3) sc__law_part.nd rfl (Or.inr rfl) (pe_callTy call_list_of rfl m_list boot_list (pa_cons (pv 1) pa_nil)))
      (pss_one (ps_ret (pe_lc (own := [("_law_k", 4)]) rfl sc__law_part.nd (pi_range1 rfl m_range (pa_cons (pe_callB (call_min2 rfl) rfl m_min boot_min (pa_cons (pv 2) (pa_cons (pe_callB call_len rfl m_len PySem.boot_len (pa_cons (pv 3) pa_nil)) pa_nil))) pa_nil)) (blkOk_by (N := N__law_part) (sc := defScope s__law_part) (own := [("_law_k", 4)]) (by decide +kernel)) (fun _ _ _ _ _ => (pg_name (i := 4) sc__law_part.nd rfl (by first | exact Or.inl rfl | exact Or.inr rfl))) (fun _ _ _ _ _ => pts_nil) (fun _ _ _ _ _ => (by exact pe_bm PySem.F.plainAttrs_list PySem.F.slot_list_pop PySem.F.type_list_pop mt_popAt (pv 3) (pa_cons (pe_calB C__law_draw (hr.mono l__law_draw) (by rfl) (pa_cons (pv 0) (pa_cons (pe_callB call_len rfl m_len PySem.boot_len (pa_cons (pv 3) pa_nil)) pa_nil))) pa_nil))))))),
    (tsj_seq (tsj_asg (tj_cb vr_list (taj_cons (tj_var 1) taj_nil)))
      (tsj_ret (tj_lc (ks := [4]) (tij_range1 (taj_cons (tj_cb vr_min2 (taj_cons (tj_var 2) (taj_cons (tj_cb vr_len (taj_cons (tj_var 3) taj_nil)) taj_nil))) taj_nil)) (tgj_name 4) ttj_yes (tj_popAt (tj_callT (taj_cons (tj_var 0) (taj_cons (tj_cb vr_len (taj_cons (tj_var 3) taj_nil)) taj_nil)) (cons_len (cons_len nil_len)))) (by decide))))⟩
theorem ok__law_least {P : Program} {w : World} {K : PySem.W.Frag} {mg : Str → Option Value} {base : Heap} {k : Nat} {f : Addr} {fd : FuncData} (F : Fun K "_law_least" "_law_least" s__law_least f fd) {lev__law_in : Nat} (C__law_in : Cal P w K mg base "_law_in" ["_law_one", "_law_other"] lev__law_in (spD K mg 2 d__law_in)) (l__law_in : lev__law_in ≤ k) (m_tuple : mg "tuple" = none) (m_sorted : mg "sorted" = none) (m_any : mg "any" = none) (m_set : mg "set" = none) :
    FnG P w K mg base (L2.CX P w) (k + 1) f fd ["_law_lots"] (spD K mg 1 d__law_least) :=
  fn_den F sc__law_least fun cdv A outer s H E hr => ⟨_, (pss_cons (ps_set (i := 1) sc__law_least.nd rfl (Or.inr rfl) (pe_lc (own := [("_law_lot", 2)]) rfl sc__law_least.nd (pi_seq (pv 0)) (blkOk_by (N := N__law_least) (sc := defScope s__law_least) (own := [("_law_lot", 2)]) (by decide +kernel)) (fun _ _ _ _ _ => (pg_name (i := 2) sc__law_least.nd rfl (by first | exact Or.inl rfl | exact Or.inr rfl))) (fun _ _ _ _ _ => pts_nil) (fun _ _ _ _ _ => (pe_callTy call_tupleN rfl m_tuple boot_tuple (pa_cons (pe_callB (cr_sortD hr.units) rfl m_sorted boot_sorted (pa_cons (pv 2) pa_nil)) pa_nil)))))
      (pss_cons (ps_setLc (i := 3) (own := [("_law_lot", 2)]) rfl sc__law_least.nd rfl rfl (sw_true rfl rfl rfl rfl) (pi_seq (pv 1)) (blkOk_by (N := N__law_least) (sc := defScope s__law_least) (own := [("_law_lot", 2)]) (by decide +kernel)) (fun _ _ _ _ _ => (pg_name (i := 2) sc__law_least.nd rfl (by first | exact Or.inl rfl | exact Or.inr rfl))) (fun _ _ _ _ _ => (pts_one (pt_not (pt_val (pe_callB (cr_any rfl) rfl m_any boot_any (pa_cons (pe_lc (own := [("_law_other", 4)]) rfl sc__law_least.nd (pi_seq (pv 1)) (blkOk_by (own := [("_law_other", 4)]) (by kernel_rfl)) (fun _ _ _ _ _ => (pg_name (i := 4) sc__law_least.nd rfl (by first | exact Or.inl rfl | exact Or.inr rfl))) (fun _ _ _ _ _ => pts_nil) (fun _ _ _ _ _ => (pe_and (pe_cmpR (op_neD hr.units) (pv 4) (pv 2) (nomark _)) (pe_one (pe_calB C__law_in (hr.mono l__law_in) (by rfl) (pa_cons (pv 4) (pa_cons (pv 2) pa_nil))))))) pa_nil)))))) (fun _ _ _ _ _ => (pv 2)))
      (pss_one (ps_ret (pe_callTy call_tupleN rfl m_tuple boot_tuple (pa_cons (pe_sset rfl hr.units rfl m_sorted rfl m_set (pa_cons (pv 3) pa_nil)) pa_nil)))))),
    (tsj_seq (tsj_asg (tj_lc (ks := [2]) (tij_seq (tj_var 0)) (tgj_name 2) ttj_yes (tj_cb vr_tuple (taj_cons (tj_cb vr_sort (taj_cons (tj_var 2) taj_nil)) taj_nil)) (by decide)))
      (tsj_seq (tsj_asg (tj_lc (ks := [2]) (tij_seq (tj_var 1)) (tgj_name 2) (ttj_not (ttj_B (tj_cb vr_any (taj_cons (tj_lc (ks := [4]) (tij_seq (tj_var 1)) (tgj_name 4) ttj_yes (tj_andV (tj_op vr_neD (tj_var 4) (tj_var 2)) (tj_callV (taj_cons (tj_var 4) (taj_cons (tj_var 2) taj_nil)) (cons_len (cons_len nil_len)))) (by decide)) taj_nil)))) (tj_var 2) (by decide)))
      (tsj_ret (tj_cb vr_tuple (taj_cons (tj_cb vr_ss (taj_cons (tj_var 3) taj_nil)) taj_nil)))))⟩
theorem ok__law_ripe {P : Program} {w : World} {K : PySem.W.Frag} {mg : Str → Option Value} {base : Heap} {k : Nat} {f : Addr} {fd : FuncData} (F : Fun K "_law_ripe" "_law_ripe" s__law_ripe f fd) {lev__law_in : Nat} (C__law_in : Cal P w K mg base "_law_in" ["_law_one", "_law_other"] lev__law_in (spD K mg 2 d__law_in)) (l__law_in : lev__law_in ≤ k) (m_any : mg "any" = none) :
    FnG P w K mg base (L2.CX P w) (k + 1) f fd ["_law_orchard_here", "_law_gone"] (spD K mg 2 d__law_ripe) :=
  fn_den F sc__law_ripe fun cdv A outer s H E hr => ⟨_, (pss_cons (ps_set (i := 2) sc__law_ripe.nd rfl (Or.inl rfl) (pe_lst pa_nil))
      (pss_cons (ps_for (passes_of rfl) rfl (pi_seq (pv 0)) (pg_seq rfl (pgs_cons (pg_name (i := 3) sc__law_ripe.nd rfl (Or.inl rfl)) (pgs_cons (pg_name (i := 4) sc__law_ripe.nd rfl (Or.inl rfl)) pgs_nil))) (pss_one (ps_if (PW.pt (pw_and (pt_cmpR op_notIn_seq (pv 3) (pv 1) (by rfl)) (pw_and1 (pt_val (pe_callB (cr_any rfl) rfl m_any boot_any (pa_cons (pe_lc (own := [("_law_lot", 5)]) rfl sc__law_ripe.nd (pi_seq (pv 4)) (blkOk_by (N := N__law_ripe) (sc := defScope s__law_ripe) (own := [("_law_lot", 5)]) (by decide +kernel)) (fun _ _ _ _ _ => (pg_name (i := 5) sc__law_ripe.nd rfl (by first | exact Or.inl rfl | exact Or.inr rfl))) (fun _ _ _ _ _ => pts_nil) (fun _ _ _ _ _ => (pe_calB C__law_in (hr.mono l__law_in) (by rfl) (pa_cons (pv 5) (pa_cons (pv 1) pa_nil))))) pa_nil)))))) (pss_one (ps_expr (pe_bm PySem.F.plainAttrs_list PySem.F.slot_list_append PySem.F.type_list_append mt_append (pv 2) (pa_cons (pv 3) pa_nil)))) pss_nil)))
      (pss_one (ps_ret (pv 2))))),
    (tsj_seq (tsj_asg (tj_lst taj_nil))
      (tsj_seq (tsj_for (tij_seq (tj_var 0)) (tgj_seq (tgsj_cons (tgj_name 3) (tgsj_cons (tgj_name 4) tgsj_nil))) (tsj_if (ttj_and (ttj_val (tj_op vr_in (tj_var 3) (tj_var 1))) (ttj_B (tj_cb vr_any (taj_cons (tj_lc (ks := [5]) (tij_seq (tj_var 4)) (tgj_name 5) ttj_yes (tj_callV (taj_cons (tj_var 5) (taj_cons (tj_var 1) taj_nil)) (cons_len (cons_len nil_len))) (by decide)) taj_nil)))) (tsj_drop (tj_append (tj_var 3))) tsj_next))
      (tsj_ret (tj_var 2))))⟩
theorem ok_known {P : Program} {w : World} {K : PySem.W.Frag} {mg : Str → Option Value} {base : Heap} {k : Nat} {f : Addr} {fd : FuncData} (F : Fun K "known" "known" s_known f fd) {lev_lot_of : Nat} (C_lot_of : Cal P w K mg base "lot_of" ["names"] lev_lot_of (spD K mg 1 d_lot_of)) (l_lot_of : lev_lot_of ≤ k) (m_list : mg "list" = none) (m_enumerate : mg "enumerate" = none) (m_len : mg "len" = none) {C_NoFruit : Addr} {rlev_NoFruit : Nat} (R_NoFruit : RzC P w K mg base "NoFruit" C_NoFruit rlev_NoFruit) (lr_NoFruit : rlev_NoFruit + 1 ≤ k) :
    FnG P w K mg base (L2.CX P w) (k + 1) f fd ["picking", "fruit"] (spD K mg 2 d_known) :=
  fn_den F sc_known fun cdv A outer s H E hr => ⟨_, (pss_cons (ps_asg (pv 0) (pg_seq rfl (pgs_cons (pg_name (i := 2) sc_known.nd rfl (Or.inl rfl)) (pgs_cons (pg_name (i := 3) sc_known.nd rfl (Or.inl rfl)) pgs_nil))))
      (pss_cons (ps_if (pt_cmpR op_notIn_seq (pv 1) (pv 2) (by rfl)) (pss_one (ps_raise rfl (takes_of rfl rfl rfl rfl) (pmk_R R_NoFruit (hr.mono lr_NoFruit) rfl (pa_cons (pv 1) pa_nil)))) pss_nil)
      (pss_cons (ps_if (pt_cmpR op_notIn_seq (pv 1) (pv 3) (by rfl)) (pss_one (ps_ret (pe_tupN (pa_cons pe_non (pa_cons (pe_cal (E := fun _ => E) C_lot_of (hr.mono l_lot_of) rfl (fun σ => passAt (takes_of rfl rfl rfl rfl) σ) (pa_cons (pv 3) pa_nil)) pa_nil))))) pss_nil)
      (pss_cons (ps_set (i := 4) sc_known.nd rfl (Or.inl rfl) (pe_slice sl_3 (pe_callTy call_list_of rfl m_list boot_list (pa_cons (pv 3) pa_nil)) po_none (po_some (pe_bm PySem.F.plainAttrs_list PySem.F.slot_list_index PySem.F.type_list_index mt_index (pe_callTy call_list_of rfl m_list boot_list (pa_cons (pv 3) pa_nil)) (pa_cons (pv 1) pa_nil)))))
      (pss_cons (ps_set (i := 5) sc_known.nd rfl (Or.inr rfl) (pe_slice sl_3 (pe_callTy call_list_of rfl m_list boot_list (pa_cons (pv 2) pa_nil)) po_none (po_some (pe_bm PySem.F.plainAttrs_list PySem.F.slot_list_index PySem.F.type_list_index mt_index (pe_callTy call_list_of rfl m_list boot_list (pa_cons (pv 2) pa_nil)) (pa_cons (pv 1) pa_nil)))))
      (pss_cons (ps_setLc (i := 6) (own := [("place", 7), ("name", 8)]) rfl sc_known.nd rfl rfl (sw_true rfl rfl rfl rfl) (pi_enum rfl m_enumerate (pa_cons (pv 4) pa_nil)) (blkOk_by (N := N_known) (sc := defScope s_known) (own := [("place", 7), ("name", 8)]) (by decide +kernel)) (fun _ _ _ _ _ => (pg_seq rfl (pgs_cons (pg_name (i := 7) sc_known.nd rfl (by first | exact Or.inl rfl | exact Or.inr rfl)) (pgs_cons (pg_name (i := 8) sc_known.nd rfl (by first | exact Or.inl rfl | exact Or.inr rfl)) pgs_nil)))) (fun _ _ _ _ _ => (pts_one (pt_cmpR op_notIn_seq (pv 8) (pv 5) (by rfl)))) (fun _ _ _ _ _ => (pv 7)))
      (pss_one (ps_ret (pe_tupN (pa_cons (pe_cal (E := fun _ => E) C_lot_of (hr.mono l_lot_of) rfl (fun σ => passAt (takes_of rfl rfl rfl rfl) σ) (pa_cons (pv 4) pa_nil)) (pa_cons (pe_ifExp (pt_cmpR op_gt (pe_callB call_len rfl m_len PySem.boot_len (pa_cons (pv 6) pa_nil)) pe_int (nomark _)) (pe_cal (E := fun _ => E) C_lot_of (hr.mono l_lot_of) rfl (fun σ => passAt (takes_of rfl rfl rfl rfl) σ) (pa_cons (pe_slice sl_3 (pv 4) po_none (po_some (pe_ix ix_seq (pv 6) (pe_un un_neg pe_int) (fun _ _ => rfl)))) pa_nil)) pe_non) pa_nil))))))))))),
    (tsj_seq (tsj_unp (tj_var 0) (tgj_seq (tgsj_cons (tgj_name 2) (tgsj_cons (tgj_name 3) tgsj_nil))))
      (tsj_seq (tsj_if (ttj_val (tj_op vr_in (tj_var 1) (tj_var 2))) (tsj_raise R_NoFruit.g (tj_var 1)) tsj_next)
      (tsj_seq (tsj_if (ttj_val (tj_op vr_in (tj_var 1) (tj_var 3))) (tsj_ret (tj_tup (taj_cons tj_non (taj_cons (tj_callV (taj_cons (tj_var 3) taj_nil) (cons_len nil_len)) taj_nil)))) tsj_next)
      (tsj_seq (tsj_asg (tj_sl (tj_cb vr_list (taj_cons (tj_var 3) taj_nil)) toj_none (toj_some (tj_bl1 vr_index (tj_cb vr_list (taj_cons (tj_var 3) taj_nil)) (tj_var 1)))))
      (tsj_seq (tsj_asg (tj_sl (tj_cb vr_list (taj_cons (tj_var 2) taj_nil)) toj_none (toj_some (tj_bl1 vr_index (tj_cb vr_list (taj_cons (tj_var 2) taj_nil)) (tj_var 1)))))
      (tsj_seq (tsj_asg (tj_lc (ks := [7, 8]) (tij_enum (taj_cons (tj_fz (tj_var 4)) taj_nil)) (tgj_seq (tgsj_cons (tgj_name 7) (tgsj_cons (tgj_name 8) tgsj_nil))) (ttj_val (tj_op vr_in (tj_var 8) (tj_var 5))) (tj_var 7) (by decide)))
      (tsj_ret (tj_tup (taj_cons (tj_callV (taj_cons (tj_var 4) taj_nil) (cons_len nil_len)) (taj_cons (tj_if (ttj_val (tj_op vr_cmp (tj_cb vr_len (taj_cons (tj_var 6) taj_nil)) tj_int)) (tj_callV (taj_cons (tj_sl (tj_var 4) toj_none (toj_some (tj_op vr_ix (tj_var 6) (tj_un vr_neg tj_int)))) taj_nil) (cons_len nil_len)) tj_non) taj_nil))))))))))⟩
theorem ok__law_pairs {P : Program} {w : World} {K : PySem.W.Frag} {mg : Str → Option Value} {base : Heap} {k : Nat} {f : Addr} {fd : FuncData} (F : Fun K "_law_pairs" "_law_pairs" s__law_pairs f fd) {lev__law_draw : Nat} (C__law_draw : Cal P w K mg base "_law_draw" ["_law_tape_here", "_law_many"] lev__law_draw (spD K mg 2 d__law_draw)) (l__law_draw : lev__law_draw ≤ k) {lev__law_part : Nat} (C__law_part : Cal P w K mg base "_law_part" ["_law_tape_here", "_law_some", "_law_many"] lev__law_part (spD K mg 3 d__law_part)) (l__law_part : lev__law_part ≤ k) (m_enumerate : mg "enumerate" = none) (m_range : mg "range" = none) :
    FnG P w K mg base (L2.CX P w) (k + 1) f fd ["_law_tape_here", "_law_names_here"] (spD K mg 2 d__law_pairs) :=
  fn_den F sc__law_pairs fun cdv A outer s H E hr => ⟨_, (pss_cons (ps_set (i := 2) sc__law_pairs.nd rfl (Or.inl rfl) (pe_lst pa_nil))
      (pss_cons (ps_for (passes_of rfl) rfl (pi_enum rfl m_enumerate (pa_cons (pv 1) pa_nil)) (pg_seq rfl (pgs_cons (pg_name (i := 3) sc__law_pairs.nd rfl (Or.inl rfl)) (pgs_cons (pg_name (i := 4) sc__law_pairs.nd rfl (Or.inl rfl)) pgs_nil))) (pss_cons (ps_set (i := 5) sc__law_pairs.nd rfl (Or.inl rfl) (pe_lst pa_nil))
      (pss_cons (ps_for (passes_of rfl) rfl (pi_range1 rfl m_range (pa_cons (pe_ix ix_seq (pe_lst (pa_cons pe_int (pa_cons pe_int (pa_cons pe_int (pa_cons pe_int (pa_cons pe_int (pa_cons pe_int (pa_cons pe_int (pa_cons pe_int (pa_cons pe_int (pa_cons pe_int pa_nil))))))))))) (pe_cal (E := fun _ => E) C__law_draw (hr.mono l__law_draw) rfl (fun σ => passAt (takes_of rfl rfl rfl rfl) σ) (pa_cons (pv 0) (pa_cons pe_int pa_nil))) (fun _ _ => rfl)) pa_nil)) (pg_name (i := 6) sc__law_pairs.nd rfl (Or.inl rfl)) (pss_cons (ps_set (i := 7) sc__law_pairs.nd rfl (Or.inl rfl) (pe_ifExp (pt_cmpR op_gt (pe_cal (E := fun _ => E) C__law_draw (hr.mono l__law_draw) rfl (fun σ => passAt (takes_of rfl rfl rfl rfl) σ) (pa_cons (pv 0) (pa_cons pe_int pa_nil))) pe_int (nomark _)) (pe_slice sl_3 (pv 1) po_none (po_some (pv 3))) (pe_op op_addU (pe_slice sl_3 (pv 1) po_none (po_some (pv 3))) (pe_slice sl_3 (pv 1) (po_some (pe_op op_addU (pv 3) pe_int)) po_none))))
      (pss_one (ps_expr (pe_bm PySem.F.plainAttrs_list PySem.F.slot_list_append PySem.F.type_list_append mt_append (pv 5) (pa_cons (pe_cal (E := fun _ => E) C__law_part (hr.mono l__law_part) rfl (fun σ => passAt (takes_of rfl rfl rfl rfl) σ) (pa_cons (pv 0) (pa_cons (pv 7) (pa_cons (pe_cal (E := fun _ => E) C__law_draw (hr.mono l__law_draw) rfl (fun σ => passAt (takes_of rfl rfl rfl rfl) σ) (pa_cons (pv 0) (pa_cons pe_int pa_nil))) pa_nil)))) pa_nil))))))
      (pss_one (ps_expr (pe_bm PySem.F.plainAttrs_list PySem.F.slot_list_append PySem.F.type_list_append mt_append (pv 2) (pa_cons (pe_tupN (pa_cons (pv 4) (pa_cons (pv 5) pa_nil))) pa_nil)))))))
      (pss_one (ps_ret (pv 2))))),
    (tsj_seq (tsj_asg (tj_lst taj_nil))
      (tsj_seq (tsj_for (tij_enum (taj_cons (tj_fz (tj_var 1)) taj_nil)) (tgj_seq (tgsj_cons (tgj_name 3) (tgsj_cons (tgj_name 4) tgsj_nil))) (tsj_seq (tsj_asg (tj_lst taj_nil))
      (tsj_seq (tsj_for (tij_range1 (taj_cons (tj_op vr_ix (tj_lst (taj_cons tj_int (taj_cons tj_int (taj_cons tj_int (taj_cons tj_int (taj_cons tj_int (taj_cons tj_int (taj_cons tj_int (taj_cons tj_int (taj_cons tj_int (taj_cons tj_int taj_nil))))))))))) (tj_callT (taj_cons (tj_var 0) (taj_cons tj_int taj_nil)) (cons_len (cons_len nil_len)))) taj_nil)) (tgj_name 6) (tsj_seq (tsj_asg (tj_if (ttj_val (tj_op vr_cmp (tj_callT (taj_cons (tj_var 0) (taj_cons tj_int taj_nil)) (cons_len (cons_len nil_len))) tj_int)) (tj_sl (tj_var 1) toj_none (toj_some (tj_var 3))) (tj_op vr_addU (tj_sl (tj_var 1) toj_none (toj_some (tj_var 3))) (tj_sl (tj_var 1) (toj_some (tj_op vr_addU (tj_var 3) tj_int)) toj_none))))
      (tsj_drop (tj_append (tj_callT (taj_cons (tj_var 0) (taj_cons (tj_var 7) (taj_cons (tj_callT (taj_cons (tj_var 0) (taj_cons tj_int taj_nil)) (cons_len (cons_len nil_len))) taj_nil))) (cons_len (cons_len (cons_len nil_len))))))))
      (tsj_drop (tj_append (tj_tup (taj_cons (tj_var 4) (taj_cons (tj_fz (tj_var 5)) taj_nil))))))))
      (tsj_ret (tj_var 2))))⟩
theorem ok__law_made {P : Program} {w : World} {K : PySem.W.Frag} {mg : Str → Option Value} {base : Heap} {k : Nat} {f : Addr} {fd : FuncData} (F : Fun K "_law_made" "_law_made" s__law_made f fd) {lev__law_least : Nat} (C__law_least : Cal P w K mg base "_law_least" ["_law_lots"] lev__law_least (spD K mg 1 d__law_least)) (l__law_least : lev__law_least ≤ k) (m_tuple : mg "tuple" = none) (m_sorted : mg "sorted" = none) :
    FnG P w K mg base (L2.CX P w) (k + 1) f fd ["_law_pairs_here"] (spD K mg 1 d__law_made) :=
  fn_den F sc__law_made fun cdv A outer s H E hr => ⟨_, (pss_one (ps_ret (pe_callTy call_tupleN rfl m_tuple boot_tuple (pa_cons (pe_callB (cr_sortD hr.units) rfl m_sorted boot_sorted (pa_cons (pe_lc (own := [("_law_plum", 1), ("_law_lots", 2)]) rfl sc__law_made.nd (pi_seq (pv 0)) (blkOk_by (N := N__law_made) (sc := defScope s__law_made) (own := [("_law_plum", 1), ("_law_lots", 2)]) (by decide +kernel)) (fun _ _ _ _ _ => (pg_seq rfl (pgs_cons (pg_name (i := 1) sc__law_made.nd rfl (by first | exact Or.inl rfl | exact Or.inr rfl)) (pgs_cons (pg_name (i := 2) sc__law_made.nd rfl (by first | exact Or.inl rfl | exact Or.inr rfl)) pgs_nil)))) (fun _ _ _ _ _ => pts_nil) (fun _ _ _ _ _ => (pe_tupN (pa_cons (pv 1) (pa_cons (pe_calB C__law_least (hr.mono l__law_least) (by rfl) (pa_cons (pv 2) pa_nil)) pa_nil))))) pa_nil)) pa_nil)))),
    (tsj_ret (tj_cb vr_tuple (taj_cons (tj_cb vr_sort (taj_cons (tj_lc (ks := [1, 2]) (tij_seq (tj_var 0)) (tgj_seq (tgsj_cons (tgj_name 1) (tgsj_cons (tgj_name 2) tgsj_nil))) ttj_yes (tj_tup (taj_cons (tj_var 1) (taj_cons (tj_callV (taj_cons (tj_var 2) taj_nil) (cons_len nil_len)) taj_nil))) (by decide)) taj_nil)) taj_nil)))⟩
theorem ok__law_pick {P : Program} {w : World} {K : PySem.W.Frag} {mg : Str → Option Value} {base : Heap} {k : Nat} {f : Addr} {fd : FuncData} (F : Fun K "_law_pick" "_law_pick" s__law_pick f fd) {lev__law_ripe : Nat} (C__law_ripe : Cal P w K mg base "_law_ripe" ["_law_orchard_here", "_law_gone"] lev__law_ripe (spD K mg 2 d__law_ripe)) (l__law_ripe : lev__law_ripe ≤ k) :
    FnG P w K mg base (L2.CX P w) (k + 1) f fd ["_law_orchard_here", "_law_liking_here"] (spD K mg 2 d__law_pick) :=
  fn_den F sc__law_pick fun cdv A outer s H E hr => ⟨_, (pss_cons (ps_asg (pe_tup (pa_cons (pe_lst pa_nil) (pa_cons (pe_cal (E := fun _ => E) C__law_ripe (hr.mono l__law_ripe) rfl (fun σ => passAt (takes_of rfl rfl rfl rfl) σ) (pa_cons (pv 0) (pa_cons (pe_lst pa_nil) pa_nil))) pa_nil))) (pg_tup rfl (pgs_cons (pg_name (i := 2) sc__law_pick.nd rfl (Or.inl rfl)) (pgs_cons (pg_name (i := 3) sc__law_pick.nd rfl (Or.inr rfl)) pgs_nil))))
      (pss_cons (ps_while (passes_of rfl) (pt_cmpR (op_neD hr.units) (pv 3) (pe_lst pa_nil) (nomark _)) (pss_cons (ps_expr (pe_bm PySem.F.plainAttrs_list PySem.F.slot_list_append PySem.F.type_list_append mt_append (pv 2) (pa_cons (pe_ix ix_seq (pe_lc (own := [("_law_name", 4)]) rfl sc__law_pick.nd (pi_seq (pv 1)) (blkOk_by (N := N__law_pick) (sc := defScope s__law_pick) (own := [("_law_name", 4)]) (by decide +kernel)) (fun _ _ _ _ _ => (pg_name (i := 4) sc__law_pick.nd rfl (by first | exact Or.inl rfl | exact Or.inr rfl))) (fun _ _ _ _ _ => (pts_one (pt_cmpR op_in_seq (pv 4) (pv 3) (by rfl)))) (fun _ _ _ _ _ => (pv 4))) pe_int (fun _ _ => rfl)) pa_nil)))
      (pss_one (ps_set (i := 3) sc__law_pick.nd rfl (Or.inr rfl) (pe_cal (E := fun _ => E) C__law_ripe (hr.mono l__law_ripe) rfl (fun σ => passAt (takes_of rfl rfl rfl rfl) σ) (pa_cons (pv 0) (pa_cons (pv 2) pa_nil)))))))
      (pss_one (ps_ret (pv 2))))),
    (tsj_seq (tsj_parT (is := [2, 3]) (taj_cons (tj_lst taj_nil) (taj_cons (tj_callV (taj_cons (tj_var 0) (taj_cons (tj_lst taj_nil) taj_nil)) (cons_len (cons_len nil_len))) taj_nil)) rfl (by decide))
      (tsj_seq (tsj_while 1000 (ttj_val (tj_op vr_neD (tj_var 3) (tj_lst taj_nil))) (tsj_seq (tsj_drop (tj_append (tj_op vr_ix (tj_lc (ks := [4]) (tij_seq (tj_var 1)) (tgj_name 4) (ttj_val (tj_op vr_in (tj_var 4) (tj_var 3))) (tj_var 4) (by decide)) tj_int)))
      (tsj_asg (tj_callV (taj_cons (tj_var 0) (taj_cons (tj_var 2) taj_nil)) (cons_len (cons_len nil_len))))))
      (tsj_ret (tj_var 2))))⟩
theorem ok__law_liking {P : Program} {w : World} {K : PySem.W.Frag} {mg : Str → Option Value} {base : Heap} {k : Nat} {f : Addr} {fd : FuncData} (F : Fun K "_law_liking" "_law_liking" s__law_liking f fd) {lev__law_part : Nat} (C__law_part : Cal P w K mg base "_law_part" ["_law_tape_here", "_law_some", "_law_many"] lev__law_part (spD K mg 3 d__law_part)) (l__law_part : lev__law_part ≤ k) (m_tuple : mg "tuple" = none) (m_len : mg "len" = none) :
    FnG P w K mg base (L2.CX P w) (k + 1) f fd ["_law_tape_here", "_law_orchard_here"] (spD K mg 2 d__law_liking) :=
  fn_den F sc__law_liking fun cdv A outer s H E hr => ⟨_, (pss_one (ps_ret (pe_callTy call_tupleN rfl m_tuple boot_tuple (pa_cons (pe_cal (E := fun _ => E) C__law_part (hr.mono l__law_part) rfl (fun σ => passAt (takes_of rfl rfl rfl rfl) σ) (pa_cons (pv 0) (pa_cons (pe_lc (own := [("_law_plum", 2), ("_law_lots", 3)]) rfl sc__law_liking.nd (pi_seq (pv 1)) (blkOk_by (N := N__law_liking) (sc := defScope s__law_liking) (own := [("_law_plum", 2), ("_law_lots", 3)]) (by decide +kernel)) (fun _ _ _ _ _ => (pg_seq rfl (pgs_cons (pg_name (i := 2) sc__law_liking.nd rfl (by first | exact Or.inl rfl | exact Or.inr rfl)) (pgs_cons (pg_name (i := 3) sc__law_liking.nd rfl (by first | exact Or.inl rfl | exact Or.inr rfl)) pgs_nil)))) (fun _ _ _ _ _ => pts_nil) (fun _ _ _ _ _ => (pv 2))) (pa_cons (pe_callB call_len rfl m_len PySem.boot_len (pa_cons (pv 1) pa_nil)) pa_nil)))) pa_nil)))),
    (tsj_ret (tj_cb vr_tuple (taj_cons (tj_callT (taj_cons (tj_var 0) (taj_cons (tj_lc (ks := [2, 3]) (tij_seq (tj_var 1)) (tgj_seq (tgsj_cons (tgj_name 2) (tgsj_cons (tgj_name 3) tgsj_nil))) ttj_yes (tj_var 2) (by decide)) (taj_cons (tj_cb vr_len (taj_cons (tj_var 1) taj_nil)) taj_nil))) (cons_len (cons_len (cons_len nil_len)))) taj_nil)))⟩
theorem ok__law_orchard {P : Program} {w : World} {K : PySem.W.Frag} {mg : Str → Option Value} {base : Heap} {k : Nat} {f : Addr} {fd : FuncData} (F : Fun K "_law_orchard" "_law_orchard" s__law_orchard f fd) {lev__law_made : Nat} (C__law_made : Cal P w K mg base "_law_made" ["_law_pairs_here"] lev__law_made (spD K mg 1 d__law_made)) (l__law_made : lev__law_made ≤ k) {lev__law_pairs : Nat} (C__law_pairs : Cal P w K mg base "_law_pairs" ["_law_tape_here", "_law_names_here"] lev__law_pairs (spD K mg 2 d__law_pairs)) (l__law_pairs : lev__law_pairs ≤ k) {lev__law_names : Nat} (C__law_names : Cal P w K mg base "_law_names" ["_law_tape_here", "_law_many"] lev__law_names (spD K mg 2 d__law_names)) (l__law_names : lev__law_names ≤ k) {lev__law_draw : Nat} (C__law_draw : Cal P w K mg base "_law_draw" ["_law_tape_here", "_law_many"] lev__law_draw (spD K mg 2 d__law_draw)) (l__law_draw : lev__law_draw ≤ k) :
    FnG P w K mg base (L2.CX P w) (k + 1) f fd ["_law_tape_here", "_law_few", "_law_most"] (spD K mg 3 d__law_orchard) :=
  fn_den F sc__law_orchard fun cdv A outer s H E hr => ⟨_, (pss_one (ps_ret (pe_cal (E := fun _ => E) C__law_made (hr.mono l__law_made) rfl (fun σ => passAt (takes_of rfl rfl rfl rfl) σ) (pa_cons (pe_cal (E := fun _ => E) C__law_pairs (hr.mono l__law_pairs) rfl (fun σ => passAt (takes_of rfl rfl rfl rfl) σ) (pa_cons (pv 0) (pa_cons (pe_cal (E := fun _ => E) C__law_names (hr.mono l__law_names) rfl (fun σ => passAt (takes_of rfl rfl rfl rfl) σ) (pa_cons (pv 0) (pa_cons (pe_op op_addU (pv 1) (pe_cal (E := fun _ => E) C__law_draw (hr.mono l__law_draw) rfl (fun σ => passAt (takes_of rfl rfl rfl rfl) σ) (pa_cons (pv 0) (pa_cons (pe_op op_addU (pe_op op_sub (pv 2) (pv 1)) pe_int) pa_nil)))) pa_nil))) pa_nil))) pa_nil)))),
    (tsj_ret (tj_callV (taj_cons (tj_callT (taj_cons (tj_var 0) (taj_cons (tj_fz (tj_callT (taj_cons (tj_var 0) (taj_cons (tj_op vr_addU (tj_var 1) (tj_callT (taj_cons (tj_var 0) (taj_cons (tj_op vr_addU (tj_op vr_sub (tj_var 2) (tj_var 1)) tj_int) taj_nil)) (cons_len (cons_len nil_len)))) taj_nil)) (cons_len (cons_len nil_len)))) taj_nil)) (cons_len (cons_len nil_len))) taj_nil) (cons_len nil_len)))⟩
theorem ok__law_refused {P : Program} {w : World} {K : PySem.W.Frag} {mg : Str → Option Value} {base : Heap} {k : Nat} {f : Addr} {fd : FuncData} (F : Fun K "_law_refused" "_law_refused" s__law_refused f fd) {lev_known : Nat} (C_known : Cal P w K mg base "known" ["picking", "fruit"] lev_known (spD K mg 2 d_known)) (l_known : lev_known ≤ k) (m_isinstance : mg "isinstance" = none) (m_LookupError : mg "LookupError" = none) {C_Clash : Addr} (c_Clash : mg "Clash" = some (.ref C_Clash)) {C_NoFruit : Addr} (c_NoFruit : mg "NoFruit" = some (.ref C_NoFruit)) {C_NoPicking : Addr} (c_NoPicking : mg "NoPicking" = some (.ref C_NoPicking)) (q_NoFruit : ExcQ K C_NoFruit) (x_NoFruit : PySem.W.exmAny K (.ref C_NoFruit) [.ref C_Clash, .ref C_NoFruit, .ref C_NoPicking] = some true) (k_NoFruit_NoFruit : PySem.W.kitOne K (.ref C_NoFruit) (.ref C_NoFruit) = some true) (k_NoFruit_Clash_NoPicking : PySem.W.kitAny K (.ref C_NoFruit) [.ref C_Clash, .ref C_NoPicking] = some false) (k_NoFruit_LookupError : PySem.W.kitOne K (.ref C_NoFruit) (.type "LookupError") = some true) :
    FnG P w K mg base (L2.CX P w) (k + 1) f fd ["_law_entry", "_law_plum"] (spD K mg 2 d__law_refused) :=
  fn_den F sc__law_refused fun cdv A outer s H E hr => ⟨_, (pss_cons (ps_set (i := 2) sc__law_refused.nd rfl (Or.inl rfl) pe_non)
      (pss_try (i := 2) (j := 3) rfl rfl sc__law_refused.nd rfl rfl (tst3 (names_own rfl c_Clash) (names_own rfl c_NoFruit) (names_own rfl c_NoPicking))
      (fun Wx pn xe tk po => by exact (pss_one (ps_expr (pe_cal (E := fun σ => WE Wx σ) C_known (hr.mono l_known) rfl (fun σ => passAt tk σ) (pa_cons (pv 0) (pa_cons (pv 1) pa_nil))))))
      (fun a pn => pss_one (ps_set (i := 2) sc__law_refused.nd rfl (Or.inl rfl) (pv 3)))
      DL.pss_never
      (fun a oe cls d pn hz hf => by exact (pss_cons (ps_if (PW.pt (pw_or (pt_not (pt_val (pe_callB (call_isX hz hf) rfl m_isinstance boot_isinstance (pa_cons (pv 2) (pa_cons (pe_glob (v := V.ref C_NoFruit) rfl c_NoFruit rfl) pa_nil))))) (pw_or (pt_val (pe_callB (call_isXT hz hf) rfl m_isinstance boot_isinstance (pa_cons (pv 2) (pa_cons (pe_tup (pa_cons (pe_glob (v := V.ref C_Clash) rfl c_Clash rfl) (pa_cons (pe_glob (v := V.ref C_NoPicking) rfl c_NoPicking rfl) pa_nil))) pa_nil)))) (pw_or1 (pt_not (pt_val (pe_callB (call_isX hz hf) rfl m_isinstance boot_isinstance (pa_cons (pv 2) (pa_cons (pe_bltn (v := V.ty "LookupError") rfl m_LookupError PyProof.Rows.Boot.«LookupError» rfl) pa_nil))))))))) (pss_one (ps_ret pe_non)) pss_nil) (pss_one (ps_ret (pe_whatX hz hf (pv 2)))))))),
    (tsj_seq (tsj_asg tj_non)
      (tsj_try (i := 2) (j := 3) (by decide) (fun Wx => (tsj_drop (tj_callV (taj_cons (tj_var 0) (taj_cons (tj_var 1) taj_nil)) (cons_len (cons_len nil_len)))))
      tsj_never
      (hdL_cons c_NoFruit x_NoFruit (xs_seqN (xs_ifF (xtj_orF (xtj_not (xtj_is q_NoFruit (.own C_NoFruit) k_NoFruit_NoFruit)) (xtj_orF (xtj_is2 q_NoFruit (.own C_Clash) (.own C_NoPicking) k_NoFruit_Clash_NoPicking) (xtj_not (xtj_is q_NoFruit (.ty "LookupError") k_NoFruit_LookupError)))) xs_nx) (xs_ret (xj_what q_NoFruit))) hdL_nil)))⟩
theorem ok__law_right {P : Program} {w : World} {K : PySem.W.Frag} {mg : Str → Option Value} {base : Heap} {k : Nat} {f : Addr} {fd : FuncData} (F : Fun K "_law_right" "_law_right" s__law_right f fd) {lev__law_orchard : Nat} (C__law_orchard : Cal P w K mg base "_law_orchard" ["_law_tape_here", "_law_few", "_law_most"] lev__law_orchard (spD K mg 3 d__law_orchard)) (l__law_orchard : lev__law_orchard ≤ k) {lev__law_liking : Nat} (C__law_liking : Cal P w K mg base "_law_liking" ["_law_tape_here", "_law_orchard_here"] lev__law_liking (spD K mg 2 d__law_liking)) (l__law_liking : lev__law_liking ≤ k) {lev__law_pick : Nat} (C__law_pick : Cal P w K mg base "_law_pick" ["_law_orchard_here", "_law_liking_here"] lev__law_pick (spD K mg 2 d__law_pick)) (l__law_pick : lev__law_pick ≤ k) {lev__law_draw : Nat} (C__law_draw : Cal P w K mg base "_law_draw" ["_law_tape_here", "_law_many"] lev__law_draw (spD K mg 2 d__law_draw)) (l__law_draw : lev__law_draw ≤ k) {lev__law_part : Nat} (C__law_part : Cal P w K mg base "_law_part" ["_law_tape_here", "_law_some", "_law_many"] lev__law_part (spD K mg 3 d__law_part)) (l__law_part : lev__law_part ≤ k) {lev__law_known : Nat} (C__law_known : Cal P w K mg base "_law_known" ["_law_entry", "_law_plum"] lev__law_known (spD K mg 2 d__law_known)) (l__law_known : lev__law_known ≤ k) {lev_known : Nat} (C_known : Cal P w K mg base "known" ["picking", "fruit"] lev_known (spD K mg 2 d_known)) (l_known : lev_known ≤ k) {lev__law_same : Nat} (C__law_same : Cal P w K mg base "_law_same" ["_law_found", "_law_due"] lev__law_same (spD K mg 2 (d__law_same 12))) (l__law_same : lev__law_same ≤ k) {lev__law_refused : Nat} (C__law_refused : Cal P w K mg base "_law_refused" ["_law_entry", "_law_plum"] lev__law_refused (spD K mg 2 d__law_refused)) (l__law_refused : lev__law_refused ≤ k) (K_known_k0 : CalK P w K mg base "known" ["picking", "fruit"] ["fruit", "picking"] [1, 0] lev_known (spD K mg 2 d_known)) (m_range : mg "range" = none) (m_len : mg "len" = none) (m_repr : mg "repr" = none) (m_tuple : mg "tuple" = none) (m_list : mg "list" = none) :
    FnG P w K mg base (L2.CX P w) (k + 1) f fd ["_law_tape_here"] (spD K mg 1 d__law_right) :=
  fn_den F sc__law_right fun cdv A outer s H E hr => ⟨_, (pss_cons (ps_for (passes_of rfl) rfl (pi_range1 rfl m_range (pa_cons pe_int pa_nil)) (pg_name (i := 1) sc__law_right.nd rfl (Or.inl rfl)) (pss_cons (ps_set (i := 2) sc__law_right.nd rfl (Or.inl rfl) (pe_cal (E := fun _ => E) C__law_orchard (hr.mono l__law_orchard) rfl (fun σ => passAt (takes_of rfl rfl rfl rfl) σ) (pa_cons (pv 0) (pa_cons pe_int (pa_cons pe_int pa_nil)))))
      (pss_cons (ps_set (i := 3) sc__law_right.nd rfl (Or.inr rfl) (pe_cal (E := fun _ => E) C__law_liking (hr.mono l__law_liking) rfl (fun σ => passAt (takes_of rfl rfl rfl rfl) σ) (pa_cons (pv 0) (pa_cons (pv 2) pa_nil))))
      (pss_cons (ps_set (i := 4) sc__law_right.nd rfl (Or.inl rfl) (pe_cal (E := fun _ => E) C__law_pick (hr.mono l__law_pick) rfl (fun σ => passAt (takes_of rfl rfl rfl rfl) σ) (pa_cons (pv 2) (pa_cons (pv 3) pa_nil))))
      (pss_cons (ps_if (pt_cmpR (op_eqD hr.units) (pe_cal (E := fun _ => E) C__law_draw (hr.mono l__law_draw) rfl (fun σ => passAt (takes_of rfl rfl rfl rfl) σ) (pa_cons (pv 0) (pa_cons pe_int pa_nil))) pe_int (nomark _)) (pss_one (ps_set (i := 4) sc__law_right.nd rfl (Or.inl rfl) (pe_cal (E := fun _ => E) C__law_part (hr.mono l__law_part) rfl (fun σ => passAt (takes_of rfl rfl rfl rfl) σ) (pa_cons (pv 0) (pa_cons (pv 3) (pa_cons (pe_cal (E := fun _ => E) C__law_draw (hr.mono l__law_draw) rfl (fun σ => passAt (takes_of rfl rfl rfl rfl) σ) (pa_cons (pv 0) (pa_cons (pe_op op_addU (pe_callB call_len rfl m_len PySem.boot_len (pa_cons (pv 3) pa_nil)) pe_int) pa_nil))) pa_nil)))))) pss_nil)
      (pss_cons (ps_asg (pe_tup (pa_cons (pe_tupN (pa_cons (pv 3) (pa_cons (pv 4) pa_nil))) (pa_cons (pe_callB (cr_repr hr) rfl m_repr PyProof.Rows.boot_repr (pa_cons (pe_tupN (pa_cons (pv 3) (pa_cons (pv 4) pa_nil))) pa_nil)) pa_nil))) (pg_tup rfl (pgs_cons (pg_name (i := 5) sc__law_right.nd rfl (Or.inr rfl)) (pgs_cons (pg_name (i := 6) sc__law_right.nd rfl (Or.inl rfl)) pgs_nil))))
      (pss_cons (ps_for (passes_of rfl) rfl (pi_seq (pv 3)) (pg_name (i := 7) sc__law_right.nd rfl (Or.inl rfl)) (pss_cons (ps_set (i := 8) sc__law_right.nd rfl (Or.inl rfl) (pe_cal (E := fun _ => E) C__law_known (hr.mono l__law_known) rfl (fun σ => passAt (takes_of rfl rfl rfl rfl) σ) (pa_cons (pv 5) (pa_cons (pv 7) pa_nil))))
      (pss_cons (ps_set (i := 9) sc__law_right.nd rfl (Or.inl rfl) (pe_lst (pa_cons (pe_cal (E := fun _ => E) C_known (hr.mono l_known) rfl (fun σ => passAt (takes_of rfl rfl rfl rfl) σ) (pa_cons (pv 5) (pa_cons (pv 7) pa_nil))) (pa_cons (pe_calK (E := fun _ => E) K_known_k0 (hr.mono l_known) rfl (fun σ => passAt (takes_of rfl rfl rfl rfl) σ) (pk_cons (pv 7) (pk_cons (pe_lst (pa_cons (pe_callTy call_list_of rfl m_list boot_list (pa_cons (pv 3) pa_nil)) (pa_cons (pe_callTy call_tupleN rfl m_tuple boot_tuple (pa_cons (pv 4) pa_nil)) pa_nil))) pk_nil))) pa_nil))))
      (pss_one (ps_if (pt_not (pt_val (pe_cal (E := fun _ => E) C__law_same (hr.mono l__law_same) rfl (fun σ => passAt (takes_of rfl rfl rfl rfl) σ) (pa_cons (pv 9) (pa_cons (pe_lst (pa_cons (pv 8) (pa_cons (pv 8) pa_nil))) pa_nil))))) (pss_one (ps_ret pe_bl)) pss_nil)))))
      (pss_cons (ps_set (i := 10) sc__law_right.nd rfl (Or.inl rfl) (pe_ix ix_seq (pe_lc (own := [("_law_one", 11)]) rfl sc__law_right.nd (pi_seq (pe_tupN (pa_cons pe_str (pa_cons pe_str pa_nil)))) (blkOk_by (N := N__law_right) (sc := defScope s__law_right) (own := [("_law_one", 11)]) (by decide +kernel)) (fun _ _ _ _ _ => (pg_name (i := 11) sc__law_right.nd rfl (by first | exact Or.inl rfl | exact Or.inr rfl))) (fun _ _ _ _ _ => (pts_one (pt_cmpR op_notIn_seq (pv 11) (pv 3) (by rfl)))) (fun _ _ _ _ _ => (pv 11))) pe_int (fun _ _ => rfl)))
      (pss_one (ps_if (PW.pt (pw_or (pt_cmpR (op_neD hr.units) (pe_lc (own := [("_law_odd", 12)]) rfl sc__law_right.nd (pi_seq (pe_tupN (pa_cons (pv 10) (pa_cons pe_str (pa_cons pe_str pa_nil))))) (blkOk_by (N := N__law_right) (sc := defScope s__law_right) (own := [("_law_odd", 12)]) (by decide +kernel)) (fun _ _ _ _ _ => (pg_name (i := 12) sc__law_right.nd rfl (by first | exact Or.inl rfl | exact Or.inr rfl))) (fun _ _ _ _ _ => pts_nil) (fun _ _ _ _ _ => (pe_calB C__law_refused (hr.mono l__law_refused) (by rfl) (pa_cons (pv 5) (pa_cons (pv 12) pa_nil))))) (pe_lst (pa_cons (pv 10) (pa_cons pe_str (pa_cons pe_str pa_nil)))) (nomark _)) (pw_or1 (pt_cmpR (op_neD hr.units) (pe_callB (cr_repr hr) rfl m_repr PyProof.Rows.boot_repr (pa_cons (pv 5) pa_nil)) (pv 6) (nomark _))))) (pss_one (ps_ret pe_bl)) pss_nil))))))))))
      (pss_one (ps_ret pe_bl))),
    (tsj_seq (tsj_for (tij_range1 (taj_cons tj_int taj_nil)) (tgj_name 1) (tsj_seq (tsj_asg (tj_callT (taj_cons (tj_var 0) (taj_cons tj_int (taj_cons tj_int taj_nil))) (cons_len (cons_len (cons_len nil_len)))))
      (tsj_seq (tsj_asg (tj_callT (taj_cons (tj_var 0) (taj_cons (tj_var 2) taj_nil)) (cons_len (cons_len nil_len))))
      (tsj_seq (tsj_asg (tj_fz (tj_callV (taj_cons (tj_var 2) (taj_cons (tj_var 3) taj_nil)) (cons_len (cons_len nil_len)))))
      (tsj_seq (tsj_if (ttj_val (tj_op vr_eqD (tj_callT (taj_cons (tj_var 0) (taj_cons tj_int taj_nil)) (cons_len (cons_len nil_len))) tj_int)) (tsj_asg (tj_fz (tj_callT (taj_cons (tj_var 0) (taj_cons (tj_var 3) (taj_cons (tj_callT (taj_cons (tj_var 0) (taj_cons (tj_op vr_addU (tj_cb vr_len (taj_cons (tj_var 3) taj_nil)) tj_int) taj_nil)) (cons_len (cons_len nil_len))) taj_nil))) (cons_len (cons_len (cons_len nil_len)))))) tsj_next)
      (tsj_seq (tsj_parT (is := [5, 6]) (taj_cons (tj_tup (taj_cons (tj_var 3) (taj_cons (tj_var 4) taj_nil))) (taj_cons (tj_cb vr_repr (taj_cons (tj_tup (taj_cons (tj_var 3) (taj_cons (tj_var 4) taj_nil))) taj_nil)) taj_nil)) rfl (by decide))
      (tsj_seq (tsj_for (tij_seq (tj_var 3)) (tgj_name 7) (tsj_seq (tsj_asg (tj_callV (taj_cons (tj_var 5) (taj_cons (tj_var 7) taj_nil)) (cons_len (cons_len nil_len))))
      (tsj_seq (tsj_asg (tj_fz (tj_lst (taj_cons (tj_callV (taj_cons (tj_var 5) (taj_cons (tj_var 7) taj_nil)) (cons_len (cons_len nil_len))) (taj_cons (tj_callK (is := [1, 0]) (by decide) rfl (taj_cons (tj_var 7) (taj_cons (tj_lst (taj_cons (tj_fz (tj_cb vr_list (taj_cons (tj_var 3) taj_nil))) (taj_cons (tj_cb vr_tuple (taj_cons (tj_var 4) taj_nil)) taj_nil))) taj_nil)) (cons_len (cons_len nil_len))) taj_nil)))))
      (tsj_if (ttj_not (ttj_B (tj_callV (taj_cons (tj_var 9) (taj_cons (tj_lst (taj_cons (tj_var 8) (taj_cons (tj_var 8) taj_nil))) taj_nil)) (cons_len (cons_len nil_len))))) (tsj_ret tj_bl) tsj_next))))
      (tsj_seq (tsj_asg (tj_op vr_ix (tj_lc (ks := [11]) (tij_seq (tj_tup (taj_cons tj_str (taj_cons tj_str taj_nil)))) (tgj_name 11) (ttj_val (tj_op vr_in (tj_var 11) (tj_var 3))) (tj_var 11) (by decide)) tj_int))
      (tsj_if (ttj_or (ttj_val (tj_op vr_neD (tj_lc (ks := [12]) (tij_seq (tj_tup (taj_cons (tj_var 10) (taj_cons tj_str (taj_cons tj_str taj_nil))))) (tgj_name 12) ttj_yes (tj_callV (taj_cons (tj_var 5) (taj_cons (tj_var 12) taj_nil)) (cons_len (cons_len nil_len))) (by decide)) (tj_lst (taj_cons (tj_var 10) (taj_cons tj_str (taj_cons tj_str taj_nil)))))) (ttj_val (tj_op vr_neD (tj_cb vr_repr (taj_cons (tj_var 5) taj_nil)) (tj_var 6)))) (tsj_ret tj_bl) tsj_next)))))))))
      (tsj_ret tj_bl))⟩
theorem ok_law {P : Program} {w : World} {K : PySem.W.Frag} {mg : Str → Option Value} {base : Heap} {k : Nat} {f : Addr} {fd : FuncData} (F : Fun K "law" "law" s_law f fd) {lev__law_folded : Nat} (C__law_folded : Cal P w K mg base "_law_folded" ["_law_script", "_law_many"] lev__law_folded (spFold K)) (l__law_folded : lev__law_folded ≤ k) {lev__law_right : Nat} (C__law_right : Cal P w K mg base "_law_right" ["_law_tape_here"] lev__law_right (spD K mg 1 d__law_right)) (l__law_right : lev__law_right ≤ k) {lev__law_tape : Nat} (C__law_tape : Cal P w K mg base "_law_tape" ["_law_script", "_law_k"] lev__law_tape (spD K mg 2 d__law_tape)) (l__law_tape : lev__law_tape ≤ k) (m_range : mg "range" = none) (m_max : mg "max" = none) (m_len : mg "len" = none)
    (L : ∀ ms : List Int, ms.length ≤ 3 → ∃ ρ1, g_law (ini1 3 (ms.map PyData.int)) = .ok (.rt (.fr (.bool true))) ρ1) :
    FnG P w K mg base (L2.CX P w) (k + 1) f fd ["_law_script"] (spLaw K) :=
  okG F sc_law (fun vs H Q E h => by obtain ⟨_, _, rfl, _⟩ := h; rfl) fun cdv A outer s H vs Q E hr h => by
    obtain ⟨a, ns, rfl, hS, hl, q⟩ := h
    refine ⟨_, pss_cons (ps_set (i := 1) sc_law.nd rfl (Or.inl rfl) (pe_calG (E := fun _ => E) C__law_folded (hr.mono l__law_folded) rfl (fun σ => passAt (takes_of rfl rfl rfl rfl) σ) (pa_cons (pv 0) (pa_cons pe_int pa_nil))))
      (pss_cons (ps_for (passes_of rfl) rfl (pi_range1 rfl m_range (pa_cons (pe_callB (call_max2 rfl) rfl m_max boot_max (pa_cons pe_int (pa_cons (pe_callB call_len rfl m_len PySem.boot_len (pa_cons (pv 1) pa_nil)) pa_nil))) pa_nil)) (pg_name (i := 2) sc_law.nd rfl (Or.inl rfl)) (pss_one (ps_if (pt_not (pt_val (pe_cal (E := fun _ => E) C__law_right (hr.mono l__law_right) rfl (fun σ => passAt (takes_of rfl rfl rfl rfl) σ) (pa_cons (pe_cal (E := fun _ => E) C__law_tape (hr.mono l__law_tape) rfl (fun σ => passAt (takes_of rfl rfl rfl rfl) σ) (pa_cons (pv 1) (pa_cons (pv 2) pa_nil))) pa_nil)))) (pss_one (ps_ret pe_bl)) pss_nil)))
      (pss_one (ps_ret pe_bl))), ?_⟩
    refine ⟨.ref a, rfl, a, ns, 3, rfl, hS, hl, by decide, by decide, fun H' p ms sm np e el => ?_⟩
    obtain ⟨ρ1, hg⟩ := L ms (by rw [el]; exact Nat.min_le_left _ _)
    exact law_rest (Ex := E) (N := 3) (tsj_seq (tsj_for (tij_range1 (taj_cons (tj_cb vr_max2 (taj_cons tj_int (taj_cons (tj_cb vr_len (taj_cons (tj_var 1) taj_nil)) taj_nil))) taj_nil)) (tgj_name 2) (tsj_if (ttj_not (ttj_B (tj_callO (taj_cons (tj_callV (taj_cons (tj_var 1) (taj_cons (tj_var 2) taj_nil)) (cons_len (cons_len nil_len))) taj_nil) ))) (tsj_ret tj_bl) tsj_next))
      (tsj_ret tj_bl)) (by decide) e hg q
end TX

namespace TX
open PySem PySem.Spec PyProof.Rows L2 RZ DL
/-! ### what is raised, by rules -/
section
variable {A B : Evn → Res Fl} {c1 : Evn → Res Bool} {f : Evn → Res Sl} {ρ ρ1 ρ2 : Evn} {c : Str} {d : PyData}
theorem xc_seq (h : A ρ = .exc c d ρ1) : fSeq A B ρ = .exc c d ρ1 := by rw [fSeq, h]; rfl
theorem xc_ifT (h1 : c1 ρ = .ok true ρ1) (h2 : A ρ1 = .exc c d ρ2) : fIfS c1 A B ρ = .exc c d ρ2 := by rw [fIfS, h1]; exact h2
theorem xc_ifF (h1 : c1 ρ = .ok false ρ1) (h2 : B ρ1 = .exc c d ρ2) : fIfS c1 A B ρ = .exc c d ρ2 := by rw [fIfS, h1]; exact h2
theorem xc_raise (h : f ρ = .ok (.fr d) ρ1) : fRaise c f ρ = .exc c d ρ1 := by rw [fRaise, fFz, h]; rfl
theorem xc_drop (h : f ρ = .exc c d ρ1) : fDrop f ρ = .exc c d ρ1 := by rw [fDrop, h]; rfl
theorem xc_asg {i : Nat} (h : f ρ = .exc c d ρ1) : fAsg i f ρ = .exc c d ρ1 := by rw [fAsg, h]; rfl
theorem xc_fin {g : Evn → Res Fl} (h : g ρ = .exc c d ρ1) : finR none (g ρ) = .exc c d none := by rw [h]; rfl
theorem xc_call {den : Option Cn → List PyData → Ret} {fa : Evn → Res (List Sl)} {ss : List Sl} {ds : List PyData} (h : fa ρ = .ok ss ρ1) (r : rds ρ1 ss = some ds) (e : den none ds = .exc c d none) (hn : (allFr ss || noLst d) = true) : fCallV den fa ρ = .exc c d ρ1 := by
  rw [fCallV, h]
  simp only [Res.bind, callV, r, e, hn, if_true]
theorem xc_try {i j : Nat} {gN : Evn → Res Fl} {hd : Str → Option (PyData → PyData)} {r : PyData → PyData} (h : A ρ = .exc c d ρ1) (e : hd c = some r) (hi : i < ρ1.length) : fTry i j A gN hd ρ = .ok (.rt (.fr (r d))) ((ρ1.set i none).set j none) := by
  simp only [fTry, h, e, hi, if_true]
theorem xc_tryN {i j : Nat} {gN : Evn → Res Fl} {hd : Str → Option (PyData → PyData)} (h : A ρ = .ok .nx ρ1) : fTry i j A gN hd ρ = gN ρ1 := by
  simp only [fTry, h]
end
end TX

namespace TX
open PySem PySem.Spec PyProof.Rows L2 RZ DL
theorem mulI {i j : Int} (h : mulOk i j = true) : mulOp (.int i) (.int j) = some (.fr (.int (i * j))) := by simp [mulOp, op2I, h]
theorem divI {i j : Int} (h : divOk j = true) : divOp (.int i) (.int j) = some (.fr (.int (i / j))) := by simp [divOp, op2I, h]
theorem modI {i j : Int} (h : 0 < j) : modOp (.int i) (.int j) = some (.fr (.int (i % j))) := by simp [modOp, op2I, h]
theorem powI {i j : Int} (h : powOk i j = true) : powOp (.int i) (.int j) = some (.fr (.int (i ^ j.toNat))) := by simp [powOp, op2I, h]
theorem addI {i j : Int} : addOp (.int i) (.int j) = some (.fr (.int (i + j))) := rfl
theorem subI {i j : Int} : subOp (.int i) (.int j) = some (.fr (.int (i - j))) := rfl
theorem gtI {i j : Int} : gtOp (.int i) (.int j) = some (.fr (.bool (decide (j < i)))) := rfl
theorem geI {i j : Int} : geOp (.int i) (.int j) = some (.fr (.bool (decide (j ≤ i)))) := rfl
theorem ltI {i j : Int} : ltOp (.int i) (.int j) = some (.fr (.bool (decide (i < j)))) := rfl
theorem ix0 {a b c : PyData} : ixOp (.list [a, b, c]) (.int 0) = some (.fr a) := rfl
theorem ix1 {a b c : PyData} : ixOp (.list [a, b, c]) (.int 1) = some (.fr b) := rfl
theorem ix2 {a b c : PyData} : ixOp (.list [a, b, c]) (.int 2) = some (.fr c) := rfl
theorem draw1 {x y t n : Int} (hx : 0 < x) (hn : 0 < n) (hn2 : n ≤ 10000000) :
    d__law_draw (some (.lst [.int x, .int y, .int t])) [.int n] = .ok (.fr (.int (x % n))) (some (.lst [.int (x / n), .int y, .int t])) := by
  have h1 : divOk n = true := by simp only [divOk, decide_eq_true_eq]; omega
  simp [d__law_draw, denB, ini, coN, g__law_draw, fSeq, fIfS, fTest, fOp, fVar, fC, fAsg, fSetAt, fRet, fFz, frz, put1, finR, finC, retS, Res.bind, ofOpt, rd, rd0, Cn.rd, Sl.own, Sl.put, asB, ix0, ix1, ix2, addI, subI, gtI, divI h1, modI hn, hx]
end TX

namespace TX
open PySem PySem.Spec PyProof.Rows L2 RZ DL
theorem mulS1 {i j : Int} (h1 : -(2 ^ 64) < i) (h2 : i < 2 ^ 64) : mulOk i j = true := by unfold mulOk; exact decide_eq_true (.inl ⟨h1, h2⟩)
theorem mulS2 {i j : Int} (h1 : -(2 ^ 64) < j) (h2 : j < 2 ^ 64) : mulOk i j = true := by unfold mulOk; exact decide_eq_true (.inr ⟨h1, h2⟩)
theorem divK {j : Int} (h1 : 0 < j) (h2 : j < 2 ^ 64) : divOk j = true := decide_eq_true ⟨h1, h2⟩
def onceOf (y t : Int) : Int := (y + 39373 * t) ^ 5 % 2147483647
def twiceOf (y t : Int) : Int := (onceOf y t + t) * (onceOf y t % 40009 + 7 + t) % 2147483629
def wideOf (y t : Int) : Int := (y / 2147483647 + twiceOf y t * 40009 + t) % 2305843009213693951
def drawOf (y t n : Int) : Int := (twiceOf y t * 48271 + wideOf y t * 39373 + onceOf y t) % 2305843009213693921 / 64 % n
theorem draw2 {y t n : Int} (hy : 0 ≤ y) (hy2 : y < 4611686018427387904) (ht : 0 ≤ t) (ht2 : t < 10000) (hn : 0 < n) :
    d__law_draw (some (.lst [.int 0, .int y, .int t])) [.int n] = .ok (.fr (.int (drawOf y (t + 1) n))) (some (.lst [.int 0, .int y, .int (t + 1)])) := by
  have h1 : mulOk 39373 (t + 1) = true := mulS1 (by decide) (by decide)
  have h2 : powOk (y + 39373 * (t + 1)) 5 = true := by unfold powOk; exact decide_eq_true ⟨by decide, by decide, by omega⟩
  have o1 : onceOf y (t + 1) < 2147483647 := Int.emod_lt_of_pos _ (by decide)
  have o2 : 0 ≤ onceOf y (t + 1) := Int.emod_nonneg _ (by decide)
  have w1 : twiceOf y (t + 1) < 2147483629 := Int.emod_lt_of_pos _ (by decide)
  have w2 : 0 ≤ twiceOf y (t + 1) := Int.emod_nonneg _ (by decide)
  have h3 : mulOk (onceOf y (t + 1) + (t + 1)) (onceOf y (t + 1) % 40009 + 7 + (t + 1)) = true := mulS1 (by omega) (by omega)
  have h4 : ∀ x : Int, mulOk x 40009 = true := fun x => mulS2 (by decide) (by decide)
  have h5 : ∀ x : Int, mulOk x 48271 = true := fun x => mulS2 (by decide) (by decide)
  have h6 : ∀ x : Int, mulOk x 39373 = true := fun x => mulS2 (by decide) (by decide)
  have h7 : divOk 2147483647 = true := by decide
  have h8 : divOk 64 = true := by decide
  have e1 : modOp (.int ((y + 39373 * (t + 1)) ^ 5)) (.int 2147483647) = some (.fr (.int (onceOf y (t + 1)))) := modI (by decide)
  have e2 : modOp (.int ((onceOf y (t + 1) + (t + 1)) * (onceOf y (t + 1) % 40009 + 7 + (t + 1)))) (.int 2147483629) = some (.fr (.int (twiceOf y (t + 1)))) := modI (by decide)
  have e3 : modOp (.int (y / 2147483647 + twiceOf y (t + 1) * 40009 + (t + 1))) (.int 2305843009213693951) = some (.fr (.int (wideOf y (t + 1)))) := modI (by decide)
  have e4 : modOp (.int (onceOf y (t + 1))) (.int 40009) = some (.fr (.int (onceOf y (t + 1) % 40009))) := modI (by decide)
  have e5 : ∀ x : Int, modOp (.int x) (.int 2305843009213693921) = some (.fr (.int (x % 2305843009213693921))) := fun x => modI (by decide)
  have e6 : powOp (.int (y + 39373 * (t + 1))) (.int 5) = some (.fr (.int ((y + 39373 * (t + 1)) ^ 5))) := powI h2
  have e7 : modOp (.int ((twiceOf y (t + 1) * 48271 + wideOf y (t + 1) * 39373 + onceOf y (t + 1)) % 2305843009213693921 / 64)) (.int n) = some (.fr (.int (drawOf y (t + 1) n))) := modI hn
  simp [d__law_draw, denB, ini, coN, g__law_draw, fSeq, fIfS, fTest, fOp, fVar, fC, fAsg, fSetAt, fRet, fFz, frz, put1, finR, finC, retS, Res.bind, ofOpt, rd, rd0, Cn.rd, Sl.own, Sl.put, asB, ix0, ix1, ix2, addI, subI, gtI, mulI h1, mulI h3, mulI (h4 _), mulI (h5 _), mulI (h6 _), divI h7, divI h8, e1, e2, e3, e4, e5, e6, e7, fNext]
end TX

namespace TX
open PySem PySem.Spec PyProof.Rows L2 RZ DL
/-! ### the tape -/
structure IsTape (T : Int) (c : List PyData) : Prop where
  ex : ∃ x y t : Int, c = [.int x, .int y, .int t] ∧ 0 ≤ x ∧ 0 ≤ y ∧ y < 4611686018427387904 ∧ 0 ≤ t ∧ t ≤ T
theorem IsTape.mono {T T' : Int} {c : List PyData} (h : IsTape T c) (l : T ≤ T') : IsTape T' c := by
  obtain ⟨x, y, t, e, h1, h2, h3, h4, h5⟩ := h
  exact ⟨x, y, t, e, h1, h2, h3, h4, by omega⟩
theorem draw_ok {T n : Int} {c : List PyData} (h : IsTape T c) (hT : T < 9999) (hn : 0 < n) (hn2 : n ≤ 10000000) :
    ∃ (v : Int) (c' : List PyData), d__law_draw (some (.lst c)) [.int n] = .ok (.fr (.int v)) (some (.lst c')) ∧ 0 ≤ v ∧ v < n ∧ IsTape (T + 1) c' := by
  obtain ⟨x, y, t, rfl, h1, h2, h3, h4, h5⟩ := h
  by_cases hx : 0 < x
  · exact ⟨_, _, draw1 hx hn hn2, Int.emod_nonneg _ (by omega), Int.emod_lt_of_pos _ hn, ⟨_, _, _, rfl, Int.ediv_nonneg h1 (by omega), h2, h3, h4, by omega⟩⟩
  · have e : x = 0 := by omega
    subst e
    exact ⟨_, _, draw2 h2 h3 h4 (by omega) hn, Int.emod_nonneg _ (by omega), Int.emod_lt_of_pos _ hn, ⟨_, _, _, rfl, Int.le_refl _, h2, h3, by omega, by omega⟩⟩
/-- a draw in a def that was handed the tape -/
theorem ev_draw {T n : Int} {c : List PyData} {r : Evn} {f : Evn → Res Sl} (hf : f (some (.io 0 (.lst c)) :: r) = .ok (.fr (.int n)) (some (.io 0 (.lst c)) :: r)) (h : IsTape T c) (hT : T < 9999) (hn : 0 < n) (hn2 : n ≤ 10000000) :
    ∃ (v : Int) (c' : List PyData), fCallT d__law_draw (fCons (fVar 0) (fCons f fNil)) (some (.io 0 (.lst c)) :: r) = .ok (.fr (.int v)) (some (.io 0 (.lst c')) :: r) ∧ 0 ≤ v ∧ v < n ∧ IsTape (T + 1) c' := by
  obtain ⟨v, c', e, h1, h2, h3⟩ := draw_ok h hT hn hn2
  refine ⟨v, c', ?_, h1, h2, h3⟩
  simp [fCallT, fCons, fVar, fNil, Res.bind, hf, callT, Sl.own, rds, rd, rd0, noBr, e, allFr, isFr, Sl.put]
/-- the tape of a script -/
theorem tape_ok (ms : List Int) (k : Nat) (hk : k < 1000) (hm : ms.length ≤ 63) : ∃ c, d__law_tape none [.list (ms.map PyData.int), .int k] = .ok (.ow (.lst c)) none ∧ IsTape 0 c := by
  have key : ∀ x : Int, fRet (fLst (fCons (fOp mulOp (fCB absOp (fCons (fVar 2) fNil)) (fCB intOp (fCons (fOp geOp (fCB absOp (fCons (fVar 2) fNil)) (fOp powOp (fC (.int 10)) (fC (.int 18)))) fNil))) (fCons (fOp addOp (fOp addOp (fOp modOp (fVar 2) (fC (.int 2305843009213693951))) (fOp mulOp (fC (.int 39373)) (fVar 1))) (fC (.int 17))) (fCons (fC (.int 0)) fNil)))) [some (.fr (.list (ms.map PyData.int))), some (.fr (.int k)), some (.fr (.int x))]
      = .ok (.rt (.ow (.lst [.int ((if x < 0 then -x else x) * (if (1000000000000000000 : Int) ≤ (if x < 0 then -x else x) then 1 else 0)), .int (x % 2305843009213693951 + 39373 * k + 17), .int 0]))) [some (.fr (.list (ms.map PyData.int))), some (.fr (.int k)), some (.fr (.int x))] := by
    intro x
    have h1 : ∀ (z : Int) (p : Prop) [Decidable p], mulOp (.int z) (.int (if p then 1 else 0)) = some (.fr (.int (z * (if p then 1 else 0)))) := fun z p _ => mulI (mulS2 (by split <;> decide) (by split <;> decide))
    have h2 : mulOp (.int 39373) (.int (k : Int)) = some (.fr (.int (39373 * k))) := mulI (mulS1 (by decide) (by decide))
    have h3 : powOp (.int 10) (.int 18) = some (.fr (.int 1000000000000000000)) := powI (by decide)
    have h4 : modOp (.int x) (.int 2305843009213693951) = some (.fr (.int (x % 2305843009213693951))) := modI (by decide)
    simp [fRet, fLst, fCons, fOp, fCB, fVar, fC, fNil, Res.bind, ofOpt, rds, rd, rd0, absOp, DL.intOp, geI, addI, h1, h2, h3, h4, DL.frs]
  have hl : ∃ x : Int, fAsg 2 (fIf (fTest (fOp ltOp (fVar 1) (fCB lenOp (fCons (fVar 0) fNil)))) (fOp ixOp (fVar 0) (fVar 1)) (fC (.int 0))) [some (.fr (.list (ms.map PyData.int))), some (.fr (.int k)), none] = .ok .nx [some (.fr (.list (ms.map PyData.int))), some (.fr (.int k)), some (.fr (.int x))] := by
    have hlen : lenOp [.list (ms.map PyData.int)] = some (.fr (.int ms.length)) := by
      simp [lenOp]
    by_cases h : k < ms.length
    · have hix : ixOp (.list (ms.map PyData.int)) (.int k) = some (.fr (.int ms[k])) := by
        simp [ixOp, ixD, h]
      exact ⟨ms[k], by simp [fAsg, fIf, fTest, fOp, fVar, fC, fCB, fCons, fNil, Res.bind, ofOpt, rds, rd, rd0, hlen, ltI, asB, h, hix, put1]⟩
    · exact ⟨0, by simp [fAsg, fIf, fTest, fOp, fVar, fC, fCB, fCons, fNil, Res.bind, ofOpt, rds, rd, rd0, hlen, ltI, asB, h, put1]⟩
  obtain ⟨x, hx⟩ := hl
  refine ⟨[.int ((if x < 0 then -x else x) * (if (1000000000000000000 : Int) ≤ (if x < 0 then -x else x) then 1 else 0)), .int (x % 2305843009213693951 + 39373 * k + 17), .int 0], ?_, ⟨⟨_, _, _, rfl, ?_, ?_, ?_, Int.le_refl _, Int.le_refl _⟩⟩⟩
  · show finR none (fSeq (fAsg 2 _) (fRet _) [some (.fr (.list (ms.map PyData.int))), some (.fr (.int k)), none]) = _
    simp only [fSeq, hx, Res.bind, key x, finR, finC, retS]
  · apply Int.mul_nonneg
    · split <;> omega
    · split <;> omega
  · have := Int.emod_nonneg x (show (2305843009213693951 : Int) ≠ 0 by decide)
    omega
  · have := Int.emod_lt_of_pos x (show (0 : Int) < 2305843009213693951 by decide)
    omega
end TX

namespace TX
open PySem PySem.Spec PyProof.Rows L2 RZ DL
abbrev letters : Str := "abcdefghijklmnopqrstuvwxyz"
theorem letters_eq : letters.cps.toList = (List.range 26).map (97 + ·) := by decide +kernel
theorem letters_ix {v : Int} (h : 0 ≤ v) (h2 : v < 26) : ixOp (.str letters) (.int v) = some (.fr (.str ⟨#[97 + v.toNat]⟩)) := by
  obtain ⟨n, rfl⟩ := Int.eq_ofNat_of_zero_le h
  have hn : n < 26 := by omega
  have hl : letters.length ≤ 100000 := by decide +kernel
  unfold ixOp
  simp only [if_pos hl]
  rw [letters_eq]
  have e : ixD 26 (n : Int) = some n := by
    unfold ixD
    rw [if_pos (by omega), if_pos (by omega)]
    rfl
  rw [List.length_map, List.length_range, e]
  simp only []
  rw [List.getElem?_map, List.getElem?_range hn]
  rfl
theorem ok26 {ρ : Evn} : fC (.int 26) ρ = .ok (.fr (.int 26)) ρ := rfl
/-- all signs are small letters -/
def Lett (x : Str) : Prop := ∀ c ∈ x.cps.toList, 97 ≤ c ∧ c < 123
theorem stem_turns {N S : PyData} {r : Evn} : ∀ (ds acc : List PyData) (c : List PyData) (T : Int), IsTape T c → T + ds.length < 9999 → ∃ (cs : List Str) (c' : List PyData),
    fTurns [5] (gNm 5) (fun ρ => .ok true ρ) (fOp ixOp (fVar 2) (fCallT d__law_draw (fCons (fVar 0) (fCons (fC (.int 26)) fNil)))) ds acc (some (.io 0 (.lst c)) :: some (.fr N) :: some (.fr (.str letters)) :: some (.fr S) :: none :: none :: r)
      = .ok (acc ++ cs.map PyData.str) (some (.io 0 (.lst c')) :: some (.fr N) :: some (.fr (.str letters)) :: some (.fr S) :: none :: none :: r) ∧ cs.length = ds.length ∧ (∀ s ∈ cs, s.length = 1 ∧ PyData.strOk s = true ∧ Lett s) ∧ IsTape (T + ds.length) c'
  | [], acc, c, T, h, hT => ⟨[], c, by simp [fTurns], rfl, fun _ h => (by cases h), IsTape.mono h (by simp)⟩
  | d :: ds, acc, c, T, h, hT => by
    have hT' : T + (ds.length + 1) < 9999 := by simpa using hT
    obtain ⟨v, c1, e, v0, v1, h1⟩ := ev_draw (r := some (.fr N) :: some (.fr (.str letters)) :: some (.fr S) :: none :: some (.fr d) :: r) (f := fC (.int 26)) rfl h (by omega) (by decide) (by decide)
    obtain ⟨cs, c', e2, l2, l3, h2⟩ := stem_turns ds (acc ++ [.str ⟨#[97 + v.toNat]⟩]) c1 (T + 1) h1 (by omega)
    refine ⟨⟨#[97 + v.toNat]⟩ :: cs, c', ?_, by simp [l2], ?_, ?_⟩
    · rw [fTurns]
      simp only [gNm, List.length_cons, List.set_cons_succ, List.set_cons_zero]
      rw [if_pos (by omega)]
      simp only [Res.bind, if_true, fFz, fOp, fVar, List.getElem?_cons_succ, List.getElem?_cons_zero, e, rd, rd0, letters_ix v0 v1, ofOpt, frz, wipeE, List.set_cons_succ, List.set_cons_zero]
      rw [e2]
      simp
    · intro s hs
      rcases List.mem_cons.mp hs with rfl | hs
      · have : v.toNat < 26 := by omega
        refine ⟨rfl, ?_, ?_⟩
        · simp [PyData.strOk]
          omega
        · intro c hc
          simp at hc
          omega
      · exact l3 s hs
    · exact h2.mono (by simp; omega)
theorem strsD_map : ∀ cs : List Str, strsD (cs.map PyData.str) = some cs
  | [] => rfl
  | c :: cs => by simp [strsD, strsD_map cs]
theorem app_len (a b : Str) : (a ++ b).length = a.length + b.length := Array.size_append
theorem join_len : ∀ cs : List Str, (∀ s ∈ cs, s.length = 1) → (Str.join "" cs).length = cs.length
  | [], _ => rfl
  | [x], h => h x List.mem_cons_self
  | x :: y :: r, h => by
    have e : (("" : Str).length) = 0 := by decide +kernel
    show (x ++ "" ++ Str.join "" (y :: r)).length = _
    rw [app_len, app_len, e, h x List.mem_cons_self, join_len (y :: r) fun s hs => h s (List.mem_cons_of_mem _ hs)]
    simp only [List.length_cons]
    omega
theorem sum_len : ∀ cs : List Str, (∀ s ∈ cs, s.length = 1) → (cs.map (·.length)).sum = cs.length
  | [], _ => rfl
  | c :: cs, h => by
    rw [List.map_cons, List.sum_cons, h c List.mem_cons_self, sum_len cs fun s hs => h s (List.mem_cons_of_mem _ hs), List.length_cons]
    omega
theorem ok_app {a b : Str} (h : PyData.strOk a = true) (h2 : PyData.strOk b = true) : PyData.strOk (a ++ b) = true := by
  unfold PyData.strOk at *
  show (a.cps ++ b.cps).all _ = true
  rw [Array.all_append, h, h2]
  rfl
theorem ok_iff {a : Str} : PyData.strOk a = true ↔ ∀ c ∈ a.cps.toList, c < 0x110000 := by
  unfold PyData.strOk
  rw [← Array.all_toList, List.all_eq_true]
  exact ⟨fun h c hc => of_decide_eq_true (h c hc), fun h c hc => decide_eq_true (h c hc)⟩
theorem ok_cut {a : Str} (h : PyData.strOk a = true) (lo hi : Option Int) : PyData.strOk (cutS a lo hi) = true := by
  rw [ok_iff] at *
  intro c hc
  unfold cutS at hc
  exact h c (List.mem_of_mem_drop (List.mem_of_mem_take hc))
theorem cut_len {a : Str} (lo hi : Option Int) : (cutS a lo hi).length ≤ a.length := by
  unfold cutS Str.length
  simp only [List.size_toArray, List.length_take, List.length_drop]
  have : a.cps.toList.length = a.cps.size := rfl
  omega
theorem ok_empty : PyData.strOk "" = true := by decide +kernel
theorem join_ok : ∀ cs : List Str, (∀ s ∈ cs, PyData.strOk s = true) → PyData.strOk (Str.join "" cs) = true
  | [], _ => by decide +kernel
  | [x], h => h x List.mem_cons_self
  | x :: y :: r, h => ok_app (ok_app (h x List.mem_cons_self) ok_empty) (join_ok (y :: r) fun s hs => h s (List.mem_cons_of_mem _ hs))
theorem lett_app {a b : Str} (h : Lett a) (h2 : Lett b) : Lett (a ++ b) := by
  intro c hc
  have e : (a ++ b).cps.toList = a.cps.toList ++ b.cps.toList := Array.toList_append
  rw [e] at hc
  rcases List.mem_append.mp hc with z | z
  · exact h c z
  · exact h2 c z
theorem lett_cut {a : Str} (h : Lett a) (lo hi : Option Int) : Lett (cutS a lo hi) := by
  intro c hc
  unfold cutS at hc
  exact h c (List.mem_of_mem_drop (List.mem_of_mem_take hc))
theorem lett_empty : Lett "" := by
  intro c hc
  have e : (("" : Str).cps.toList) = [] := by decide +kernel
  rw [e] at hc
  cases hc
theorem lett_join : ∀ cs : List Str, (∀ s ∈ cs, Lett s) → Lett (Str.join "" cs)
  | [], _ => lett_empty
  | [x], h => h x List.mem_cons_self
  | x :: y :: r, h => lett_app (lett_app (h x List.mem_cons_self) lett_empty) (lett_join (y :: r) fun s hs => h s (List.mem_cons_of_mem _ hs))
end TX

namespace TX
open PySem PySem.Spec PyProof.Rows L2 RZ DL
def wayOf (sh at' : Int) (stem tail : Str) : Int := (sh + at' + stem.length) % 3 * (if (!(tail == ("" : Str))) = true then 1 else 0)
theorem way_lt {sh at' : Int} {stem tail : Str} : 0 ≤ wayOf sh at' stem tail ∧ wayOf sh at' stem tail < 3 ∧ (tail = "" → wayOf sh at' stem tail = 0) := by
  unfold wayOf
  have h1 := Int.emod_nonneg (sh + at' + stem.length) (show (3 : Int) ≠ 0 by decide)
  have h2 := Int.emod_lt_of_pos (sh + at' + stem.length) (show (0 : Int) < 3 by decide)
  refine ⟨?_, ?_, fun h => ?_⟩
  · split <;> omega
  · split <;> omega
  · subst h
    simp
def signOf (sh stp q : Int) : Str := ⟨#[97 + ((sh + stp * q) % 26).toNat]⟩
def qOf (w : Int) (k : Nat) : Int := if w = 1 then ((k / 2 : Nat) : Int) else k
def sufOf (tail : Str) (w : Int) (k : Nat) : Str := if w = 0 then tail else if w = 1 then (if k % 2 = 0 then Str.empty else tail) else cutS tail none (some ((k % (tail.length + 1) : Nat) : Int))
def nameOf (sh stp : Int) (head tail : Str) (w : Int) (k : Nat) : Str := head ++ signOf sh stp (qOf w k) ++ sufOf tail w k
theorem neS {a b : Str} (ha : PyData.strOk a = true) (hb : PyData.strOk b = true) : eqOp true (.str a) (.str b) = some (.fr (.bool (!(a == b)))) := by
  simp [eqOp, canEq, SeqAt.shaped, PyData.canLay0, PyData.depth, PyData.eqv, ha, hb]
theorem eqS {a b : Str} (ha : PyData.strOk a = true) (hb : PyData.strOk b = true) : eqOp false (.str a) (.str b) = some (.fr (.bool (a == b))) := by
  simp [eqOp, canEq, SeqAt.shaped, PyData.canLay0, PyData.depth, PyData.eqv, ha, hb]
theorem lenS {a : Str} (h : a.length ≤ 100000) : lenOp [.str a] = some (.fr (.int a.length)) := by simp [lenOp, h]
theorem addS {a b : Str} (h : a.length + b.length ≤ 100000) : addOp (.str a) (.str b) = some (.fr (.str (a ++ b))) := by
  simp [addOp, op2I, op2S, h]
/-- slots of _law_names behind its head -/
abbrev envN (c : List PyData) (n : PyData) (sh : Int) (stem : Str) (k5 : Option Sl) (at' stp : Int) (acc : List PyData) (head tail : Str) (x y : Option Sl) : Evn :=
  [some (.io 0 (.lst c)), some (.fr n), some (.fr (.str letters)), some (.fr (.int sh)), some (.fr (.str stem)), k5, some (.fr (.int at')), some (.fr (.int stp)), some (.ow (.lst acc)), some (.fr (.str head)), some (.fr (.str tail)), x, y]
theorem body1 {c : List PyData} {n : PyData} {sh at' stp : Int} {stem head tail : Str} {k5 x y : Option Sl} {acc : List PyData} (hs : stem.length ≤ 100) (ht : PyData.strOk tail = true) :
    fAsg 11 (fOp mulOp (fOp modOp (fOp addOp (fOp addOp (fVar 3) (fVar 6)) (fCB lenOp (fCons (fVar 4) fNil))) (fC (.int 3))) (fCB DL.intOp (fCons (fOp (eqOp true) (fVar 10) (fC (.str ""))) fNil))) (envN c n sh stem k5 at' stp acc head tail x y)
      = .ok .nx (envN c n sh stem k5 at' stp acc head tail (some (.fr (.int (wayOf sh at' stem tail)))) y) := by
  have h1 : mulOp (.int ((sh + at' + stem.length) % 3)) (.int (if (!(tail == ("" : Str))) = true then 1 else 0)) = some (.fr (.int (wayOf sh at' stem tail))) := mulI (mulS2 (by split <;> decide) (by split <;> decide))
  have h2 : modOp (.int (sh + at' + stem.length)) (.int 3) = some (.fr (.int ((sh + at' + stem.length) % 3))) := modI (by decide)
  have h3 := lenS (a := stem) (by omega)
  have h4 : ∀ b : Bool, DL.intOp [.bool b] = some (.fr (.int (if b = true then 1 else 0))) := fun b => rfl
  simp only [envN, fAsg, fOp, fVar, fC, fCB, fCons, fNil, Res.bind, ofOpt, rds, rd, rd0, List.getElem?_cons_zero, List.getElem?_cons_succ, addI, h1, h2, h3, h4, neS ht ok_empty, put1, List.length_cons, List.length_nil, List.set_cons_succ, List.set_cons_zero]
  rfl
theorem body2 {c : List PyData} {n : PyData} {sh at' stp w : Int} {stem head tail : Str} {k : Nat} {y : Option Sl} {acc : List PyData} (w0 : 0 ≤ w) (w3 : w < 3) (hp : -(2 ^ 64) < stp) (hp2 : stp < 2 ^ 64) :
    fAsg 12 (fOp ixOp (fVar 2) (fOp modOp (fOp addOp (fVar 3) (fOp mulOp (fVar 7) (fOp ixOp (fLst (fCons (fVar 5) (fCons (fOp divOp (fVar 5) (fC (.int 2))) (fCons (fVar 5) fNil)))) (fVar 11)))) (fC (.int 26)))) (envN c n sh stem (some (.fr (.int k))) at' stp acc head tail (some (.fr (.int w))) y)
      = .ok .nx (envN c n sh stem (some (.fr (.int k))) at' stp acc head tail (some (.fr (.int w))) (some (.fr (.str (signOf sh stp (qOf w k)))))) := by
  have h1 : mulOp (.int stp) (.int (qOf w k)) = some (.fr (.int (stp * qOf w k))) := mulI (mulS1 hp hp2)
  have h2 : modOp (.int (sh + stp * qOf w k)) (.int 26) = some (.fr (.int ((sh + stp * qOf w k) % 26))) := modI (by decide)
  have h3 : divOp (.int (k : Int)) (.int 2) = some (.fr (.int ((k : Int) / 2))) := divI (by decide)
  have h4 := letters_ix (v := (sh + stp * qOf w k) % 26) (Int.emod_nonneg _ (by decide)) (Int.emod_lt_of_pos _ (by decide))
  have h5 : ixOp (.list [.int (k : Int), .int ((k : Int) / 2), .int (k : Int)]) (.int w) = some (.fr (.int (qOf w k))) := by
    have : w = 0 ∨ w = 1 ∨ w = 2 := by omega
    rcases this with rfl | rfl | rfl
    · rfl
    · rfl
    · rfl
  simp only [envN, fAsg, fOp, fLst, fVar, fC, fCons, fNil, Res.bind, ofOpt, rds, rd, rd0, Cn.rd, List.getElem?_cons_zero, List.getElem?_cons_succ, addI, h1, h2, h3, h4, h5, put1, List.length_cons, List.length_nil, List.set_cons_succ, List.set_cons_zero, fFz, frz, DL.frs, Nat.reduceAdd, Nat.reduceLeDiff, if_true, Nat.reduceLT]
  rfl
theorem body3 {c : List PyData} {n : PyData} {sh at' stp w : Int} {stem head tail sg : Str} {k : Nat} {acc : List PyData} (w0 : 0 ≤ w) (w3 : w < 3) (h1 : head.length ≤ 100) (h2 : tail.length ≤ 100) (h3 : sg.length = 1) (ha : acc.length < 100000) :
    fDrop (fAppend 8 (fOp addOp (fOp addOp (fVar 9) (fVar 12)) (fOp ixOp (fLst (fCons (fVar 10) (fCons (fOp mulOp (fVar 10) (fOp modOp (fVar 5) (fC (.int 2)))) (fCons (fSl (fVar 10) fNoPart (fPart (fOp modOp (fVar 5) (fOp addOp (fCB lenOp (fCons (fVar 10) fNil)) (fC (.int 1)))))) fNil)))) (fVar 11)))) (envN c n sh stem (some (.fr (.int k))) at' stp acc head tail (some (.fr (.int w))) (some (.fr (.str sg))))
      = .ok .nx (envN c n sh stem (some (.fr (.int k))) at' stp (acc ++ [.str (head ++ sg ++ sufOf tail w k)]) head tail (some (.fr (.int w))) (some (.fr (.str sg)))) := by
  have e1 : addOp (.str head) (.str sg) = some (.fr (.str (head ++ sg))) := addS (by omega)
  have e2 : modOp (.int (k : Int)) (.int 2) = some (.fr (.int ((k : Int) % 2))) := modI (by decide)
  have e3 : mulOp (.str tail) (.int ((k : Int) % 2)) = some (.fr (.str (if k % 2 = 0 then Str.empty else tail))) := by
    have : k % 2 = 0 ∨ k % 2 = 1 := by omega
    rcases this with h | h
    · rw [show ((k : Int) % 2) = 0 by omega, if_pos h]
      rfl
    · rw [show ((k : Int) % 2) = 1 by omega, if_neg (by omega)]
      rfl
  have e4 : modOp (.int (k : Int)) (.int ((tail.length : Int) + 1)) = some (.fr (.int ((k % (tail.length + 1) : Nat) : Int))) := by
    rw [modI (by omega)]
    congr 4
  have e5 := lenS (a := tail) (by omega)
  have e6 : slOp (.str tail) none (some ((k % (tail.length + 1) : Nat) : Int)) = some (.fr (.str (cutS tail none (some ((k % (tail.length + 1) : Nat) : Int))))) := by
    simp only [slOp]
    rw [if_pos (by omega)]
  have e7 : ixOp (.list [.str tail, .str (if k % 2 = 0 then Str.empty else tail), .str (cutS tail none (some ((k % (tail.length + 1) : Nat) : Int)))]) (.int w) = some (.fr (.str (sufOf tail w k))) := by
    have : w = 0 ∨ w = 1 ∨ w = 2 := by omega
    rcases this with rfl | rfl | rfl
    · rfl
    · rfl
    · rfl
  have l1 : (sufOf tail w k).length ≤ 100 := by
    unfold sufOf
    split
    · exact h2
    · split
      · split
        · exact Nat.zero_le _
        · exact h2
      · exact Nat.le_trans (cut_len _ _) h2
  have e8 : addOp (.str (head ++ sg)) (.str (sufOf tail w k)) = some (.fr (.str (head ++ sg ++ sufOf tail w k))) := addS (by rw [app_len]; omega)
  simp only [envN, fDrop, fAppend, fSl, fNoPart, fPart, fOp, fLst, fVar, fC, fCB, fCons, fNil, Res.bind, ofOpt, rds, rd, rd0, Cn.rd, List.getElem?_cons_zero, List.getElem?_cons_succ, addI, e1, e2, e3, e4, e5, e6, e7, e8, List.length_cons, List.length_nil, List.set_cons_succ, List.set_cons_zero, fFz, frz, DL.frs, Nat.reduceAdd, Nat.reduceLeDiff, if_true, Nat.reduceLT, Sl.own, Sl.put, if_pos ha]
end TX

namespace TX
open PySem PySem.Spec PyProof.Rows L2 RZ DL
def bodyN : Evn → Res Fl := fSeq (fAsg 11 (fOp mulOp (fOp modOp (fOp addOp (fOp addOp (fVar 3) (fVar 6)) (fCB lenOp (fCons (fVar 4) fNil))) (fC (.int 3))) (fCB DL.intOp (fCons (fOp (eqOp true) (fVar 10) (fC (.str ""))) fNil))))
    (fSeq (fAsg 12 (fOp ixOp (fVar 2) (fOp modOp (fOp addOp (fVar 3) (fOp mulOp (fVar 7) (fOp ixOp (fLst (fCons (fVar 5) (fCons (fOp divOp (fVar 5) (fC (.int 2))) (fCons (fVar 5) fNil)))) (fVar 11)))) (fC (.int 26)))))
    (fDrop (fAppend 8 (fOp addOp (fOp addOp (fVar 9) (fVar 12)) (fOp ixOp (fLst (fCons (fVar 10) (fCons (fOp mulOp (fVar 10) (fOp modOp (fVar 5) (fC (.int 2)))) (fCons (fSl (fVar 10) fNoPart (fPart (fOp modOp (fVar 5) (fOp addOp (fCB lenOp (fCons (fVar 10) fNil)) (fC (.int 1)))))) fNil)))) (fVar 11))))))
theorem bodyN_ok {c : List PyData} {n : PyData} {sh at' stp : Int} {stem head tail : Str} {k : Nat} {x y : Option Sl} {acc : List PyData} (hs : stem.length ≤ 100) (ht : PyData.strOk tail = true) (hp : -(2 ^ 64) < stp) (hp2 : stp < 2 ^ 64) (h1 : head.length ≤ 100) (h2 : tail.length ≤ 100) (ha : acc.length < 100000) :
    bodyN (envN c n sh stem (some (.fr (.int k))) at' stp acc head tail x y) = .ok .nx (envN c n sh stem (some (.fr (.int k))) at' stp (acc ++ [.str (nameOf sh stp head tail (wayOf sh at' stem tail) k)]) head tail (some (.fr (.int (wayOf sh at' stem tail)))) (some (.fr (.str (signOf sh stp (qOf (wayOf sh at' stem tail) k)))))) := by
  obtain ⟨w0, w3, _⟩ := way_lt (sh := sh) (at' := at') (stem := stem) (tail := tail)
  unfold bodyN
  rw [fSeq, body1 hs ht]
  simp only [Res.bind]
  rw [fSeq, body2 w0 w3 hp hp2]
  simp only [Res.bind]
  rw [body3 w0 w3 h1 h2 rfl ha]
  rfl
theorem loopN {c : List PyData} {n : PyData} {sh at' stp : Int} {stem head tail : Str} (hs : stem.length ≤ 100) (ht : PyData.strOk tail = true) (hp : -(2 ^ 64) < stp) (hp2 : stp < 2 ^ 64) (h1 : head.length ≤ 100) (h2 : tail.length ≤ 100) :
    ∀ (m i : Nat) (k5 x y : Option Sl) (acc : List PyData), acc.length + m < 100000 → ∃ k5' x' y', fLoop (gNm 5) bodyN ((List.range' i m).map fun (k : Nat) => PyData.int (k : Int)) (envN c n sh stem k5 at' stp acc head tail x y)
      = .ok .nx (envN c n sh stem k5' at' stp (acc ++ (List.range' i m).map fun k => .str (nameOf sh stp head tail (wayOf sh at' stem tail) k)) head tail x' y')
  | 0, i, k5, x, y, acc, _ => ⟨k5, x, y, by simp [fLoop]⟩
  | m + 1, i, k5, x, y, acc, ha => by
    obtain ⟨k5', x', y', e⟩ := loopN hs ht hp hp2 h1 h2 m (i + 1) (some (.fr (.int i))) (some (.fr (.int (wayOf sh at' stem tail)))) (some (.fr (.str (signOf sh stp (qOf (wayOf sh at' stem tail) i))))) (acc ++ [.str (nameOf sh stp head tail (wayOf sh at' stem tail) i)]) (by simp; omega)
    refine ⟨k5', x', y', ?_⟩
    rw [List.range'_succ, List.map_cons, fLoop]
    have eg : gNm 5 (.int (i : Int)) (envN c n sh stem k5 at' stp acc head tail x y) = some (envN c n sh stem (some (.fr (.int i))) at' stp acc head tail x y) := rfl
    rw [eg]
    simp only []
    rw [bodyN_ok hs ht hp hp2 h1 h2 (by omega)]
    simp only [Res.bind]
    rw [e, List.map_cons]
    simp
end TX

namespace TX
open PySem PySem.Spec PyProof.Rows L2 RZ DL
abbrev no7 : Evn := [none, none, none, none, none, none, none]
theorem stemA {c : List PyData} {N : PyData} {T : Int} (h : IsTape T c) (hT : T < 9000) : ∃ (sh : Int) (c' : List PyData),
    fPar [2, 3] (fCons (fC (.str letters)) (fCons (fCallT d__law_draw (fCons (fVar 0) (fCons (fC (.int 26)) fNil))) fNil)) (some (.io 0 (.lst c)) :: some (.fr N) :: none :: none :: none :: none :: no7)
      = .ok .nx (some (.io 0 (.lst c')) :: some (.fr N) :: some (.fr (.str letters)) :: some (.fr (.int sh)) :: none :: none :: no7) ∧ 0 ≤ sh ∧ sh < 26 ∧ IsTape (T + 1) c' := by
  obtain ⟨v, c1, e, v0, v1, h1⟩ := ev_draw (r := some (.fr N) :: none :: none :: none :: none :: no7) (f := fC (.int 26)) rfl h (by omega) (by decide) (by decide)
  refine ⟨v, c1, ?_, v0, v1, h1⟩
  simp only [fPar, fCons, fC, fNil, Res.bind] at e ⊢
  rw [e]
  rfl
theorem stemB {c : List PyData} {N S : PyData} {T : Int} (h : IsTape T c) (hT : T < 9000) : ∃ (stem : Str) (c' : List PyData),
    fAsg 4 (fM1 joinOp (fC (.str "")) (fLc [5] (fRange1 (fCons (fCallT d__law_draw (fCons (fVar 0) (fCons (fC (.int 8)) fNil))) fNil)) (gNm 5) (fun ρ => .ok true ρ) (fOp ixOp (fVar 2) (fCallT d__law_draw (fCons (fVar 0) (fCons (fC (.int 26)) fNil)))))) (some (.io 0 (.lst c)) :: some (.fr N) :: some (.fr (.str letters)) :: some (.fr S) :: none :: none :: no7)
      = .ok .nx (some (.io 0 (.lst c')) :: some (.fr N) :: some (.fr (.str letters)) :: some (.fr S) :: some (.fr (.str stem)) :: none :: no7) ∧ stem.length ≤ 7 ∧ (PyData.strOk stem = true ∧ Lett stem) ∧ IsTape (T + 9) c' := by
  obtain ⟨v, c1, e, v0, v1, h1⟩ := ev_draw (r := some (.fr N) :: some (.fr (.str letters)) :: some (.fr S) :: none :: none :: no7) (f := fC (.int 8)) rfl h (by omega) (by decide) (by decide)
  have hl : (rng 0 v.toNat).length = v.toNat := by simp [rng]
  obtain ⟨cs, c2, e2, l2, l3, h2⟩ := stem_turns (N := N) (S := S) (r := no7) (rng 0 v.toNat) [] c1 (T + 1) h1 (by rw [hl]; omega)
  rw [hl] at l2 h2
  have hj : joinOp (.str "") (.list (cs.map PyData.str)) = some (.fr (.str (Txt.join "" cs))) := by
    have e0 : (("" : Str).length) = 0 := by decide +kernel
    simp only [joinOp, strsD_map]
    rw [sum_len cs fun s hs => (l3 s hs).1, e0, if_pos (by omega)]
  refine ⟨Txt.join "" cs, c2, ?_, ?_, ?_, h2.mono (by omega)⟩
  · have er : fRange1 (fCons (fCallT d__law_draw (fCons (fVar 0) (fCons (fC (.int 8)) fNil))) fNil) (some (.io 0 (.lst c)) :: some (.fr N) :: some (.fr (.str letters)) :: some (.fr S) :: none :: none :: no7) = .ok (rng 0 v.toNat) (some (.io 0 (.lst c1)) :: some (.fr N) :: some (.fr (.str letters)) :: some (.fr S) :: none :: none :: no7) := by
      rw [fRange1, fCons, e]
      simp only [fNil, Res.bind, rds, rd, rd0]
      rw [if_pos (by omega)]
    rw [fAsg, fM1]
    simp only [fC, Res.bind]
    rw [fLc, er]
    simp only [Res.bind]
    rw [if_pos ⟨by rw [hl]; omega, by simp⟩]
    have ew : wipeE (some (.io 0 (.lst c1)) :: some (.fr N) :: some (.fr (.str letters)) :: some (.fr S) :: none :: none :: no7) [5] = (some (.io 0 (.lst c1)) :: some (.fr N) :: some (.fr (.str letters)) :: some (.fr S) :: none :: none :: no7) := rfl
    rw [ew, e2]
    simp only [noExc, Res.bind, List.nil_append]
    simp only [rd, rd0, Cn.rd, hj, ofOpt, Res.bind]
    rfl
  · rw [TL.join_eq, join_len cs fun s hs => (l3 s hs).1]
    omega
  · rw [TL.join_eq]
    exact ⟨join_ok cs fun s hs => (l3 s hs).2.1, lett_join cs fun s hs => (l3 s hs).2.2⟩
theorem stemC {c : List PyData} {N : PyData} {S : Int} {T : Int} {stem : Str} (h : IsTape T c) (hT : T < 9000) (hs : stem.length ≤ 8) : ∃ (at' stp : Int) (c' : List PyData),
    fPar [6, 7, 8] (fCons (fCallT d__law_draw (fCons (fVar 0) (fCons (fOp addOp (fCB lenOp (fCons (fVar 4) fNil)) (fC (.int 1))) fNil))) (fCons (fOp ixOp (fLst (fCons (fC (.int 1)) (fCons (fC (.int 7)) (fCons (fC (.int 25)) fNil)))) (fCallT d__law_draw (fCons (fVar 0) (fCons (fC (.int 3)) fNil)))) (fCons (fLst fNil) fNil))) (some (.io 0 (.lst c)) :: some (.fr N) :: some (.fr (.str letters)) :: some (.fr (.int S)) :: some (.fr (.str stem)) :: none :: no7)
      = .ok .nx (some (.io 0 (.lst c')) :: some (.fr N) :: some (.fr (.str letters)) :: some (.fr (.int S)) :: some (.fr (.str stem)) :: none :: some (.fr (.int at')) :: some (.fr (.int stp)) :: some (.ow (.lst [])) :: [none, none, none, none]) ∧ 0 ≤ at' ∧ at' ≤ stem.length ∧ (stp = 1 ∨ stp = 7 ∨ stp = 25) ∧ IsTape (T + 2) c' := by
  have e5 := lenS (a := stem) (by omega)
  obtain ⟨v, c1, e, v0, v1, h1⟩ := ev_draw (r := some (.fr N) :: some (.fr (.str letters)) :: some (.fr (.int S)) :: some (.fr (.str stem)) :: none :: no7) (f := fOp addOp (fCB lenOp (fCons (fVar 4) fNil)) (fC (.int 1))) (n := stem.length + 1) (by
    simp only [fOp, fCB, fCons, fVar, fC, fNil, Res.bind, ofOpt, rds, rd, rd0, List.getElem?_cons_zero, List.getElem?_cons_succ, e5, addI]) h (by omega) (by omega) (by omega)
  obtain ⟨u, c2, e2, u0, u1, h2⟩ := ev_draw (r := some (.fr N) :: some (.fr (.str letters)) :: some (.fr (.int S)) :: some (.fr (.str stem)) :: none :: no7) (f := fC (.int 3)) rfl h1 (by omega) (by decide) (by decide)
  have hu : ∃ stp : Int, ixOp (.list [.int 1, .int 7, .int 25]) (.int u) = some (.fr (.int stp)) ∧ (stp = 1 ∨ stp = 7 ∨ stp = 25) := by
    have : u = 0 ∨ u = 1 ∨ u = 2 := by omega
    rcases this with rfl | rfl | rfl
    · exact ⟨1, rfl, .inl rfl⟩
    · exact ⟨7, rfl, .inr (.inl rfl)⟩
    · exact ⟨25, rfl, .inr (.inr rfl)⟩
  obtain ⟨stp, hu1, hu2⟩ := hu
  refine ⟨v, stp, c2, ?_, v0, by omega, hu2, h2.mono (by omega)⟩
  have el : fLst (fCons (fC (.int 1)) (fCons (fC (.int 7)) (fCons (fC (.int 25)) fNil))) (some (.io 0 (.lst c1)) :: some (.fr N) :: some (.fr (.str letters)) :: some (.fr (.int S)) :: some (.fr (.str stem)) :: none :: no7) = .ok (.ow (.lst [.int 1, .int 7, .int 25])) (some (.io 0 (.lst c1)) :: some (.fr N) :: some (.fr (.str letters)) :: some (.fr (.int S)) :: some (.fr (.str stem)) :: none :: no7) := rfl
  rw [fPar, fCons, e]
  simp only [Res.bind]
  rw [fCons, fOp, el]
  simp only [Res.bind]
  rw [e2]
  simp only [Res.bind, rd, rd0, Cn.rd, hu1, ofOpt]
  rfl
theorem stemD {c : List PyData} {N : PyData} {S at' stp : Int} {stem : Str} (hs : stem.length ≤ 8) :
    fPar [9, 10] (fCons (fSl (fVar 4) fNoPart (fPart (fVar 6))) (fCons (fSl (fVar 4) (fPart (fVar 6)) fNoPart) fNil)) (some (.io 0 (.lst c)) :: some (.fr N) :: some (.fr (.str letters)) :: some (.fr (.int S)) :: some (.fr (.str stem)) :: none :: some (.fr (.int at')) :: some (.fr (.int stp)) :: some (.ow (.lst [])) :: [none, none, none, none])
      = .ok .nx (envN c N S stem none at' stp [] (cutS stem none (some at')) (cutS stem (some at') none) none none) := by
  have e1 : ∀ lo hi, slOp (.str stem) lo hi = some (.fr (.str (cutS stem lo hi))) := fun lo hi => by
    simp only [slOp]
    rw [if_pos (by omega)]
  simp only [fPar, fCons, fNil, fSl, fVar, fNoPart, fPart, Res.bind, List.getElem?_cons_zero, List.getElem?_cons_succ, rd, rd0, e1, ofOpt]
  rfl
/-- names: as many as asked, told by their places -/
theorem names_at {c : List PyData} {n : Nat} {T : Int} (h : IsTape T c) (hT : T < 8000) (hn : n ≤ 100) : ∃ (sh at' stp : Int) (stem : Str) (c' : List PyData),
    d__law_names (some (.lst c)) [.int n] = .ok (.ow (.lst ((List.range n).map fun k => .str (nameOf sh stp (cutS stem none (some at')) (cutS stem (some at') none) (wayOf sh at' stem (cutS stem (some at') none)) k)))) (some (.lst c')) ∧
    0 ≤ sh ∧ sh < 26 ∧ 0 ≤ at' ∧ at' ≤ stem.length ∧ (stp = 1 ∨ stp = 7 ∨ stp = 25) ∧ stem.length ≤ 7 ∧ (PyData.strOk stem = true ∧ Lett stem) ∧ IsTape (T + 12) c' := by
  obtain ⟨sh, c1, eA, a0, a1, h1⟩ := stemA (N := .int n) h (by omega)
  obtain ⟨stem, c2, eB, b0, b1, h2⟩ := stemB (N := .int n) (S := .int sh) h1 (by omega)
  obtain ⟨at', stp, c3, eC, d0, d1, d2, h3⟩ := stemC (N := .int n) (S := sh) (stem := stem) h2 (by omega) (by omega)
  have eD := stemD (c := c3) (N := .int n) (S := sh) (at' := at') (stp := stp) (stem := stem) (by omega)
  obtain ⟨k5, x, y, eE⟩ := loopN (c := c3) (n := .int n) (sh := sh) (at' := at') (stp := stp) (stem := stem) (head := cutS stem none (some at')) (tail := cutS stem (some at') none) (by omega) (ok_cut b1.1 _ _) (by omega) (by omega) (Nat.le_trans (cut_len _ _) (by omega)) (Nat.le_trans (cut_len _ _) (by omega)) n 0 none none none [] (by simp; omega)
  refine ⟨sh, at', stp, stem, c3, ?_, a0, a1, d0, d1, d2, b0, b1, h3.mono (by omega)⟩
  have er : rng 0 n = (List.range' 0 n).map fun (k : Nat) => PyData.int (k : Int) := by
    unfold rng
    rw [List.range_eq_range']
    exact List.map_congr_left fun k _ => by rw [Int.zero_add]
  have eF : fFor (fRange1 (fCons (fVar 1) fNil)) (gNm 5) bodyN (envN c3 (.int n) sh stem none at' stp [] (cutS stem none (some at')) (cutS stem (some at') none) none none) = .ok .nx (envN c3 (.int n) sh stem k5 at' stp ((List.range n).map fun k => .str (nameOf sh stp (cutS stem none (some at')) (cutS stem (some at') none) (wayOf sh at' stem (cutS stem (some at') none)) k)) (cutS stem none (some at')) (cutS stem (some at') none) x y) := by
    rw [fFor, fRange1]
    simp only [fCons, fVar, fNil, Res.bind, List.getElem?_cons_zero, List.getElem?_cons_succ, rds, rd, rd0]
    rw [if_pos (by omega)]
    simp only [Res.bind, Int.toNat_natCast]
    rw [er, eE, List.range_eq_range']
    simp
  show finR (some (.lst c)) (g__law_names (some (.io 0 (.lst c)) :: some (.fr (.int n)) :: none :: none :: none :: none :: no7)) = _
  unfold g__law_names
  rw [fSeq, eA]
  simp only [Res.bind]
  rw [fSeq, eB]
  simp only [Res.bind]
  rw [fSeq, eC]
  simp only [Res.bind]
  rw [fSeq, eD]
  simp only [Res.bind]
  have eG := eF
  unfold bodyN at eG
  rw [fSeq, eG]
  rfl
end TX

namespace TX
open PySem PySem.Spec PyProof.Rows L2 RZ DL
theorem app_list (a b : Str) : (a ++ b).cps.toList = a.cps.toList ++ b.cps.toList := Array.toList_append
theorem str_ext {a b : Str} (h : a.cps.toList = b.cps.toList) : a = b := by
  cases a
  cases b
  exact congrArg Str.mk (Array.toList_inj.mp h)
theorem name_inj {sh stp w : Int} {head tail : Str} {i j : Nat} (hs : 0 ≤ sh) (hp : stp = 1 ∨ stp = 7 ∨ stp = 25) (w0 : 0 ≤ w) (w3 : w < 3) (ht : tail = "" → w = 0) (hi : i < 26) (hj : j < 26) (e : nameOf sh stp head tail w i = nameOf sh stp head tail w j) : i = j := by
  have e := congrArg (fun s : Str => s.cps.toList) e
  simp only [nameOf, app_list, List.append_assoc] at e
  have e := List.append_cancel_left e
  have eS : ∀ q, (signOf sh stp q).cps.toList = [97 + ((sh + stp * q) % 26).toNat] := fun q => rfl
  rw [eS, eS] at e
  obtain ⟨e1, e2⟩ := List.cons_eq_cons.mp (show (97 + ((sh + stp * qOf w i) % 26).toNat) :: (sufOf tail w i).cps.toList = (97 + ((sh + stp * qOf w j) % 26).toNat) :: (sufOf tail w j).cps.toList from e)
  have m1 := Int.emod_nonneg (sh + stp * qOf w i) (show (26 : Int) ≠ 0 by decide)
  have m2 := Int.emod_nonneg (sh + stp * qOf w j) (show (26 : Int) ≠ 0 by decide)
  have e3 : (sh + stp * qOf w i) % 26 = (sh + stp * qOf w j) % 26 := by omega
  by_cases hw : w = 1
  · subst hw
    have q1 : qOf 1 i = ((i / 2 : Nat) : Int) := rfl
    have q2 : qOf 1 j = ((j / 2 : Nat) : Int) := rfl
    rw [q1, q2] at e3
    have e4 : i / 2 = j / 2 := by
      rcases hp with rfl | rfl | rfl <;> omega
    have hne : tail ≠ "" := fun z => by have := ht z; omega
    have hne2 : tail.cps.toList ≠ [] := fun z => hne (str_ext (by rw [z]; decide +kernel))
    have s1 : ∀ k, sufOf tail 1 k = if k % 2 = 0 then Str.empty else tail := fun k => rfl
    rw [s1, s1] at e2
    by_cases h1 : i % 2 = 0
    · by_cases h2 : j % 2 = 0
      · omega
      · rw [if_pos h1, if_neg h2] at e2
        exact absurd e2.symm hne2
    · by_cases h2 : j % 2 = 0
      · rw [if_neg h1, if_pos h2] at e2
        exact absurd e2 hne2
      · omega
  · have q : ∀ k, qOf w k = (k : Int) := fun k => if_neg hw
    rw [q, q] at e3
    rcases hp with rfl | rfl | rfl <;> omega
theorem name_ok {sh stp w : Int} {head tail : Str} {k : Nat} (h1 : head.length ≤ 8) (h2 : tail.length ≤ 8) (o1 : PyData.strOk head = true) (o2 : PyData.strOk tail = true) : (nameOf sh stp head tail w k).length ≤ 17 ∧ PyData.strOk (nameOf sh stp head tail w k) = true := by
  have l : (sufOf tail w k).length ≤ 8 ∧ PyData.strOk (sufOf tail w k) = true := by
    unfold sufOf
    split
    · exact ⟨h2, o2⟩
    · split
      · split
        · exact ⟨Nat.zero_le _, by decide +kernel⟩
        · exact ⟨h2, o2⟩
      · exact ⟨Nat.le_trans (cut_len _ _) h2, ok_cut o2 _ _⟩
  have hs : (signOf sh stp (qOf w k)).length = 1 := rfl
  have os : PyData.strOk (signOf sh stp (qOf w k)) = true := by
    have m1 := Int.emod_nonneg (sh + stp * qOf w k) (show (26 : Int) ≠ 0 by decide)
    have m2 := Int.emod_lt_of_pos (sh + stp * qOf w k) (show (0 : Int) < 26 by decide)
    simp [PyData.strOk, signOf]
    omega
  unfold nameOf
  exact ⟨by rw [app_len, app_len, hs]; omega, ok_app (ok_app o1 os) l.2⟩
/-- a name: small letters, one to eight -/
def IsNm (x : Str) : Prop := 0 < x.length ∧ x.length ≤ 8 ∧ Lett x
theorem cut_split {a : Str} {i : Int} (h0 : 0 ≤ i) (h1 : i ≤ a.length) : (cutS a none (some i)).length + (cutS a (some i) none).length ≤ a.length := by
  obtain ⟨n, rfl⟩ := Int.eq_ofNat_of_zero_le h0
  have z : a.cps.toList.length = a.length := rfl
  have z : a.cps.toList.length = a.cps.size := rfl
  unfold cutS Str.length
  rw [HT.sIx_none, HT.sIx_none, HT.sIx_nat, HT.sIx_nat]
  simp only [List.size_toArray, List.length_take, List.length_drop]
  omega
theorem name_nm {sh stp w : Int} {head tail : Str} {k : Nat} (h : head.length + tail.length ≤ 7) (o1 : Lett head) (o2 : Lett tail) : IsNm (nameOf sh stp head tail w k) := by
  have l : (sufOf tail w k).length ≤ tail.length ∧ Lett (sufOf tail w k) := by
    unfold sufOf
    split
    · exact ⟨Nat.le_refl _, o2⟩
    · split
      · split
        · exact ⟨Nat.zero_le _, lett_empty⟩
        · exact ⟨Nat.le_refl _, o2⟩
      · exact ⟨cut_len _ _, lett_cut o2 _ _⟩
  have hs : (signOf sh stp (qOf w k)).length = 1 := rfl
  have os : Lett (signOf sh stp (qOf w k)) := by
    have m1 := Int.emod_nonneg (sh + stp * qOf w k) (show (26 : Int) ≠ 0 by decide)
    have m2 := Int.emod_lt_of_pos (sh + stp * qOf w k) (show (0 : Int) < 26 by decide)
    intro c hc
    simp [signOf] at hc
    omega
  unfold nameOf
  refine ⟨?_, ?_, lett_app (lett_app o1 os) l.2⟩
  · rw [app_len, app_len, hs]; omega
  · rw [app_len, app_len, hs]; omega
/-- the two strange texts are not both names -/
def Strg (l : List Str) : Prop := ¬ (("zzzzzzzz" : Str) ∈ l ∧ ("yyyyyyyy" : Str) ∈ l)
theorem suf_take (tail : Str) (w : Int) (k : Nat) : ∃ j, (sufOf tail w k).cps.toList = tail.cps.toList.take j := by
  unfold sufOf
  split
  · exact ⟨tail.cps.toList.length, (List.take_of_length_le (Nat.le_refl _)).symm⟩
  · split
    · split
      · exact ⟨0, rfl⟩
      · exact ⟨tail.cps.toList.length, (List.take_of_length_le (Nat.le_refl _)).symm⟩
    · unfold cutS
      rw [HT.sIx_none]
      exact ⟨_, by simp only [List.drop_zero, Nat.sub_zero]; rfl⟩
theorem name_eight {sh stp w : Int} {head tail x : Str} {k : Nat} (h : head.length + tail.length ≤ 7) (hx : x.length = 8) (e : x = nameOf sh stp head tail w k) : head.length + tail.length = 7 ∧ ∃ c, x.cps.toList = head.cps.toList ++ [c] ++ tail.cps.toList := by
  obtain ⟨j, hj⟩ := suf_take tail w k
  have hs : (signOf sh stp (qOf w k)).cps.toList = [97 + ((sh + stp * qOf w k) % 26).toNat] := rfl
  have e2 : x.cps.toList = head.cps.toList ++ [97 + ((sh + stp * qOf w k) % 26).toNat] ++ tail.cps.toList.take j := by
    rw [e]
    unfold nameOf
    rw [app_list, app_list, hs, hj]
  have z1 : x.cps.toList.length = x.length := rfl
  have z2 : head.cps.toList.length = head.length := rfl
  have z3 : tail.cps.toList.length = tail.length := rfl
  have el := congrArg List.length e2
  simp only [List.length_append, List.length_cons, List.length_nil, List.length_take] at el
  have hm := Nat.min_le_right j tail.cps.toList.length
  refine ⟨by omega, 97 + ((sh + stp * qOf w k) % 26).toNat, ?_⟩
  rw [e2, List.take_of_length_le (by omega)]
theorem names_strg {sh stp w : Int} {head tail : Str} {n : Nat} (h : head.length + tail.length ≤ 7) : Strg ((List.range n).map fun k => nameOf sh stp head tail w k) := fun ⟨h1, h2⟩ => by
  obtain ⟨i, _, e1⟩ := List.mem_map.mp h1
  obtain ⟨j, _, e2⟩ := List.mem_map.mp h2
  obtain ⟨l7, c1, f1⟩ := name_eight h (by decide +kernel) e1.symm
  obtain ⟨_, c2, f2⟩ := name_eight h (by decide +kernel) e2.symm
  have a1 : ∀ c ∈ ("zzzzzzzz" : Str).cps.toList, c = 122 := by decide +kernel
  have a2 : ∀ c ∈ ("yyyyyyyy" : Str).cps.toList, c = 121 := by decide +kernel
  rw [f1] at a1
  rw [f2] at a2
  have key : ∀ c ∈ head.cps.toList ++ tail.cps.toList, False := fun c hc => by
    have b1 := a1 c (by rcases List.mem_append.mp hc with q | q <;> simp [q])
    have b2 := a2 c (by rcases List.mem_append.mp hc with q | q <;> simp [q])
    omega
  have z2 : head.cps.toList.length = head.length := rfl
  have z3 : tail.cps.toList.length = tail.length := rfl
  have : (head.cps.toList ++ tail.cps.toList).length = 7 := by rw [List.length_append]; omega
  cases hl : head.cps.toList ++ tail.cps.toList with
  | nil => rw [hl] at this; cases this
  | cons c l => exact key c (by rw [hl]; exact .head _)
theorem names_ok {c : List PyData} {n : Nat} {T : Int} (h : IsTape T c) (hT : T < 8000) (hn : n ≤ 26) : ∃ (ns : List Str) (c' : List PyData),
    d__law_names (some (.lst c)) [.int n] = .ok (.ow (.lst (ns.map PyData.str))) (some (.lst c')) ∧ ns.length = n ∧ ns.Nodup ∧ (∀ s ∈ ns, s.length ≤ 17 ∧ PyData.strOk s = true) ∧ (∀ s ∈ ns, IsNm s) ∧ Strg ns ∧ IsTape (T + 12) c' := by
  obtain ⟨sh, at', stp, stem, c', e, a0, a1, b0, b1, hp, d0, d1, ht⟩ := names_at h hT (show n ≤ 100 by omega)
  refine ⟨(List.range n).map fun k => nameOf sh stp (cutS stem none (some at')) (cutS stem (some at') none) (wayOf sh at' stem (cutS stem (some at') none)) k, c', ?_, by simp, ?_, ?_, ?_, names_strg (Nat.le_trans (cut_split b0 b1) d0), ht⟩
  · rw [e, List.map_map]
    rfl
  · obtain ⟨w0, w3, w4⟩ := way_lt (sh := sh) (at' := at') (stem := stem) (tail := cutS stem (some at') none)
    rw [List.nodup_iff_pairwise_ne, List.pairwise_map]
    refine List.Pairwise.imp_of_mem ?_ (List.nodup_iff_pairwise_ne.mp List.nodup_range)
    intro i j hi hj hne e2
    rw [List.mem_range] at hi hj
    exact hne (name_inj a0 hp w0 w3 w4 (by omega) (by omega) e2)
  · intro s hs
    obtain ⟨k, _, rfl⟩ := List.mem_map.mp hs
    exact name_ok (Nat.le_trans (cut_len _ _) (by omega)) (Nat.le_trans (cut_len _ _) (by omega)) (ok_cut d1.1 _ _) (ok_cut d1.1 _ _)
  · intro s hs
    obtain ⟨k, _, rfl⟩ := List.mem_map.mp hs
    exact name_nm (Nat.le_trans (cut_split b0 b1) d0) (lett_cut d1.2 _ _) (lett_cut d1.2 _ _)
end TX

namespace TX
open PySem PySem.Spec PyProof.Rows L2 RZ DL
/-! ### comprehensions and loops that leave the slots as they are -/
theorem turns_ok {ks : List Nat} {g : PyData → Evn → Option Evn} {c : Evn → Res Bool} {f : Evn → Res Sl} {ρ0 : Evn} (p : PyData → Bool) (h : PyData → PyData) : ∀ (ds acc : List PyData),
    (∀ d ∈ ds, ∃ ρ1, g d ρ0 = some ρ1 ∧ ∃ ρ2, c ρ1 = .ok (p d) ρ2 ∧ (p d = true → ∃ ρ3, fFz f ρ2 = .ok (.fr (h d)) ρ3 ∧ wipeE ρ3 ks = ρ0) ∧ (p d = false → wipeE ρ2 ks = ρ0)) → fTurns ks g c f ds acc ρ0 = .ok (acc ++ (ds.filter p).map h) ρ0
  | [], acc, _ => by simp [fTurns]
  | d :: ds, acc, H => by
    obtain ⟨ρ1, e1, ρ2, e2, e3, e4⟩ := H d List.mem_cons_self
    rw [fTurns, e1]
    simp only []
    rw [e2]
    simp only [Res.bind]
    cases hp : p d with
    | true =>
      obtain ⟨ρ3, e5, e6⟩ := e3 hp
      simp only [if_true]
      rw [e5]
      simp only []
      rw [e6, turns_ok p h ds _ fun d hd => H d (List.mem_cons_of_mem _ hd), List.filter_cons_of_pos hp]
      simp
    | false =>
      simp only [Bool.false_eq_true, if_false]
      rw [e4 hp, turns_ok p h ds _ fun d hd => H d (List.mem_cons_of_mem _ hd), List.filter_cons_of_neg (by simp [hp])]
theorem lc_ok {ks : List Nat} {it : Evn → Res (List PyData)} {g : PyData → Evn → Option Evn} {c : Evn → Res Bool} {f : Evn → Res Sl} {ρ ρ1 ρ0 : Evn} {ds : List PyData} (p : PyData → Bool) (h : PyData → PyData) (ei : it ρ = .ok ds ρ1) (hz : ds.length ≤ 100000) (hk : ∀ k ∈ ks, k < ρ1.length) (ew : wipeE ρ1 ks = ρ0)
    (H : ∀ d ∈ ds, ∃ ρ1, g d ρ0 = some ρ1 ∧ ∃ ρ2, c ρ1 = .ok (p d) ρ2 ∧ (p d = true → ∃ ρ3, fFz f ρ2 = .ok (.fr (h d)) ρ3 ∧ wipeE ρ3 ks = ρ0) ∧ (p d = false → wipeE ρ2 ks = ρ0)) :
    fLc ks it g c f ρ = .ok (.ow (.lst ((ds.filter p).map h))) (backE ρ1 ρ0 ks) := by
  rw [fLc, ei]
  simp only [Res.bind]
  rw [if_pos ⟨hz, hk⟩, ew, turns_ok p h ds [] H]
  simp only [noExc, Res.bind, List.nil_append]
/-! ### texts -/
def mem (x : Str) (ys : List Str) : Bool := ys.any fun y => y == x
theorem inD_strs (x : Str) : ∀ ys : List Str, inD (.str x) (ys.map PyData.str) = mem x ys := by
  intro ys
  unfold inD mem
  rw [List.any_map]
  rfl
theorem flat_strs (ys : List Str) : (ys.map PyData.str).all flatD = true := by
  rw [List.all_map]
  exact List.all_eq_true.mpr fun _ _ => rfl
theorem in_list {neg : Bool} {x : Str} {ys : List Str} : inOp neg (.str x) (.list (ys.map PyData.str)) = some (.fr (.bool (if neg then !mem x ys else mem x ys))) := by
  simp only [inOp, inD_strs, flat_strs]
  cases neg <;> rfl
theorem in_tup {neg : Bool} {x : Str} {ys : List Str} : inOp neg (.str x) (.tuple (ys.map PyData.str)) = some (.fr (.bool (if neg then !mem x ys else mem x ys))) := by
  simp only [inOp, inD_strs, flat_strs]
  cases neg <;> rfl
theorem bools_map : ∀ bs : List Bool, bools (bs.map PyData.bool) = some bs
  | [] => rfl
  | b :: bs => by simp [bools, bools_map bs]
theorem filt_true {α : Type} (l : List α) : l.filter (fun _ => true) = l := List.filter_eq_self.mpr fun _ _ => rfl
def within (one other : List Str) : Bool := one.all fun x => mem x other
/-- a list or a tuple of texts -/
def IsSeq (v : PyData) (xs : List Str) : Prop := v = .list (xs.map PyData.str) ∨ v = .tuple (xs.map PyData.str)
theorem in_seq {neg : Bool} {x : Str} {v : PyData} {ys : List Str} (h : IsSeq v ys) : inOp neg (.str x) v = some (.fr (.bool (if neg then !mem x ys else mem x ys))) := by
  rcases h with rfl | rfl
  · exact in_list
  · exact in_tup
theorem iter_seq {v : PyData} {xs : List Str} {i : Nat} {ρ : Evn} (h : IsSeq v xs) (e : ρ[i]? = some (some (.fr v))) : fIterS (fVar i) ρ = .ok (xs.map PyData.str) ρ := by
  rcases h with rfl | rfl <;> simp [fIterS, fFz, fVar, e, Res.bind, frz, asS]
theorem within_ok {v w : PyData} {xs ys : List Str} (hv : IsSeq v xs) (hw : IsSeq w ys) (hz : xs.length ≤ 100000) : d__law_in none [v, w] = .ok (.fr (.bool (within xs ys))) none := by
  show finR none (g__law_in [some (.fr v), some (.fr w), none]) = _
  have e := lc_ok (ks := [2]) (it := fIterS (fVar 0)) (g := gNm 2) (c := fun ρ => .ok true ρ) (f := fOp (inOp false) (fVar 2) (fVar 1)) (ρ := [some (.fr v), some (.fr w), none]) (ds := xs.map PyData.str) (fun _ => true) (fun d => match d with | .str x => .bool (mem x ys) | _ => .none) (iter_seq hv rfl) (by rw [List.length_map]; exact hz) (by simp) rfl (fun d hd => by
    obtain ⟨x, _, rfl⟩ := List.mem_map.mp hd
    refine ⟨_, rfl, _, rfl, fun _ => ⟨[some (.fr v), some (.fr w), some (.fr (.str x))], ?_, rfl⟩, fun z => (by cases z)⟩
    simp [wipeE, fFz, fOp, fVar, Res.bind, rd, rd0, in_seq hw, ofOpt, frz])
  rw [g__law_in, fRet, fCB, fCons, e]
  have em : ((xs.map PyData.str).filter fun _ => true).map (fun d => match d with | .str x => PyData.bool (mem x ys) | _ => .none) = (xs.map fun x => mem x ys).map PyData.bool := by
    rw [filt_true, List.map_map, List.map_map]
    rfl
  rw [em]
  simp only [fNil, Res.bind, rds, rd, rd0, Cn.rd, allOp, bools_map, Option.map, ofOpt, finR, finC, retS]
  simp [within]
end TX

namespace TX
open PySem PySem.Spec PyProof.Rows L2 RZ DL
/-! ### so many of some, in a drawn order -/
theorem map_erase {α β : Type} (f : α → β) : ∀ (l : List α) (k : Nat), (l.map f).eraseIdx k = (l.eraseIdx k).map f
  | [], _ => by simp
  | x :: l, 0 => by simp
  | x :: l, k + 1 => by simp [map_erase f l k]
theorem pop_one {c : List PyData} {V M k4 : Option Sl} {left : List Str} {T : Int} (h : IsTape T c) (hT : T < 9999) (h0 : 0 < left.length) (h1 : left.length ≤ 1000) :
    ∃ (x : Str) (rest : List Str) (c' : List PyData), fPopAt 3 (fCallT d__law_draw (fCons (fVar 0) (fCons (fCB lenOp (fCons (fVar 3) fNil)) fNil))) [some (.io 0 (.lst c)), V, M, some (.ow (.lst (left.map PyData.str))), k4]
      = .ok (.fr (.str x)) [some (.io 0 (.lst c')), V, M, some (.ow (.lst (rest.map PyData.str))), k4] ∧ (x :: rest).Perm left ∧ IsTape (T + 1) c' := by
  obtain ⟨v, c', e, v0, v1, ht⟩ := ev_draw (n := left.length) (r := [V, M, some (.ow (.lst (left.map PyData.str))), k4]) (f := fCB lenOp (fCons (fVar 3) fNil)) (by simp [fCB, fCons, fVar, fNil, Res.bind, rds, rd, rd0, Cn.rd, lenOp, ofOpt, Sl.own]) h hT (by omega) (by omega)
  obtain ⟨k, rfl⟩ := Int.eq_ofNat_of_zero_le v0
  have hk : k < left.length := by omega
  refine ⟨left[k], left.eraseIdx k, c', ?_, ?_, ht⟩
  · have z1 : (left.map PyData.str)[k]? = some (.str left[k]) := by simp [hk]
    have z2 : (left.map PyData.str).eraseIdx k = (left.eraseIdx k).map PyData.str := map_erase _ _ _
    unfold fPopAt
    simp only [List.getElem?_cons_succ, List.getElem?_cons_zero, Sl.own]
    rw [e]
    simp only [Res.bind, List.getElem?_cons_succ, List.getElem?_cons_zero, Sl.own, List.length_map, Int.toNat_natCast, z1, z2, Sl.put]
    rw [if_pos ⟨by omega, by omega, by omega⟩]
    rfl
  · exact erase_perm left k left[k] (List.getElem?_eq_getElem hk)
theorem rng_nat (m : Nat) : rng 0 m = (List.range m).map fun (k : Nat) => PyData.int (k : Int) := by
  simp [rng]
theorem part_turns {V M : Option Sl} : ∀ (ds acc : List PyData) (left : List Str) (c : List PyData) (T : Int), IsTape T c → T + ds.length < 9999 → ds.length ≤ left.length → left.length ≤ 1000 →
    ∃ (ys rest : List Str) (c' : List PyData), fTurns [4] (gNm 4) (fun ρ => .ok true ρ) (fPopAt 3 (fCallT d__law_draw (fCons (fVar 0) (fCons (fCB lenOp (fCons (fVar 3) fNil)) fNil)))) ds acc [some (.io 0 (.lst c)), V, M, some (.ow (.lst (left.map PyData.str))), none]
      = .ok (acc ++ ys.map PyData.str) [some (.io 0 (.lst c')), V, M, some (.ow (.lst (rest.map PyData.str))), none] ∧ ys.length = ds.length ∧ (ys ++ rest).Perm left ∧ IsTape (T + ds.length) c'
  | [], acc, left, c, T, h, _, _, _ => ⟨[], left, c, by simp [fTurns], rfl, List.Perm.refl _, by simpa using h⟩
  | d :: ds, acc, left, c, T, h, hT, hl, h1 => by
    simp only [List.length_cons] at hT hl
    obtain ⟨x, rest, c1, e, pm, ht⟩ := pop_one (V := V) (M := M) (k4 := some (.fr d)) h (by omega) (by omega) h1
    have hlen : rest.length + 1 = left.length := pm.length_eq
    obtain ⟨ys, rest2, c2, e2, l2, pm2, ht2⟩ := part_turns ds (acc ++ [.str x]) rest c1 (T + 1) ht (by omega) (by omega) (by omega)
    refine ⟨x :: ys, rest2, c2, ?_, by simp [l2], ?_, by rw [List.length_cons]; exact ht2.mono (by omega)⟩
    · rw [fTurns]
      have eg : gNm 4 d [some (.io 0 (.lst c)), V, M, some (.ow (.lst (left.map PyData.str))), none] = some [some (.io 0 (.lst c)), V, M, some (.ow (.lst (left.map PyData.str))), some (.fr d)] := rfl
      rw [eg]
      simp only [Res.bind, if_true]
      have ef : fFz (fPopAt 3 (fCallT d__law_draw (fCons (fVar 0) (fCons (fCB lenOp (fCons (fVar 3) fNil)) fNil)))) [some (.io 0 (.lst c)), V, M, some (.ow (.lst (left.map PyData.str))), some (.fr d)]
          = .ok (.fr (.str x)) [some (.io 0 (.lst c1)), V, M, some (.ow (.lst (rest.map PyData.str))), some (.fr d)] := by
        unfold fFz
        rw [e]
        rfl
      rw [ef]
      simp only [Res.bind]
      have ew : wipeE [some (.io 0 (.lst c1)), V, M, some (.ow (.lst (rest.map PyData.str))), some (.fr d)] [4] = [some (.io 0 (.lst c1)), V, M, some (.ow (.lst (rest.map PyData.str))), none] := rfl
      rw [ew, e2]
      simp
    · exact (pm2.cons x).trans pm
theorem part_ok {c : List PyData} {v : PyData} {xs : List Str} {m : Nat} {T : Int} (h : IsTape T c) (hT : T + m < 9999) (hv : IsSeq v xs) (hx : xs.length ≤ 1000) :
    ∃ (ys rest : List Str) (c' : List PyData), d__law_part (some (.lst c)) [v, .int m] = .ok (.ow (.lst (ys.map PyData.str))) (some (.lst c')) ∧ ys.length = min m xs.length ∧ (ys ++ rest).Perm xs ∧ IsTape (T + m) c' := by
  obtain ⟨ys, rest, c', e, l, pm, ht⟩ := part_turns (V := some (.fr v)) (M := some (.fr (.int m))) ((List.range (min m xs.length)).map fun (k : Nat) => PyData.int (k : Int)) [] xs c T h (by simp; omega) (by simp; omega) hx
  refine ⟨ys, rest, c', ?_, by simpa using l, pm, ht.mono (by simp; omega)⟩
  show finR (some (.lst c)) (g__law_part [some (.io 0 (.lst c)), some (.fr v), some (.fr (.int m)), none, none]) = _
  have e1 : fAsg 3 (fCB listOp (fCons (fVar 1) fNil)) [some (.io 0 (.lst c)), some (.fr v), some (.fr (.int m)), none, none] = .ok .nx [some (.io 0 (.lst c)), some (.fr v), some (.fr (.int m)), some (.ow (.lst (xs.map PyData.str))), none] := by
    rcases hv with rfl | rfl <;> simp [fAsg, fCB, fCons, fVar, fNil, Res.bind, rds, rd, rd0, listOp, ofOpt, put1]
  have e2 : fLc [4] (fRange1 (fCons (fCB min2Op (fCons (fVar 2) (fCons (fCB lenOp (fCons (fVar 3) fNil)) fNil))) fNil)) (gNm 4) (fun ρ => .ok true ρ) (fPopAt 3 (fCallT d__law_draw (fCons (fVar 0) (fCons (fCB lenOp (fCons (fVar 3) fNil)) fNil)))) [some (.io 0 (.lst c)), some (.fr v), some (.fr (.int m)), some (.ow (.lst (xs.map PyData.str))), none]
      = .ok (.ow (.lst (ys.map PyData.str))) [some (.io 0 (.lst c')), some (.fr v), some (.fr (.int m)), some (.ow (.lst (rest.map PyData.str))), none] := by
    have em : min2Op [.int m, .int xs.length] = some (.fr (.int (min m xs.length : Nat))) := by
      unfold min2Op
      simp only [Option.some.injEq, Sl.fr.injEq, PyData.int.injEq]
      split <;> omega
    have el : lenOp [.list (xs.map PyData.str)] = some (.fr (.int xs.length)) := by simp [lenOp]
    have er : fRange1 (fCons (fCB min2Op (fCons (fVar 2) (fCons (fCB lenOp (fCons (fVar 3) fNil)) fNil))) fNil) [some (.io 0 (.lst c)), some (.fr v), some (.fr (.int m)), some (.ow (.lst (xs.map PyData.str))), none] = .ok ((List.range (min m xs.length)).map fun (k : Nat) => PyData.int (k : Int)) [some (.io 0 (.lst c)), some (.fr v), some (.fr (.int m)), some (.ow (.lst (xs.map PyData.str))), none] := by
      have hm2 : ((min m xs.length : Nat) : Int) ≤ 1000000 := by omega
      simp only [fRange1, fCons, fCB, fVar, fNil, Res.bind, List.getElem?_cons_succ, List.getElem?_cons_zero, rds, rd, rd0, Sl.own, Option.map, Cn.rd, el, em, ofOpt, rng_nat, Int.toNat_natCast]
      rw [if_pos ⟨hm2, by omega⟩]
    rw [fLc, er]
    simp only [Res.bind]
    rw [if_pos ⟨by simp; omega, by simp⟩]
    have ew : wipeE [some (.io 0 (.lst c)), some (.fr v), some (.fr (.int m)), some (.ow (.lst (xs.map PyData.str))), none] [4] = [some (.io 0 (.lst c)), some (.fr v), some (.fr (.int m)), some (.ow (.lst (xs.map PyData.str))), none] := rfl
    rw [ew, e]
    rfl
  rw [g__law_part, fSeq, e1]
  simp only [Res.bind]
  rw [fRet, e2]
  rfl
end TX

namespace TX
open PySem PySem.Spec PyProof.Rows L2 RZ DL
/-! ### sorting texts -/
def srt (xs : List Str) : List Str := xs.mergeSort fun a b => decide (a.cps.toList ≤ b.cps.toList)
theorem sortD_strs (xs : List Str) : sortD (xs.map PyData.str) = (srt xs).map PyData.str := by
  unfold sortD srt
  exact (List.map_mergeSort (f := PyData.str) (s := PySem.W.dataLe false id) (r := fun a b : Str => decide (a.cps.toList ≤ b.cps.toList)) fun a _ b _ => (congrFun (congrFun (PySem.W.dataLe_str (β := Str) id) a) b).symm).symm
theorem sortOk_strs {xs : List Str} (h : xs.length ≤ 1000) : sortOk (xs.map PyData.str) = true := by
  unfold sortOk alikeAllB sortableB
  have h1 : ((xs.map PyData.str).all fun d => (xs.map PyData.str).all fun e => PySem.W.alike d e) = true := by
    rw [List.all_eq_true]
    intro d hd
    rw [List.all_eq_true]
    intro e he
    obtain ⟨a, _, rfl⟩ := List.mem_map.mp hd
    obtain ⟨b, _, rfl⟩ := List.mem_map.mp he
    simp [PySem.W.alike]
  have h2 : ((xs.map PyData.str).all fun d => match d with | .none => false | .tuple _ => false | _ => true) = true := by
    rw [List.all_eq_true]
    intro d hd
    obtain ⟨a, _, rfl⟩ := List.mem_map.mp hd
    rfl
  have h3 : ((xs.map PyData.str).all fun d => decide (d.depth ≤ 50)) = true := by
    rw [List.all_eq_true]
    intro d hd
    obtain ⟨a, _, rfl⟩ := List.mem_map.mp hd
    simp [PyData.depth]
  simp only [Bool.and_eq_true, Bool.or_eq_true]
  exact ⟨⟨⟨h1, .inr h2⟩, decide_eq_true (by rw [List.length_map]; omega)⟩, h3⟩
theorem sort_strs {xs : List Str} (h : xs.length ≤ 1000) : sortOp [.list (xs.map PyData.str)] = some (.ow (.lst ((srt xs).map PyData.str))) := by
  simp only [sortOp]
  rw [sortOk_strs h, sortD_strs]
  rfl
theorem srt_perm (xs : List Str) : (srt xs).Perm xs := List.mergeSort_perm _ _
/-! ### tuples of texts -/
abbrev tupS (l : List Str) : PyData := .tuple (l.map PyData.str)
abbrev keyS (l : List Str) : NestedKey := .tup (l.map NestedKey.text)
def unt : NestedKey → Str
  | .text x => x
  | _ => Str.empty
def unk : NestedKey → List Str
  | .tup ks => ks.map unt
  | _ => []
theorem unk_key : ∀ l : List Str, unk (keyS l) = l
  | [] => rfl
  | x :: l => by
    have ih := unk_key l
    show x :: (l.map NestedKey.text).map unt = x :: l
    exact congrArg (x :: ·) ih
theorem kyAll_strs : ∀ l : List Str, kyAll (l.map PyData.str) = some (l.map NestedKey.text)
  | [] => rfl
  | x :: l => by simp [kyAll, kyD, kyAll_strs l]
theorem kyAll_tups : ∀ ls : List (List Str), kyAll (ls.map tupS) = some (ls.map keyS)
  | [] => rfl
  | l :: ls => by simp [kyAll, kyD, kyAll_strs, kyAll_tups ls]
theorem data_key (l : List Str) : (keyS l).data = tupS l := ky_data (tupS l) (keyS l) (by simp [kyD, kyAll_strs])
theorem depth_texts : ∀ l : List Str, NestedKey.depthAll (l.map NestedKey.text) = 0
  | [] => rfl
  | x :: l => by simp [NestedKey.depthAll, NestedKey.depth, depth_texts l]
theorem depth_strs : ∀ l : List Str, PyData.depthAll (l.map PyData.str) = 0
  | [] => by simp [PyData.depthAll]
  | x :: l => by simp [PyData.depthAll, PyData.depth, depth_strs l]
theorem depth_tupS (l : List Str) : (tupS l).depth = 1 := by simp [PyData.depth, depth_strs]
theorem alikeAll_strs : ∀ a b : List Str, PySem.W.alikeAll (a.map PyData.str) (b.map PyData.str) = true
  | [], _ => by simp [PySem.W.alikeAll]
  | _ :: _, [] => by simp [PySem.W.alikeAll]
  | x :: a, y :: b => by simp [PySem.W.alikeAll, PySem.W.alike, alikeAll_strs a b]
theorem alike_tupS (a b : List Str) : PySem.W.alike (tupS a) (tupS b) = true := by simp [PySem.W.alike, alikeAll_strs]
theorem toksAll_inj : ∀ a b : List Str, PySem.W.keyToksAll (a.map PyData.str) = PySem.W.keyToksAll (b.map PyData.str) → a = b
  | [], [], _ => rfl
  | [], y :: b, h => by simp [PySem.W.keyToksAll] at h
  | x :: a, [], h => by simp [PySem.W.keyToksAll] at h
  | x :: a, y :: b, h => by
    simp only [List.map_cons, PySem.W.keyToksAll, PySem.W.keyToks, List.cons_append, List.nil_append, List.cons.injEq, true_and, Sum.inr.injEq] at h
    rw [PySem.W.str_of_cps h.1, toksAll_inj a b h.2]
theorem toks_tupS {a b : List Str} (h : PySem.W.keyToks (tupS a) = PySem.W.keyToks (tupS b)) : a = b := toksAll_inj a b (by simpa [PySem.W.keyToks] using h)
theorem few_tups {ls : List (List Str)} (h : ls.length < 64) : fewB (ls.map keyS) = true := by simp [fewB, h]
theorem setOk_tups {ls : List (List Str)} (h : fewB (ls.map keyS) = true) : setOk (ls.map keyS) = true := by
  unfold setOk
  simp only [Bool.and_eq_true, Bool.or_eq_true, decide_eq_true_eq]
  refine ⟨⟨h, .inl ?_⟩, ?_⟩
  · rw [List.all_map]
    exact List.all_eq_true.mpr fun _ _ => rfl
  · rw [List.all_map]
    exact List.all_eq_true.mpr fun l _ => by simp [NestedKey.depth, depth_texts]
theorem alikeB_tups (ls : List (List Str)) : alikeAllB (ls.map tupS) = true := by
  unfold alikeAllB
  rw [List.all_map]
  refine List.all_eq_true.mpr fun a _ => ?_
  show ((ls.map tupS).all fun e => PySem.W.alike (tupS a) e) = true
  rw [List.all_map]
  exact List.all_eq_true.mpr fun b _ => alike_tupS a b
theorem unlikeB_tups (ls : List (List Str)) : unlikeB (ls.map keyS) = true := by
  unfold unlikeB
  rw [List.all_map]
  refine List.all_eq_true.mpr fun a _ => ?_
  show ((ls.map keyS).all fun l => !decide (PySem.W.keyToks (keyS a).data = PySem.W.keyToks l.data) || decide (keyS a = l)) = true
  rw [List.all_map]
  refine List.all_eq_true.mpr fun b _ => ?_
  show (!decide (PySem.W.keyToks (keyS a).data = PySem.W.keyToks (keyS b).data) || decide (keyS a = keyS b)) = true
  rw [data_key, data_key]
  by_cases c : PySem.W.keyToks (tupS a) = PySem.W.keyToks (tupS b)
  · rw [toks_tupS c]
    simp
  · simp [c]
/-- sorted(set(ls)) -/
def setT (ls : List (List Str)) : List (List Str) := ((dd (ls.map keyS)).map unk).mergeSort fun a b => PySem.W.dataLe false id (tupS a) (tupS b)
theorem dd_keys (ls : List (List Str)) : ((dd (ls.map keyS)).map unk).map keyS = dd (ls.map keyS) := by
  rw [List.map_map]
  have : ∀ k ∈ dd (ls.map keyS), (keyS ∘ unk) k = k := fun k hk => by
    obtain ⟨l, _, rfl⟩ := List.mem_map.mp ((mem_dd _ _).mp hk)
    show keyS (unk (keyS l)) = keyS l
    rw [unk_key]
  rw [List.map_congr_left this, List.map_id']
theorem sortD_tups (ls : List (List Str)) : sortD ((dd (ls.map keyS)).map NestedKey.data) = (setT ls).map tupS := by
  have e : (dd (ls.map keyS)).map NestedKey.data = ((dd (ls.map keyS)).map unk).map tupS := by
    conv => lhs; rw [← dd_keys ls]
    rw [List.map_map]
    exact List.map_congr_left fun l _ => data_key l
  rw [e]
  unfold sortD setT
  exact (List.map_mergeSort (f := tupS) (s := PySem.W.dataLe false id) (r := fun a b => PySem.W.dataLe false id (tupS a) (tupS b)) fun a _ b _ => rfl).symm
theorem mem_setT {ls : List (List Str)} {l : List Str} : l ∈ setT ls ↔ l ∈ ls := by
  unfold setT
  rw [(List.mergeSort_perm _ _).mem_iff]
  constructor
  · intro h
    obtain ⟨k, hk, rfl⟩ := List.mem_map.mp h
    obtain ⟨m, hm, rfl⟩ := List.mem_map.mp ((mem_dd _ _).mp hk)
    rw [unk_key]
    exact hm
  · intro h
    exact List.mem_map.mpr ⟨keyS l, (mem_dd _ _).mpr (List.mem_map.mpr ⟨l, h, rfl⟩), unk_key l⟩
theorem dd_len : ∀ ks : List NestedKey, (dd ks).length ≤ ks.length
  | [] => Nat.le_refl _
  | k :: ks => by
    unfold dd
    have := dd_len ks
    split <;> simp <;> omega
theorem setT_len (ls : List (List Str)) : (setT ls).length ≤ ls.length := by
  unfold setT
  rw [List.length_mergeSort, List.length_map]
  exact Nat.le_trans (dd_len _) (by simp)
theorem setT_nodup (ls : List (List Str)) : (setT ls).Nodup := by
  unfold setT
  refine (List.mergeSort_perm _ _).nodup_iff.mpr ?_
  have h := nodup_dd (ls.map keyS)
  rw [← dd_keys ls] at h
  exact L2.nodup_of_map h
theorem ss_tupsD {ls : List (List Str)} (h : fewB (ls.map keyS) = true) : ssOp [.list (ls.map tupS)] = some (.ow (.lst ((setT ls).map tupS))) := by
  have hd : ((ls.map tupS).all fun d => decide (d.depth ≤ 50)) = true := by
    rw [List.all_map]
    exact List.all_eq_true.mpr fun l _ => by
      show decide ((tupS l).depth ≤ 50) = true
      rw [depth_tupS]
      rfl
  unfold ssOp
  simp only [kyAll_tups]
  rw [if_pos (by rw [setOk_tups h, alikeB_tups, unlikeB_tups, hd]; rfl), sortD_tups]
theorem ss_tups {ls : List (List Str)} (h : ls.length < 64) : ssOp [.list (ls.map tupS)] = some (.ow (.lst ((setT ls).map tupS))) := ss_tupsD (few_tups h)
theorem eqv_strs : ∀ a b : List Str, PyData.eqvAll (a.map PyData.str) (b.map PyData.str) = (a == b)
  | [], [] => rfl
  | [], _ :: _ => rfl
  | _ :: _, [] => rfl
  | x :: a, y :: b => by
    rw [List.map_cons, List.map_cons, PyData.eqvAll, PyData.eqv, eqv_strs a b]
    rfl
def okL (l : List Str) : Prop := l.length ≤ 1000 ∧ ∀ x ∈ l, PyData.strOk x = true
theorem lay_strs : ∀ l : List Str, (∀ x ∈ l, PyData.strOk x = true) → PyData.canLayAll0 (l.map PyData.str) = true
  | [], _ => rfl
  | x :: l, h => by
    rw [List.map_cons, PyData.canLayAll0, PyData.canLay0, h x (.head _), lay_strs l fun y hy => h y (.tail _ hy)]
    rfl
theorem neq_tupS {neg : Bool} {a b : List Str} (ha : ∀ x ∈ a, PyData.strOk x = true) (hb : ∀ x ∈ b, PyData.strOk x = true) : eqOp neg (tupS a) (tupS b) = some (.fr (.bool (if neg then !(a == b) else a == b))) := by
  have sh : ∀ l : List Str, (∀ x ∈ l, PyData.strOk x = true) → canEq (tupS l) = true := fun l h => by
    unfold canEq SeqAt.shaped
    rw [PyData.canLay0, lay_strs l h, depth_tupS]
    rfl
  unfold eqOp
  rw [if_pos (by rw [sh a ha, sh b hb]; rfl), PyData.eqv, eqv_strs]
end TX

namespace TX
open PySem PySem.Spec PyProof.Rows L2 RZ DL
/-! ### those within which no other one lies -/
theorem lawIn_ok {v w : PyData} {xs ys : List Str} (hv : IsSeq v xs) (hw : IsSeq w ys) (hz : xs.length ≤ 100000) : d__law_in none [v, w] = .ok (.fr (.bool (within xs ys))) none := within_ok hv hw hz
def leastQ (L : List (List Str)) : List (List Str) := L.filter fun l => !(L.any fun m => !(m == l) && within m l)
theorem strs_tupS (l : List Str) : IsSeq (tupS l) l := .inr rfl
def unT : PyData → List Str
  | .tuple xs => (strsD xs).getD []
  | .list xs => (strsD xs).getD []
  | _ => []
theorem unT_tup (l : List Str) : unT (tupS l) = l := by simp [unT, strsD_map]
theorem unT_list (l : List Str) : unT (.list (l.map PyData.str)) = l := by simp [unT, strsD_map]
theorem lot_inner {A x3 : Option Sl} {L : List (List Str)} {l : List Str} (hL : L.length ≤ 1000) (ok : ∀ m ∈ L, okL m) (hl : okL l) :
    fTest (fCB anyOp (fCons (fLc [4] (fIterS (fVar 1)) (gNm 4) (fun ρ => .ok true ρ) (fAndV (fOp (eqOp true) (fVar 4) (fVar 2)) (fCallV d__law_in (fCons (fVar 4) (fCons (fVar 2) fNil))))) fNil)) [A, some (.fr (.list (L.map tupS))), some (.fr (tupS l)), x3, none]
      = .ok (L.any fun m => !(m == l) && within m l) [A, some (.fr (.list (L.map tupS))), some (.fr (tupS l)), x3, none] := by
  have e := lc_ok (ks := [4]) (it := fIterS (fVar 1)) (g := gNm 4) (c := fun ρ => .ok true ρ) (f := fAndV (fOp (eqOp true) (fVar 4) (fVar 2)) (fCallV d__law_in (fCons (fVar 4) (fCons (fVar 2) fNil))))
    (ρ := [A, some (.fr (.list (L.map tupS))), some (.fr (tupS l)), x3, none]) (ρ0 := [A, some (.fr (.list (L.map tupS))), some (.fr (tupS l)), x3, none]) (ρ1 := [A, some (.fr (.list (L.map tupS))), some (.fr (tupS l)), x3, none])
    (ds := L.map tupS) (fun _ => true) (fun d => .bool (!(unT d == l) && within (unT d) l)) (by simp [fIterS, fFz, fVar, Res.bind, frz, asS]) (by rw [List.length_map]; omega) (by simp) rfl (fun d hd => by
      obtain ⟨m, hm, rfl⟩ := List.mem_map.mp hd
      have om := ok m hm
      refine ⟨[A, some (.fr (.list (L.map tupS))), some (.fr (tupS l)), x3, some (.fr (tupS m))], rfl, [A, some (.fr (.list (L.map tupS))), some (.fr (tupS l)), x3, some (.fr (tupS m))], rfl, fun _ => ⟨[A, some (.fr (.list (L.map tupS))), some (.fr (tupS l)), x3, some (.fr (tupS m))], ?_, rfl⟩, fun z => (by cases z)⟩
      have e1 := neq_tupS (neg := true) om.2 hl.2
      have e2 := lawIn_ok (strs_tupS m) (strs_tupS l) (by have := om.1; omega)
      have e3 : fOp (eqOp true) (fVar 4) (fVar 2) [A, some (.fr (.list (L.map tupS))), some (.fr (tupS l)), x3, some (.fr (tupS m))] = .ok (.fr (.bool (!(m == l)))) [A, some (.fr (.list (L.map tupS))), some (.fr (tupS l)), x3, some (.fr (tupS m))] := by
        simp only [fOp, fVar, List.getElem?_cons_succ, List.getElem?_cons_zero, Res.bind, rd, rd0, e1, ofOpt, if_true]
      have e4 : fCallV d__law_in (fCons (fVar 4) (fCons (fVar 2) fNil)) [A, some (.fr (.list (L.map tupS))), some (.fr (tupS l)), x3, some (.fr (tupS m))] = .ok (.fr (.bool (within m l))) [A, some (.fr (.list (L.map tupS))), some (.fr (tupS l)), x3, some (.fr (tupS m))] := by
        simp [fCallV, fCons, fVar, fNil, Res.bind, callV, rds, rd, rd0, e2, allFr, isFr]
      rw [unT_tup, fFz, fAndV]
      rw [e3]
      simp only [Res.bind, asB]
      cases hb : (m == l) with
      | true => simp [frz]
      | false =>
        simp only [Bool.not_false, if_true, Bool.true_and]
        rw [e4]
        simp [frz])
  rw [fTest, fCB, fCons, e, filt_true, List.map_map]
  have em : L.map ((fun d => PyData.bool (!(unT d == l) && within (unT d) l)) ∘ tupS) = (L.map fun m => !(m == l) && within m l).map PyData.bool := by
    rw [List.map_map]
    exact List.map_congr_left fun m _ => by simp [unT_tup]
  rw [em]
  simp only [fNil, Res.bind, rds, rd, rd0, Cn.rd, anyOp, bools_map, Option.map, ofOpt, Sl.own, asB]
  simp [backE]
theorem srt_ok {l : List Str} (h : okL l) : okL (srt l) := ⟨by rw [(srt_perm l).length_eq]; exact h.1, fun x hx => h.2 x ((srt_perm l).mem_iff.mp hx)⟩
def leastP (lots : List (List Str)) : List (List Str) := setT (leastQ (lots.map srt))
theorem leastP_sub {lots : List (List Str)} {l : List Str} (h : l ∈ leastP lots) : ∃ m ∈ lots, l = srt m := by
  have h1 := (List.mem_filter.mp (mem_setT.mp h)).1
  obtain ⟨m, hm, e⟩ := List.mem_map.mp h1
  exact ⟨m, hm, e.symm⟩
theorem leastP_len (lots : List (List Str)) : (leastP lots).length ≤ lots.length := by
  have h1 := setT_len (leastQ (lots.map srt))
  have h2 : (leastQ (lots.map srt)).length ≤ (lots.map srt).length := List.length_filter_le _ _
  rw [List.length_map] at h2
  exact Nat.le_trans h1 h2
theorem least_ok {lots : List (List Str)} (hn : lots.length < 64) (ok : ∀ l ∈ lots, okL l) : d__law_least none [.list (lots.map fun l => .list (l.map PyData.str))] = .ok (.fr (.tuple ((leastP lots).map tupS))) none := by
  obtain ⟨L, hL⟩ : ∃ L, L = lots.map srt := ⟨_, rfl⟩
  have okT : ∀ l ∈ L, okL l := fun l hl => by
    rw [hL] at hl
    obtain ⟨m, hm, rfl⟩ := List.mem_map.mp hl
    exact srt_ok (ok m hm)
  have lT : L.length < 64 := by rw [hL, List.length_map]; exact hn
  obtain ⟨A, hA⟩ : ∃ A, A = PyData.list (lots.map fun l => .list (l.map PyData.str)) := ⟨_, rfl⟩
  show finR none (g__law_least [some (.fr (.list (lots.map fun l => .list (l.map PyData.str)))), none, none, none, none]) = _
  rw [← hA]
  have e1 := lc_ok (ks := [2]) (it := fIterS (fVar 0)) (g := gNm 2) (c := fun ρ => .ok true ρ) (f := fCB tupleOp (fCons (fCB sortOp (fCons (fVar 2) fNil)) fNil))
    (ρ := [some (.fr A), none, none, none, none]) (ρ0 := [some (.fr A), none, none, none, none]) (ρ1 := [some (.fr A), none, none, none, none]) (ds := lots.map fun l => .list (l.map PyData.str)) (fun _ => true) (fun d => tupS (srt (unT d)))
    (by rw [hA]; rfl) (by rw [List.length_map]; omega) (by simp) rfl (fun d hd => by
      obtain ⟨l, hl, rfl⟩ := List.mem_map.mp hd
      refine ⟨[some (.fr A), none, some (.fr (.list (l.map PyData.str))), none, none], rfl, [some (.fr A), none, some (.fr (.list (l.map PyData.str))), none, none], rfl, fun _ => ⟨[some (.fr A), none, some (.fr (.list (l.map PyData.str))), none, none], ?_, rfl⟩, fun z => (by cases z)⟩
      rw [unT_list]
      simp only [fFz, fCB, fCons, fVar, List.getElem?_cons_succ, List.getElem?_cons_zero, fNil, Res.bind, rds, rd, rd0, sort_strs (ok l hl).1, ofOpt, Cn.rd, Sl.own, tupleOp, frz])
  have em : ((lots.map fun l => PyData.list (l.map PyData.str)).filter fun _ => true).map (fun d => tupS (srt (unT d))) = L.map tupS := by
    rw [filt_true, hL, List.map_map, List.map_map]
    exact List.map_congr_left fun l _ => by simp [unT_list]
  rw [em] at e1
  have hb1 : backE [some (.fr A), none, none, none, none] [some (.fr A), none, none, none, none] [2] = [some (.fr A), none, none, none, none] := rfl
  rw [hb1] at e1
  have s1 : fAsg 1 (fLc [2] (fIterS (fVar 0)) (gNm 2) (fun ρ => .ok true ρ) (fCB tupleOp (fCons (fCB sortOp (fCons (fVar 2) fNil)) fNil))) [some (.fr A), none, none, none, none] = .ok .nx [some (.fr A), some (.ow (.lst (L.map tupS))), none, none, none] := by
    rw [fAsg, e1]
    rfl
  have e2 := lc_ok (ks := [2]) (it := fIterS (fVar 1)) (g := gNm 2) (c := fNot (fTest (fCB anyOp (fCons (fLc [4] (fIterS (fVar 1)) (gNm 4) (fun ρ => .ok true ρ) (fAndV (fOp (eqOp true) (fVar 4) (fVar 2)) (fCallV d__law_in (fCons (fVar 4) (fCons (fVar 2) fNil))))) fNil)))) (f := fVar 2)
    (ρ := [some (.fr A), some (.ow (.lst (L.map tupS))), none, none, none]) (ρ0 := [some (.fr A), some (.fr (.list (L.map tupS))), none, none, none]) (ρ1 := [some (.fr A), some (.fr (.list (L.map tupS))), none, none, none]) (ds := L.map tupS) (fun d => !(L.any fun m => !(m == unT d) && within m (unT d))) (fun d => d)
    rfl (by rw [List.length_map]; omega) (by simp) rfl (fun d hd => by
      obtain ⟨l, hl, rfl⟩ := List.mem_map.mp hd
      refine ⟨[some (.fr A), some (.fr (.list (L.map tupS))), some (.fr (tupS l)), none, none], rfl, [some (.fr A), some (.fr (.list (L.map tupS))), some (.fr (tupS l)), none, none], ?_, fun _ => ⟨[some (.fr A), some (.fr (.list (L.map tupS))), some (.fr (tupS l)), none, none], rfl, rfl⟩, fun _ => rfl⟩
      rw [fNot, lot_inner (by omega) okT (okT l hl), unT_tup]
      rfl)
  have em2 : ((L.map tupS).filter fun d => !(L.any fun m => !(m == unT d) && within m (unT d))).map (fun d => d) = (leastQ L).map tupS := by
    rw [List.map_id', List.filter_map]
    unfold leastQ
    congr 1
    exact List.filter_congr fun l _ => by simp [unT_tup]
  rw [em2] at e2
  have hb2 : backE [some (.fr A), some (.fr (.list (L.map tupS))), none, none, none] [some (.fr A), some (.fr (.list (L.map tupS))), none, none, none] [2] = [some (.fr A), some (.fr (.list (L.map tupS))), none, none, none] := rfl
  rw [hb2] at e2
  have s2 : fAsg 3 (fLc [2] (fIterS (fVar 1)) (gNm 2) (fNot (fTest (fCB anyOp (fCons (fLc [4] (fIterS (fVar 1)) (gNm 4) (fun ρ => .ok true ρ) (fAndV (fOp (eqOp true) (fVar 4) (fVar 2)) (fCallV d__law_in (fCons (fVar 4) (fCons (fVar 2) fNil))))) fNil)))) (fVar 2)) [some (.fr A), some (.ow (.lst (L.map tupS))), none, none, none] = .ok .nx [some (.fr A), some (.fr (.list (L.map tupS))), none, some (.ow (.lst ((leastQ L).map tupS))), none] := by
    rw [fAsg, e2]
    rfl
  have lq : (leastQ L).length < 64 := Nat.lt_of_le_of_lt (List.length_filter_le _ _) lT
  have es := ss_tups lq
  rw [g__law_least, fSeq, s1]
  simp only [Res.bind]
  rw [fSeq, s2]
  simp only [Res.bind]
  simp only [fRet, fCB, fCons, fVar, fNil, Res.bind, List.getElem?_cons_succ, List.getElem?_cons_zero, rds, rd, rd0, Sl.own, Option.map, Cn.rd, es, ofOpt, tupleOp]
  unfold leastP
  rw [← hL]
  rfl
end TX

namespace TX
open PySem PySem.Spec PyProof.Rows L2 RZ DL
abbrev Orch := List (Str × List (List Str))
/-- a list, or a tuple -/
def sq : Bool → List PyData → PyData
  | true, ds => .list ds
  | false, ds => .tuple ds
def encLot (b : Bool) (l : List Str) : PyData := sq b (l.map PyData.str)
def encL (b : Bool) (ls : List (List Str)) : PyData := sq b (ls.map (encLot b))
def encF (b : Bool) (p : Str × List (List Str)) : PyData := sq b [.str p.1, encL b p.2]
def encO (b : Bool) (o : Orch) : PyData := sq b (o.map (encF b))
theorem seq_lot {b : Bool} {l : List Str} : IsSeq (encLot b l) l := by cases b; exact .inr rfl; exact .inl rfl
theorem unT_lot {b : Bool} {l : List Str} : unT (encLot b l) = l := by cases b; exact unT_tup l; exact unT_list l
theorem it_sq {b : Bool} {ds : List PyData} {i : Nat} {ρ : Evn} (e : ρ[i]? = some (some (.fr (sq b ds)))) : fIterS (fVar i) ρ = .ok ds ρ := by
  cases b <;> simp [sq, fIterS, fFz, fVar, e, Res.bind, frz, asS]
structure SmallO (o : Orch) : Prop where
  n : o.length ≤ 1000
  m : ∀ p ∈ o, p.2.length ≤ 1000 ∧ ∀ l ∈ p.2, l.length ≤ 1000
theorem SmallO.tail {p : Str × List (List Str)} {o : Orch} (h : SmallO (p :: o)) : SmallO o := ⟨by have := h.n; simp at this; omega, fun q hq => h.m q (List.mem_cons_of_mem _ hq)⟩
theorem noLsts_str : ∀ xs : List Str, noLsts (xs.map PyData.str) = true
  | [] => rfl
  | x :: xs => by simp [noLsts, noLst, noLsts_str xs]
/-! ### ripe -/
def anyIn (lots : List (List Str)) (gone : List Str) : Bool := lots.any fun l => within l gone
theorem lots_ok {O G : PyData} {A x3 : Option Sl} {lots : List (List Str)} {gone : List Str} {b : Bool} (hG : IsSeq G gone) (h1 : lots.length ≤ 1000) (h2 : ∀ l ∈ lots, l.length ≤ 1000) :
    fCB anyOp (fCons (fLc [5] (fIterS (fVar 4)) (gNm 5) (fun ρ => .ok true ρ) (fCallV d__law_in (fCons (fVar 5) (fCons (fVar 1) fNil)))) fNil) [some (.fr O), some (.fr G), A, x3, some (.fr (encL b lots)), none] = .ok (.fr (.bool (anyIn lots gone))) [some (.fr O), some (.fr G), A, x3, some (.fr (encL b lots)), none] := by
  have e := lc_ok (ks := [5]) (it := fIterS (fVar 4)) (g := gNm 5) (c := fun ρ => .ok true ρ) (f := fCallV d__law_in (fCons (fVar 5) (fCons (fVar 1) fNil))) (ρ := [some (.fr O), some (.fr G), A, x3, some (.fr (encL b lots)), none]) (ρ0 := [some (.fr O), some (.fr G), A, x3, some (.fr (encL b lots)), none]) (ρ1 := [some (.fr O), some (.fr G), A, x3, some (.fr (encL b lots)), none])
    (ds := lots.map (encLot b)) (fun _ => true) (fun d => .bool (within (unT d) gone))
    (it_sq rfl) (by rw [List.length_map]; omega) (by simp) rfl (fun d hd => by
      obtain ⟨l, hl, rfl⟩ := List.mem_map.mp hd
      refine ⟨_, rfl, _, rfl, fun _ => ⟨[some (.fr O), some (.fr G), A, x3, some (.fr (encL b lots)), some (.fr (encLot b l))], ?_, rfl⟩, fun z => (by cases z)⟩
      have := lawIn_ok (v := encLot b l) (w := G) seq_lot hG (by have := h2 l hl; omega)
      simp [fFz, fCallV, fCons, fVar, fNil, Res.bind, callV, rds, rd, rd0, this, allFr, isFr, frz, unT_lot])
  rw [fCB, fCons, e, filt_true, List.map_map]
  have em : lots.map ((fun d => PyData.bool (within (unT d) gone)) ∘ encLot b) = (lots.map fun l => within l gone).map PyData.bool := by
    rw [List.map_map]
    exact List.map_congr_left fun l _ => by simp [unT_lot]
  rw [em]
  simp only [fNil, Res.bind, rds, rd, rd0, Cn.rd, anyOp, bools_map, Option.map, ofOpt]
  simp [anyIn, backE]
def ripeP (o : Orch) (gone : List Str) : List Str := (o.filter fun p => !mem p.1 gone && anyIn p.2 gone).map (·.1)
theorem ripe_loop {O G : PyData} {gone : List Str} {b : Bool} (hG : IsSeq G gone) : ∀ (o : Orch) (acc : List PyData) (x y : Option Sl), SmallO o → acc.length + o.length ≤ 2000 → ∃ x' y',
    fLoop (gSeqF 2 (gConsF (gNm 3) (gConsF (gNm 4) gNilF))) (fIfS (fAnd (fTest (fOp (inOp true) (fVar 3) (fVar 1))) (fTest (fCB anyOp (fCons (fLc [5] (fIterS (fVar 4)) (gNm 5) (fun ρ => .ok true ρ) (fCallV d__law_in (fCons (fVar 5) (fCons (fVar 1) fNil)))) fNil)))) (fDrop (fAppend 2 (fVar 3))) fNext) (o.map (encF b)) [some (.fr O), some (.fr G), some (.ow (.lst acc)), x, y, none]
      = .ok .nx [some (.fr O), some (.fr G), some (.ow (.lst (acc ++ (ripeP o gone).map PyData.str))), x', y', none]
  | [], acc, x, y, _, _ => ⟨x, y, by simp [fLoop, ripeP]⟩
  | p :: o, acc, x, y, h, ha => by
    have hp := h.m p List.mem_cons_self
    have hl := lots_ok (b := b) (O := O) (A := some (.ow (.lst acc))) (x3 := some (.fr (.str p.1))) hG hp.1 hp.2
    have hlen : acc.length < 100000 := by simp at ha; omega
    rw [List.map_cons, fLoop]
    have eg : gSeqF 2 (gConsF (gNm 3) (gConsF (gNm 4) gNilF)) (encF b p) [some (.fr O), some (.fr G), some (.ow (.lst acc)), x, y, none] = some [some (.fr O), some (.fr G), some (.ow (.lst acc)), some (.fr (.str p.1)), some (.fr (encL b p.2)), none] := by cases b <;> rfl
    rw [eg]
    simp only []
    rw [fIfS, fAnd]
    have e1 : fTest (fOp (inOp true) (fVar 3) (fVar 1)) [some (.fr O), some (.fr G), some (.ow (.lst acc)), some (.fr (.str p.1)), some (.fr (encL b p.2)), none] = .ok (!mem p.1 gone) [some (.fr O), some (.fr G), some (.ow (.lst acc)), some (.fr (.str p.1)), some (.fr (encL b p.2)), none] := by
      simp [fTest, fOp, fVar, Res.bind, rd, rd0, in_seq hG, ofOpt, asB]
    have e2 : fTest (fCB anyOp (fCons (fLc [5] (fIterS (fVar 4)) (gNm 5) (fun ρ => .ok true ρ) (fCallV d__law_in (fCons (fVar 5) (fCons (fVar 1) fNil)))) fNil)) [some (.fr O), some (.fr G), some (.ow (.lst acc)), some (.fr (.str p.1)), some (.fr (encL b p.2)), none] = .ok (anyIn p.2 gone) [some (.fr O), some (.fr G), some (.ow (.lst acc)), some (.fr (.str p.1)), some (.fr (encL b p.2)), none] := by
      rw [fTest, hl]
      rfl
    have e3 : fDrop (fAppend 2 (fVar 3)) [some (.fr O), some (.fr G), some (.ow (.lst acc)), some (.fr (.str p.1)), some (.fr (encL b p.2)), none] = .ok .nx [some (.fr O), some (.fr G), some (.ow (.lst (acc ++ [.str p.1]))), some (.fr (.str p.1)), some (.fr (encL b p.2)), none] := by
      simp [fDrop, fAppend, fFz, fVar, Res.bind, frz, Sl.own, Sl.put, hlen]
    rw [e1]
    simp only [Res.bind]
    cases hm : mem p.1 gone with
    | true =>
      simp only [Bool.not_true, Bool.false_eq_true, if_false, fNext]
      obtain ⟨x', y', e⟩ := ripe_loop (b := b) hG o acc (some (.fr (.str p.1))) (some (.fr (encL b p.2))) h.tail (by simp at ha; omega)
      refine ⟨x', y', ?_⟩
      rw [e, ripeP, ripeP, List.filter_cons_of_neg (by simp [hm])]
    | false =>
      simp only [Bool.not_false, if_true]
      rw [e2]
      simp only [Res.bind]
      cases ha2 : anyIn p.2 gone with
      | false =>
        simp only [Bool.false_eq_true, if_false, fNext]
        obtain ⟨x', y', e⟩ := ripe_loop (b := b) hG o acc (some (.fr (.str p.1))) (some (.fr (encL b p.2))) h.tail (by simp at ha; omega)
        refine ⟨x', y', ?_⟩
        rw [e, ripeP, ripeP, List.filter_cons_of_neg (by simp [ha2])]
      | true =>
        simp only [if_true]
        rw [e3]
        simp only []
        obtain ⟨x', y', e⟩ := ripe_loop (b := b) hG o (acc ++ [.str p.1]) (some (.fr (.str p.1))) (some (.fr (encL b p.2))) h.tail (by simp at ha ⊢; omega)
        refine ⟨x', y', ?_⟩
        rw [e, ripeP, ripeP, List.filter_cons_of_pos (by simp [hm, ha2])]
        simp
theorem ripe_ok {b : Bool} {o : Orch} {G : PyData} {gone : List Str} (h : SmallO o) (hG : IsSeq G gone) : d__law_ripe none [encO b o, G] = .ok (.ow (.lst ((ripeP o gone).map PyData.str))) none := by
  obtain ⟨x', y', e⟩ := ripe_loop (b := b) (O := encO b o) hG o [] none none h (by have := h.n; simp; omega)
  show finR none (g__law_ripe [some (.fr (encO b o)), some (.fr G), none, none, none, none]) = _
  have e0 : fAsg 2 (fLst fNil) [some (.fr (encO b o)), some (.fr G), none, none, none, none] = .ok .nx [some (.fr (encO b o)), some (.fr G), some (.ow (.lst [])), none, none, none] := rfl
  have ei : fIterS (fVar 0) [some (.fr (encO b o)), some (.fr G), some (.ow (.lst [])), none, none, none] = .ok (o.map (encF b)) [some (.fr (encO b o)), some (.fr G), some (.ow (.lst [])), none, none, none] := it_sq rfl
  rw [g__law_ripe, fSeq, e0]
  simp only [Res.bind]
  rw [fSeq, fFor, ei]
  simp only [Res.bind]
  rw [e]
  rfl
theorem lawRipe_eq : d__law_ripe = d__law_ripe := rfl
theorem ripe_in {o : Orch} {gone : List Str} {x : Str} (h : x ∈ ripeP o gone) : ∃ p ∈ o, p.1 = x := by
  unfold ripeP at h
  obtain ⟨p, hp, rfl⟩ := List.mem_map.mp h
  exact ⟨p, (List.mem_filter.mp hp).1, rfl⟩
def OkO (o : Orch) : Prop := ∀ p ∈ o, PyData.strOk p.1 = true
end TX

namespace TX
open PySem PySem.Spec PyProof.Rows L2 RZ DL
/-! ### passed_by, pick -/
def lesH : PyData → PyData := fun d => match d with | .tuple (x :: _) => x | _ => .none
def passP : Nat → Orch → List Str → List Str → Option (List (Str × List Str))
  | 0, _, _, _ => none
  | n + 1, o, l, gone => match ripeP o gone with
    | [] => some []
    | r :: rs => match (l.filter fun x => mem x (r :: rs)) with
      | [] => none
      | b :: _ => (passP n o l (gone ++ [b])).map fun q => (b, (r :: rs).filter fun x => !(x == b)) :: q
def encB (p : Str × List Str) : PyData := .tuple [.str p.1, .list (p.2.map PyData.str)]
theorem ripe_len (o : Orch) (gone : List Str) : (ripeP o gone).length ≤ o.length := by
  unfold ripeP
  rw [List.length_map]
  exact List.length_filter_le _ _
theorem ripe_strok {o : Orch} (h : OkO o) {gone : List Str} {x : Str} (hx : x ∈ ripeP o gone) : PyData.strOk x = true := by
  unfold ripeP at hx
  obtain ⟨p, hp, rfl⟩ := List.mem_map.mp hx
  exact h p (List.mem_filter.mp hp).1
def strOf : PyData → Str
  | .str x => x
  | _ => ""
end TX

namespace TX
open PySem PySem.Spec PyProof.Rows L2 RZ DL
theorem cutTo {α : Type} (f : α → PyData) (xs : List α) (k : Nat) : DL.cutD (xs.map f) none (some (k : Int)) = (xs.take k).map f := by
  unfold DL.cutD
  rw [HT.sIx_none, HT.sIx_nat, List.drop_zero, List.length_map, Nat.sub_zero, ← List.map_take]
  congr 1
  by_cases h : k ≤ xs.length
  · rw [Nat.min_eq_left h]
  · rw [Nat.min_eq_right (by omega), List.take_of_length_le (Nat.le_refl _), List.take_of_length_le (by omega)]
theorem ix_strs {xs : List Str} {k : Nat} (h : k < xs.length) : ixOp (.list (xs.map PyData.str)) (.int (k : Int)) = some (.fr (.str xs[k])) := by
  have e : ixD (xs.map PyData.str).length (k : Int) = some k := by
    unfold ixD
    rw [if_pos (by omega), List.length_map, if_pos (by omega), Int.toNat_natCast]
  unfold ixOp
  simp only [e]
  simp [h]
theorem empty_strs {xs : List Str} (h : ∀ x ∈ xs, PyData.strOk x = true) : eqOp false (.list (xs.map PyData.str)) (.list []) = some (.fr (.bool xs.isEmpty)) := by
  have sh : canEq (.list (xs.map PyData.str)) = true := by
    unfold canEq SeqAt.shaped
    rw [PyData.canLay0, lay_strs xs h]
    simp [PyData.depth, depth_strs]
  have s0 : canEq (.list []) = true := by
    unfold canEq SeqAt.shaped
    simp [PyData.canLay0, PyData.canLayAll0, PyData.depth, PyData.depthAll]
  unfold eqOp
  rw [sh, s0]
  cases xs <;> rfl
theorem mem_iff {x : Str} {ys : List Str} : mem x ys = true ↔ x ∈ ys := by
  unfold mem
  rw [List.any_eq_true]
  constructor
  · rintro ⟨y, hy, e⟩
    rw [← eq_of_beq e]
    exact hy
  · intro h
    exact ⟨x, h, beq_self_eq_true x⟩
def left (o : Orch) (g : List Str) : Nat := (o.filter fun p => !mem p.1 g).length
theorem mem_app {x : Str} {a b : List Str} : mem x (a ++ b) = (mem x a || mem x b) := by simp [mem, List.any_append]
theorem left_less {o : Orch} {g : List Str} {x : Str} (h : x ∈ ripeP o g) : left o (g ++ [x]) < left o g := by
  unfold ripeP at h
  obtain ⟨p, hp, rfl⟩ := List.mem_map.mp h
  obtain ⟨hp1, hp2⟩ := List.mem_filter.mp hp
  rw [Bool.and_eq_true] at hp2
  unfold left
  have e : (o.filter fun q => !mem q.1 (g ++ [p.1])) = (o.filter fun q => !mem q.1 g).filter fun q => !(q.1 == p.1) := by
    rw [List.filter_filter]
    refine List.filter_congr fun q _ => ?_
    rw [mem_app]
    have : mem q.1 [p.1] = (q.1 == p.1) := by
      simp only [mem, List.any_cons, List.any_nil, Bool.or_false]
      exact Bool.beq_comm
    rw [this]
    cases mem q.1 g <;> cases (q.1 == p.1) <;> rfl
  rw [e]
  refine List.length_filter_lt_length_iff_exists.mpr ⟨p, List.mem_filter.mpr ⟨hp1, hp2.1⟩, by simp⟩
theorem left_le (o : Orch) (g : List Str) : left o g ≤ o.length := List.length_filter_le _ _
theorem addLL {a b : List PyData} (h : a.length + b.length ≤ 100000) : addOp (.list a) (.list b) = some (.ow (.lst (a ++ b))) := by
  have z : (a ++ b).length ≤ 100000 := by rw [List.length_append]; exact h
  simp [addOp, op2I, op2S, catL, DL.okL, h]
theorem cutFrom {α : Type} (f : α → PyData) (xs : List α) (k : Nat) : DL.cutD (xs.map f) (some (k : Int)) none = (xs.drop k).map f := by
  unfold DL.cutD
  rw [HT.sIx_none, HT.sIx_nat, List.length_map]
  have e : (xs.map f).drop (min k xs.length) = (xs.drop k).map f := by
    rw [List.map_drop]
    by_cases h : k ≤ xs.length
    · rw [Nat.min_eq_left h]
    · rw [Nat.min_eq_right (by omega), List.drop_eq_nil_of_le (by simp), List.drop_eq_nil_of_le (by simp; omega)]
  rw [e, List.take_of_length_le]
  rw [List.length_map, List.length_drop]
  omega
theorem cons_step {f : Evn → Res Sl} {F : Evn → Res (List Sl)} {ρ ρ1 ρ2 : Evn} {s : Sl} {ss : List Sl} (h : f ρ = .ok s ρ1) (H : F ρ1 = .ok ss ρ2) : fCons f F ρ = .ok (s :: ss) ρ2 := by
  rw [fCons, h]
  simp only [Res.bind, H]
def bk1 : Option Sl → Option Sl
  | some (.fr d) => some (.fr d)
  | _ => none
theorem shape_strs {zs : List Str} (hz : ∀ x ∈ zs, PyData.strOk x = true) : canEq (.list (zs.map PyData.str)) = true := by
  unfold canEq SeqAt.shaped
  rw [PyData.canLay0, lay_strs zs hz]
  simp [PyData.depth, depth_strs]
theorem eq_lists {neg : Bool} {xs ys : List Str} (hx : ∀ x ∈ xs, PyData.strOk x = true) (hy : ∀ x ∈ ys, PyData.strOk x = true) : eqOp neg (.list (xs.map PyData.str)) (.list (ys.map PyData.str)) = some (.fr (.bool (if neg then !(xs == ys) else xs == ys))) := by
  unfold eqOp
  rw [shape_strs hx, shape_strs hy]
  simp only [Bool.and_self, if_true]
  rw [PyData.eqv, eqv_strs]
/-! ### the picking comes to its end -/
theorem pass_some {o : Orch} {l : List Str} (hl : ∀ p ∈ o, p.1 ∈ l) : ∀ (n : Nat) (gone : List Str), left o gone < n → ∃ q, passP n o l gone = some q ∧ q.length ≤ left o gone ∧ ∀ p ∈ q, p.1 ∈ l
  | 0, _, h => by omega
  | n + 1, gone, h => by
    rw [passP]
    cases hr : ripeP o gone with
    | nil => exact ⟨[], rfl, Nat.zero_le _, fun _ q => by cases q⟩
    | cons r rs =>
      simp only []
      obtain ⟨p, hp, rfl⟩ := ripe_in (show r ∈ ripeP o gone by rw [hr]; exact .head _)
      have hm : p.1 ∈ l.filter fun x => mem x (p.1 :: rs) := List.mem_filter.mpr ⟨hl p hp, mem_iff.mpr (.head _)⟩
      cases hb : (l.filter fun x => mem x (p.1 :: rs)) with
      | nil => rw [hb] at hm; cases hm
      | cons b bs =>
        simp only []
        have hbm : b ∈ l.filter fun x => mem x (p.1 :: rs) := by rw [hb]; exact .head _
        have hbr : b ∈ ripeP o gone := by rw [hr]; exact mem_iff.mp (List.mem_filter.mp hbm).2
        have ll := left_less hbr
        obtain ⟨q, e, lq, mq⟩ := pass_some hl n (gone ++ [b]) (by omega)
        rw [e]
        refine ⟨_, rfl, by simp; omega, fun p hp => ?_⟩
        rcases List.mem_cons.mp hp with z | z
        · rw [z]; exact (List.mem_filter.mp hbm).1
        · exact mq p z
def pickR (o : Orch) (l : List Str) : List Str := ((passP (o.length + 1) o l []).getD []).map (·.1)
theorem pickR_val {o : Orch} {l : List Str} (hl : ∀ p ∈ o, p.1 ∈ l) : ∃ q, passP (o.length + 1) o l [] = some q ∧ pickR o l = q.map (·.1) ∧ q.length ≤ o.length ∧ ∀ x ∈ pickR o l, x ∈ l := by
  obtain ⟨q, e, lq, mq⟩ := pass_some hl (o.length + 1) [] (by have := left_le o []; omega)
  have z : pickR o l = q.map (·.1) := by unfold pickR; rw [e]; rfl
  refine ⟨q, e, z, by have := left_le o []; omega, fun x hx => ?_⟩
  rw [z] at hx
  obtain ⟨p, hp, rfl⟩ := List.mem_map.mp hx
  exact mq p hp
/-- the law's own -/
def lawBody : Evn → Res Fl := fSeq (fDrop (fAppend 2 (fOp ixOp (fLc [4] (fIterS (fVar 1)) (gNm 4) (fTest (fOp (inOp false) (fVar 4) (fVar 3))) (fVar 4)) (fC (.int 0)))))
    (fAsg 3 (fCallV d__law_ripe (fCons (fVar 0) (fCons (fVar 2) fNil))))
theorem lawpick_body {bb : Bool} {o : Orch} {L : PyData} {l gone : List Str} {b : Str} {bs : List Str} (h : SmallO o) (hL : IsSeq L l) (hl : l.length ≤ 1000) (hg : gone.length ≤ 2000) (hb : (l.filter fun x => mem x (ripeP o gone)) = b :: bs) :
    lawBody [some (.fr (encO bb o)), some (.fr L), some (.ow (.lst (gone.map PyData.str))), some (.ow (.lst ((ripeP o gone).map PyData.str))), none]
      = .ok .nx [some (.fr (encO bb o)), some (.fr L), some (.ow (.lst ((gone ++ [b]).map PyData.str))), some (.ow (.lst ((ripeP o (gone ++ [b])).map PyData.str))), none] := by
  have er := ripe_ok (b := bb) h (G := .list ((gone ++ [b]).map PyData.str)) (.inl rfl)
  generalize hO : encO bb o = O at *
  generalize hS : ripeP o gone = S at *
  generalize hS2 : ripeP o (gone ++ [b]) = S2 at *
  have e1 := lc_ok (ks := [4]) (it := fIterS (fVar 1)) (g := gNm 4) (c := fTest (fOp (inOp false) (fVar 4) (fVar 3))) (f := fVar 4)
    (ρ := [some (.fr O), some (.fr L), some (.ow (.lst (gone.map PyData.str))), some (.ow (.lst (S.map PyData.str))), none]) (ρ1 := [some (.fr O), some (.fr L), some (.ow (.lst (gone.map PyData.str))), some (.ow (.lst (S.map PyData.str))), none]) (ρ0 := [some (.fr O), some (.fr L), some (.ow (.lst (gone.map PyData.str))), some (.ow (.lst (S.map PyData.str))), none]) (ds := l.map PyData.str)
    (fun d => mem (strOf d) S) id (iter_seq hL rfl) (by simp; omega) (by simp) rfl (fun d hd => by
      obtain ⟨x, hx, rfl⟩ := List.mem_map.mp hd
      refine ⟨_, rfl, [some (.fr O), some (.fr L), some (.ow (.lst (gone.map PyData.str))), some (.ow (.lst (S.map PyData.str))), some (.fr (.str x))], ?_, fun _ => ⟨_, rfl, rfl⟩, fun _ => rfl⟩
      simp [fTest, fOp, fVar, Res.bind, rd, rd0, Sl.own, Cn.rd, in_list (neg := false), ofOpt, asB, strOf])
  have em1 : ((l.map PyData.str).filter fun d => mem (strOf d) S).map id = PyData.str b :: bs.map PyData.str := by
    rw [List.map_id, List.filter_map]
    show (l.filter fun x => mem x S).map PyData.str = _
    rw [hb]
    rfl
  have hb1 : backE [some (.fr O), some (.fr L), some (.ow (.lst (gone.map PyData.str))), some (.ow (.lst (S.map PyData.str))), none] [some (.fr O), some (.fr L), some (.ow (.lst (gone.map PyData.str))), some (.ow (.lst (S.map PyData.str))), none] [4] = [some (.fr O), some (.fr L), some (.ow (.lst (gone.map PyData.str))), some (.ow (.lst (S.map PyData.str))), none] := rfl
  rw [em1, hb1] at e1
  have ix : ixOp (.list (PyData.str b :: bs.map PyData.str)) (.int 0) = some (.fr (.str b)) := by
    have : ixD (PyData.str b :: bs.map PyData.str).length 0 = some 0 := by
      unfold ixD
      rw [if_pos (by decide), if_pos (by simp)]
      rfl
    simp only [ixOp, this]
    rfl
  have eo : fOp ixOp (fLc [4] (fIterS (fVar 1)) (gNm 4) (fTest (fOp (inOp false) (fVar 4) (fVar 3))) (fVar 4)) (fC (.int 0)) [some (.fr O), some (.fr L), some (.ow (.lst (gone.map PyData.str))), some (.ow (.lst (S.map PyData.str))), none] = .ok (.fr (.str b)) [some (.fr O), some (.fr L), some (.ow (.lst (gone.map PyData.str))), some (.ow (.lst (S.map PyData.str))), none] := by
    rw [fOp, e1]
    simp only [fC, Res.bind, rd, rd0, Cn.rd, Sl.own, Option.map, ix, ofOpt]
  have hgl : gone.length < 100000 := by omega
  have s1 : fDrop (fAppend 2 (fOp ixOp (fLc [4] (fIterS (fVar 1)) (gNm 4) (fTest (fOp (inOp false) (fVar 4) (fVar 3))) (fVar 4)) (fC (.int 0)))) [some (.fr O), some (.fr L), some (.ow (.lst (gone.map PyData.str))), some (.ow (.lst (S.map PyData.str))), none] = .ok .nx [some (.fr O), some (.fr L), some (.ow (.lst ((gone ++ [b]).map PyData.str))), some (.ow (.lst (S.map PyData.str))), none] := by
    simp [fDrop, fAppend, Res.bind, eo, fFz, frz, Sl.own, Sl.put, hgl]
  have s2 : fAsg 3 (fCallV d__law_ripe (fCons (fVar 0) (fCons (fVar 2) fNil))) [some (.fr O), some (.fr L), some (.ow (.lst ((gone ++ [b]).map PyData.str))), some (.ow (.lst (S.map PyData.str))), none] = .ok .nx [some (.fr O), some (.fr L), some (.ow (.lst ((gone ++ [b]).map PyData.str))), some (.ow (.lst (S2.map PyData.str))), none] := by
    generalize (gone ++ [b]).map PyData.str = G2 at *
    simp [fAsg, fCallV, fCons, fVar, fNil, Res.bind, callV, rds, rd, rd0, Sl.own, Cn.rd, er, allFr, isFr, noLstS, noLsts_str, put1]
  rw [lawBody, fSeq, s1]
  simp only [Res.bind]
  exact s2
theorem lawpick_loop {bb : Bool} {o : Orch} {L : PyData} {l : List Str} (h : SmallO o) (hk : OkO o) (hL : IsSeq L l) (hl : l.length ≤ 1000) : ∀ (n m : Nat) (gone : List Str) (q : List (Str × List Str)), passP n o l gone = some q → n ≤ m → gone.length + n ≤ 1500 → ∃ r3,
    fWhile m (fTest (fOp (eqOp true) (fVar 3) (fLst fNil))) lawBody [some (.fr (encO bb o)), some (.fr L), some (.ow (.lst (gone.map PyData.str))), some (.ow (.lst ((ripeP o gone).map PyData.str))), none]
      = .ok .nx [some (.fr (encO bb o)), some (.fr L), some (.ow (.lst ((gone ++ q.map (·.1)).map PyData.str))), r3, none]
  | 0, _, _, _, hq, _, _ => by cases hq
  | n + 1, 0, _, _, _, hm, _ => by omega
  | n + 1, m + 1, gone, q, hq, hm, hg => by
    have hrk : ∀ x ∈ ripeP o gone, PyData.strOk x = true := fun x hx => ripe_strok hk hx
    have e1 : fTest (fOp (eqOp true) (fVar 3) (fLst fNil)) [some (.fr (encO bb o)), some (.fr L), some (.ow (.lst (gone.map PyData.str))), some (.ow (.lst ((ripeP o gone).map PyData.str))), none] = .ok (!((ripeP o gone) == [])) [some (.fr (encO bb o)), some (.fr L), some (.ow (.lst (gone.map PyData.str))), some (.ow (.lst ((ripeP o gone).map PyData.str))), none] := by
      have ee := eq_lists (neg := true) (xs := ripeP o gone) (ys := []) hrk (fun _ q => by cases q)
      simp only [List.map_nil, if_true] at ee
      have el : ∀ ρ, fLst fNil ρ = .ok (.ow (.lst [])) ρ := fun ρ => rfl
      simp only [fTest, fOp, fVar, el, Res.bind, List.getElem?_cons_succ, List.getElem?_cons_zero, rd, rd0, Sl.own, Option.map, Cn.rd, ee, ofOpt, asB]
    rw [fWhile, e1]
    simp only [Res.bind]
    rw [passP] at hq
    cases hr : ripeP o gone with
    | nil =>
      rw [hr] at hq
      cases hq
      exact ⟨some (.ow (.lst [])), by simp⟩
    | cons r rs =>
      rw [hr] at hq
      simp only [] at hq
      cases hb : (l.filter fun x => mem x (r :: rs)) with
      | nil => rw [hb] at hq; cases hq
      | cons b bs =>
        rw [hb] at hq
        simp only [] at hq
        have eb := lawpick_body (bb := bb) (gone := gone) (b := b) (bs := bs) h hL hl (by omega) (by rw [hr]; exact hb)
        rw [hr] at eb
        rw [if_pos (by rfl), eb]
        simp only []
        cases hp : passP n o l (gone ++ [b]) with
        | none => rw [hp] at hq; cases hq
        | some q' =>
          rw [hp] at hq
          cases hq
          obtain ⟨r3, e2⟩ := lawpick_loop (bb := bb) h hk hL hl n m (gone ++ [b]) q' hp (by omega) (by simp; omega)
          refine ⟨r3, ?_⟩
          rw [e2]
          simp
theorem lawpick_ok {bb : Bool} {o : Orch} {L : PyData} {l : List Str} (h : SmallO o) (hk : OkO o) (hL : IsSeq L l) (hl : l.length ≤ 900) (ho : ∀ p ∈ o, p.1 ∈ l) (ho2 : o.length ≤ 900) : d__law_pick none [encO bb o, L] = .ok (.ow (.lst ((pickR o l).map PyData.str))) none := by
  obtain ⟨q, e, z, lq, _⟩ := pickR_val ho
  obtain ⟨r3, e2⟩ := lawpick_loop (bb := bb) h hk hL (by omega) (o.length + 1) 1000 [] q e (by omega) (by simp; omega)
  have er := ripe_ok (b := bb) h (G := .list []) (gone := []) (.inl rfl)
  show finR none (g__law_pick [some (.fr (encO bb o)), some (.fr L), none, none, none]) = _
  have s0 : fPar [2, 3] (fCons (fLst fNil) (fCons (fCallV d__law_ripe (fCons (fVar 0) (fCons (fLst fNil) fNil))) fNil)) [some (.fr (encO bb o)), some (.fr L), none, none, none] = .ok .nx [some (.fr (encO bb o)), some (.fr L), some (.ow (.lst [])), some (.ow (.lst ((ripeP o []).map PyData.str))), none] := by
    have c1 : fCallV d__law_ripe (fCons (fVar 0) (fCons (fLst fNil) fNil)) [some (.fr (encO bb o)), some (.fr L), none, none, none] = .ok (.ow (.lst ((ripeP o []).map PyData.str))) [some (.fr (encO bb o)), some (.fr L), none, none, none] := by
      have el : ∀ ρ, fLst fNil ρ = .ok (.ow (.lst [])) ρ := fun ρ => rfl
      have er : d__law_ripe none [encO bb o, .list []] = _ := er
      simp only [fCallV, fCons, fVar, fNil, el, Res.bind, List.getElem?_cons_zero, callV, rds, rd, rd0, Sl.own, Option.map, Cn.rd, er, noLstS, noLsts_str, Bool.or_true, if_true]
    rw [fPar, cons_step (f := fLst fNil) (s := .ow (.lst [])) rfl (cons_step c1 (F := fNil) (ss := []) rfl)]
    rfl
  have e2' := e2
  simp only [List.map_nil, List.nil_append] at e2'
  rw [g__law_pick, fSeq, s0]
  simp only [Res.bind]
  rw [fSeq, show (fWhile 1000 (fTest (fOp (eqOp true) (fVar 3) (fLst fNil))) (fSeq (fDrop (fAppend 2 (fOp ixOp (fLc [4] (fIterS (fVar 1)) (gNm 4) (fTest (fOp (inOp false) (fVar 4) (fVar 3))) (fVar 4)) (fC (.int 0))))) (fAsg 3 (fCallV d__law_ripe (fCons (fVar 0) (fCons (fVar 2) fNil)))))) = fWhile 1000 (fTest (fOp (eqOp true) (fVar 3) (fLst fNil))) lawBody from rfl, e2', z]
  rfl
end TX

namespace TX
open PySem PySem.Spec PyProof.Rows L2 RZ DL
/-! ### sorted texts, lots without twins -/
theorem srt_sorted (xs : List Str) : (srt xs).Pairwise fun a b => a.cps.toList ≤ b.cps.toList := by
  have h1 := List.pairwise_mergeSort (le := fun a b : Str => decide (a.cps.toList ≤ b.cps.toList)) (fun a b c h1 h2 => decide_eq_true (List.le_trans (of_decide_eq_true h1) (of_decide_eq_true h2))) (fun a b => by
    rcases List.le_total a.cps.toList b.cps.toList with h | h
    · rw [decide_eq_true h]; rfl
    · rw [decide_eq_true h, Bool.or_true]) xs
  exact h1.imp fun h => of_decide_eq_true h
theorem srt_eq {xs ys : List Str} (h : ys.Pairwise fun a b => a.cps.toList ≤ b.cps.toList) (hp : xs.Perm ys) : srt xs = ys :=
  List.Perm.eq_of_pairwise (le := fun a b : Str => a.cps.toList ≤ b.cps.toList) (fun a b _ _ h1 h2 => str_ext (List.le_antisymm h1 h2)) (srt_sorted xs) h ((srt_perm xs).trans hp)
theorem srt_congr {xs ys : List Str} (h : xs.Perm ys) : srt xs = srt ys := srt_eq (srt_sorted ys) (h.trans (srt_perm ys).symm)
theorem mem_srt {x : Str} {xs : List Str} : x ∈ srt xs ↔ x ∈ xs := (srt_perm xs).mem_iff
structure Canon (l : List Str) : Prop where
  s : l.Pairwise fun a b => a.cps.toList ≤ b.cps.toList
  d : l.Nodup
theorem Canon.srt {l : List Str} (h : Canon l) : srt l = l := srt_eq h.s (.refl _)
theorem canon_srt {l : List Str} (h : l.Nodup) : Canon (srt l) := ⟨srt_sorted l, (srt_perm l).nodup_iff.mpr h⟩
theorem Canon.filter {l : List Str} (h : Canon l) (p : Str → Bool) : Canon (l.filter p) := ⟨h.s.sublist List.filter_sublist, h.d.sublist List.filter_sublist⟩
theorem within_iff {a b : List Str} : within a b = true ↔ ∀ x ∈ a, x ∈ b := by
  unfold within
  rw [List.all_eq_true]
  exact ⟨fun h x hx => mem_iff.mp (h x hx), fun h x hx => mem_iff.mpr (h x hx)⟩
theorem perm_of_mem : ∀ (fs ss : List Str), fs.Nodup → (∀ f ∈ fs, f ∈ ss) → fs.length ≤ ss.length ∧ (ss.length ≤ fs.length → ss.Perm fs)
  | [], ss, _, _ => ⟨Nat.zero_le _, fun h => by rw [List.eq_nil_of_length_eq_zero (Nat.le_zero.mp h)]⟩
  | f :: fs, ss, nd, h => by
    obtain ⟨a, b, rfl⟩ := List.append_of_mem (h f (.head _))
    rw [List.nodup_cons] at nd
    have hs : ∀ g ∈ fs, g ∈ a ++ b := fun g hg => by
      have := h g (.tail _ hg)
      rw [List.mem_append, List.mem_cons] at this
      rw [List.mem_append]
      rcases this with z | z | z
      · exact .inl z
      · rw [z] at hg; exact absurd hg nd.1
      · exact .inr z
    obtain ⟨h1, h2⟩ := perm_of_mem fs (a ++ b) nd.2 hs
    rw [List.length_append] at h1 h2
    refine ⟨by simp only [List.length_append, List.length_cons]; omega, fun hl => ?_⟩
    simp only [List.length_append, List.length_cons] at hl
    exact List.perm_middle.trans ((h2 (by omega)).cons f)
theorem canon_len {a b : List Str} (ha : Canon a) (h : within a b = true) : a.length ≤ b.length := (perm_of_mem a b ha.d (within_iff.mp h)).1
theorem canon_eq {a b : List Str} (ha : Canon a) (hb : Canon b) (h : within a b = true) (hl : b.length ≤ a.length) : a = b := by
  have pm := (perm_of_mem a b ha.d (within_iff.mp h)).2 hl
  rw [← ha.srt, ← hb.srt]
  exact srt_congr pm.symm
theorem within_refl (a : List Str) : within a a = true := within_iff.mpr fun _ h => h
theorem within_trans {a b c : List Str} (h : within a b = true) (k : within b c = true) : within a c = true := within_iff.mpr fun x hx => within_iff.mp k x (within_iff.mp h x hx)
theorem canon_anti {a b : List Str} (ha : Canon a) (hb : Canon b) (h : within a b = true) (k : within b a = true) : a = b := canon_eq ha hb h (canon_len hb k)
theorem nodup_cut {α : Type} {l : List α} (h : l.Nodup) (k : Nat) : (l.take k ++ l.drop (k + 1)).Nodup := by
  refine h.sublist ?_
  have := (List.Sublist.refl (l.take k)).append (List.drop_sublist_drop_left l (Nat.le_succ k))
  rwa [List.take_append_drop] at this
end TX

namespace TX
open PySem PySem.Spec PyProof.Rows L2 RZ DL
abbrev lstS (l : List Str) : PyData := .list (l.map PyData.str)
abbrev encT (p : Str × List (List Str)) : PyData := .tuple [.str p.1, .tuple (p.2.map tupS)]
theorem encT_eq : encF false = encT := rfl
/-! ### sorting pairs -/
theorem alike_lots : ∀ a b : List (List Str), PySem.W.alikeAll (a.map tupS) (b.map tupS) = true
  | [], _ => by simp [PySem.W.alikeAll]
  | _ :: _, [] => by simp [PySem.W.alikeAll]
  | x :: a, y :: b => by rw [List.map_cons, List.map_cons, PySem.W.alikeAll, alike_tupS, alike_lots a b]; rfl
theorem alike_encT (p q : Str × List (List Str)) : PySem.W.alike (encT p) (encT q) = true := by
  show PySem.W.alike (.tuple [.str p.1, .tuple (p.2.map tupS)]) (.tuple [.str q.1, .tuple (q.2.map tupS)]) = true
  simp only [PySem.W.alike, PySem.W.alikeAll, alike_lots, Bool.and_self]
theorem depth_lots : ∀ a : List (List Str), PyData.depthAll (a.map tupS) ≤ 1
  | [] => by simp [PyData.depthAll]
  | x :: a => by
    rw [List.map_cons, PyData.depthAll, depth_tupS]
    have := depth_lots a
    omega
theorem depth_encT (p : Str × List (List Str)) : (encT p).depth ≤ 3 := by
  show (PyData.tuple [.str p.1, .tuple (p.2.map tupS)]).depth ≤ 3
  have := depth_lots p.2
  simp only [PyData.depth, PyData.depthAll]
  omega
def srtO (o : Orch) : Orch := o.mergeSort fun p q => PySem.W.dataLe false id (encT p) (encT q)
theorem srtO_perm (o : Orch) : (srtO o).Perm o := List.mergeSort_perm _ _
theorem sort_pairs {o : Orch} (h : o.length ≤ 1000) : sortOp [.list (o.map encT)] = some (.ow (.lst ((srtO o).map encT))) := by
  have ok : sortOk (o.map encT) = true := by
    unfold sortOk alikeAllB sortableB
    simp only [Bool.and_eq_true, Bool.or_eq_true, decide_eq_true_eq, List.all_map, List.length_map]
    refine ⟨⟨⟨List.all_eq_true.mpr fun p _ => ?_, .inl (List.all_eq_true.mpr fun p _ => rfl)⟩, by omega⟩, List.all_eq_true.mpr fun p _ => ?_⟩
    · show (o.all ((fun e => PySem.W.alike (encT p) e) ∘ encT)) = true
      exact List.all_eq_true.mpr fun q _ => alike_encT p q
    · have := depth_encT p
      exact decide_eq_true (by omega)
  have es : sortD (o.map encT) = (srtO o).map encT := by
    unfold sortD srtO
    exact (List.map_mergeSort (f := encT) (s := PySem.W.dataLe false id) (r := fun p q => PySem.W.dataLe false id (encT p) (encT q)) fun p _ q _ => rfl).symm
  show (if sortOk (o.map encT) = true then some (Sl.ow (.lst (sortD (o.map encT)))) else none) = _
  rw [if_pos ok, es]
/-! ### a drawn orchard -/
def Txt17 (x : Str) : Prop := PyData.strOk x = true ∧ x.length ≤ 17
abbrev lotBody : Evn → Res Fl := fSeq (fAsg 7 (fIf (fTest (fOp gtOp (fCallT d__law_draw (fCons (fVar 0) (fCons (fC (.int 6)) fNil))) (fC (.int 0)))) (fSl (fVar 1) fNoPart (fPart (fVar 3))) (fOp addOp (fSl (fVar 1) fNoPart (fPart (fVar 3))) (fSl (fVar 1) (fPart (fOp addOp (fVar 3) (fC (.int 1)))) fNoPart))))
    (fDrop (fAppend 5 (fCallT d__law_part (fCons (fVar 0) (fCons (fVar 7) (fCons (fCallT d__law_draw (fCons (fVar 0) (fCons (fC (.int 4)) fNil))) fNil))))))
theorem lot_one {c : List PyData} {F2 x4 x6 x7 : Option Sl} {names : List Str} {k : Nat} {acc : List (List Str)} {T : Int} (h : IsTape T c) (hT : T + 20 < 9999) (hn : names.length ≤ 100) (nd : names.Nodup) (ha : acc.length < 1000) :
    ∃ (lot : List Str) (c' : List PyData) (y7 : Option Sl), lotBody [some (.io 0 (.lst c)), some (.fr (lstS names)), F2, some (.fr (.int k)), x4, some (.ow (.lst (acc.map lstS))), x6, x7]
      = .ok .nx [some (.io 0 (.lst c')), some (.fr (lstS names)), F2, some (.fr (.int k)), x4, some (.ow (.lst ((acc ++ [lot]).map lstS))), x6, y7] ∧ lot.length ≤ 3 ∧ (lot.Nodup ∧ ∀ x ∈ lot, x ∈ names) ∧ IsTape (T + 5) c' := by
  obtain ⟨v, c1, e1, v0, v1, t1⟩ := ev_draw (n := 6) (r := [some (.fr (lstS names)), F2, some (.fr (.int k)), x4, some (.ow (.lst (acc.map lstS))), x6, x7]) (f := fC (.int 6)) rfl h (by omega) (by decide) (by decide)
  -- the names to draw from
  obtain ⟨so, s1, s2, s3⟩ : ∃ so : List Str, fAsg 7 (fIf (fTest (fOp gtOp (fCallT d__law_draw (fCons (fVar 0) (fCons (fC (.int 6)) fNil))) (fC (.int 0)))) (fSl (fVar 1) fNoPart (fPart (fVar 3))) (fOp addOp (fSl (fVar 1) fNoPart (fPart (fVar 3))) (fSl (fVar 1) (fPart (fOp addOp (fVar 3) (fC (.int 1)))) fNoPart))) [some (.io 0 (.lst c)), some (.fr (lstS names)), F2, some (.fr (.int k)), x4, some (.ow (.lst (acc.map lstS))), x6, x7]
      = .ok .nx [some (.io 0 (.lst c1)), some (.fr (lstS names)), F2, some (.fr (.int k)), x4, some (.ow (.lst (acc.map lstS))), x6, some (.ow (.lst (so.map PyData.str)))] ∧ so.length ≤ 200 ∧ so.Nodup ∧ ∀ x ∈ so, x ∈ names := by
    have et : fTest (fOp gtOp (fCallT d__law_draw (fCons (fVar 0) (fCons (fC (.int 6)) fNil))) (fC (.int 0))) [some (.io 0 (.lst c)), some (.fr (lstS names)), F2, some (.fr (.int k)), x4, some (.ow (.lst (acc.map lstS))), x6, x7] = .ok (decide (v > 0)) [some (.io 0 (.lst c1)), some (.fr (lstS names)), F2, some (.fr (.int k)), x4, some (.ow (.lst (acc.map lstS))), x6, x7] := by
      rw [fTest, fOp, e1]
      simp only [fC, Res.bind, rd, rd0, gtI, ofOpt, asB]
    have z1 : fSl (fVar 1) fNoPart (fPart (fVar 3)) [some (.io 0 (.lst c1)), some (.fr (lstS names)), F2, some (.fr (.int k)), x4, some (.ow (.lst (acc.map lstS))), x6, x7] = .ok (.ow (.lst ((names.take k).map PyData.str))) [some (.io 0 (.lst c1)), some (.fr (lstS names)), F2, some (.fr (.int k)), x4, some (.ow (.lst (acc.map lstS))), x6, x7] := by
      simp only [fSl, fVar, fNoPart, fPart, Res.bind, List.getElem?_cons_succ, List.getElem?_cons_zero, rd, rd0, slOp, cutTo, ofOpt]
    have z2 : fSl (fVar 1) (fPart (fOp addOp (fVar 3) (fC (.int 1)))) fNoPart [some (.io 0 (.lst c1)), some (.fr (lstS names)), F2, some (.fr (.int k)), x4, some (.ow (.lst (acc.map lstS))), x6, x7] = .ok (.ow (.lst ((names.drop (k + 1)).map PyData.str))) [some (.io 0 (.lst c1)), some (.fr (lstS names)), F2, some (.fr (.int k)), x4, some (.ow (.lst (acc.map lstS))), x6, x7] := by
      simp only [fSl, fVar, fNoPart, fPart, fOp, fC, addI, Res.bind, List.getElem?_cons_succ, List.getElem?_cons_zero, rd, rd0, slOp, ofOpt]
      rw [show ((k : Int) + 1) = ((k + 1 : Nat) : Int) by omega, cutFrom]
    rw [fAsg, fIf, et]
    simp only [Res.bind]
    by_cases hv : v > 0
    · rw [decide_eq_true hv]
      simp only [if_true]
      rw [z1]
      exact ⟨names.take k, rfl, by rw [List.length_take]; omega, nd.sublist (List.take_sublist _ _), fun x hx => List.mem_of_mem_take hx⟩
    · rw [decide_eq_false hv]
      simp only [Bool.false_eq_true, if_false]
      have ea := addLL (a := (names.take k).map PyData.str) (b := (names.drop (k + 1)).map PyData.str) (by simp; omega)
      rw [fOp, z1]
      simp only [Res.bind]
      rw [z2]
      simp only [Res.bind, rd, rd0, Sl.own, Option.map, Cn.rd, ea, ofOpt]
      refine ⟨names.take k ++ names.drop (k + 1), ?_, by rw [List.length_append, List.length_take, List.length_drop]; omega, nodup_cut nd k, fun x hx => (List.mem_append.mp hx).elim List.mem_of_mem_take List.mem_of_mem_drop⟩
      rw [List.map_append]
      rfl
  obtain ⟨m, c2, e2, m0, m1, t2⟩ := ev_draw (n := 4) (r := [some (.fr (lstS names)), F2, some (.fr (.int k)), x4, some (.ow (.lst (acc.map lstS))), x6, some (.ow (.lst (so.map PyData.str)))]) (f := fC (.int 4)) rfl t1 (by omega) (by decide) (by decide)
  obtain ⟨m, rfl⟩ := Int.eq_ofNat_of_zero_le m0
  obtain ⟨lot, rest, c3, e3, l3, pm, t3⟩ := part_ok (m := m) (xs := so) (v := .list (so.map PyData.str)) t2 (by omega) (.inl rfl) (by omega)
  obtain ⟨u4, v4, w4, q4, _⟩ := t3.ex
  have nc : noLsts c3 = true := by rw [q4]; rfl
  refine ⟨lot, c3, some (.ow (.lst (so.map PyData.str))), ?_, by omega, ⟨(pm.nodup_iff.mpr s3.1).sublist (List.sublist_append_left _ _), fun x hx => s3.2 x (pm.mem_iff.mp (List.mem_append_left _ hx))⟩, t3.mono (by omega)⟩
  have ec : fCallT d__law_part (fCons (fVar 0) (fCons (fVar 7) (fCons (fCallT d__law_draw (fCons (fVar 0) (fCons (fC (.int 4)) fNil))) fNil))) [some (.io 0 (.lst c1)), some (.fr (lstS names)), F2, some (.fr (.int k)), x4, some (.ow (.lst (acc.map lstS))), x6, some (.ow (.lst (so.map PyData.str)))]
      = .ok (.ow (.lst (lot.map PyData.str))) [some (.io 0 (.lst c3)), some (.fr (lstS names)), F2, some (.fr (.int k)), x4, some (.ow (.lst (acc.map lstS))), x6, some (.ow (.lst (so.map PyData.str)))] := by
    have H := cons_step (f := fVar 0) (s := .br 0) (ρ := [some (.io 0 (.lst c1)), some (.fr (lstS names)), F2, some (.fr (.int k)), x4, some (.ow (.lst (acc.map lstS))), x6, some (.ow (.lst (so.map PyData.str)))]) rfl (cons_step (f := fVar 7) (s := .br 7) rfl (cons_step e2 (F := fNil) (ss := []) rfl))
    rw [fCallT, H]
    simp only [Res.bind, callT, List.getElem?_cons_succ, List.getElem?_cons_zero, Sl.own, rds, rd, rd0, Option.map, Cn.rd, noBr, List.all_cons, List.all_nil, e3]
    simp [allFr, isFr, Sl.put, noLstS, noLstC, noLsts_str, nc]
  have ha' : acc.length < 100000 := by omega
  rw [lotBody, fSeq, s1]
  simp only [Res.bind]
  simp [fDrop, fAppend, Res.bind, ec, fFz, frz, Sl.own, Sl.put, Cn.rd, ha', -List.map_map]
theorem lot_turns {F2 x4 : Option Sl} {names : List Str} {k : Nat} (hn : names.length ≤ 100) (nd : names.Nodup) : ∀ (ds : List PyData) (acc : List (List Str)) (c : List PyData) (x6 x7 : Option Sl) (T : Int), IsTape T c → T + 5 * ds.length + 20 < 9999 → acc.length + ds.length < 1000 →
    ∃ (lots : List (List Str)) (c' : List PyData) (y6 y7 : Option Sl), fLoop (gNm 6) lotBody ds [some (.io 0 (.lst c)), some (.fr (lstS names)), F2, some (.fr (.int k)), x4, some (.ow (.lst (acc.map lstS))), x6, x7]
      = .ok .nx [some (.io 0 (.lst c')), some (.fr (lstS names)), F2, some (.fr (.int k)), x4, some (.ow (.lst ((acc ++ lots).map lstS))), y6, y7] ∧ lots.length = ds.length ∧ (∀ l ∈ lots, l.length ≤ 3 ∧ l.Nodup ∧ ∀ x ∈ l, x ∈ names) ∧ IsTape (T + 5 * ds.length) c'
  | [], acc, c, x6, x7, T, h, _, _ => ⟨[], c, x6, x7, by simp [fLoop], rfl, (fun _ q => by cases q), by simpa using h⟩
  | d :: ds, acc, c, x6, x7, T, h, hT, hl => by
    simp only [List.length_cons] at hT hl
    obtain ⟨lot, c1, z7, e1, l1, m1, t1⟩ := lot_one (F2 := F2) (x4 := x4) (x6 := some (.fr d)) (x7 := x7) (k := k) (acc := acc) h (by omega) hn nd (by omega)
    obtain ⟨lots, c2, y6, y7, e2, l2, m2, t2⟩ := lot_turns (F2 := F2) (x4 := x4) (k := k) hn nd ds (acc ++ [lot]) c1 (some (.fr d)) z7 (T + 5) t1 (by omega) (by simp; omega)
    refine ⟨lot :: lots, c2, y6, y7, ?_, by simp [l2], fun l hl => ?_, t2.mono (by simp only [List.length_cons]; omega)⟩
    · rw [fLoop]
      have eg : gNm 6 d [some (.io 0 (.lst c)), some (.fr (lstS names)), F2, some (.fr (.int k)), x4, some (.ow (.lst (acc.map lstS))), x6, x7] = some [some (.io 0 (.lst c)), some (.fr (lstS names)), F2, some (.fr (.int k)), x4, some (.ow (.lst (acc.map lstS))), some (.fr d), x7] := rfl
      rw [eg]
      simp only []
      rw [e1]
      rw [show acc ++ lot :: lots = acc ++ [lot] ++ lots by simp]
      exact e2
    · rcases List.mem_cons.mp hl with z | z
      · rw [z]; exact ⟨l1, m1⟩
      · exact m2 l z
end TX

namespace TX
open PySem PySem.Spec PyProof.Rows L2 RZ DL
abbrev encP (p : Str × List (List Str)) : PyData := .tuple [.str p.1, .list (p.2.map lstS)]
abbrev tens : Evn → Res Sl := fLst (fCons (fC (.int 1)) (fCons (fC (.int 1)) (fCons (fC (.int 2)) (fCons (fC (.int 3)) (fCons (fC (.int 1)) (fCons (fC (.int 2)) (fCons (fC (.int 1)) (fCons (fC (.int 1)) (fCons (fC (.int 2)) (fCons (fC (.int 0)) fNil))))))))))
theorem ten {v : Int} (h0 : 0 ≤ v) (h8 : v < 10) : ∃ m : Nat, m ≤ 3 ∧ ixOp (.list [.int 1, .int 1, .int 2, .int 3, .int 1, .int 2, .int 1, .int 1, .int 2, .int 0]) (.int v) = some (.fr (.int m)) := by
  obtain ⟨k, rfl⟩ := Int.eq_ofNat_of_zero_le h0
  have hk : k < 10 := by omega
  match k, hk with
  | 0, _ => exact ⟨1, by decide, rfl⟩
  | 1, _ => exact ⟨1, by decide, rfl⟩
  | 2, _ => exact ⟨2, by decide, rfl⟩
  | 3, _ => exact ⟨3, by decide, rfl⟩
  | 4, _ => exact ⟨1, by decide, rfl⟩
  | 5, _ => exact ⟨2, by decide, rfl⟩
  | 6, _ => exact ⟨1, by decide, rfl⟩
  | 7, _ => exact ⟨1, by decide, rfl⟩
  | 8, _ => exact ⟨2, by decide, rfl⟩
  | 9, _ => exact ⟨0, by decide, rfl⟩
abbrev pairBody : Evn → Res Fl := fSeq (fAsg 5 (fLst fNil))
    (fSeq (fFor (fRange1 (fCons (fOp ixOp tens (fCallT d__law_draw (fCons (fVar 0) (fCons (fC (.int 10)) fNil)))) fNil)) (gNm 6) lotBody)
    (fDrop (fAppend 2 (fTup (fCons (fVar 4) (fCons (fFz (fVar 5)) fNil))))))
def PairOk (names : List Str) (p : Str × List (List Str)) : Prop := p.2.length ≤ 3 ∧ ∀ l ∈ p.2, l.length ≤ 3 ∧ l.Nodup ∧ ∀ x ∈ l, x ∈ names
theorem pair_one {c : List PyData} {x5 x6 x7 : Option Sl} {names : List Str} {k : Nat} {f : Str} {found : List PyData} {T : Int} (h : IsTape T c) (hT : T + 50 < 9999) (hn : names.length ≤ 100) (nd : names.Nodup) (ha : found.length < 1000) :
    ∃ (p : Str × List (List Str)) (c' : List PyData) (y5 y6 y7 : Option Sl), pairBody [some (.io 0 (.lst c)), some (.fr (lstS names)), some (.ow (.lst found)), some (.fr (.int k)), some (.fr (.str f)), x5, x6, x7]
      = .ok .nx [some (.io 0 (.lst c')), some (.fr (lstS names)), some (.ow (.lst (found ++ [encP p]))), some (.fr (.int k)), some (.fr (.str f)), y5, y6, y7] ∧ p.1 = f ∧ PairOk names p ∧ IsTape (T + 16) c' := by
  have s1 : fAsg 5 (fLst fNil) [some (.io 0 (.lst c)), some (.fr (lstS names)), some (.ow (.lst found)), some (.fr (.int k)), some (.fr (.str f)), x5, x6, x7] = .ok .nx [some (.io 0 (.lst c)), some (.fr (lstS names)), some (.ow (.lst found)), some (.fr (.int k)), some (.fr (.str f)), some (.ow (.lst [])), x6, x7] := rfl
  obtain ⟨v, c1, e1, v0, v1, t1⟩ := ev_draw (n := 10) (r := [some (.fr (lstS names)), some (.ow (.lst found)), some (.fr (.int k)), some (.fr (.str f)), some (.ow (.lst [])), x6, x7]) (f := fC (.int 10)) rfl h (by omega) (by decide) (by decide)
  obtain ⟨m, hm, em⟩ := ten v0 v1
  have er : fRange1 (fCons (fOp ixOp tens (fCallT d__law_draw (fCons (fVar 0) (fCons (fC (.int 10)) fNil)))) fNil) [some (.io 0 (.lst c)), some (.fr (lstS names)), some (.ow (.lst found)), some (.fr (.int k)), some (.fr (.str f)), some (.ow (.lst [])), x6, x7] = .ok ((List.range m).map fun (k : Nat) => PyData.int (k : Int)) [some (.io 0 (.lst c1)), some (.fr (lstS names)), some (.ow (.lst found)), some (.fr (.int k)), some (.fr (.str f)), some (.ow (.lst [])), x6, x7] := by
    have et : ∀ ρ, tens ρ = .ok (.ow (.lst [.int 1, .int 1, .int 2, .int 3, .int 1, .int 2, .int 1, .int 1, .int 2, .int 0])) ρ := fun ρ => rfl
    have hm2 : (m : Int) ≤ 1000000 := by omega
    rw [fRange1, fCons, fOp, et]
    simp only [Res.bind]
    rw [e1]
    simp only [Res.bind, fNil, rds, rd, rd0, Sl.own, Option.map, Cn.rd, em, ofOpt, rng_nat, Int.toNat_natCast]
    rw [if_pos ⟨hm2, by omega⟩]
  obtain ⟨lots, c2, y6, y7, e2, l2, m2, t2⟩ := lot_turns (F2 := some (.ow (.lst found))) (x4 := some (.fr (.str f))) (k := k) hn nd ((List.range m).map fun (k : Nat) => PyData.int (k : Int)) [] c1 x6 x7 (T + 1) t1 (by simp; omega) (by simp; omega)
  have ll : lots.length ≤ 3 := by rw [l2]; simp; omega
  refine ⟨(f, lots), c2, some (.fr (.list (lots.map lstS))), y6, y7, ?_, rfl, ⟨ll, m2⟩, t2.mono (by simp; omega)⟩
  have hf : found.length < 100000 := by omega
  rw [pairBody, fSeq, s1]
  simp only [Res.bind]
  rw [fSeq, fFor, er]
  simp only [Res.bind]
  simp only [List.map_nil, List.nil_append] at e2
  rw [e2]
  simp only []
  simp [fDrop, fAppend, fTup, fCons, fVar, fNil, Res.bind, DL.frs, fFz, frz, Sl.own, Sl.put, hf, Cn.rd, -List.map_map]
theorem pair_loop {names : List Str} (hn : names.length ≤ 100) (nd : names.Nodup) : ∀ (fs : List Str) (i : Nat) (found : List PyData) (c : List PyData) (x3 x4 x5 x6 x7 : Option Sl) (T : Int), IsTape T c → T + 16 * fs.length + 50 < 9999 → found.length + fs.length < 1000 →
    ∃ (ps : List (Str × List (List Str))) (c' : List PyData) (y3 y4 y5 y6 y7 : Option Sl), fLoop (gSeqF 2 (gConsF (gNm 3) (gConsF (gNm 4) gNilF))) pairBody ((List.range' i fs.length).zipWith (fun (k : Nat) d => PyData.tuple [.int k, d]) (fs.map PyData.str)) [some (.io 0 (.lst c)), some (.fr (lstS names)), some (.ow (.lst found)), x3, x4, x5, x6, x7]
      = .ok .nx [some (.io 0 (.lst c')), some (.fr (lstS names)), some (.ow (.lst (found ++ ps.map encP))), y3, y4, y5, y6, y7] ∧ ps.map (·.1) = fs ∧ (∀ p ∈ ps, PairOk names p) ∧ IsTape (T + 16 * fs.length) c'
  | [], i, found, c, x3, x4, x5, x6, x7, T, h, _, _ => ⟨[], c, x3, x4, x5, x6, x7, by simp [fLoop], rfl, (fun _ z => by cases z), by simpa using h⟩
  | f :: fs, i, found, c, x3, x4, x5, x6, x7, T, h, hT, hl => by
    simp only [List.length_cons] at hT hl
    obtain ⟨p, c1, z5, z6, z7, e1, pf, pk, t1⟩ := pair_one (k := i) (f := f) (x5 := x5) (x6 := x6) (x7 := x7) (found := found) h (by omega) hn nd (by omega)
    obtain ⟨ps, c2, y3, y4, y5, y6, y7, e2, pm, pk2, t2⟩ := pair_loop hn nd fs (i + 1) (found ++ [encP p]) c1 (some (.fr (.int i))) (some (.fr (.str f))) z5 z6 z7 (T + 16) t1 (by omega) (by simp; omega)
    refine ⟨p :: ps, c2, y3, y4, y5, y6, y7, ?_, by rw [List.map_cons, pm, pf], fun q hq => ?_, t2.mono (by simp only [List.length_cons]; omega)⟩
    · rw [List.length_cons, List.range'_succ, List.map_cons, List.zipWith_cons_cons, fLoop]
      have eg : gSeqF 2 (gConsF (gNm 3) (gConsF (gNm 4) gNilF)) (.tuple [.int i, .str f]) [some (.io 0 (.lst c)), some (.fr (lstS names)), some (.ow (.lst found)), x3, x4, x5, x6, x7]
        = some [some (.io 0 (.lst c)), some (.fr (lstS names)), some (.ow (.lst found)), some (.fr (.int i)), some (.fr (.str f)), x5, x6, x7] := rfl
      rw [eg]
      simp only []
      rw [e1]
      rw [show found ++ (p :: ps).map encP = found ++ [encP p] ++ ps.map encP by simp]
      exact e2
    · rcases List.mem_cons.mp hq with z | z
      · rw [z]; exact pk
      · exact pk2 q z
theorem pairs_ok {c : List PyData} {names : List Str} {T : Int} (h : IsTape T c) (hT : T + 16 * names.length + 50 < 9999) (hn : names.length ≤ 100) (nd : names.Nodup) :
    ∃ (ps : List (Str × List (List Str))) (c' : List PyData), d__law_pairs (some (.lst c)) [lstS names] = .ok (.ow (.lst (ps.map encP))) (some (.lst c')) ∧ ps.map (·.1) = names ∧ (∀ p ∈ ps, PairOk names p) ∧ IsTape (T + 16 * names.length) c' := by
  obtain ⟨ps, c', y3, y4, y5, y6, y7, e, pm, pk, t⟩ := pair_loop hn nd names 0 [] c none none none none none T h hT (by simp; omega)
  refine ⟨ps, c', ?_, pm, pk, t⟩
  show finR (some (.lst c)) (g__law_pairs [some (.io 0 (.lst c)), some (.fr (lstS names)), none, none, none, none, none, none]) = _
  have s1 : fAsg 2 (fLst fNil) [some (.io 0 (.lst c)), some (.fr (lstS names)), none, none, none, none, none, none] = .ok .nx [some (.io 0 (.lst c)), some (.fr (lstS names)), some (.ow (.lst [])), none, none, none, none, none] := rfl
  have e4 : fEnum (fCons (fFz (fVar 1)) fNil) [some (.io 0 (.lst c)), some (.fr (lstS names)), some (.ow (.lst [])), none, none, none, none, none]
      = .ok ((List.range' 0 names.length).zipWith (fun (k : Nat) d => PyData.tuple [.int k, d]) (names.map PyData.str)) [some (.io 0 (.lst c)), some (.fr (lstS names)), some (.ow (.lst [])), none, none, none, none, none] := by
    show Res.ok (enumD (names.map PyData.str)) _ = _
    unfold enumD
    rw [List.length_map, List.range_eq_range']
  rw [g__law_pairs, fSeq, s1]
  simp only [Res.bind]
  rw [fSeq, fFor, e4]
  simp only [Res.bind]
  simp only [List.nil_append] at e
  show finR _ ((Res.bind (fLoop (gSeqF 2 (gConsF (gNm 3) (gConsF (gNm 4) gNilF))) pairBody _ _) _)) = _
  rw [e]
  rfl
/-! ### made -/
def madeP (ps : List (Str × List (List Str))) : Orch := srtO (ps.map fun p => (p.1, leastP p.2))
def unP : PyData → List (List Str)
  | .tuple [_, .list ls] => ls.map unT
  | _ => []
def unF : PyData → Str
  | .tuple (.str f :: _) => f
  | _ => ""
theorem made_ok {ps : List (Str × List (List Str))} (hn : ps.length ≤ 100) (ok : ∀ p ∈ ps, p.2.length < 64 ∧ ∀ l ∈ p.2, okL l) : d__law_made none [.list (ps.map encP)] = .ok (.fr (encO false (madeP ps))) none := by
  obtain ⟨A, hA⟩ : ∃ A, A = PyData.list (ps.map encP) := ⟨_, rfl⟩
  show finR none (g__law_made [some (.fr (.list (ps.map encP))), none, none]) = _
  rw [← hA]
  have e1 := lc_ok (ks := [1, 2]) (it := fIterS (fVar 0)) (g := gSeqF 2 (gConsF (gNm 1) (gConsF (gNm 2) gNilF))) (c := fun ρ => .ok true ρ) (f := fTup (fCons (fVar 1) (fCons (fCallV d__law_least (fCons (fVar 2) fNil)) fNil)))
    (ρ := [some (.fr A), none, none]) (ρ0 := [some (.fr A), none, none]) (ρ1 := [some (.fr A), none, none]) (ds := ps.map encP) (fun _ => true) (fun d => encT (unF d, leastP (unP d)))
    (by rw [hA]; rfl) (by rw [List.length_map]; omega) (by simp) rfl (fun d hd => by
      obtain ⟨p, hp, rfl⟩ := List.mem_map.mp hd
      refine ⟨[some (.fr A), some (.fr (.str p.1)), some (.fr (.list (p.2.map lstS)))], rfl, [some (.fr A), some (.fr (.str p.1)), some (.fr (.list (p.2.map lstS)))], rfl, fun _ => ⟨[some (.fr A), some (.fr (.str p.1)), some (.fr (.list (p.2.map lstS)))], ?_, rfl⟩, fun z => (by cases z)⟩
      have el := least_ok (ok p hp).1 (ok p hp).2
      have eu : unP (encP p) = p.2 := by
        show (p.2.map lstS).map unT = p.2
        rw [List.map_map]
        exact (List.map_congr_left fun l _ => unT_list l).trans (List.map_id' p.2)
      rw [eu]
      simp only [fFz, fTup, fCallV, fCons, fVar, fNil, Res.bind, List.getElem?_cons_succ, List.getElem?_cons_zero, callV, rds, rd, rd0, el, allFr, isFr, List.all_cons, List.all_nil, Bool.and_true, Bool.true_or, if_true, DL.frs, frz]
      rfl)
  have em : ((ps.map encP).filter fun _ => true).map (fun d => encT (unF d, leastP (unP d))) = (ps.map fun p => (p.1, leastP p.2)).map encT := by
    rw [filt_true, List.map_map, List.map_map]
    refine List.map_congr_left fun p _ => ?_
    have eu : unP (encP p) = p.2 := by
      show (p.2.map lstS).map unT = p.2
      rw [List.map_map]
      exact (List.map_congr_left fun l _ => unT_list l).trans (List.map_id' p.2)
    show encT (p.1, leastP (unP (encP p))) = encT (p.1, leastP p.2)
    rw [eu]
  rw [em] at e1
  have es := sort_pairs (o := ps.map fun p => (p.1, leastP p.2)) (by rw [List.length_map]; omega)
  rw [g__law_made, fRet, fCB, fCons, fCB, fCons, e1]
  simp only [fNil, Res.bind, rds, rd, rd0, Sl.own, Option.map, Cn.rd, es, ofOpt, tupleOp]
  rfl
end TX

namespace TX
open PySem PySem.Spec PyProof.Rows L2 RZ DL
abbrev frsO (o : Orch) : List Str := o.map (·.1)
structure OrOk (o : Orch) : Prop where
  nd : (frsO o).Nodup
  n : o.length ≤ 10
  t : ∀ p ∈ o, Txt17 p.1 ∧ p.2.length ≤ 3 ∧ ∀ l ∈ p.2, l.length ≤ 3 ∧ ∀ x ∈ l, Txt17 x
  c : ∀ p ∈ o, ∀ l ∈ p.2, Canon l
  nm : ∀ x ∈ frsO o, IsNm x
  s : (frsO o).Pairwise fun a b => a.cps.toList ≤ b.cps.toList
  w : ∀ p ∈ o, ∀ l ∈ p.2, ∀ x ∈ l, x ∈ frsO o
  sg : Strg (frsO o)
theorem OrOk.small {o : Orch} (h : OrOk o) : SmallO o := ⟨by have := h.n; omega, fun p hp => ⟨by have := (h.t p hp).2.1; omega, fun l hl => by have := ((h.t p hp).2.2 l hl).1; omega⟩⟩
theorem OrOk.ok {o : Orch} (h : OrOk o) : OkO o := fun p hp => (h.t p hp).1.1
theorem nl_tups : ∀ ls : List (List Str), noLsts (ls.map tupS) = true
  | [] => rfl
  | l :: ls => by simp [noLsts, noLst, noLsts_str, nl_tups ls]
theorem noLst_encO (o : Orch) : noLst (encO false o) = true := by
  have : ∀ o : Orch, noLsts (o.map encT) = true := by
    intro o
    induction o with
    | nil => rfl
    | cons p o ih => simp [noLsts, noLst, nl_tups, ih]
  exact this o
theorem leO_total : PySem.W.TotalLe fun p q : Str × List (List Str) => PySem.W.dataLe false id (encT p) (encT q) := PySem.W.sortLe_total (listOrd itemOrd) false fun p : Str × List (List Str) => PySem.W.keyToks (encT p)
theorem leO_fst {p q : Str × List (List Str)} (h : PySem.W.dataLe false id (encT p) (encT q) = true) : p.1.cps.toList ≤ q.1.cps.toList := by
  have h : (!PySem.W.dataLt (encT q) (encT p)) = true := h
  have a1 : PySem.W.alike (.str q.1) (.str p.1) = true := by simp [PySem.W.alike]
  have a2 : PySem.W.alike (.tuple (q.2.map tupS)) (.tuple (p.2.map tupS)) = true := by simp only [PySem.W.alike, alike_lots]
  have e : PySem.W.dataLt (encT q) (encT p) = if PyData.eqv (.str q.1) (.str p.1) = true then (if PyData.eqv (.tuple (q.2.map tupS)) (.tuple (p.2.map tupS)) = true then false else PySem.W.dataLt (.tuple (q.2.map tupS)) (.tuple (p.2.map tupS))) else PySem.W.dataLt (.str q.1) (.str p.1) := PySem.W.dataLt_pair a1 a2
  rw [e] at h
  by_cases c : PyData.eqv (.str q.1) (.str p.1) = true
  · have : q.1 = p.1 := by simpa [PyData.eqv] using c
    rw [this]
    exact List.le_refl _
  · rw [if_neg c, PySem.W.dataLt_str, Bool.not_eq_true', decide_eq_false_iff_not] at h
    exact List.not_lt.mp h
theorem srtO_sorted (o : Orch) : (frsO (srtO o)).Pairwise fun a b => a.cps.toList ≤ b.cps.toList := by
  have h1 := List.pairwise_mergeSort leO_total.trans (fun a b => by
    rcases leO_total.total a b with h | h
    · rw [h]; rfl
    · rw [h, Bool.or_true]) o
  unfold frsO
  rw [List.pairwise_map]
  exact h1.imp fun h => leO_fst h
theorem orchard_ok {c : List PyData} {few most : Nat} {T : Int} (h : IsTape T c) (hT : T + 250 < 8000) (h1 : few ≤ most) (h2 : most ≤ 10) :
    ∃ (o : Orch) (c' : List PyData), d__law_orchard (some (.lst c)) [.int few, .int most] = .ok (.fr (encO false o)) (some (.lst c')) ∧ OrOk o ∧ (few ≤ o.length ∧ o.length ≤ most) ∧ IsTape (T + 200) c' := by
  obtain ⟨v, c1, e1, v0, v1, t1⟩ := ev_draw (n := (most : Int) - few + 1) (r := [some (.fr (.int few)), some (.fr (.int most))]) (f := fOp addOp (fOp subOp (fVar 2) (fVar 1)) (fC (.int 1))) (by
    simp [fOp, fVar, fC, Res.bind, rd, rd0, subOp, op2I, ofOpt, addI]) h (by omega) (by omega) (by omega)
  obtain ⟨k, rfl⟩ := Int.eq_ofNat_of_zero_le v0
  obtain ⟨names, c2, e2, l2, nd, ok, nm, sg, t2⟩ := names_ok (n := few + k) t1 (by omega) (by omega)
  obtain ⟨ps, c3, e3, pm, pk, t3⟩ := pairs_ok (names := names) t2 (by omega) (by omega) nd
  have on : ∀ x ∈ names, Txt17 x := fun x hx => ⟨(ok x hx).2, (ok x hx).1⟩
  have lp : ps.length = names.length := by rw [← pm, List.length_map]
  have e4 := made_ok (ps := ps) (by omega) (fun p hp => ⟨by have := (pk p hp).1; omega, fun l hl => ⟨by have := ((pk p hp).2 l hl).1; omega, fun x hx => (on x (((pk p hp).2 l hl).2.2 x hx)).1⟩⟩)
  have mem' : ∀ p ∈ madeP ps, ∃ q ∈ ps, p = (q.1, leastP q.2) := fun p hp => by
    have := (srtO_perm _).mem_iff.mp hp
    obtain ⟨q, hq, rfl⟩ := List.mem_map.mp this
    exact ⟨q, hq, rfl⟩
  have lm : (madeP ps).length = ps.length := by
    unfold madeP
    rw [(srtO_perm _).length_eq, List.length_map]
  have fm : (frsO (madeP ps)).Perm names := by
    unfold madeP frsO
    refine ((srtO_perm _).map _).trans ?_
    rw [List.map_map, ← pm]
    exact .refl _
  refine ⟨madeP ps, c3, ?_, ⟨fm.nodup_iff.mpr nd, by omega, fun p hp => ?_, fun p hp l hl => ?_, fun x hx => nm x (fm.mem_iff.mp hx), srtO_sorted _, fun p hp l hl x hx => ?_, fun z => sg ⟨fm.mem_iff.mp z.1, fm.mem_iff.mp z.2⟩⟩, ⟨by omega, by omega⟩, t3.mono (by omega)⟩
  · show finR (some (.lst c)) (g__law_orchard [some (.io 0 (.lst c)), some (.fr (.int few)), some (.fr (.int most))]) = _
    have a1 : fOp addOp (fVar 1) (fCallT d__law_draw (fCons (fVar 0) (fCons (fOp addOp (fOp subOp (fVar 2) (fVar 1)) (fC (.int 1))) fNil))) [some (.io 0 (.lst c)), some (.fr (.int few)), some (.fr (.int most))] = .ok (.fr (.int (few + k : Nat))) [some (.io 0 (.lst c1)), some (.fr (.int few)), some (.fr (.int most))] := by
      have ev : fVar 1 [some (.io 0 (.lst c)), some (.fr (.int few)), some (.fr (.int most))] = .ok (.fr (.int few)) [some (.io 0 (.lst c)), some (.fr (.int few)), some (.fr (.int most))] := rfl
      rw [fOp, ev]
      simp only [Res.bind]
      rw [e1]
      simp only [Res.bind, rd, rd0, addI, ofOpt]
      rw [show ((few : Int) + (k : Int)) = ((few + k : Nat) : Int) by omega]
    have a2 : fFz (fCallT d__law_names (fCons (fVar 0) (fCons (fOp addOp (fVar 1) (fCallT d__law_draw (fCons (fVar 0) (fCons (fOp addOp (fOp subOp (fVar 2) (fVar 1)) (fC (.int 1))) fNil)))) fNil))) [some (.io 0 (.lst c)), some (.fr (.int few)), some (.fr (.int most))] = .ok (.fr (lstS names)) [some (.io 0 (.lst c2)), some (.fr (.int few)), some (.fr (.int most))] := by
      rw [fFz, fCallT, cons_step (f := fVar 0) (s := .br 0) rfl (cons_step a1 (F := fNil) (ss := []) rfl)]
      simp only [Res.bind, callT, List.getElem?_cons_zero, Sl.own, rds, rd, rd0, noBr, List.all_cons, List.all_nil, e2]
      simp [allFr, isFr, Sl.put, frz, Cn.rd]
    have a3 : fCallT d__law_pairs (fCons (fVar 0) (fCons (fFz (fCallT d__law_names (fCons (fVar 0) (fCons (fOp addOp (fVar 1) (fCallT d__law_draw (fCons (fVar 0) (fCons (fOp addOp (fOp subOp (fVar 2) (fVar 1)) (fC (.int 1))) fNil)))) fNil)))) fNil)) [some (.io 0 (.lst c)), some (.fr (.int few)), some (.fr (.int most))] = .ok (.ow (.lst (ps.map encP))) [some (.io 0 (.lst c3)), some (.fr (.int few)), some (.fr (.int most))] := by
      rw [fCallT, cons_step (f := fVar 0) (s := .br 0) rfl (cons_step a2 (F := fNil) (ss := []) rfl)]
      simp only [Res.bind, callT, List.getElem?_cons_zero, Sl.own, rds, rd, rd0, noBr, List.all_cons, List.all_nil, e3]
      simp [allFr, isFr, Sl.put]
    have nO := noLst_encO (madeP ps)
    rw [g__law_orchard, fRet, fCallV, cons_step a3 (F := fNil) (ss := []) rfl]
    simp only [Res.bind, callV, rds, rd, rd0, Sl.own, Option.map, Cn.rd, e4, noLstS, nO, Bool.or_true, if_true]
    rfl
  · obtain ⟨q, hq, rfl⟩ := mem' p hp
    have hn : q.1 ∈ names := by rw [← pm]; exact List.mem_map.mpr ⟨q, hq, rfl⟩
    refine ⟨on _ hn, Nat.le_trans (leastP_len _) (pk q hq).1, fun l hl => ?_⟩
    obtain ⟨m, hm, rfl⟩ := leastP_sub hl
    exact ⟨by rw [(srt_perm m).length_eq]; exact ((pk q hq).2 m hm).1, fun x hx => on x (((pk q hq).2 m hm).2.2 x ((srt_perm m).mem_iff.mp hx))⟩
  · obtain ⟨q, hq, rfl⟩ := mem' p hp
    obtain ⟨m, hm, rfl⟩ := leastP_sub hl
    exact canon_srt ((pk q hq).2 m hm).2.1
  · obtain ⟨q, hq, rfl⟩ := mem' p hp
    obtain ⟨m, hm, rfl⟩ := leastP_sub hl
    exact fm.mem_iff.mpr (((pk q hq).2 m hm).2.2 x ((srt_perm m).mem_iff.mp hx))
/-! ### a drawn liking -/
theorem liking_ok {c : List PyData} {o : Orch} {T : Int} (h : IsTape T c) (hT : T + 20 < 9999) (hO : OrOk o) :
    ∃ (lk : List Str) (c' : List PyData), d__law_liking (some (.lst c)) [encO false o] = .ok (.fr (tupS lk)) (some (.lst c')) ∧ lk.Perm (frsO o) ∧ IsTape (T + 10) c' := by
  have hn := hO.n
  have lf : (frsO o).length = o.length := List.length_map _
  obtain ⟨lk, rest, c1, e1, l1, pm, t1⟩ := part_ok (m := o.length) (xs := frsO o) (v := lstS (frsO o)) h (by omega) (.inl rfl) (by omega)
  have hr : rest = [] := by
    have z := pm.length_eq
    rw [List.length_append] at z
    exact List.eq_nil_of_length_eq_zero (by omega)
  rw [hr, List.append_nil] at pm
  refine ⟨lk, c1, ?_, pm, t1.mono (by omega)⟩
  show finR (some (.lst c)) (g__law_liking [some (.io 0 (.lst c)), some (.fr (encO false o)), none, none]) = _
  have lc := lc_ok (ks := [2, 3]) (it := fIterS (fVar 1)) (g := gSeqF 2 (gConsF (gNm 2) (gConsF (gNm 3) gNilF))) (c := fun ρ => .ok true ρ) (f := fVar 2)
    (ρ := [some (.io 0 (.lst c)), some (.fr (encO false o)), none, none]) (ρ0 := [some (.io 0 (.lst c)), some (.fr (encO false o)), none, none]) (ρ1 := [some (.io 0 (.lst c)), some (.fr (encO false o)), none, none]) (ds := o.map (encF false)) (fun _ => true) (fun d => .str (unF d)) (it_sq rfl) (by rw [List.length_map]; omega) (by simp) rfl (fun d hd => by
      obtain ⟨p, hp, rfl⟩ := List.mem_map.mp hd
      exact ⟨[some (.io 0 (.lst c)), some (.fr (encO false o)), some (.fr (.str p.1)), some (.fr (encL false p.2))], rfl, [some (.io 0 (.lst c)), some (.fr (encO false o)), some (.fr (.str p.1)), some (.fr (encL false p.2))], rfl, fun _ => ⟨[some (.io 0 (.lst c)), some (.fr (encO false o)), some (.fr (.str p.1)), some (.fr (encL false p.2))], rfl, rfl⟩, fun z => (by cases z)⟩)
  have em : ((o.map (encF false)).filter fun _ => true).map (fun d => PyData.str (unF d)) = (frsO o).map PyData.str := by
    rw [filt_true, List.map_map, List.map_map]
    rfl
  rw [em] at lc
  have hb : backE [some (.io 0 (.lst c)), some (.fr (encO false o)), none, none] [some (.io 0 (.lst c)), some (.fr (encO false o)), none, none] [2, 3] = [some (.io 0 (.lst c)), some (.fr (encO false o)), none, none] := rfl
  rw [hb] at lc
  have el : fCB lenOp (fCons (fVar 1) fNil) [some (.io 0 (.lst c)), some (.fr (encO false o)), none, none] = .ok (.fr (.int o.length)) [some (.io 0 (.lst c)), some (.fr (encO false o)), none, none] := by
    simp [fCB, fCons, fVar, fNil, Res.bind, rds, rd, rd0, lenOp, encO, sq, ofOpt]
  obtain ⟨u4, v4, w4, q4, _⟩ := t1.ex
  have nc : noLsts c1 = true := by rw [q4]; rfl
  have ec : fCallT d__law_part (fCons (fVar 0) (fCons (fLc [2, 3] (fIterS (fVar 1)) (gSeqF 2 (gConsF (gNm 2) (gConsF (gNm 3) gNilF))) (fun ρ => .ok true ρ) (fVar 2)) (fCons (fCB lenOp (fCons (fVar 1) fNil)) fNil))) [some (.io 0 (.lst c)), some (.fr (encO false o)), none, none] = .ok (.ow (.lst (lk.map PyData.str))) [some (.io 0 (.lst c1)), some (.fr (encO false o)), none, none] := by
    rw [fCallT, cons_step (f := fVar 0) (s := .br 0) rfl (cons_step lc (cons_step el (F := fNil) (ss := []) rfl))]
    simp only [Res.bind, callT, List.getElem?_cons_zero, Sl.own, rds, rd, rd0, Option.map, Cn.rd, noBr, List.all_cons, List.all_nil, e1]
    simp [allFr, isFr, Sl.put, noLstS, noLstC, noLsts_str, nc]
  rw [g__law_liking, fRet, fCB, cons_step ec (F := fNil) (ss := []) rfl]
  rfl
end TX

namespace TX
open PySem PySem.Spec PyProof.Rows L2 RZ DL
abbrev Note := List Str × List Str
abbrev encN (n : Note) : PyData := .tuple [tupS n.1, lstS n.2]
structure NoteOk (o : Orch) (m : Nat) (n : Note) : Prop where
  p : n.1.Perm (frsO o)
  t : ∀ x ∈ n.2, Txt17 x
  l : n.2.length ≤ m
theorem OrOk.frs {o : Orch} (h : OrOk o) : ∀ x ∈ frsO o, Txt17 x := fun x hx => by
  obtain ⟨p, hp, rfl⟩ := List.mem_map.mp hx
  exact (h.t p hp).1
/-! ### the pickings told -/
theorem perm_len {o : Orch} {l : List Str} (h : l.Perm (frsO o)) : l.length = o.length := by rw [h.length_eq, List.length_map]
theorem perm_mem {o : Orch} {l : List Str} (h : l.Perm (frsO o)) : ∀ p ∈ o, p.1 ∈ l := fun p hp => h.mem_iff.mpr (List.mem_map.mpr ⟨p, hp, rfl⟩)
theorem pickR_ok {o : Orch} (hO : OrOk o) {l : List Str} (h : l.Perm (frsO o)) : (∀ x ∈ pickR o l, Txt17 x) ∧ (pickR o l).length ≤ 10 := by
  obtain ⟨q, e, z, lq, mq⟩ := pickR_val (perm_mem h)
  have hn := hO.n
  exact ⟨fun x hx => hO.frs x (h.mem_iff.mp (mq x hx)), by rw [z, List.length_map]; omega⟩
end TX

namespace TX
open PySem PySem.Spec PyProof.Rows L2 RZ DL
/-! ### what repr shows -/
abbrev OkS (x : Str) : Prop := PyData.strOk x = true
theorem okS_iff {x : Str} : OkS x ↔ ∀ c ∈ x.cps.toList, c < 1114112 := ok_iff
theorem hexes (c n : Nat) : ∀ y ∈ List.replicate (n - ((Nat.toDigits 16 c).map Char.toNat).length) 48 ++ (Nat.toDigits 16 c).map Char.toNat, y < 1114112 := by
  intro y hy
  rcases List.mem_append.mp hy with h | h
  · rw [(List.mem_replicate.mp h).2]
    decide
  · obtain ⟨ch, _, rfl⟩ := List.mem_map.mp h
    have := ch.valid
    show ch.val.toNat < 1114112
    unfold UInt32.isValidChar Nat.isValidChar at this
    omega
theorem reprChar_ok {q c : Nat} (hc : c < 1114112) : ∀ y ∈ PySem.Builtin.Str.reprChar q c, y < 1114112 := by
  unfold PySem.Builtin.Str.reprChar
  dsimp only
  repeat' split
  all_goals
    intro y hy
    first
      | (simp only [List.mem_cons, List.not_mem_nil, or_false] at hy; omega)
      | (rcases List.mem_append.mp hy with h | h
         · simp only [List.mem_cons, List.not_mem_nil, or_false] at h
           omega
         · exact hexes c _ y h)
theorem reprFold (q : Nat) : ∀ (l : List Nat) (acc : Array Nat), (∀ c ∈ l, c < 1114112) → (∀ c ∈ acc.toList, c < 1114112) →
    (∀ c ∈ (l.foldl (fun out c => out ++ (PySem.Builtin.Str.reprChar q c).toArray) acc).toList, c < 1114112) ∧ (l.foldl (fun out c => out ++ (PySem.Builtin.Str.reprChar q c).toArray) acc).size ≤ acc.size + 10 * l.length
  | [], acc, _, h => ⟨h, by simp⟩
  | c :: l, acc, hl, h => by
    have hc := hl c (.head _)
    have ih := reprFold q l (acc ++ (PySem.Builtin.Str.reprChar q c).toArray) (fun d hd => hl d (.tail _ hd)) fun d hd => by
      rw [Array.toList_append] at hd
      rcases List.mem_append.mp hd with z | z
      · exact h d z
      · exact reprChar_ok hc d (by simpa using z)
    refine ⟨ih.1, Nat.le_trans ih.2 ?_⟩
    have hl10 : (PySem.Builtin.Str.reprChar q c).length ≤ 10 := PySem.StrLaws.reprChar_len q c (by omega)
    simp only [Array.size_append, List.size_toArray, List.length_cons]
    omega
theorem repr_ok {x : Str} (h : OkS x) : OkS (reprText x) ∧ (reprText x).length ≤ 10 * x.length + 2 := by
  have hq : reprQuote x < 1114112 := by unfold reprQuote; split <;> decide
  obtain ⟨h1, h2⟩ := reprFold (reprQuote x) x.cps.toList #[reprQuote x] (okS_iff.mp h) (by simpa using hq)
  rw [Array.foldl_toList] at h1 h2
  constructor
  · rw [okS_iff]
    unfold reprText
    intro c hc
    rw [Array.toList_push] at hc
    rcases List.mem_append.mp hc with z | z
    · exact h1 c z
    · rw [List.mem_singleton.mp z]
      exact hq
  · unfold reprText Str.length
    rw [Array.size_push]
    have z : (#[reprQuote x] : Array Nat).size = 1 := rfl
    have y : x.cps.toList.length = x.cps.size := rfl
    omega
/-- shown, with all signs in bounds, and not longer than n -/
def Shows (d : PyData) (n : Nat) : Prop := OkS d.shown ∧ d.shown.length ≤ n
theorem joinS : ∀ (ys : List Str) (m : Nat), (∀ y ∈ ys, OkS y ∧ y.length ≤ m) → OkS (Str.join ", " ys) ∧ (Str.join ", " ys).length ≤ ys.length * (m + 2)
  | [], m, _ => ⟨by decide +kernel, Nat.zero_le _⟩
  | [y], m, h => by
    have := h y (.head _)
    exact ⟨this.1, by show y.length ≤ _; simp; omega⟩
  | y :: z :: ys, m, h => by
    have ih := joinS (z :: ys) m fun w hw => h w (.tail _ hw)
    have hy := h y (.head _)
    have e : Str.join ", " (y :: z :: ys) = y ++ ", " ++ Str.join ", " (z :: ys) := rfl
    rw [e]
    have c2 : (", " : Str).length = 2 := by decide +kernel
    refine ⟨ok_app (ok_app hy.1 (by decide +kernel)) ih.1, ?_⟩
    rw [app_len, app_len, c2]
    simp only [List.length_cons] at ih ⊢
    have := ih.2
    have e2 : (ys.length + 1 + 1) * (m + 2) = (ys.length + 1) * (m + 2) + (m + 2) := Nat.succ_mul _ _
    omega
theorem textFrom_ok : ∀ (ts : List Str) (k : Nat) (acc : Str), (∀ t ∈ ts, OkS t) → OkS acc → OkS (textFrom k acc ts)
  | [], _, _, _, h => h
  | t :: r, k, acc, hl, h => by
    have hs : OkS ((if k > 0 then ", " else "" : String) : Str) := by
      by_cases q : k > 0
      · rw [if_pos q]; decide +kernel
      · rw [if_neg q]; decide +kernel
    exact textFrom_ok r (k + 1) _ (fun u hu => hl u (.tail _ hu)) (ok_app (ok_app h hs) (hl t (.head _)))
theorem sum_le : ∀ (ts : List Str) (m : Nat), (∀ t ∈ ts, t.length ≤ m) → (ts.map (·.length)).sum ≤ ts.length * m
  | [], _, _ => by simp
  | t :: r, m, h => by
    have ih := sum_le r m fun u hu => h u (.tail _ hu)
    have := h t (.head _)
    simp only [List.map_cons, List.sum_cons, List.length_cons]
    have e2 : (r.length + 1) * m = r.length * m + m := Nat.succ_mul _ _
    omega
theorem listText_ok {ts : List Str} {m : Nat} (h : ∀ t ∈ ts, OkS t ∧ t.length ≤ m) : OkS (listText ts) ∧ (listText ts).length ≤ ts.length * (m + 2) + 3 := by
  refine ⟨ok_app (textFrom_ok ts 0 "[" (fun t ht => (h t ht).1) (by decide +kernel)) (by decide +kernel), ?_⟩
  have h1 := listText_len_le ts
  have h2 := sum_le ts m fun t ht => (h t ht).2
  have e : ts.length * (m + 2) = ts.length * m + ts.length * 2 := Nat.mul_add _ _ _
  omega
theorem tupleText_ok {ts : List Str} {m : Nat} (h : ∀ t ∈ ts, OkS t ∧ t.length ≤ m) : OkS (tupleText ts) ∧ (tupleText ts).length ≤ ts.length * (m + 2) + 3 := by
  obtain ⟨h1, h2⟩ := joinS ts m h
  have hs : OkS ((if ts.length == 1 then ",)" else ")" : String) : Str) ∧ ((if ts.length == 1 then ",)" else ")" : String) : Str).length ≤ 2 := by
    by_cases q : (ts.length == 1) = true
    · rw [if_pos q]; decide +kernel
    · rw [if_neg q]; decide +kernel
  have o : OkS ("(" : Str) ∧ ("(" : Str).length = 1 := by decide +kernel
  refine ⟨ok_app (ok_app o.1 h1) hs.1, ?_⟩
  unfold tupleText
  rw [app_len, app_len, o.2]
  have := hs.2
  omega
theorem shownAll_map : ∀ ds : List PyData, PyData.shownAll ds = ds.map PyData.shown
  | [] => rfl
  | d :: ds => by rw [PyData.shownAll, shownAll_map ds]; rfl
theorem shows_list {ds : List PyData} {m : Nat} (h : ∀ d ∈ ds, Shows d m) : Shows (.list ds) (ds.length * (m + 2) + 3) := by
  unfold Shows
  rw [PyData.shown, shownAll_map]
  have := listText_ok (ts := ds.map PyData.shown) (m := m) fun t ht => by
    obtain ⟨d, hd, rfl⟩ := List.mem_map.mp ht
    exact h d hd
  rw [List.length_map] at this
  exact this
theorem shows_tuple {ds : List PyData} {m : Nat} (h : ∀ d ∈ ds, Shows d m) : Shows (.tuple ds) (ds.length * (m + 2) + 3) := by
  unfold Shows
  rw [PyData.shown, shownAll_map]
  have := tupleText_ok (ts := ds.map PyData.shown) (m := m) fun t ht => by
    obtain ⟨d, hd, rfl⟩ := List.mem_map.mp ht
    exact h d hd
  rw [List.length_map] at this
  exact this
theorem shows_str {x : Str} (h : OkS x) : Shows (.str x) (10 * x.length + 2) := repr_ok h
theorem shows_none : Shows .none 4 := by constructor <;> decide +kernel
theorem Shows.mono {d : PyData} {m n : Nat} (h : Shows d m) (l : m ≤ n) : Shows d n := ⟨h.1, Nat.le_trans h.2 l⟩
end TX

namespace TX
open PySem PySem.Spec PyProof.Rows L2 RZ DL
/-! ### what may be shown -/
structure Pl (n m : Nat) (d : PyData) : Prop where
  a : d.showable = true
  b : d.hasDict = false
  c : d.depth ≤ n
  s : Shows d m
theorem Pl.up {n m n' m' : Nat} {d : PyData} (h : Pl n m d) (h1 : n ≤ n') (h2 : m ≤ m') : Pl n' m' d := ⟨h.a, h.b, Nat.le_trans h.c h1, h.s.mono h2⟩
theorem pl_str {x : Str} {k : Nat} (h : OkS x) (l : x.length ≤ k) : Pl 0 (10 * k + 2) (.str x) := ⟨rfl, rfl, by simp [PyData.depth], (shows_str h).mono (by omega)⟩
theorem pl_none : Pl 0 4 .none := ⟨rfl, rfl, by simp [PyData.depth], shows_none⟩
theorem pl_bool {b : Bool} : Pl 0 5 (.bool b) := ⟨rfl, rfl, by simp [PyData.depth], by cases b <;> constructor <;> decide +kernel⟩
theorem showAll {ds : List PyData} (h : ∀ d ∈ ds, d.showable = true) : PyData.showableAll ds = true := by
  induction ds with
  | nil => rfl
  | cons d ds ih => rw [PyData.showableAll, h d (.head _), ih fun e he => h e (.tail _ he)]; rfl
theorem dictAll {ds : List PyData} (h : ∀ d ∈ ds, d.hasDict = false) : PyData.hasDictAll ds = false := by
  induction ds with
  | nil => rfl
  | cons d ds ih => rw [PyData.hasDictAll, h d (.head _), ih fun e he => h e (.tail _ he)]; rfl
theorem depAll {n : Nat} {ds : List PyData} (h : ∀ d ∈ ds, d.depth ≤ n) : PyData.depthAll ds ≤ n := by
  induction ds with
  | nil => simp [PyData.depthAll]
  | cons d ds ih =>
    rw [PyData.depthAll]
    exact Nat.max_le.mpr ⟨h d (.head _), ih fun e he => h e (.tail _ he)⟩
theorem pl_list {n m L : Nat} {ds : List PyData} (h : ∀ d ∈ ds, Pl n m d) (l : ds.length ≤ L) : Pl (n + 1) (L * (m + 2) + 3) (.list ds) := by
  refine ⟨?_, ?_, ?_, (shows_list fun d hd => (h d hd).s).mono ?_⟩
  · rw [PyData.showable]; exact showAll fun d hd => (h d hd).a
  · rw [PyData.hasDict]; exact dictAll fun d hd => (h d hd).b
  · rw [PyData.depth]
    have := depAll fun d hd => (h d hd).c
    omega
  · have := Nat.mul_le_mul_right (m + 2) l
    omega
theorem pl_tuple {n m L : Nat} {ds : List PyData} (h : ∀ d ∈ ds, Pl n m d) (l : ds.length ≤ L) : Pl (n + 1) (L * (m + 2) + 3) (.tuple ds) := by
  refine ⟨?_, ?_, ?_, (shows_tuple fun d hd => (h d hd).s).mono ?_⟩
  · rw [PyData.showable]; exact showAll fun d hd => (h d hd).a
  · rw [PyData.hasDict]; exact dictAll fun d hd => (h d hd).b
  · rw [PyData.depth]
    have := depAll fun d hd => (h d hd).c
    omega
  · have := Nat.mul_le_mul_right (m + 2) l
    omega
theorem pl_ok {n m : Nat} {d : PyData} (h : Pl n m d) (hn : n ≤ 50) (hm : m ≤ 100000) : reprOk d = true := by
  unfold reprOk
  rw [h.a, h.b, decide_eq_true (Nat.le_trans h.c hn), decide_eq_true (Nat.le_trans h.s.2 hm)]
  rfl
/-! ### _law_same on truths -/
theorem eqB {a b : Bool} : eqOp false (.bool a) (.bool b) = some (.fr (.bool (a == b))) := by
  simp [eqOp, canEq, SeqAt.shaped, PyData.canLay0, PyData.depth, PyData.eqv]
theorem neB {a b : Bool} : eqOp true (.bool a) (.bool b) = some (.fr (.bool (!(a == b)))) := by
  simp [eqOp, canEq, SeqAt.shaped, PyData.canLay0, PyData.depth, PyData.eqv]
theorem eqI {a b : Int} : eqOp false (.int a) (.int b) = some (.fr (.bool (a == b))) := by
  simp [eqOp, canEq, SeqAt.shaped, PyData.canLay0, PyData.depth, PyData.eqv]
theorem same_bool {n : Nat} {b : Bool} : d__law_same (n + 1) none [.bool b, .bool b] = .ok (.fr (.bool true)) none := by
  show finR none (g__law_same (d__law_same n) [some (.fr (.bool b)), some (.fr (.bool b)), none, none]) = _
  have t1 : fTest (fIsi2 "list" "tuple" (fVar 1)) [some (.fr (.bool b)), some (.fr (.bool b)), none, none] = .ok false [some (.fr (.bool b)), some (.fr (.bool b)), none, none] := rfl
  have t2 : fOr (fTest (fOp (isN false) (fVar 1) (fC .none))) (fTest (fIsi2 "str" "bool" (fVar 1))) [some (.fr (.bool b)), some (.fr (.bool b)), none, none] = .ok true [some (.fr (.bool b)), some (.fr (.bool b)), none, none] := rfl
  have i1 : ∀ i, i = 0 ∨ i = 1 → fIsi "bool" (fVar i) [some (.fr (.bool b)), some (.fr (.bool b)), none, none] = .ok (.fr (.bool true)) [some (.fr (.bool b)), some (.fr (.bool b)), none, none] := by
    intro i hi
    rcases hi with rfl | rfl <;> rfl
  have t3 : fOp (eqOp false) (fIsi "bool" (fVar 0)) (fIsi "bool" (fVar 1)) [some (.fr (.bool b)), some (.fr (.bool b)), none, none] = .ok (.fr (.bool true)) [some (.fr (.bool b)), some (.fr (.bool b)), none, none] := by
    simp [fOp, i1, Res.bind, rd, rd0, eqB, ofOpt]
  rw [g__law_same, fSeq, fIfS, t1]
  simp only [Res.bind, Bool.false_eq_true, if_false, fNext]
  rw [fSeq, fIfS, t2]
  simp only [Res.bind, if_true]
  rw [fRet, fAndV, t3]
  simp only [Res.bind, asB, if_true]
  simp [fOp, fVar, Res.bind, rd, rd0, eqB, ofOpt, finR, finC, retS]
theorem same_seq {n : Nat} {d : PyData} {ds : List PyData} (hd : d = .list ds ∨ d = .tuple ds) (hz : ds.length ≤ 100000) (H : ∀ x ∈ ds, d__law_same n none [x, x] = .ok (.fr (.bool true)) none) : d__law_same (n + 1) none [d, d] = .ok (.fr (.bool true)) none := by
  show finR none (g__law_same (d__law_same n) [some (.fr d), some (.fr d), none, none]) = _
  have e := lc_ok (ks := [2, 3]) (it := fZip (fCons (fFz (fVar 0)) (fCons (fFz (fVar 1)) fNil))) (g := gSeqF 2 (gConsF (gNm 2) (gConsF (gNm 3) gNilF))) (c := fun ρ => .ok true ρ) (f := fCallV (d__law_same n) (fCons (fVar 2) (fCons (fVar 3) fNil)))
    (ρ := [some (.fr d), some (.fr d), none, none]) (ρ1 := [some (.fr d), some (.fr d), none, none]) (ρ0 := [some (.fr d), some (.fr d), none, none]) (ds := ds.map fun x => .tuple [x, x]) (fun _ => true) (fun _ => .bool true)
    (by
      rcases hd with rfl | rfl <;> simp [fZip, fCons, fFz, fVar, fNil, Res.bind, frz, zipD, List.zipWith_self]) (by rw [List.length_map]; exact hz) (by simp) rfl (fun y hy => by
      obtain ⟨x, hx, rfl⟩ := List.mem_map.mp hy
      refine ⟨_, rfl, _, rfl, fun _ => ⟨[some (.fr d), some (.fr d), some (.fr x), some (.fr x)], ?_, rfl⟩, fun z => (by cases z)⟩
      simp [fFz, fCallV, fCons, fVar, fNil, Res.bind, callV, rds, rd, rd0, H x hx, allFr, isFr, frz])
  have em : ((ds.map fun x => PyData.tuple [x, x]).filter fun _ => true).map (fun _ => PyData.bool true) = (ds.map fun _ => true).map PyData.bool := by
    rw [filt_true, List.map_map, List.map_map]
    rfl
  have hb : backE [some (.fr d), some (.fr d), none, none] [some (.fr d), some (.fr d), none, none] [2, 3] = [some (.fr d), some (.fr d), none, none] := rfl
  rw [em, hb] at e
  have hall : (ds.map fun _ => true).all id = true := by simp
  have e2 : fCB allOp (fCons (fLc [2, 3] (fZip (fCons (fFz (fVar 0)) (fCons (fFz (fVar 1)) fNil))) (gSeqF 2 (gConsF (gNm 2) (gConsF (gNm 3) gNilF))) (fun ρ => .ok true ρ) (fCallV (d__law_same n) (fCons (fVar 2) (fCons (fVar 3) fNil)))) fNil) [some (.fr d), some (.fr d), none, none] = .ok (.fr (.bool true)) [some (.fr d), some (.fr d), none, none] := by
    rw [fCB, fCons, e]
    simp only [fNil, Res.bind, rds, rd, rd0, Cn.rd, allOp, bools_map, Option.map, ofOpt, hall]
  have hlen : lenOp [d] = some (.fr (.int ds.length)) := by
    rcases hd with rfl | rfl <;> simp [lenOp, hz]
  have i1 : ∀ i, i = 0 ∨ i = 1 → fIsi "list" (fVar i) [some (.fr d), some (.fr d), none, none] = .ok (.fr (.bool (isTy "list" d))) [some (.fr d), some (.fr d), none, none] := by
    intro i hi
    rcases hi with rfl | rfl <;> rcases hd with rfl | rfl <;> rfl
  have i2 : ∀ i, i = 0 ∨ i = 1 → fIsi "tuple" (fVar i) [some (.fr d), some (.fr d), none, none] = .ok (.fr (.bool (isTy "tuple" d))) [some (.fr d), some (.fr d), none, none] := by
    intro i hi
    rcases hi with rfl | rfl <;> rcases hd with rfl | rfl <;> rfl
  have i3 : fIsi2 "list" "tuple" (fVar 1) [some (.fr d), some (.fr d), none, none] = .ok (.fr (.bool true)) [some (.fr d), some (.fr d), none, none] := by
    rcases hd with rfl | rfl <;> rfl
  have t1 : fTest (fIsi2 "list" "tuple" (fVar 1)) [some (.fr d), some (.fr d), none, none] = .ok true [some (.fr d), some (.fr d), none, none] := by
    rw [fTest, i3]
    rfl
  have t2 : fOr (fTest (fOp (eqOp true) (fIsi "list" (fVar 0)) (fIsi "list" (fVar 1)))) (fTest (fOp (eqOp true) (fIsi "tuple" (fVar 0)) (fIsi "tuple" (fVar 1)))) [some (.fr d), some (.fr d), none, none] = .ok false [some (.fr d), some (.fr d), none, none] := by
    simp [fOr, fTest, fOp, i1, i2, Res.bind, rd, rd0, neB, ofOpt, asB]
  have t3 : fOp (eqOp false) (fCB lenOp (fCons (fVar 0) fNil)) (fCB lenOp (fCons (fVar 1) fNil)) [some (.fr d), some (.fr d), none, none] = .ok (.fr (.bool true)) [some (.fr d), some (.fr d), none, none] := by
    simp [fOp, fCB, fCons, fVar, fNil, Res.bind, rds, rd, rd0, hlen, eqI, ofOpt]
  rw [g__law_same, fSeq, fIfS, t1]
  simp only [Res.bind, if_true]
  rw [fSeq, fIfS, t2]
  simp only [Res.bind, Bool.false_eq_true, if_false, fNext]
  rw [fRet, fAndV, t3]
  simp only [Res.bind, asB, if_true]
  rw [e2]
  rfl
end TX

namespace TX
open PySem PySem.Spec PyProof.Rows L2 RZ DL
/-! ### _law_same on equal data -/
inductive Gd : Nat → PyData → Prop
  | str {n : Nat} {s : Str} : PyData.strOk s = true → Gd (n + 1) (.str s)
  | int {n : Nat} {i : Int} : Gd (n + 1) (.int i)
  | non {n : Nat} : Gd (n + 1) .none
  | list {n : Nat} {ds : List PyData} : (∀ d ∈ ds, Gd n d) → ds.length ≤ 100000 → Gd (n + 1) (.list ds)
  | tuple {n : Nat} {ds : List PyData} : (∀ d ∈ ds, Gd n d) → ds.length ≤ 100000 → Gd (n + 1) (.tuple ds)
theorem same_atom {n : Nat} {d : PyData} (h1 : ∀ (i : Nat), i = 0 ∨ i = 1 → fIsi2 "list" "tuple" (fVar i) [some (.fr d), some (.fr d), none, none] = .ok (.fr (.bool false)) [some (.fr d), some (.fr d), none, none]) (h : (∃ s, d = .str s ∧ PyData.strOk s = true) ∨ ∃ i, d = .int i) : d__law_same (n + 1) none [d, d] = .ok (.fr (.bool true)) none := by
  show finR none (g__law_same (d__law_same n) [some (.fr d), some (.fr d), none, none]) = _
  have t1 : fTest (fIsi2 "list" "tuple" (fVar 1)) [some (.fr d), some (.fr d), none, none] = .ok false [some (.fr d), some (.fr d), none, none] := by
    rw [fTest, h1 1 (.inr rfl)]
    rfl
  rw [g__law_same, fSeq, fIfS, t1]
  simp only [Res.bind, Bool.false_eq_true, if_false, fNext]
  rcases h with ⟨s, rfl, hs⟩ | ⟨i, rfl⟩
  · have t2 : fOr (fTest (fOp (isN false) (fVar 1) (fC .none))) (fTest (fIsi2 "str" "bool" (fVar 1))) [some (.fr (.str s)), some (.fr (.str s)), none, none] = .ok true [some (.fr (.str s)), some (.fr (.str s)), none, none] := rfl
    have t3 : fOp (eqOp false) (fIsi "bool" (fVar 0)) (fIsi "bool" (fVar 1)) [some (.fr (.str s)), some (.fr (.str s)), none, none] = .ok (.fr (.bool true)) [some (.fr (.str s)), some (.fr (.str s)), none, none] := by
      have i1 : ∀ i, i = 0 ∨ i = 1 → fIsi "bool" (fVar i) [some (.fr (.str s)), some (.fr (.str s)), none, none] = .ok (.fr (.bool false)) [some (.fr (.str s)), some (.fr (.str s)), none, none] := by
        intro i hi
        rcases hi with rfl | rfl <;> rfl
      simp [fOp, i1, Res.bind, rd, rd0, eqB, ofOpt]
    rw [fSeq, fIfS, t2]
    simp only [Res.bind, if_true]
    rw [fRet, fAndV, t3]
    simp only [Res.bind, asB, if_true]
    simp [fOp, fVar, Res.bind, rd, rd0, eqS hs hs, ofOpt, finR, finC, retS]
  · have t2 : fOr (fTest (fOp (isN false) (fVar 1) (fC .none))) (fTest (fIsi2 "str" "bool" (fVar 1))) [some (.fr (.int i)), some (.fr (.int i)), none, none] = .ok false [some (.fr (.int i)), some (.fr (.int i)), none, none] := rfl
    have t3 : fIsi "int" (fVar 0) [some (.fr (.int i)), some (.fr (.int i)), none, none] = .ok (.fr (.bool true)) [some (.fr (.int i)), some (.fr (.int i)), none, none] := rfl
    have t4 : fNotV (fIsi "bool" (fVar 0)) [some (.fr (.int i)), some (.fr (.int i)), none, none] = .ok (.fr (.bool true)) [some (.fr (.int i)), some (.fr (.int i)), none, none] := rfl
    rw [fSeq, fIfS, t2]
    simp only [Res.bind, Bool.false_eq_true, if_false, fNext]
    rw [fRet, fAndV, t3]
    simp only [Res.bind, asB, if_true]
    rw [fAndV, t4]
    simp only [Res.bind, asB, if_true]
    simp [fOp, fVar, Res.bind, rd, rd0, eqI, ofOpt, finR, finC, retS]
theorem same_none {n : Nat} : d__law_same (n + 1) none [.none, .none] = .ok (.fr (.bool true)) none := by
  show finR none (g__law_same (d__law_same n) [some (.fr .none), some (.fr .none), none, none]) = _
  have t1 : fTest (fIsi2 "list" "tuple" (fVar 1)) [some (.fr .none), some (.fr .none), none, none] = .ok false [some (.fr .none), some (.fr .none), none, none] := rfl
  have t2 : fOr (fTest (fOp (isN false) (fVar 1) (fC .none))) (fTest (fIsi2 "str" "bool" (fVar 1))) [some (.fr .none), some (.fr .none), none, none] = .ok true [some (.fr .none), some (.fr .none), none, none] := rfl
  have i1 : ∀ i, i = 0 ∨ i = 1 → fIsi "bool" (fVar i) [some (.fr .none), some (.fr .none), none, none] = .ok (.fr (.bool false)) [some (.fr .none), some (.fr .none), none, none] := by
    intro i hi
    rcases hi with rfl | rfl <;> rfl
  have t3 : fOp (eqOp false) (fIsi "bool" (fVar 0)) (fIsi "bool" (fVar 1)) [some (.fr .none), some (.fr .none), none, none] = .ok (.fr (.bool true)) [some (.fr .none), some (.fr .none), none, none] := by
    simp [fOp, i1, Res.bind, rd, rd0, eqB, ofOpt]
  have en : eqOp false .none .none = some (.fr (.bool true)) := by
    simp [eqOp, canEq, SeqAt.shaped, PyData.canLay0, PyData.depth, PyData.eqv]
  rw [g__law_same, fSeq, fIfS, t1]
  simp only [Res.bind, Bool.false_eq_true, if_false, fNext]
  rw [fSeq, fIfS, t2]
  simp only [Res.bind, if_true]
  rw [fRet, fAndV, t3]
  simp only [Res.bind, asB, if_true]
  simp [fOp, fVar, Res.bind, rd, rd0, en, ofOpt, finR, finC, retS]
theorem same_refl : ∀ (n : Nat) (d : PyData), Gd n d → d__law_same n none [d, d] = .ok (.fr (.bool true)) none := by
  intro n
  induction n with
  | zero => intro d h; cases h
  | succ n ih =>
    intro d h
    cases h with
    | str hs => exact same_atom (fun i hi => by rcases hi with rfl | rfl <;> rfl) (.inl ⟨_, rfl, hs⟩)
    | non => exact same_none
    | int => exact same_atom (fun i hi => by rcases hi with rfl | rfl <;> rfl) (.inr ⟨_, rfl⟩)
    | list h1 h2 => exact same_seq (.inl rfl) h2 fun x hx => ih x (h1 x hx)
    | tuple h1 h2 => exact same_seq (.inr rfl) h2 fun x hx => ih x (h1 x hx)
end TX

namespace TX
open PySem PySem.Spec PyProof.Rows L2 RZ DL
theorem sort_seq {v : PyData} {xs : List Str} (hv : IsSeq v xs) (h : xs.length ≤ 1000) : sortOp [v] = some (.ow (.lst ((srt xs).map PyData.str))) := by
  rcases hv with rfl | rfl
  · exact sort_strs h
  · have := sort_strs h
    simp only [sortOp] at this ⊢
    exact this
theorem lot_ok {v : PyData} {xs : List Str} (hv : IsSeq v xs) (h : xs.length ≤ 1000) : d_lot_of none [v] = .ok (.fr (tupS (srt xs))) none := by
  show finR none (g_lot_of [some (.fr v)]) = _
  rw [g_lot_of]
  simp only [fRet, fCB, fCons, fVar, fNil, Res.bind, List.getElem?_cons_zero, rds, rd, rd0, sort_seq hv h, ofOpt, Cn.rd, Sl.own, Option.map, tupleOp]
  rfl
end TX

namespace TX
open PySem PySem.Spec PyProof.Rows L2 RZ DL
theorem seq_nx {f g : Evn → Res Fl} {ρ ρ1 : Evn} (h : f ρ = .ok .nx ρ1) : fSeq f g ρ = g ρ1 := by
  rw [fSeq, h]
  rfl
/-! ### calls, told by their arguments -/
theorem call1 {den : Option Cn → List PyData → Ret} {f : Evn → Res Sl} {ρ ρ1 : Evn} {s r : Sl} {D : PyData} (h : f ρ = .ok s ρ1) (hr : rd ρ1 s = some D) (e : den none [D] = .ok r none) (hn : (allFr [s] || noLstS r) = true) : fCallV den (fCons f fNil) ρ = .ok r ρ1 := by
  rw [fCallV, cons_step h (F := fNil) (ss := []) rfl]
  simp only [Res.bind, callV, rds, hr, e, hn, if_true]
theorem call2 {den : Option Cn → List PyData → Ret} {f1 f2 : Evn → Res Sl} {ρ ρ1 ρ2 : Evn} {s1 s2 r : Sl} {D1 D2 : PyData} (h1 : f1 ρ = .ok s1 ρ1) (h2 : f2 ρ1 = .ok s2 ρ2) (r1 : rd ρ2 s1 = some D1) (r2 : rd ρ2 s2 = some D2) (e : den none [D1, D2] = .ok r none) (hn : (allFr [s1, s2] || noLstS r) = true) : fCallV den (fCons f1 (fCons f2 fNil)) ρ = .ok r ρ2 := by
  rw [fCallV, cons_step h1 (cons_step h2 (F := fNil) (ss := []) rfl)]
  simp only [Res.bind, callV, rds, r1, r2, e, hn, if_true]
theorem call3 {den : Option Cn → List PyData → Ret} {f1 f2 f3 : Evn → Res Sl} {ρ ρ1 ρ2 ρ3 : Evn} {s1 s2 s3 r : Sl} {D1 D2 D3 : PyData} (h1 : f1 ρ = .ok s1 ρ1) (h2 : f2 ρ1 = .ok s2 ρ2) (h3 : f3 ρ2 = .ok s3 ρ3) (r1 : rd ρ3 s1 = some D1) (r2 : rd ρ3 s2 = some D2) (r3 : rd ρ3 s3 = some D3) (e : den none [D1, D2, D3] = .ok r none) (hn : (allFr [s1, s2, s3] || noLstS r) = true) : fCallV den (fCons f1 (fCons f2 (fCons f3 fNil))) ρ = .ok r ρ3 := by
  rw [fCallV, cons_step h1 (cons_step h2 (cons_step h3 (F := fNil) (ss := []) rfl))]
  simp only [Res.bind, callV, rds, r1, r2, r3, e, hn, if_true]
/-- not (a and b) is not met: the law goes on -/
theorem no_ret {c1 : Evn → Res Bool} {f : Evn → Res Fl} {ρ ρ1 : Evn} (h : c1 ρ = .ok false ρ1) : fIfS c1 f fNext ρ = .ok .nx ρ1 := by
  rw [fIfS, h]
  rfl
theorem not_t {c1 : Evn → Res Bool} {ρ ρ1 : Evn} {x : Bool} (h : c1 ρ = .ok x ρ1) : fNot c1 ρ = .ok (!x) ρ1 := by
  rw [fNot, h]
  rfl
theorem or_ff {c1 c2 : Evn → Res Bool} {ρ ρ1 ρ2 : Evn} (h1 : c1 ρ = .ok false ρ1) (h2 : c2 ρ1 = .ok false ρ2) : fOr c1 c2 ρ = .ok false ρ2 := by
  rw [fOr, h1]
  exact h2
theorem tst {f : Evn → Res Sl} {ρ ρ1 : Evn} {x : Bool} (h : f ρ = .ok (.fr (.bool x)) ρ1) : fTest f ρ = .ok x ρ1 := by
  rw [fTest, h]
  rfl
theorem not_tt {c1 : Evn → Res Bool} {ρ ρ1 : Evn} (h : c1 ρ = .ok true ρ1) : fNot c1 ρ = .ok false ρ1 := by
  rw [fNot, h]
  rfl
theorem opc {op : PyData → PyData → Option Sl} {f g : Evn → Res Sl} {ρ ρ1 ρ2 : Evn} {s1 s2 r : Sl} {D1 D2 : PyData} (h1 : f ρ = .ok s1 ρ1) (h2 : g ρ1 = .ok s2 ρ2) (r1 : rd ρ2 s1 = some D1) (r2 : rd ρ2 s2 = some D2) (e : op D1 D2 = some r) : fOp op f g ρ = .ok r ρ2 := by
  rw [fOp, h1]
  simp only [Res.bind]
  rw [h2]
  simp only [Res.bind, r1, r2, e, ofOpt]
theorem isn_t {neg : Bool} {f : Evn → Res Sl} {ρ ρ1 : Evn} {s : Sl} {D : PyData} (h : f ρ = .ok s ρ1) (r : rd ρ1 s = some D) : fOp (isN neg) f (fC .none) ρ = .ok (.fr (.bool (if neg then !isNonD D else isNonD D))) ρ1 := opc (s2 := .fr .none) (D2 := .none) h rfl r rfl rfl
theorem andv {f g : Evn → Res Sl} {ρ ρ1 ρ2 : Evn} {s : Sl} (h1 : f ρ = .ok (.fr (.bool true)) ρ1) (h2 : g ρ1 = .ok s ρ2) : fAndV f g ρ = .ok s ρ2 := by
  rw [fAndV, h1]
  simp only [Res.bind, asB, if_true]
  exact h2
theorem rowtest {ds es : List Str} (h : ds = es) (ok : ∀ x ∈ ds, PyData.strOk x = true) : eqOp true (.list (ds.map PyData.str)) (.list (es.map PyData.str)) = some (.fr (.bool false)) := by
  rw [← h, eq_lists ok ok, beq_self_eq_true]
  rfl
theorem strtest {x : Str} (ok : PyData.strOk x = true) : eqOp true (.str x) (.str x) = some (.fr (.bool false)) := by
  rw [neS ok ok, beq_self_eq_true]
  rfl
theorem turnsT {α : Type} {enc : α → PyData} {ks : List Nat} {g : PyData → Evn → Option Evn} {c : Evn → Res Bool} {f : Evn → Res Sl} {ρ0 : Evn} (P : α → Bool) (F : α → PyData) : ∀ (xs : List α) (acc : List PyData),
    (∀ x ∈ xs, ∃ ρ1, g (enc x) ρ0 = some ρ1 ∧ ∃ ρ2, c ρ1 = .ok (P x) ρ2 ∧ (P x = true → ∃ ρ3, fFz f ρ2 = .ok (.fr (F x)) ρ3 ∧ wipeE ρ3 ks = ρ0) ∧ (P x = false → wipeE ρ2 ks = ρ0)) → fTurns ks g c f (xs.map enc) acc ρ0 = .ok (acc ++ (xs.filter P).map F) ρ0
  | [], acc, _ => by simp [fTurns]
  | x :: xs, acc, H => by
    obtain ⟨ρ1, e1, ρ2, e2, e3, e4⟩ := H x List.mem_cons_self
    have ih := fun a => turnsT P F xs a fun y hy => H y (List.mem_cons_of_mem _ hy)
    rw [List.map_cons, fTurns, e1]
    simp only []
    rw [e2]
    simp only [Res.bind]
    cases hp : P x with
    | true =>
      obtain ⟨ρ3, e5, e6⟩ := e3 hp
      simp only [if_true]
      rw [e5]
      simp only []
      rw [e6, ih, List.filter_cons_of_pos hp]
      simp
    | false =>
      simp only [Bool.false_eq_true, if_false]
      rw [e4 hp, ih, List.filter_cons_of_neg (by simp [hp])]
/-- a comprehension over told items -/
theorem lcT {α : Type} {enc : α → PyData} {xs : List α} {ks : List Nat} {it : Evn → Res (List PyData)} {g : PyData → Evn → Option Evn} {c : Evn → Res Bool} {f : Evn → Res Sl} {ρ ρ1 ρ0 ρb : Evn} (P : α → Bool) (F : α → PyData) (ei : it ρ = .ok (xs.map enc) ρ1) (hz : xs.length ≤ 100000) (hk : ∀ k ∈ ks, k < ρ1.length) (ew : wipeE ρ1 ks = ρ0) (eb : backE ρ1 ρ0 ks = ρb)
    (H : ∀ x ∈ xs, ∃ ρ1, g (enc x) ρ0 = some ρ1 ∧ ∃ ρ2, c ρ1 = .ok (P x) ρ2 ∧ (P x = true → ∃ ρ3, fFz f ρ2 = .ok (.fr (F x)) ρ3 ∧ wipeE ρ3 ks = ρ0) ∧ (P x = false → wipeE ρ2 ks = ρ0)) :
    fLc ks it g c f ρ = .ok (.ow (.lst ((xs.filter P).map F))) ρb := by
  rw [fLc, ei]
  simp only [Res.bind]
  rw [if_pos ⟨by rw [List.length_map]; exact hz, hk⟩, ew, turnsT P F xs [] H]
  simp only [noExc, Res.bind, List.nil_append]
  rw [eb]
theorem lcM {α : Type} {enc : α → PyData} {xs : List α} {ks : List Nat} {it : Evn → Res (List PyData)} {g : PyData → Evn → Option Evn} {f : Evn → Res Sl} {ρ ρ1 ρ0 ρb : Evn} (F : α → PyData) (ei : it ρ = .ok (xs.map enc) ρ1) (hz : xs.length ≤ 100000) (hk : ∀ k ∈ ks, k < ρ1.length) (ew : wipeE ρ1 ks = ρ0) (eb : backE ρ1 ρ0 ks = ρb)
    (H : ∀ x ∈ xs, ∃ ρ1, g (enc x) ρ0 = some ρ1 ∧ ∃ ρ3, fFz f ρ1 = .ok (.fr (F x)) ρ3 ∧ wipeE ρ3 ks = ρ0) :
    fLc ks it g (fun ρ => .ok true ρ) f ρ = .ok (.ow (.lst (xs.map F))) ρb := by
  have := lcT (enc := enc) (fun _ => true) F ei hz hk ew eb (c := fun ρ => .ok true ρ) (f := f) (g := g) fun x hx => by
    obtain ⟨ρ1, e1, ρ3, e3, e4⟩ := H x hx
    exact ⟨ρ1, e1, ρ1, rfl, fun _ => ⟨ρ3, e3, e4⟩, fun z => by cases z⟩
  rw [this, filt_true]
theorem allM {α : Type} {xs : List α} {f : Evn → Res Sl} {ρ ρb : Evn} (b : α → Bool) (h : f ρ = .ok (.ow (.lst (xs.map fun x => .bool (b x)))) ρb) : fCB allOp (fCons f fNil) ρ = .ok (.fr (.bool (xs.all b))) ρb := by
  have e : xs.map (fun x => PyData.bool (b x)) = (xs.map b).map PyData.bool := by rw [List.map_map]; rfl
  rw [fCB, cons_step h (F := fNil) (ss := []) rfl, e]
  simp only [Res.bind, rds, rd, rd0, Sl.own, Option.map, Cn.rd, allOp, bools_map, ofOpt]
  rw [List.all_map]
  rfl
theorem anyM {α : Type} {xs : List α} {f : Evn → Res Sl} {ρ ρb : Evn} (b : α → Bool) (h : f ρ = .ok (.ow (.lst (xs.map fun x => .bool (b x)))) ρb) : fCB anyOp (fCons f fNil) ρ = .ok (.fr (.bool (xs.any b))) ρb := by
  have e : xs.map (fun x => PyData.bool (b x)) = (xs.map b).map PyData.bool := by rw [List.map_map]; rfl
  rw [fCB, cons_step h (F := fNil) (ss := []) rfl, e]
  simp only [Res.bind, rds, rd, rd0, Sl.own, Option.map, Cn.rd, anyOp, bools_map, ofOpt]
  rw [List.any_map]
  rfl
end TX

namespace TX
open PySem PySem.Spec PyProof.Rows L2 RZ DL
/-! ### known -/
def pos (f : Str) : List Str → Nat
  | [] => 0
  | y :: ys => if y == f then 0 else pos f ys + 1
theorem first_strs (f : Str) : ∀ ys : List Str, mem f ys = true → firstAt (.str f) (ys.map PyData.str) = some (pos f ys)
  | [], h => by simp [mem] at h
  | y :: ys, h => by
    rw [List.map_cons, firstAt, pos]
    have e : PyData.eqv (.str y) (.str f) = (y == f) := by simp [PyData.eqv]
    rw [e]
    cases hb : (y == f) with
    | true => simp
    | false =>
      have : mem f ys = true := by simpa [mem, hb] using h
      rw [first_strs f ys this]
      simp
theorem index_strs {f : Str} {ys : List Str} (h : mem f ys = true) : indexOp (.list (ys.map PyData.str)) (.str f) = some (.fr (.int (pos f ys))) := by
  simp only [indexOp, flat_strs, first_strs f ys h]
  rfl
theorem cut_take (ds : List PyData) (j : Nat) : DL.cutD ds none (some (j : Int)) = ds.take j := by
  unfold DL.cutD
  rw [HT.sIx_none, HT.sIx_nat]
  simp only [List.drop_zero, Nat.sub_zero]
  by_cases h : j ≤ ds.length
  · rw [Nat.min_eq_left h]
  · rw [Nat.min_eq_right (by omega), List.take_of_length_le (Nat.le_refl _), List.take_of_length_le (by omega)]
theorem list_seq {v : PyData} {xs : List Str} (h : IsSeq v xs) : listOp [v] = some (.ow (.lst (xs.map PyData.str))) := by
  rcases h with rfl | rfl <;> rfl
def lesI (B : List Str) : List Str → Nat → List Nat
  | [], _ => []
  | n :: ns, i => if mem n B then lesI B ns (i + 1) else i :: lesI B ns (i + 1)
def lesP (B : List Str) (d : PyData) : Bool := match d with
  | .tuple [_, .str n] => !mem n B
  | _ => false
theorem les_eq (B : List Str) : ∀ (A : List Str) (i : Nat), ((((List.range' i A.length).zipWith (fun (i : Nat) d => PyData.tuple [.int i, d]) (A.map PyData.str))).filter (lesP B)).map lesH = (lesI B A i).map fun (k : Nat) => PyData.int k
  | [], i => rfl
  | n :: ns, i => by
    rw [List.length_cons, List.range'_succ, List.map_cons, List.zipWith_cons_cons, lesI]
    have ih := les_eq B ns (i + 1)
    cases hm : mem n B with
    | true =>
      rw [List.filter_cons_of_neg (by simp [lesP, hm]), ih]
      simp
    | false =>
      rw [List.filter_cons_of_pos (by simp [lesP, hm]), List.map_cons, ih]
      simp [lesH]
theorem enum_eq (A : List Str) : enumD (A.map PyData.str) = (List.range' 0 A.length).zipWith (fun (i : Nat) d => PyData.tuple [.int i, d]) (A.map PyData.str) := by
  unfold enumD
  rw [List.length_map, List.range_eq_range']
def knownP (liking row : List Str) (f : Str) : Option (List Str) × Option (List Str) :=
  if mem f row = true then
    (some (srt (row.take (pos f row))), (lesI (liking.take (pos f liking)) (row.take (pos f row)) 0).getLast?.map fun k => srt ((row.take (pos f row)).take k))
  else (none, some (srt row))
def optT : Option (List Str) → PyData
  | none => .none
  | some xs => .tuple (xs.map PyData.str)
theorem lesI_len (B : List Str) : ∀ (A : List Str) (i : Nat), (lesI B A i).length ≤ A.length
  | [], _ => Nat.le_refl _
  | n :: ns, i => by
    rw [lesI]
    have := lesI_len B ns (i + 1)
    split <;> simp <;> omega
theorem last_ix (L : List Nat) {k : Nat} (h : L.getLast? = some k) : ixOp (.list (L.map fun (k : Nat) => PyData.int k)) (.int (-1)) = some (.fr (.int k)) := by
  have hn : L ≠ [] := fun z => by rw [z] at h; cases h
  have hl : 0 < L.length := List.length_pos_iff.mpr hn
  have e : ixD (L.map fun (k : Nat) => PyData.int k).length (-1) = some (L.length - 1) := by
    rw [List.length_map]
    unfold ixD
    rw [if_neg (by omega), if_pos (by omega)]
    congr 1
    omega
  simp only [ixOp, e]
  rw [List.getElem?_map, ← List.getLast?_eq_getElem?, h]
  rfl
theorem known_ok {PK L R : PyData} {liking row : List Str} {f : Str} (hP : PK = .tuple [L, R] ∨ PK = .list [L, R]) (hL : IsSeq L liking) (hR : IsSeq R row) (h2 : row.length ≤ 1000) (h3 : mem f liking = true) :
    d_known none [PK, .str f] = .ok (.fr (.tuple [optT (knownP liking row f).1, optT (knownP liking row f).2])) none := by
  show finR none (g_known [some (.fr PK), some (.fr (.str f)), none, none, none, none, none, none, none]) = _
  have e0 : fUnp (gSeqF 2 (gConsF (gNm 2) (gConsF (gNm 3) gNilF))) (fVar 0) [some (.fr PK), some (.fr (.str f)), none, none, none, none, none, none, none] = .ok .nx [some (.fr PK), some (.fr (.str f)), some (.fr L), some (.fr R), none, none, none, none, none] := by
    rcases hP with rfl | rfl <;> rfl
  have e1 : fIfS (fTest (fOp (inOp true) (fVar 1) (fVar 2))) (fRaise "NoFruit" (fVar 1)) fNext [some (.fr PK), some (.fr (.str f)), some (.fr L), some (.fr R), none, none, none, none, none] = .ok .nx [some (.fr PK), some (.fr (.str f)), some (.fr L), some (.fr R), none, none, none, none, none] := by
    simp [fIfS, fTest, fOp, fVar, Res.bind, rd, rd0, in_seq hL, h3, ofOpt, asB, fNext]
  rw [g_known, fSeq, e0]
  simp only [Res.bind]
  rw [fSeq, e1]
  simp only [Res.bind]
  rw [fSeq, fIfS]
  have e2 : fTest (fOp (inOp true) (fVar 1) (fVar 3)) [some (.fr PK), some (.fr (.str f)), some (.fr L), some (.fr R), none, none, none, none, none] = .ok (!mem f row) [some (.fr PK), some (.fr (.str f)), some (.fr L), some (.fr R), none, none, none, none, none] := by
    simp [fTest, fOp, fVar, Res.bind, rd, rd0, in_seq hR, ofOpt, asB]
  rw [e2]
  simp only [Res.bind]
  cases hm : mem f row with
  | false =>
    have el := lot_ok (v := R) (xs := row) hR h2
    have ek : knownP liking row f = (none, some (srt row)) := if_neg (by rw [hm]; decide)
    rw [ek]
    simp [fRet, fTup, fCons, fC, fNil, fCallV, fVar, Res.bind, callV, rds, rd, rd0, el, allFr, isFr, fFz, frz, DL.frs, finR, finC, retS, optT]
  | true =>
    simp only [Bool.not_true, Bool.false_eq_true, if_false, fNext]
    have ek : knownP liking row f = (some (srt (row.take (pos f row))), (lesI (liking.take (pos f liking)) (row.take (pos f row)) 0).getLast?.map fun k => srt ((row.take (pos f row)).take k)) := if_pos hm
    rw [ek]
    generalize hA : row.take (pos f row) = A
    generalize hB : liking.take (pos f liking) = B
    have hAl : A.length ≤ 1000 := by rw [← hA, List.length_take]; omega
    have e3 : fAsg 4 (fSl (fCB listOp (fCons (fVar 3) fNil)) fNoPart (fPart (fBL indexOp (fCB listOp (fCons (fVar 3) fNil)) (fVar 1)))) [some (.fr PK), some (.fr (.str f)), some (.fr L), some (.fr R), none, none, none, none, none] = .ok .nx [some (.fr PK), some (.fr (.str f)), some (.fr L), some (.fr R), some (.ow (.lst (A.map PyData.str))), none, none, none, none] := by
      simp [fAsg, fSl, fCB, fCons, fVar, fNil, Res.bind, rds, rd, rd0, Cn.rd, list_seq hR, ofOpt, fNoPart, fPart, fBL, index_strs hm, slOp, cut_take, put1, ← hA]
    have e4 : fAsg 5 (fSl (fCB listOp (fCons (fVar 2) fNil)) fNoPart (fPart (fBL indexOp (fCB listOp (fCons (fVar 2) fNil)) (fVar 1)))) [some (.fr PK), some (.fr (.str f)), some (.fr L), some (.fr R), some (.ow (.lst (A.map PyData.str))), none, none, none, none] = .ok .nx [some (.fr PK), some (.fr (.str f)), some (.fr L), some (.fr R), some (.ow (.lst (A.map PyData.str))), some (.ow (.lst (B.map PyData.str))), none, none, none] := by
      simp [fAsg, fSl, fCB, fCons, fVar, fNil, Res.bind, rds, rd, rd0, Cn.rd, list_seq hL, ofOpt, fNoPart, fPart, fBL, index_strs h3, slOp, cut_take, put1, ← hB]
    have e5 := lc_ok (ks := [7, 8]) (it := fEnum (fCons (fFz (fVar 4)) fNil)) (g := gSeqF 2 (gConsF (gNm 7) (gConsF (gNm 8) gNilF))) (c := fTest (fOp (inOp true) (fVar 8) (fVar 5))) (f := fVar 7)
      (ρ := [some (.fr PK), some (.fr (.str f)), some (.fr L), some (.fr R), some (.ow (.lst (A.map PyData.str))), some (.ow (.lst (B.map PyData.str))), none, none, none])
      (ρ1 := [some (.fr PK), some (.fr (.str f)), some (.fr L), some (.fr R), some (.fr (.list (A.map PyData.str))), some (.ow (.lst (B.map PyData.str))), none, none, none])
      (ρ0 := [some (.fr PK), some (.fr (.str f)), some (.fr L), some (.fr R), some (.fr (.list (A.map PyData.str))), some (.ow (.lst (B.map PyData.str))), none, none, none])
      (ds := enumD (A.map PyData.str)) (lesP B) lesH rfl (by rw [enumD_len, List.length_map]; omega) (by simp) rfl (fun d hd => by
        obtain ⟨i, hi⟩ := List.getElem?_of_mem hd
        obtain ⟨e, he, rfl⟩ := enumD_get hi
        rw [List.getElem?_map] at he
        obtain ⟨n, _, rfl⟩ : ∃ n, A[i]? = some n ∧ PyData.str n = e := by
          cases hx : A[i]? with
          | none => rw [hx] at he; cases he
          | some n => rw [hx] at he; exact ⟨n, rfl, by injection he⟩
        refine ⟨_, rfl, [some (.fr PK), some (.fr (.str f)), some (.fr L), some (.fr R), some (.fr (.list (A.map PyData.str))), some (.ow (.lst (B.map PyData.str))), none, some (.fr (.int i)), some (.fr (.str n))], ?_, fun _ => ⟨_, rfl, rfl⟩, fun _ => rfl⟩
        simp [fTest, fOp, fVar, Res.bind, rd, rd0, Sl.own, Cn.rd, in_list (neg := true), ofOpt, asB, lesP])
    have hbk : backE [some (.fr PK), some (.fr (.str f)), some (.fr L), some (.fr R), some (.fr (.list (A.map PyData.str))), some (.ow (.lst (B.map PyData.str))), none, none, none] [some (.fr PK), some (.fr (.str f)), some (.fr L), some (.fr R), some (.fr (.list (A.map PyData.str))), some (.ow (.lst (B.map PyData.str))), none, none, none] [7, 8] = [some (.fr PK), some (.fr (.str f)), some (.fr L), some (.fr R), some (.fr (.list (A.map PyData.str))), some (.ow (.lst (B.map PyData.str))), none, none, none] := rfl
    rw [hbk, enum_eq, les_eq] at e5
    rw [fSeq, e3]
    simp only [Res.bind]
    rw [fSeq, e4]
    simp only [Res.bind]
    rw [fSeq, fAsg, e5]
    simp only [Res.bind, put1, List.length_cons, List.length_nil]
    rw [if_pos (by decide)]
    simp only []
    have elA := lot_ok (v := .list (A.map PyData.str)) (xs := A) (.inl rfl) (by omega)
    have hsz : (lesI B A 0).length ≤ 100000 := by have := lesI_len B A 0; omega
    generalize hLs : lesI B A 0 = Ls at *
    cases hk : Ls.getLast? with
    | none =>
      have hn : Ls = [] := by simpa using hk
      subst hn
      simp [fRet, fTup, fCons, fC, fNil, fCallV, fVar, Res.bind, callV, rds, rd, rd0, elA, allFr, isFr, fFz, frz, DL.frs, finR, finC, retS, optT, fIf, fTest, fOp, fCB, lenOp, Sl.own, Cn.rd, ofOpt, gtI, asB]
    | some k =>
      have elk := lot_ok (v := .list ((A.take k).map PyData.str)) (xs := A.take k) (.inl rfl) (by rw [List.length_take]; omega)
      have hix := last_ix Ls hk
      have hpos : 0 < Ls.length := List.length_pos_iff.mpr fun z => by rw [z] at hk; cases hk
      have hnl : noLst (.tuple ((srt (A.take k)).map PyData.str)) = true := by rw [noLst]; exact noLsts_str _
      rw [List.map_take] at elk
      simp [fRet, fTup, fCons, fC, fNil, fCallV, fVar, Res.bind, callV, rds, rd, rd0, elA, elk, allFr, isFr, fFz, frz, DL.frs, finR, finC, retS, optT, fIf, fTest, fOp, fCB, lenOp, Sl.own, Cn.rd, ofOpt, gtI, asB, hsz, hpos, fSl, fNoPart, fPart, fUn, negOp, hix, slOp, cut_take, noLstS, hnl]
end TX

namespace TX
open PySem PySem.Spec PyProof.Rows L2 RZ DL
/-! ### rows, told by what is ripe -/
theorem memF {x : Str} {l : List Str} : mem x l = false ↔ x ∉ l := by
  rw [← mem_iff]; cases mem x l <;> simp
/-- x is ripe by some -/
def Rp (o : Orch) (g : List Str) (x : Str) : Prop := ∃ p ∈ o, p.1 = x ∧ ∃ l ∈ p.2, ∀ y ∈ l, y ∈ g
theorem rp_mono {o : Orch} {g h : List Str} {x : Str} (k : ∀ y ∈ g, y ∈ h) (r : Rp o g x) : Rp o h x := by
  obtain ⟨p, h1, h2, l, h3, h4⟩ := r
  exact ⟨p, h1, h2, l, h3, fun y hy => k y (h4 y hy)⟩
theorem mem_ripe {o : Orch} {g : List Str} {x : Str} : x ∈ ripeP o g ↔ x ∉ g ∧ Rp o g x := by
  unfold ripeP anyIn Rp
  simp only [List.mem_map, List.mem_filter, Bool.and_eq_true, Bool.not_eq_true', List.any_eq_true, within_iff]
  constructor
  · rintro ⟨p, ⟨h1, h2, l, h3, h4⟩, rfl⟩
    exact ⟨memF.mp h2, p, h1, rfl, l, h3, h4⟩
  · rintro ⟨h2, p, h1, rfl, l, h3, h4⟩
    exact ⟨p, ⟨h1, memF.mpr h2, l, h3, h4⟩, rfl⟩
theorem rp_frs {o : Orch} {g : List Str} {x : Str} (h : Rp o g x) : x ∈ frsO o := by
  obtain ⟨p, h1, h2, _⟩ := h
  exact List.mem_map.mpr ⟨p, h1, h2⟩
def RowIs (o : Orch) (l : List Str) : List Str → List Str → Prop
  | g, [] => ripeP o g = []
  | g, x :: r => (∃ t, l.filter (fun y => mem y (ripeP o g)) = x :: t) ∧ RowIs o l (g ++ [x]) r
theorem pass_row {o : Orch} {l : List Str} : ∀ (n : Nat) (g : List Str) (q : List (Str × List Str)), passP n o l g = some q → RowIs o l g (q.map (·.1))
  | 0, _, _, h => by cases h
  | n + 1, g, q, h => by
    rw [passP] at h
    cases hr : ripeP o g with
    | nil =>
      rw [hr] at h
      simp only [Option.some.injEq] at h
      rw [← h]
      exact hr
    | cons r rs =>
      rw [hr] at h
      simp only [] at h
      cases hb : (l.filter fun x => mem x (r :: rs)) with
      | nil => rw [hb] at h; cases h
      | cons b bs =>
        rw [hb] at h
        simp only [] at h
        cases hp : passP n o l (g ++ [b]) with
        | none => rw [hp] at h; cases h
        | some q' =>
          rw [hp] at h
          simp only [Option.map_some, Option.some.injEq] at h
          rw [← h, List.map_cons]
          exact ⟨⟨bs, by rw [hr]; exact hb⟩, pass_row n _ q' hp⟩
theorem row_ripe {o : Orch} {l g r : List Str} {x : Str} (h : RowIs o l g (x :: r)) : x ∈ ripeP o g := by
  obtain ⟨⟨t, e⟩, _⟩ := h
  have : x ∈ l.filter (fun y => mem y (ripeP o g)) := by rw [e]; exact .head _
  exact mem_iff.mp (List.mem_filter.mp this).2
theorem row_left {o : Orch} {l : List Str} : ∀ (r g : List Str), RowIs o l g r → r.length ≤ left o g
  | [], g, _ => Nat.zero_le _
  | x :: r, g, h => by
    have h1 := left_less (row_ripe h)
    have h2 := row_left r _ h.2
    simp only [List.length_cons]
    omega
theorem row_pass {o : Orch} {l : List Str} : ∀ (n : Nat) (r g : List Str), RowIs o l g r → r.length < n → ∃ q, passP n o l g = some q ∧ q.map (·.1) = r
  | 0, r, g, _, h => by omega
  | n + 1, [], g, h, _ => ⟨[], by rw [passP]; have h : ripeP o g = [] := h; rw [h], rfl⟩
  | n + 1, x :: r, g, h, hn => by
    simp only [List.length_cons] at hn
    obtain ⟨q, e, eq⟩ := row_pass n r _ h.2 (by omega)
    obtain ⟨t, et⟩ := h.1
    have hx := row_ripe h
    rw [passP]
    cases hr : ripeP o g with
    | nil => rw [hr] at hx; cases hx
    | cons a as =>
      rw [hr] at et
      refine ⟨(x, (a :: as).filter fun y => !(y == x)) :: q, ?_, by rw [List.map_cons, eq]⟩
      simp only [et, e, Option.map_some]
theorem pick_row {o : Orch} {l : List Str} (hl : ∀ p ∈ o, p.1 ∈ l) : RowIs o l [] (pickR o l) := by
  obtain ⟨q, e, z, _⟩ := pickR_val hl
  rw [z]
  exact pass_row _ _ _ e
theorem row_pick {o : Orch} {l r : List Str} (h : RowIs o l [] r) : pickR o l = r := by
  have h1 := row_left r [] h
  have h2 := left_le o []
  obtain ⟨q, e, z⟩ := row_pass (o.length + 1) r [] h (by omega)
  unfold pickR
  rw [e]
  exact z
/-! ### places -/
theorem first_iff {P : Str → Bool} {x : Str} : ∀ {l : List Str}, (∃ t, l.filter P = x :: t) ↔ x ∈ l ∧ P x = true ∧ ∀ y ∈ l.take (pos x l), P y = false
  | [] => by simp
  | z :: l => by
    rw [pos]
    by_cases hzx : z = x
    · subst hzx
      rw [if_pos (by simp)]
      simp only [List.take_zero, List.not_mem_nil, false_imp_iff, implies_true, and_true, List.mem_cons, true_or, true_and]
      constructor
      · rintro ⟨t, e⟩
        by_cases hp : P z = true
        · exact hp
        · rw [List.filter_cons_of_neg hp] at e
          have : z ∈ l.filter P := by rw [e]; exact .head _
          exact (List.mem_filter.mp this).2
      · intro hp
        exact ⟨_, List.filter_cons_of_pos hp⟩
    · rw [if_neg (by simpa using hzx), List.take_succ_cons]
      by_cases hp : P z = true
      · rw [List.filter_cons_of_pos hp]
        constructor
        · rintro ⟨t, e⟩
          simp only [List.cons.injEq] at e
          exact absurd e.1 hzx
        · rintro ⟨_, _, h⟩
          have := h z (.head _)
          rw [hp] at this
          cases this
      · rw [List.filter_cons_of_neg hp, first_iff]
        have hp' : P z = false := by simpa using hp
        constructor
        · rintro ⟨h1, h2, h3⟩
          refine ⟨.tail _ h1, h2, fun y hy => ?_⟩
          rcases List.mem_cons.mp hy with e | hy
          · rw [e]; exact hp'
          · exact h3 y hy
        · rintro ⟨h1, h2, h3⟩
          refine ⟨?_, h2, fun y hy => h3 y (.tail _ hy)⟩
          rcases List.mem_cons.mp h1 with e | h1
          · exact absurd e.symm hzx
          · exact h1
theorem pos_get {x : Str} : ∀ {l : List Str}, x ∈ l → l[pos x l]? = some x
  | [], h => by cases h
  | z :: l, h => by
    rw [pos]
    by_cases hzx : z = x
    · subst hzx
      rw [if_pos (by simp)]
      rfl
    · rw [if_neg (by simpa using hzx)]
      rcases List.mem_cons.mp h with e | h
      · exact absurd e.symm hzx
      · exact pos_get h
theorem pos_not {x : Str} : ∀ {l : List Str}, x ∉ l.take (pos x l)
  | [] => by simp
  | z :: l => by
    rw [pos]
    by_cases hzx : z = x
    · rw [if_pos (by simpa using hzx)]; simp
    · rw [if_neg (by simpa using hzx), List.take_succ_cons, List.mem_cons]
      rintro (h | h)
      · exact hzx h.symm
      · exact pos_not h
theorem pos_lt {x : Str} {l : List Str} (h : x ∈ l) : pos x l < l.length := (List.getElem?_eq_some_iff.mp (pos_get h)).1
theorem pos_of {x : Str} : ∀ {l : List Str} {i : Nat}, l.Nodup → l[i]? = some x → pos x l = i
  | [], i, _, h => by simp at h
  | z :: l, i, nd, h => by
    rw [List.nodup_cons] at nd
    rw [pos]
    match i, h with
    | 0, h =>
      simp only [List.getElem?_cons_zero, Option.some.injEq] at h
      rw [if_pos (by simpa using h)]
    | i + 1, h =>
      rw [List.getElem?_cons_succ] at h
      have hx : x ∈ l := List.mem_of_getElem? h
      rw [if_neg (by simp; rintro rfl; exact nd.1 hx), pos_of nd.2 h]
theorem before_iff {a b : Str} : ∀ {l : List Str}, a ∈ l → b ∈ l → a ≠ b → (b ∉ l.take (pos a l) ↔ a ∈ l.take (pos b l))
  | [], h, _, _ => by cases h
  | z :: l, ha, hb, ne => by
    rw [pos, pos]
    by_cases h1 : z = a
    · subst h1
      rw [if_pos (by simp), if_neg (by simpa using ne)]
      simp
    · rw [if_neg (by simpa using h1)]
      by_cases h2 : z = b
      · subst h2
        rw [if_pos (by simp)]
        simp
      · rw [if_neg (by simpa using h2), List.take_succ_cons, List.take_succ_cons, List.mem_cons, List.mem_cons]
        have ha' : a ∈ l := by
          rcases List.mem_cons.mp ha with e | e
          · exact absurd e.symm h1
          · exact e
        have hb' : b ∈ l := by
          rcases List.mem_cons.mp hb with e | e
          · exact absurd e.symm h2
          · exact e
        have ih := before_iff ha' hb' ne
        constructor
        · intro q
          exact .inr (ih.mp fun z => q (.inr z))
        · rintro (q | q)
          · exact absurd q.symm h1
          · rintro (w | w)
            · exact h2 w.symm
            · exact ih.mpr q w
end TX

namespace TX
open PySem PySem.Spec PyProof.Rows L2 RZ DL
set_option hygiene false
local macro_rules | `(tactic| fail "x") => `(tactic| first
    | ((with_reducible show (_ = true) → _); intro hq)
    | intro x hx
    | ((with_reducible apply id_sl); first
      | assumption
      | with_reducible apply x_c
      | with_reducible apply x_op
      | with_reducible apply x_cb
      | with_reducible apply x_tup
      | with_reducible apply x_lst
      | with_reducible apply x_fz
      | with_reducible apply x_callV
      | with_reducible apply x_callT
      | with_reducible apply x_callO
      | with_reducible apply x_lcM
      | with_reducible apply x_lcF
      | with_reducible apply x_if
      | with_reducible apply x_un
      | with_reducible apply x_sl
      | with_reducible apply x_append
      | with_reducible apply x_extend
      | with_reducible apply x_andV
      | with_reducible apply x_orV
      | with_reducible apply x_notV
      | with_reducible apply x_isi
      | with_reducible apply x_isi2
      | with_reducible apply x_bl
      | with_reducible apply x_m1
      | with_reducible apply x_chain
      | with_reducible apply x_ixm
      | with_reducible apply x_ssc
      | with_reducible apply x_lc2
      | ((with_reducible apply x_lcOF); (exact rfl))
      | with_reducible apply x_lcOM
      | ((with_reducible apply x_condT); first | exact rfl | assumption)
      | ((with_reducible apply x_condF); first | exact rfl | assumption)
      | exact rfl)
    | ((with_reducible apply id_fl); first
      | assumption
      | with_reducible apply x_seqIf
      | with_reducible apply x_seqSeq
      | with_reducible apply x_seqNext
      | with_reducible apply x_seqRet
      | with_reducible apply x_seq
      | with_reducible apply x_asg
      | with_reducible apply x_aug
      | with_reducible apply x_ifS
      | with_reducible apply x_drop
      | with_reducible apply x_ret
      | with_reducible apply x_par
      | with_reducible apply x_unp
      | with_reducible apply x_for
      | with_reducible apply p_fr
      | with_reducible apply p_ow
      | with_reducible apply p_br
      | with_reducible apply x_next
      | with_reducible apply x_loop0
      | with_reducible apply x_loop
      | ((with_reducible apply x_condT); first | exact rfl | assumption)
      | ((with_reducible apply x_condF); first | exact rfl | assumption)
      | exact rfl)
    | ((with_reducible apply id_ls); first
      | assumption
      | with_reducible apply x_nil
      | with_reducible apply x_cons)
    | ((with_reducible apply id_ld); first
      | assumption
      | with_reducible apply x_iterS
      | with_reducible apply i_l
      | with_reducible apply i_t
      | with_reducible apply x_enumM
      | with_reducible apply x_zipLM
      | with_reducible apply x_zipTM
      | with_reducible apply x_range1
      | exact rfl)
    | ((with_reducible apply id_b); first
      | assumption
      | with_reducible apply x_tst
      | with_reducible apply x_not
      | with_reducible apply x_and
      | with_reducible apply x_or
      | ((with_reducible apply x_condT); first | exact rfl | assumption)
      | ((with_reducible apply x_condF); first | exact rfl | assumption)
      | exact rfl)
    | ((with_reducible apply id_oi); first
      | assumption
      | with_reducible apply x_nopart
      | with_reducible apply x_part)
    | ((with_reducible apply id_ev); first
      | assumption
      | (dsimp only [List.set_cons_succ, List.set_cons_zero, Sl.put, wipeE, backE, setE, List.getElem?_cons_succ, List.getElem?_cons_zero, Cn.rd] <;> exact rfl))
    | ((with_reducible apply id_oev); first
      | assumption
      | with_reducible apply g_nm
      | with_reducible apply g_nil
      | with_reducible apply g_cons
      | ((with_reducible apply g_seqT); exact rfl)
      | ((with_reducible apply g_seqL); exact rfl)
      | refine g_seqT rfl ?_
      | exact rfl)
    | ((with_reducible apply id_od); first
      | assumption
      | with_reducible apply r_fr
      | with_reducible apply r_ow
      | with_reducible apply r_br
      | with_reducible apply r_bi
      | exact rfl)
    | ((with_reducible apply id_ods); first
      | assumption
      | with_reducible apply r_nil
      | with_reducible apply r_cons
      | with_reducible apply q_nil
      | with_reducible apply q_cons
      | exact rfl)
    | ((with_reducible apply id_oode); first
      | assumption
      | with_reducible apply z_fr
      | with_reducible apply z_ow
      | with_reducible apply z_br
      | exact rfl)
    | ((with_reducible apply id_oc); first
      | assumption
      | with_reducible apply c_n
      | with_reducible apply c_s)
    | ((with_reducible apply id_ret); first
      | assumption
      | with_reducible apply t_fr
      | with_reducible apply t_ow
      | with_reducible apply t_br
      | with_reducible apply x_fin
      | ((with_reducible show retS _ _ _ = _); exact rfl)
      | ((with_reducible apply r1) <;> first | assumption | omega)
      | ((with_reducible apply r2) <;> first | assumption | omega)
      | ((with_reducible apply r3) <;> first | assumption | omega)
      | ((with_reducible apply r4) <;> first | assumption | omega)
      | ((with_reducible apply r5) <;> first | assumption | omega)
      | ((with_reducible apply r6) <;> first | assumption | omega)
      | ((with_reducible apply r7) <;> first | assumption | omega)
      | ((with_reducible apply r8) <;> first | assumption | omega)
      | ((with_reducible apply r9) <;> first | assumption | omega))
    | ((with_reducible apply id_bo); first
      | assumption
      | exact rfl
      | (simp [allFr, isFr, noLstS, noLst, noLsts, noLstC, nl_tups, noLsts_str, noLst_encO]; done)
      | (simp [allFr, isFr, noLstS, noLst, noLsts, noLstC, nl_tups, noLsts_str, noLst_encO, *]; done))
    | ((with_reducible apply id_int); first
      | assumption
      | exact rfl)
    | ((with_reducible apply id_oosl); first
      | assumption
      | exact rfl)
    | ((with_reducible apply id_ocn); first
      | assumption
      | exact rfl)
    | ((with_reducible apply id_osl); first
      | assumption
      | ((with_reducible apply v1) <;> first | assumption | omega)
      | ((with_reducible apply v2) <;> first | assumption | omega)
      | ((with_reducible apply v3) <;> first | assumption | omega)
      | ((with_reducible apply v4) <;> first | assumption | omega)
      | ((with_reducible apply v5) <;> first | assumption | omega)
      | ((with_reducible apply v6) <;> first | assumption | omega)
      | ((with_reducible apply v7) <;> first | assumption | omega)
      | ((with_reducible apply v8) <;> first | assumption | omega)
      | ((with_reducible apply v9) <;> first | assumption | omega)
      | with_reducible exact v_all
      | with_reducible exact v_any
      | with_reducible exact v_lenL
      | with_reducible exact v_lenT
      | with_reducible exact v_sum
      | with_reducible exact in_list
      | with_reducible exact in_tup
      | ((with_reducible apply in_seq); assumption)
      | exact rfl)
    | ((with_reducible apply id_le); first | assumption | exact Nat.le_of_ble_eq_true rfl | omega)
    | ((with_reducible apply id_lt); first | assumption | exact Nat.lt_of_lt_of_le (Nat.lt_succ_self _) (Nat.le_of_ble_eq_true rfl) | omega))

/-! ### _law_known -/
theorem row_facts {o : Orch} {l : List Str} : ∀ {r g : List Str}, RowIs o l g r → (∀ x ∈ r, x ∉ g ∧ x ∈ l ∧ x ∈ frsO o) ∧ r.Nodup
  | [], _, _ => ⟨fun _ h => (by cases h), List.nodup_nil⟩
  | x :: r, g, h => by
    have hx := row_ripe h
    obtain ⟨h1, h2⟩ := row_facts h.2
    obtain ⟨t, et⟩ := h.1
    have hl : x ∈ l := by
      have : x ∈ l.filter (fun y => mem y (ripeP o g)) := by rw [et]; exact .head _
      exact (List.mem_filter.mp this).1
    have hn := (mem_ripe.mp hx)
    refine ⟨fun y hy => ?_, List.nodup_cons.mpr ⟨fun q => (h1 x q).1 (by simp), h2⟩⟩
    rcases List.mem_cons.mp hy with e | hy
    · rw [e]; exact ⟨hn.1, hl, rp_frs hn.2⟩
    · exact ⟨fun q => (h1 y hy).1 (List.mem_append_left _ q), (h1 y hy).2⟩
/-- the row is the picking's just where each fruit is ripe by what is known, and not by what is known -/

theorem known_in {l r : List Str} {f : Str} (h : f ∈ r) : knownP l r f = (some (srt (r.take (pos f r))), (lesI (l.take (pos f l)) (r.take (pos f r)) 0).getLast?.map fun k => srt ((r.take (pos f r)).take k)) := if_pos (mem_iff.mpr h)
theorem known_out {l r : List Str} {f : Str} (h : f ∉ r) : knownP l r f = (none, some (srt r)) := if_neg fun z => h (mem_iff.mp z)
theorem v_sort {v : PyData} {xs : List Str} (hv : IsSeq v xs) (h : xs.length ≤ 1000) : sortOp [v] = some (.ow (.lst ((srt xs).map PyData.str))) := sort_seq hv h
theorem first_pos (f : Str) {ys : List Str} (h : f ∈ ys) : firstAt (.str f) (ys.map PyData.str) = some (pos f ys) := first_strs f ys (mem_iff.mpr h)
theorem isStr_strs (ys : List Str) : (ys.map PyData.str).all isStrD = true := by
  rw [List.all_map]
  exact List.all_eq_true.mpr fun _ _ => rfl
theorem ixm_seq {L : PyData} {ys : List Str} {f : Str} (hL : IsSeq L ys) (h : f ∈ ys) : ixmOp L (.str f) = some (.fr (.int (pos f ys))) := by
  rcases hL with rfl | rfl
  · exact index_strs (mem_iff.mpr h)
  · simp only [ixmOp, isStr_strs, if_true, first_pos f h]
    rfl
abbrev lkB : Evn → Res Fl := (fSeq (fIfS (fTest (fOp (eqOp false) (fVar 7) (fVar 1))) (fAsg 4 (fCB tupleOp (fCons (fCB sortOp (fCons (fVar 6) fNil)) fNil))) (fIfS (fAnd (fTest (fOp (isN false) (fVar 4) (fC .none))) (fTest (fOp gtOp (fIxm (fVar 2) (fVar 7)) (fIxm (fVar 2) (fVar 1))))) (fAsg 5 (fCB tupleOp (fCons (fCB sortOp (fCons (fVar 6) fNil)) fNil))) fNext))
    (fDrop (fAppend 6 (fVar 7))))
/-- ahead of the fruit -/
theorem lk_ahead {P0 R : Option Sl} {l : List Str} {f : Str} (okf : PyData.strOk f = true) (hf : f ∈ l) (hl : l.length ≤ 900) : ∀ (A g : List Str) (rest : List PyData) (nb : Option (List Str)) (x7 : Option Sl), (∀ x ∈ A, x ∈ l ∧ x ≠ f ∧ PyData.strOk x = true) → g.length + A.length ≤ 900 → ∃ y7,
    fLoop (gNm 7) lkB (A.map PyData.str ++ rest) [P0, some (.fr (.str f)), some (.fr (tupS l)), R, some (.fr .none), some (.fr (optT nb)), some (.ow (.lst (g.map PyData.str))), x7]
      = fLoop (gNm 7) lkB rest [P0, some (.fr (.str f)), some (.fr (tupS l)), R, some (.fr .none), some (.fr (optT ((((lesI (l.take (pos f l)) A 0).getLast?).map fun k => srt (g ++ A.take k)).or nb))), some (.ow (.lst ((g ++ A).map PyData.str))), y7]
  | [], g, rest, nb, x7, _, _ => ⟨x7, by simp [lesI]⟩
  | a :: A, g, rest, nb, x7, hA, hg => by
    simp only [List.length_cons] at hg
    obtain ⟨ha, hne, oka⟩ := hA a (.head _)
    have e1 := eqS oka okf
    have e1' : (a == f) = false := by simpa using hne
    rw [e1'] at e1
    have e2 : ixmOp (tupS l) (.str a) = some (.fr (.int (pos a l))) := ixm_seq (.inr rfl) ha
    have e3 : ixmOp (tupS l) (.str f) = some (.fr (.int (pos f l))) := ixm_seq (.inr rfl) hf
    have hs : sortOp [.list (g.map PyData.str)] = some (.ow (.lst ((srt g).map PyData.str))) := v_sort (.inl rfl) (by omega)
    have hz : (g.map PyData.str).length < 100000 := by rw [List.length_map]; omega
    have ee : g.map PyData.str ++ [PyData.str a] = (g ++ [a]).map PyData.str := by simp
    have hb : decide ((pos f l : Int) < (pos a l : Int)) = !mem a (l.take (pos f l)) := by
      by_cases hm : a ∈ l.take (pos f l)
      · have h1 : ¬ f ∈ l.take (pos a l) := (before_iff (a := a) (b := f) ha hf hne).mpr hm
        have : ¬ pos f l < pos a l := fun q => h1 (List.mem_of_getElem? (i := pos f l) (by rw [List.getElem?_take_of_lt q]; exact pos_get hf))
        rw [decide_eq_false (by omega), mem_iff.mpr hm]
        rfl
      · have h1 : f ∈ l.take (pos a l) := (before_iff (a := f) (b := a) hf ha (fun z => hne z.symm)).mp hm
        have : pos f l < pos a l := by
          obtain ⟨i, hi⟩ := List.getElem?_of_mem h1
          have hil := (List.getElem?_eq_some_iff.mp hi).1
          rw [List.length_take] at hil
          apply Nat.lt_of_not_le
          intro q
          have h2 : a ∈ l.take (pos f l) := by
            by_cases e : pos a l = pos f l
            · have p1 := pos_get ha
              rw [e, pos_get hf] at p1
              simp only [Option.some.injEq] at p1
              exact absurd p1.symm hne
            · exact List.mem_of_getElem? (i := pos a l) (by rw [List.getElem?_take_of_lt (by omega)]; exact pos_get ha)
          exact hm h2
        rw [decide_eq_true (by omega), memF.mpr hm]
        rfl
    have sf : ∀ k, srt (g ++ [a] ++ A.take k) = srt (g ++ (a :: A).take (k + 1)) := fun k => by simp
    have lz : ∀ (B : List Str) (A : List Str) (i : Nat), lesI B A (i + 1) = (lesI B A i).map (· + 1) := by
      intro B A
      induction A with
      | nil => intro i; rfl
      | cons a A ih =>
        intro i
        rw [lesI, lesI, ih (i + 1)]
        split <;> rfl
    cases hm : mem a (l.take (pos f l)) with
    | true =>
      rw [hm] at hb
      obtain ⟨y7, ih⟩ := lk_ahead (P0 := P0) (R := R) okf hf hl A (g ++ [a]) rest nb (some (.fr (.str a))) (fun x hx => hA x (.tail _ hx)) (by simp; omega)
      refine ⟨y7, ?_⟩
      have ef : optT ((((lesI (l.take (pos f l)) (a :: A) 0).getLast?).map fun k => srt (g ++ (a :: A).take k)).or nb) = optT ((((lesI (l.take (pos f l)) A 0).getLast?).map fun k => srt (g ++ [a] ++ A.take k)).or nb) := by
        rw [lesI, if_pos hm, lz]
        cases hL : (lesI (l.take (pos f l)) A 0).getLast? <;> simp [List.getLast?_map, hL]
      rw [ef, show g ++ a :: A = g ++ [a] ++ A by simp]
      refine x_loop (ρ2 := [P0, some (.fr (.str f)), some (.fr (tupS l)), R, some (.fr .none), some (.fr (optT nb)), some (.ow (.lst ((g ++ [a]).map PyData.str))), some (.fr (.str a))]) rfl ?_ ih
      rw [← ee]
      repeat' fail "x"
    | false =>
      rw [hm] at hb
      obtain ⟨y7, ih⟩ := lk_ahead (P0 := P0) (R := R) okf hf hl A (g ++ [a]) rest (some (srt g)) (some (.fr (.str a))) (fun x hx => hA x (.tail _ hx)) (by simp; omega)
      refine ⟨y7, ?_⟩
      have ef : optT ((((lesI (l.take (pos f l)) (a :: A) 0).getLast?).map fun k => srt (g ++ (a :: A).take k)).or nb) = optT ((((lesI (l.take (pos f l)) A 0).getLast?).map fun k => srt (g ++ [a] ++ A.take k)).or (some (srt g))) := by
        rw [lesI, if_neg (by rw [hm]; decide), lz]
        cases hL : (lesI (l.take (pos f l)) A 0).getLast? <;> simp [List.getLast?_cons, List.getLast?_map, hL]
      rw [ef, show g ++ a :: A = g ++ [a] ++ A by simp]
      refine x_loop (ρ2 := [P0, some (.fr (.str f)), some (.fr (tupS l)), R, some (.fr .none), some (.fr (optT (some (srt g)))), some (.ow (.lst ((g ++ [a]).map PyData.str))), some (.fr (.str a))]) rfl ?_ ih
      rw [← ee]
      repeat' fail "x"
/-- behind it -/
theorem lk_behind {P0 R X5 : Option Sl} {l b : List Str} {f : Str} (okf : PyData.strOk f = true) (hf : f ∈ l) (hl : l.length ≤ 900) : ∀ (A g : List Str) (x7 : Option Sl), (∀ x ∈ A, x ∈ l ∧ x ≠ f ∧ PyData.strOk x = true) → g.length + A.length ≤ 901 → ∃ y6 y7,
    fLoop (gNm 7) lkB (A.map PyData.str) [P0, some (.fr (.str f)), some (.fr (tupS l)), R, some (.fr (tupS b)), X5, some (.ow (.lst (g.map PyData.str))), x7]
      = .ok .nx [P0, some (.fr (.str f)), some (.fr (tupS l)), R, some (.fr (tupS b)), X5, y6, y7]
  | [], g, x7, _, _ => ⟨_, x7, rfl⟩
  | a :: A, g, x7, hA, hg => by
    simp only [List.length_cons] at hg
    obtain ⟨ha, hne, oka⟩ := hA a (.head _)
    have v1 := eqS oka okf
    have e1' : (a == f) = false := by simpa using hne
    rw [e1'] at v1
    have v2 : ixmOp (tupS l) (.str a) = some (.fr (.int (pos a l))) := ixm_seq (.inr rfl) ha
    have v3 : ixmOp (tupS l) (.str f) = some (.fr (.int (pos f l))) := ixm_seq (.inr rfl) hf
    have hz : (g.map PyData.str).length < 100000 := by rw [List.length_map]; omega
    have ee : g.map PyData.str ++ [PyData.str a] = (g ++ [a]).map PyData.str := by simp
    obtain ⟨y6, y7, ih⟩ := lk_behind (P0 := P0) (R := R) (X5 := X5) (b := b) okf hf hl A (g ++ [a]) (some (.fr (.str a))) (fun x hx => hA x (.tail _ hx)) (by simp; omega)
    refine ⟨y6, y7, ?_⟩
    rw [List.map_cons]
    refine x_loop (ρ2 := [P0, some (.fr (.str f)), some (.fr (tupS l)), R, some (.fr (tupS b)), X5, some (.ow (.lst ((g ++ [a]).map PyData.str))), some (.fr (.str a))]) rfl ?_ ih
    rw [← ee]
    repeat' fail "x"
theorem lawknown_ok {l r : List Str} {f : Str} (hl : l.length ≤ 900) (hf : f ∈ l) (hr : r.Nodup) (hrl : ∀ x ∈ r, x ∈ l) (hr9 : r.length ≤ 900) (ok : ∀ x ∈ l, PyData.strOk x = true) :
    d__law_known none [encN (l, r), .str f] = .ok (.fr (.tuple [optT (knownP l r f).1, optT (knownP l r f).2])) none := by
  show finR none (g__law_known [some (.fr (encN (l, r))), some (.fr (.str f)), none, none, none, none, none, none]) = _
  have okf := ok f hf
  have hu : fUnp (gSeqF 2 (gConsF (gNm 2) (gConsF (gNm 3) gNilF))) (fVar 0) [some (.fr (encN (l, r))), some (.fr (.str f)), none, none, none, none, none, none] = .ok .nx [some (.fr (encN (l, r))), some (.fr (.str f)), some (.fr (tupS l)), some (.fr (lstS r)), none, none, none, none] := rfl
  by_cases hfr : f ∈ r
  · have hj := pos_get hfr
    have hjl := pos_lt hfr
    have hsp : r = r.take (pos f r) ++ f :: r.drop (pos f r + 1) := by
      have e1 : r.drop (pos f r) = f :: r.drop (pos f r + 1) := by
        rw [List.drop_eq_getElem_cons hjl]
        congr 1
        have := List.getElem?_eq_getElem hjl
        rw [hj] at this
        exact (Option.some.inj this).symm
      rw [← e1, List.take_append_drop]
    have hal : (r.take (pos f r)).length ≤ 900 := by rw [List.length_take]; omega
    have hbl : (r.drop (pos f r + 1)).length + pos f r + 1 ≤ 900 := by rw [List.length_drop]; omega
    obtain ⟨y7, e1⟩ := lk_ahead (P0 := some (.fr (encN (l, r)))) (R := some (.fr (lstS r))) okf hf hl (r.take (pos f r)) [] (PyData.str f :: (r.drop (pos f r + 1)).map PyData.str) none none (fun x hx => by
      have hxr := List.mem_of_mem_take hx
      exact ⟨hrl x hxr, fun e => pos_not (l := r) (x := f) (e ▸ hx), ok x (hrl x hxr)⟩) (by simpa using hal)
    obtain ⟨z6, z7, e2⟩ := lk_behind (P0 := some (.fr (encN (l, r)))) (R := some (.fr (lstS r))) (X5 := some (.fr (optT ((lesI (l.take (pos f l)) (r.take (pos f r)) 0).getLast?.map fun k => srt ((r.take (pos f r)).take k))))) (b := srt (r.take (pos f r))) okf hf hl (r.drop (pos f r + 1)) (r.take (pos f r) ++ [f]) (some (.fr (.str f))) (fun x hx => by
      have hxr := List.mem_of_mem_drop hx
      refine ⟨hrl x hxr, fun e => ?_, ok x (hrl x hxr)⟩
      rw [hsp] at hr
      have := (List.nodup_append.mp hr).2.1
      rw [List.nodup_cons] at this
      exact this.1 (e ▸ hx)) (by simp only [List.length_append, List.length_cons, List.length_nil, List.length_take]; omega)
    have hloop : fLoop (gNm 7) lkB (r.map PyData.str) [some (.fr (encN (l, r))), some (.fr (.str f)), some (.fr (tupS l)), some (.fr (lstS r)), some (.fr .none), some (.fr .none), some (.ow (.lst [])), none] = .ok .nx [some (.fr (encN (l, r))), some (.fr (.str f)), some (.fr (tupS l)), some (.fr (lstS r)), some (.fr (tupS (srt (r.take (pos f r))))), some (.fr (optT ((lesI (l.take (pos f l)) (r.take (pos f r)) 0).getLast?.map fun k => srt ((r.take (pos f r)).take k)))), z6, z7] := by
      have em : r.map PyData.str = (r.take (pos f r)).map PyData.str ++ (PyData.str f :: (r.drop (pos f r + 1)).map PyData.str) := by
        conv => lhs; rw [hsp]
        rw [List.map_append, List.map_cons]
      rw [em]
      refine Eq.trans e1 ?_
      have eo : ∀ o : Option (List Str), o.or none = o := fun o => by cases o <;> rfl
      rw [eo]
      have v1 := eqS okf okf
      rw [beq_self_eq_true] at v1
      have v2 : sortOp [.list ((r.take (pos f r)).map PyData.str)] = some (.ow (.lst ((srt (r.take (pos f r))).map PyData.str))) := v_sort (.inl rfl) (by omega)
      have hz : ((r.take (pos f r)).map PyData.str).length < 100000 := by rw [List.length_map]; omega
      have ee : (r.take (pos f r)).map PyData.str ++ [PyData.str f] = (r.take (pos f r) ++ [f]).map PyData.str := by simp
      refine x_loop (ρ2 := [some (.fr (encN (l, r))), some (.fr (.str f)), some (.fr (tupS l)), some (.fr (lstS r)), some (.fr (tupS (srt (r.take (pos f r))))), some (.fr (optT ((lesI (l.take (pos f l)) (r.take (pos f r)) 0).getLast?.map fun k => srt ((r.take (pos f r)).take k)))), some (.ow (.lst ((r.take (pos f r) ++ [f]).map PyData.str))), some (.fr (.str f))]) rfl ?_ e2
      rw [← ee, List.nil_append]
      repeat' fail "x"
    rw [known_in hfr]
    unfold g__law_known
    repeat' fail "x"
  · obtain ⟨y7, e1⟩ := lk_ahead (P0 := some (.fr (encN (l, r)))) (R := some (.fr (lstS r))) okf hf hl r [] [] none none (fun x hx => ⟨hrl x hx, fun e => hfr (e ▸ hx), ok x (hrl x hx)⟩) (by simpa using hr9)
    have hloop : ∃ z5 z6, fLoop (gNm 7) lkB (r.map PyData.str) [some (.fr (encN (l, r))), some (.fr (.str f)), some (.fr (tupS l)), some (.fr (lstS r)), some (.fr .none), some (.fr .none), some (.ow (.lst [])), none] = .ok .nx [some (.fr (encN (l, r))), some (.fr (.str f)), some (.fr (tupS l)), some (.fr (lstS r)), some (.fr .none), z5, z6, y7] := by
      rw [List.append_nil] at e1
      exact ⟨_, _, e1⟩
    obtain ⟨z5, z6, hloop⟩ := hloop
    have v1 : sortOp [lstS r] = some (.ow (.lst ((srt r).map PyData.str))) := v_sort (.inl rfl) (by omega)
    rw [known_out hfr]
    unfold g__law_known
    repeat' fail "x"

end TX

namespace TX
open PySem PySem.Spec PyProof.Rows L2 RZ DL
set_option hygiene false
local macro_rules | `(tactic| fail "x") => `(tactic| first
    | ((with_reducible show (_ = true) → _); intro hq)
    | intro x hx
    | ((with_reducible apply id_sl); first
      | assumption
      | with_reducible apply x_c
      | with_reducible apply x_op
      | with_reducible apply x_cb
      | with_reducible apply x_tup
      | with_reducible apply x_lst
      | with_reducible apply x_fz
      | with_reducible apply x_callV
      | with_reducible apply x_callT
      | with_reducible apply x_callO
      | with_reducible apply x_lcM
      | with_reducible apply x_lcF
      | with_reducible apply x_if
      | with_reducible apply x_un
      | with_reducible apply x_sl
      | with_reducible apply x_append
      | with_reducible apply x_extend
      | with_reducible apply x_andV
      | with_reducible apply x_orV
      | with_reducible apply x_notV
      | with_reducible apply x_isi
      | with_reducible apply x_isi2
      | with_reducible apply x_bl
      | with_reducible apply x_m1
      | with_reducible apply x_chain
      | with_reducible apply x_ixm
      | with_reducible apply x_ssc
      | with_reducible apply x_lc2
      | ((with_reducible apply x_lcOF); (exact rfl))
      | with_reducible apply x_lcOM
      | ((with_reducible apply x_condT); first | exact rfl | assumption)
      | ((with_reducible apply x_condF); first | exact rfl | assumption)
      | exact rfl)
    | ((with_reducible apply id_fl); first
      | assumption
      | with_reducible apply x_seqIf
      | with_reducible apply x_seqSeq
      | with_reducible apply x_seqNext
      | with_reducible apply x_seqRet
      | with_reducible apply x_seq
      | with_reducible apply x_asg
      | with_reducible apply x_aug
      | with_reducible apply x_ifS
      | with_reducible apply x_drop
      | with_reducible apply x_ret
      | with_reducible apply x_par
      | with_reducible apply x_unp
      | with_reducible apply x_for
      | with_reducible apply p_fr
      | with_reducible apply p_ow
      | with_reducible apply p_br
      | with_reducible apply x_next
      | with_reducible apply x_loop0
      | with_reducible apply x_loop
      | ((with_reducible apply x_condT); first | exact rfl | assumption)
      | ((with_reducible apply x_condF); first | exact rfl | assumption)
      | exact rfl)
    | ((with_reducible apply id_ls); first
      | assumption
      | with_reducible apply x_nil
      | with_reducible apply x_cons)
    | ((with_reducible apply id_ld); first
      | assumption
      | with_reducible apply x_iterS
      | with_reducible apply i_l
      | with_reducible apply i_t
      | with_reducible apply x_enumM
      | with_reducible apply x_zipLM
      | with_reducible apply x_zipTM
      | with_reducible apply x_range1
      | exact rfl)
    | ((with_reducible apply id_b); first
      | assumption
      | with_reducible apply x_tst
      | with_reducible apply x_not
      | with_reducible apply x_and
      | with_reducible apply x_or
      | ((with_reducible apply x_condT); first | exact rfl | assumption)
      | ((with_reducible apply x_condF); first | exact rfl | assumption)
      | exact rfl)
    | ((with_reducible apply id_oi); first
      | assumption
      | with_reducible apply x_nopart
      | with_reducible apply x_part)
    | ((with_reducible apply id_ev); first
      | assumption
      | (dsimp only [List.set_cons_succ, List.set_cons_zero, Sl.put, wipeE, backE, setE, List.getElem?_cons_succ, List.getElem?_cons_zero, Cn.rd] <;> exact rfl))
    | ((with_reducible apply id_oev); first
      | assumption
      | with_reducible apply g_nm
      | with_reducible apply g_nil
      | with_reducible apply g_cons
      | ((with_reducible apply g_seqT); exact rfl)
      | ((with_reducible apply g_seqL); exact rfl)
      | refine g_seqT rfl ?_
      | exact rfl)
    | ((with_reducible apply id_od); first
      | assumption
      | with_reducible apply r_fr
      | with_reducible apply r_ow
      | with_reducible apply r_br
      | with_reducible apply r_bi
      | exact rfl)
    | ((with_reducible apply id_ods); first
      | assumption
      | with_reducible apply r_nil
      | with_reducible apply r_cons
      | with_reducible apply q_nil
      | with_reducible apply q_cons
      | exact rfl)
    | ((with_reducible apply id_oode); first
      | assumption
      | with_reducible apply z_fr
      | with_reducible apply z_ow
      | with_reducible apply z_br
      | exact rfl)
    | ((with_reducible apply id_oc); first
      | assumption
      | with_reducible apply c_n
      | with_reducible apply c_s)
    | ((with_reducible apply id_ret); first
      | assumption
      | with_reducible apply t_fr
      | with_reducible apply t_ow
      | with_reducible apply t_br
      | with_reducible apply x_fin
      | ((with_reducible show retS _ _ _ = _); exact rfl)
      | ((with_reducible apply r1) <;> first | assumption | omega)
      | ((with_reducible apply r2) <;> first | assumption | omega)
      | ((with_reducible apply r3) <;> first | assumption | omega)
      | ((with_reducible apply r4) <;> first | assumption | omega)
      | ((with_reducible apply r5) <;> first | assumption | omega)
      | ((with_reducible apply r6) <;> first | assumption | omega)
      | ((with_reducible apply r7) <;> first | assumption | omega)
      | ((with_reducible apply r8) <;> first | assumption | omega)
      | ((with_reducible apply r9) <;> first | assumption | omega))
    | ((with_reducible apply id_bo); first
      | assumption
      | exact rfl
      | (simp [allFr, isFr, noLstS, noLst, noLsts, noLstC, nl_tups, noLsts_str, noLst_encO]; done)
      | (simp [allFr, isFr, noLstS, noLst, noLsts, noLstC, nl_tups, noLsts_str, noLst_encO, *]; done))
    | ((with_reducible apply id_int); first
      | assumption
      | exact rfl)
    | ((with_reducible apply id_oosl); first
      | assumption
      | exact rfl)
    | ((with_reducible apply id_ocn); first
      | assumption
      | exact rfl)
    | ((with_reducible apply id_osl); first
      | assumption
      | ((with_reducible apply v1) <;> first | assumption | omega)
      | ((with_reducible apply v2) <;> first | assumption | omega)
      | ((with_reducible apply v3) <;> first | assumption | omega)
      | ((with_reducible apply v4) <;> first | assumption | omega)
      | ((with_reducible apply v5) <;> first | assumption | omega)
      | ((with_reducible apply v6) <;> first | assumption | omega)
      | ((with_reducible apply v7) <;> first | assumption | omega)
      | ((with_reducible apply v8) <;> first | assumption | omega)
      | ((with_reducible apply v9) <;> first | assumption | omega)
      | with_reducible exact v_all
      | with_reducible exact v_any
      | with_reducible exact v_lenL
      | with_reducible exact v_lenT
      | with_reducible exact v_sum
      | with_reducible exact in_list
      | with_reducible exact in_tup
      | ((with_reducible apply in_seq); assumption)
      | exact rfl)
    | ((with_reducible apply id_le); first | assumption | exact Nat.le_of_ble_eq_true rfl | omega)
    | ((with_reducible apply id_lt); first | assumption | exact Nat.lt_of_lt_of_le (Nat.lt_succ_self _) (Nat.le_of_ble_eq_true rfl) | omega))

/-! ### a picking, or any row of some of the fruits -/
structure Rw (lk r : List Str) : Prop where
  n : lk.length ≤ 10
  ok : ∀ x ∈ lk, Txt17 x
  nm : ∀ x ∈ lk, IsNm x
  sg : Strg lk
  rd : r.Nodup
  rl : ∀ x ∈ r, x ∈ lk
  rn : r.length ≤ 10
variable {lk r : List Str} {f : Str}
theorem known_exc {PK L R : PyData} {liking : List Str} (hP : PK = .tuple [L, R] ∨ PK = .list [L, R]) (hL : IsSeq L liking) (h3 : mem f liking = false) : d_known none [PK, .str f] = .exc "NoFruit" (.str f) none := by
  have e0 : fUnp (gSeqF 2 (gConsF (gNm 2) (gConsF (gNm 3) gNilF))) (fVar 0) [some (.fr PK), some (.fr (.str f)), none, none, none, none, none, none, none] = .ok .nx [some (.fr PK), some (.fr (.str f)), some (.fr L), some (.fr R), none, none, none, none, none] := by
    rcases hP with rfl | rfl <;> rfl
  have v1 : inOp true (.str f) L = some (.fr (.bool true)) := by rw [in_seq (neg := true) hL, h3]; rfl
  have ec : fTest (fOp (inOp true) (fVar 1) (fVar 2)) [some (.fr PK), some (.fr (.str f)), some (.fr L), some (.fr R), none, none, none, none, none] = .ok true [some (.fr PK), some (.fr (.str f)), some (.fr L), some (.fr R), none, none, none, none, none] := by
    simp [fTest, fOp, fVar, Res.bind, rd, rd0, v1, ofOpt, asB]
  have e1 : g_known [some (.fr PK), some (.fr (.str f)), none, none, none, none, none, none, none] = .exc "NoFruit" (.str f) [some (.fr PK), some (.fr (.str f)), some (.fr L), some (.fr R), none, none, none, none, none] :=
    x_seq e0 (xc_seq (xc_ifT ec (xc_raise rfl)))
  exact xc_fin e1
theorem refused_ok {lk r : List Str} (h3 : f ∉ lk) : d__law_refused none [encN (lk, r), .str f] = .ok (.fr (.str f)) none := by
  have e := known_exc (f := f) (PK := encN (lk, r)) (.inl rfl) (.inr rfl) (memF.mpr h3)
  have e1 : g__law_refused [some (.fr (encN (lk, r))), some (.fr (.str f)), none, none] = .ok (.rt (.fr (.str f))) [some (.fr (encN (lk, r))), some (.fr (.str f)), none, none] := by
    refine x_seq (ρ1 := [some (.fr (encN (lk, r))), some (.fr (.str f)), some (.fr .none), none]) rfl ?_
    exact xc_try (c := "NoFruit") (d := .str f) (r := id) (ρ1 := [some (.fr (encN (lk, r))), some (.fr (.str f)), some (.fr .none), none]) (xc_drop (xc_call (x_cons rfl (x_cons rfl x_nil)) rfl e rfl)) rfl (by simp)
  exact x_fin (co := none) (co' := none) e1 rfl rfl
def SubR (r : List Str) (o : Option (List Str)) : Prop := ∀ l, o = some l → l.length ≤ r.length ∧ ∀ x ∈ l, x ∈ r
theorem sub_srt {r l : List Str} (h : l.length ≤ r.length) (h2 : ∀ x ∈ l, x ∈ r) : SubR r (some (srt l)) := fun m e => by
  cases e
  exact ⟨by rw [(srt_perm l).length_eq]; exact h, fun x hx => h2 x ((srt_perm l).mem_iff.mp hx)⟩
theorem known_sub : SubR r (knownP lk r f).1 ∧ SubR r (knownP lk r f).2 := by
  by_cases h : f ∈ r
  · rw [known_in h]
    refine ⟨sub_srt (by rw [List.length_take]; omega) fun x hx => List.mem_of_mem_take hx, fun l e => ?_⟩
    cases hk : (lesI (lk.take (pos f lk)) (r.take (pos f r)) 0).getLast? with
    | none => simp only [hk] at e; cases e
    | some k =>
      simp only [hk] at e
      exact sub_srt (l := (r.take (pos f r)).take k) (by rw [List.length_take, List.length_take]; omega) (fun x hx => List.mem_of_mem_take (List.mem_of_mem_take hx)) l e
  · rw [known_out h]
    exact ⟨fun l e => (by cases e), sub_srt (Nat.le_refl _) fun x hx => hx⟩
theorem gd_opt {n : Nat} {o : Option (List Str)} (h : SubR r o) (hr : r.length ≤ 100) (ok : ∀ x ∈ r, PyData.strOk x = true) : Gd (n + 2) (optT o) := by
  cases o with
  | none => exact .non
  | some l =>
    obtain ⟨h1, h2⟩ := h l rfl
    refine .tuple (fun d hd => ?_) (by rw [List.length_map]; omega)
    obtain ⟨x, hx, rfl⟩ := List.mem_map.mp hd
    exact .str (ok x (h2 x hx))
abbrev dueP (lk r : List Str) (f : Str) : PyData := .tuple [optT (knownP lk r f).1, optT (knownP lk r f).2]
theorem Rw.okr (h : Rw lk r) : ∀ x ∈ r, PyData.strOk x = true := fun x hx => (h.ok x (h.rl x hx)).1
theorem Rw.gd (h : Rw lk r) (f : Str) : Gd 11 (dueP lk r f) := by
  have hs := known_sub (lk := lk) (r := r) (f := f)
  refine .tuple (fun d hd => ?_) (by simp)
  rcases List.mem_cons.mp hd with rfl | hd
  · exact gd_opt hs.1 (by have := h.rn; omega) h.okr
  · rw [List.mem_singleton.mp hd]
    exact gd_opt hs.2 (by have := h.rn; omega) h.okr
theorem Rw.same (h : Rw lk r) (f : Str) : d__law_same 12 none [.list [dueP lk r f, dueP lk r f], .list [dueP lk r f, dueP lk r f]] = .ok (.fr (.bool true)) none := same_refl 12 _ (.list (fun d hd => by
  rcases List.mem_cons.mp hd with rfl | hd
  · exact h.gd f
  · rw [List.mem_singleton.mp hd]; exact h.gd f) (by simp))
theorem noLst_opt (o : Option (List Str)) : noLst (optT o) = true := by
  cases o with
  | none => rfl
  | some l => simp [optT, noLst, noLsts_str]
theorem Rw.k1 (h : Rw lk r) (hf : f ∈ lk) : d_known none [encN (lk, r), .str f] = .ok (.fr (dueP lk r f)) none := known_ok (.inl rfl) (.inr rfl) (.inl rfl) (by have := h.rn; omega) (mem_iff.mpr hf)
theorem Rw.k2 (h : Rw lk r) (hf : f ∈ lk) : denK [1, 0] d_known none [.str f, .list [lstS lk, tupS r]] = .ok (.fr (dueP lk r f)) none := known_ok (PK := .list [lstS lk, tupS r]) (.inr rfl) (.inl rfl) (.inr rfl) (by have := h.rn; omega) (mem_iff.mpr hf)
theorem Rw.due (h : Rw lk r) (hf : f ∈ lk) : d__law_known none [encN (lk, r), .str f] = .ok (.fr (dueP lk r f)) none := lawknown_ok (by have := h.n; omega) hf h.rd h.rl (by have := h.rn; omega) fun x hx => (h.ok x hx).1
theorem Rw.shown (h : Rw lk r) : ∃ R, reprOp [encN (lk, r)] = some (.fr (.str R)) ∧ PyData.strOk R = true := by
  have hs : ∀ l : List Str, (∀ x ∈ l, Txt17 x) → ∀ d ∈ l.map PyData.str, Pl 0 172 d := fun l hl d hd => by
    obtain ⟨x, hx, rfl⟩ := List.mem_map.mp hd
    exact pl_str (k := 17) (hl x hx).1 (hl x hx).2
  have hp : Pl 2 3493 (encN (lk, r)) := by
    refine pl_tuple (L := 2) (m := 1743) (fun d hd => ?_) (by simp)
    rcases List.mem_cons.mp hd with e | hd
    · rw [e]
      exact pl_tuple (L := 10) (m := 172) (hs lk h.ok) (by rw [List.length_map]; exact h.n)
    · rw [List.mem_singleton] at hd
      rw [hd]
      exact pl_list (L := 10) (m := 172) (hs r fun x hx => h.ok x (h.rl x hx)) (by rw [List.length_map]; exact h.rn)
  refine ⟨_, by
    show (if reprOk (encN (lk, r)) = true then _ else _) = _
    rw [if_pos (pl_ok hp (by decide) (by decide))], hp.s.1⟩
theorem Rw.strange (h : Rw lk r) : ∃ (s : Str) (t : List Str), (["zzzzzzzz", "yyyyyyyy"] : List Str).filter (fun x => !mem x lk) = s :: t ∧ s ∉ lk ∧ PyData.strOk s = true := by
  by_cases hz : ("zzzzzzzz" : Str) ∈ lk
  · have hy : ("yyyyyyyy" : Str) ∉ lk := fun z => h.sg ⟨hz, z⟩
    refine ⟨"yyyyyyyy", [], ?_, hy, by decide +kernel⟩
    rw [List.filter_cons_of_neg (by rw [mem_iff.mpr hz]; decide), List.filter_cons_of_pos (by rw [memF.mpr hy]; rfl), List.filter_nil]
  · refine ⟨"zzzzzzzz", (["yyyyyyyy"] : List Str).filter (fun x => !mem x lk), ?_, hz, by decide +kernel⟩
    rw [List.filter_cons_of_pos (by rw [memF.mpr hz]; rfl)]
theorem Rw.odd (h : Rw lk r) : ("" : Str) ∉ lk ∧ ("A" : Str) ∉ lk := by
  refine ⟨fun hx => ?_, fun hx => ?_⟩
  · exact absurd (h.nm _ hx).1 (by decide +kernel)
  · have := (h.nm _ hx).2.2 65 (by decide +kernel)
    omega

end TX

namespace TX
open PySem PySem.Spec PyProof.Rows L2 RZ DL
set_option hygiene false
local macro_rules | `(tactic| fail "x") => `(tactic| first
    | ((with_reducible show (_ = true) → _); intro hq)
    | intro x hx
    | ((with_reducible apply id_sl); first
      | assumption
      | with_reducible apply x_c
      | with_reducible apply x_op
      | with_reducible apply x_cb
      | with_reducible apply x_tup
      | with_reducible apply x_lst
      | with_reducible apply x_fz
      | with_reducible apply x_callV
      | with_reducible apply x_callT
      | with_reducible apply x_callO
      | with_reducible apply x_lcM
      | with_reducible apply x_lcF
      | with_reducible apply x_if
      | with_reducible apply x_un
      | with_reducible apply x_sl
      | with_reducible apply x_append
      | with_reducible apply x_extend
      | with_reducible apply x_andV
      | with_reducible apply x_orV
      | with_reducible apply x_notV
      | with_reducible apply x_isi
      | with_reducible apply x_isi2
      | with_reducible apply x_bl
      | with_reducible apply x_m1
      | with_reducible apply x_chain
      | with_reducible apply x_ixm
      | with_reducible apply x_ssc
      | with_reducible apply x_lc2
      | ((with_reducible apply x_lcOF); (exact rfl))
      | with_reducible apply x_lcOM
      | ((with_reducible apply x_condT); first | exact rfl | assumption)
      | ((with_reducible apply x_condF); first | exact rfl | assumption)
      | exact rfl)
    | ((with_reducible apply id_fl); first
      | assumption
      | with_reducible apply x_seqIf
      | with_reducible apply x_seqSeq
      | with_reducible apply x_seqNext
      | with_reducible apply x_seqRet
      | with_reducible apply x_seq
      | with_reducible apply x_asg
      | with_reducible apply x_aug
      | with_reducible apply x_ifS
      | with_reducible apply x_drop
      | with_reducible apply x_ret
      | with_reducible apply x_par
      | with_reducible apply x_unp
      | with_reducible apply x_for
      | with_reducible apply p_fr
      | with_reducible apply p_ow
      | with_reducible apply p_br
      | with_reducible apply x_next
      | with_reducible apply x_loop0
      | with_reducible apply x_loop
      | ((with_reducible apply x_condT); first | exact rfl | assumption)
      | ((with_reducible apply x_condF); first | exact rfl | assumption)
      | exact rfl)
    | ((with_reducible apply id_ls); first
      | assumption
      | with_reducible apply x_nil
      | with_reducible apply x_cons)
    | ((with_reducible apply id_ld); first
      | assumption
      | with_reducible apply x_iterS
      | with_reducible apply i_l
      | with_reducible apply i_t
      | with_reducible apply x_enumM
      | with_reducible apply x_zipLM
      | with_reducible apply x_zipTM
      | with_reducible apply x_range1
      | exact rfl)
    | ((with_reducible apply id_b); first
      | assumption
      | with_reducible apply x_tst
      | with_reducible apply x_not
      | with_reducible apply x_and
      | with_reducible apply x_or
      | ((with_reducible apply x_condT); first | exact rfl | assumption)
      | ((with_reducible apply x_condF); first | exact rfl | assumption)
      | exact rfl)
    | ((with_reducible apply id_oi); first
      | assumption
      | with_reducible apply x_nopart
      | with_reducible apply x_part)
    | ((with_reducible apply id_ev); first
      | assumption
      | (dsimp only [List.set_cons_succ, List.set_cons_zero, Sl.put, wipeE, backE, setE, List.getElem?_cons_succ, List.getElem?_cons_zero, Cn.rd] <;> exact rfl))
    | ((with_reducible apply id_oev); first
      | assumption
      | with_reducible apply g_nm
      | with_reducible apply g_nil
      | with_reducible apply g_cons
      | ((with_reducible apply g_seqT); exact rfl)
      | ((with_reducible apply g_seqL); exact rfl)
      | refine g_seqT rfl ?_
      | exact rfl)
    | ((with_reducible apply id_od); first
      | assumption
      | with_reducible apply r_fr
      | with_reducible apply r_ow
      | with_reducible apply r_br
      | with_reducible apply r_bi
      | exact rfl)
    | ((with_reducible apply id_ods); first
      | assumption
      | with_reducible apply r_nil
      | with_reducible apply r_cons
      | with_reducible apply q_nil
      | with_reducible apply q_cons
      | exact rfl)
    | ((with_reducible apply id_oode); first
      | assumption
      | with_reducible apply z_fr
      | with_reducible apply z_ow
      | with_reducible apply z_br
      | exact rfl)
    | ((with_reducible apply id_oc); first
      | assumption
      | with_reducible apply c_n
      | with_reducible apply c_s)
    | ((with_reducible apply id_ret); first
      | assumption
      | with_reducible apply t_fr
      | with_reducible apply t_ow
      | with_reducible apply t_br
      | with_reducible apply x_fin
      | ((with_reducible show retS _ _ _ = _); exact rfl)
      | ((with_reducible apply r1) <;> first | assumption | omega)
      | ((with_reducible apply r2) <;> first | assumption | omega)
      | ((with_reducible apply r3) <;> first | assumption | omega)
      | ((with_reducible apply r4) <;> first | assumption | omega)
      | ((with_reducible apply r5) <;> first | assumption | omega)
      | ((with_reducible apply r6) <;> first | assumption | omega)
      | ((with_reducible apply r7) <;> first | assumption | omega)
      | ((with_reducible apply r8) <;> first | assumption | omega)
      | ((with_reducible apply r9) <;> first | assumption | omega))
    | ((with_reducible apply id_bo); first
      | assumption
      | exact rfl
      | (simp [allFr, isFr, noLstS, noLst, noLsts, noLstC, nl_tups, noLsts_str, noLst_encO]; done)
      | (simp [allFr, isFr, noLstS, noLst, noLsts, noLstC, nl_tups, noLsts_str, noLst_encO, *]; done))
    | ((with_reducible apply id_int); first
      | assumption
      | exact rfl)
    | ((with_reducible apply id_oosl); first
      | assumption
      | exact rfl)
    | ((with_reducible apply id_ocn); first
      | assumption
      | exact rfl)
    | ((with_reducible apply id_osl); first
      | assumption
      | ((with_reducible apply v1) <;> first | assumption | omega)
      | ((with_reducible apply v2) <;> first | assumption | omega)
      | ((with_reducible apply v3) <;> first | assumption | omega)
      | ((with_reducible apply v4) <;> first | assumption | omega)
      | ((with_reducible apply v5) <;> first | assumption | omega)
      | ((with_reducible apply v6) <;> first | assumption | omega)
      | ((with_reducible apply v7) <;> first | assumption | omega)
      | ((with_reducible apply v8) <;> first | assumption | omega)
      | ((with_reducible apply v9) <;> first | assumption | omega)
      | with_reducible exact v_all
      | with_reducible exact v_any
      | with_reducible exact v_lenL
      | with_reducible exact v_lenT
      | with_reducible exact v_sum
      | with_reducible exact in_list
      | with_reducible exact in_tup
      | ((with_reducible apply in_seq); assumption)
      | exact rfl)
    | ((with_reducible apply id_le); first | assumption | exact Nat.le_of_ble_eq_true rfl | omega)
    | ((with_reducible apply id_lt); first | assumption | exact Nat.lt_of_lt_of_le (Nat.lt_succ_self _) (Nat.le_of_ble_eq_true rfl) | omega))

variable {lk r : List Str} {c : List PyData} {R : Str}
theorem plum_turn (h : Rw lk r) {f : Str} (hf : f ∈ lk) {x1 x2 x8 x9 x10 : Option Sl} : (fSeq (fAsg 8 (fCallV d__law_known (fCons (fVar 5) (fCons (fVar 7) fNil)))) (fSeq (fAsg 9 (fFz (fLst (fCons (fCallV d_known (fCons (fVar 5) (fCons (fVar 7) fNil))) (fCons (fCallV (denK [1, 0] d_known) (fCons (fVar 7) (fCons (fLst (fCons (fFz (fCB listOp (fCons (fVar 3) fNil))) (fCons (fCB tupleOp (fCons (fVar 4) fNil)) fNil))) fNil))) fNil))))) (fIfS (fNot (fTest (fCallV (d__law_same 12) (fCons (fVar 9) (fCons (fLst (fCons (fVar 8) (fCons (fVar 8) fNil))) fNil))))) (fRet (fC (.bool false))) fNext))) [some (.io 0 (.lst c)), x1, x2, some (.fr (tupS lk)), some (.fr (lstS r)), some (.fr (encN (lk, r))), some (.fr (.str R)), some (.fr (.str f)), x8, x9, x10, none, none] = .ok .nx [some (.io 0 (.lst c)), x1, x2, some (.fr (tupS lk)), some (.fr (lstS r)), some (.fr (encN (lk, r))), some (.fr (.str R)), some (.fr (.str f)), some (.fr (dueP lk r f)), some (.fr (.list [dueP lk r f, dueP lk r f])), x10, none, none] := by
  have r1 := h.due hf
  have r2 := h.k1 hf
  have r3 := h.k2 hf
  have r4 := h.same f
  have v1 : listOp [tupS lk] = some (.ow (.lst (lk.map PyData.str))) := rfl
  have v2 : tupleOp [lstS r] = some (.fr (tupS r)) := rfl
  have hn1 := noLst_opt (knownP lk r f).1
  have hn2 := noLst_opt (knownP lk r f).2
  repeat' fail "x"
theorem plums (h : Rw lk r) {x1 x2 x10 : Option Sl} : ∀ (fs : List Str) (x7 x8 x9 : Option Sl), (∀ f ∈ fs, f ∈ lk) → ∃ y7 y8 y9, fLoop (gNm 7) (fSeq (fAsg 8 (fCallV d__law_known (fCons (fVar 5) (fCons (fVar 7) fNil)))) (fSeq (fAsg 9 (fFz (fLst (fCons (fCallV d_known (fCons (fVar 5) (fCons (fVar 7) fNil))) (fCons (fCallV (denK [1, 0] d_known) (fCons (fVar 7) (fCons (fLst (fCons (fFz (fCB listOp (fCons (fVar 3) fNil))) (fCons (fCB tupleOp (fCons (fVar 4) fNil)) fNil))) fNil))) fNil))))) (fIfS (fNot (fTest (fCallV (d__law_same 12) (fCons (fVar 9) (fCons (fLst (fCons (fVar 8) (fCons (fVar 8) fNil))) fNil))))) (fRet (fC (.bool false))) fNext))) (fs.map PyData.str) [some (.io 0 (.lst c)), x1, x2, some (.fr (tupS lk)), some (.fr (lstS r)), some (.fr (encN (lk, r))), some (.fr (.str R)), x7, x8, x9, x10, none, none] = .ok .nx [some (.io 0 (.lst c)), x1, x2, some (.fr (tupS lk)), some (.fr (lstS r)), some (.fr (encN (lk, r))), some (.fr (.str R)), y7, y8, y9, x10, none, none]
  | [], x7, x8, x9, _ => ⟨x7, x8, x9, rfl⟩
  | f :: fs, x7, x8, x9, hf => by
    obtain ⟨y7, y8, y9, e⟩ := plums h (x1 := x1) (x2 := x2) (x10 := x10) fs (some (.fr (.str f))) (some (.fr (dueP lk r f))) (some (.fr (.list [dueP lk r f, dueP lk r f]))) fun g hg => hf g (.tail _ hg)
    refine ⟨y7, y8, y9, ?_⟩
    rw [List.map_cons]
    exact x_loop rfl (plum_turn h (hf f (.head _))) e
theorem strange_step (h : Rw lk r) {x1 x2 x7 x8 x9 x10 : Option Sl} : ∃ s : Str, s ∉ lk ∧ PyData.strOk s = true ∧ (fAsg 10 (fOp ixOp (fLc [11] (fIterS (fTup (fCons (fC (.str "zzzzzzzz")) (fCons (fC (.str "yyyyyyyy")) fNil)))) (gNm 11) (fTest (fOp (inOp true) (fVar 11) (fVar 3))) (fVar 11)) (fC (.int 0)))) [some (.io 0 (.lst c)), x1, x2, some (.fr (tupS lk)), some (.fr (lstS r)), some (.fr (encN (lk, r))), some (.fr (.str R)), x7, x8, x9, x10, none, none] = .ok .nx [some (.io 0 (.lst c)), x1, x2, some (.fr (tupS lk)), some (.fr (lstS r)), some (.fr (encN (lk, r))), some (.fr (.str R)), x7, x8, x9, some (.fr (.str s)), none, none] := by
  obtain ⟨s, t, e, h1, h2⟩ := h.strange
  refine ⟨s, h1, h2, ?_⟩
  have el := x_lcF (it := (fIterS (fTup (fCons (fC (.str "zzzzzzzz")) (fCons (fC (.str "yyyyyyyy")) fNil))))) (gt := gNm 11) (c1 := fTest (fOp (inOp true) (fVar 11) (fVar 3))) (f := fVar 11) (ks := [11]) (enc := PyData.str) (xs := (["zzzzzzzz", "yyyyyyyy"] : List Str)) (p := fun x => !mem x lk) (F := PyData.str) (ρ := [some (.io 0 (.lst c)), x1, x2, some (.fr (tupS lk)), some (.fr (lstS r)), some (.fr (encN (lk, r))), some (.fr (.str R)), x7, x8, x9, x10, none, none]) (ρ1 := [some (.io 0 (.lst c)), x1, x2, some (.fr (tupS lk)), some (.fr (lstS r)), some (.fr (encN (lk, r))), some (.fr (.str R)), x7, x8, x9, x10, none, none]) (ρ0 := [some (.io 0 (.lst c)), x1, x2, some (.fr (tupS lk)), some (.fr (lstS r)), some (.fr (encN (lk, r))), some (.fr (.str R)), x7, x8, x9, x10, none, none]) (ρb := [some (.io 0 (.lst c)), x1, x2, some (.fr (tupS lk)), some (.fr (lstS r)), some (.fr (encN (lk, r))), some (.fr (.str R)), x7, x8, x9, x10, none, none]) (ρx := fun x => [some (.io 0 (.lst c)), x1, x2, some (.fr (tupS lk)), some (.fr (lstS r)), some (.fr (encN (lk, r))), some (.fr (.str R)), x7, x8, x9, x10, some (.fr (.str x)), none]) (ρy := fun x => [some (.io 0 (.lst c)), x1, x2, some (.fr (tupS lk)), some (.fr (lstS r)), some (.fr (encN (lk, r))), some (.fr (.str R)), x7, x8, x9, x10, some (.fr (.str x)), none]) rfl rfl rfl rfl (fun x _ => rfl) (fun x hx => by
    simp [fTest, fOp, fVar, Res.bind, rd, rd0, in_tup (neg := true), ofOpt, asB]) (fun x _ _ => rfl) (fun x _ => rfl) (fun x _ => rfl) (by decide)
  rw [e] at el
  have v1 : ixOp (.list ((s :: t).map PyData.str)) (.int 0) = some (.fr (.str s)) := by
    have : ixD ((s :: t).map PyData.str).length 0 = some 0 := by
      unfold ixD
      rw [if_pos (by omega), if_pos (by simp <;> omega)]
      rfl
    simp only [ixOp, this]
    rfl
  exact x_asg (x_op el rfl rfl rfl v1) rfl
theorem end_step (h : Rw lk r) {s : Str} (hs : s ∉ lk) (ho : PyData.strOk s = true) (hR : reprOp [encN (lk, r)] = some (.fr (.str R))) (hk : PyData.strOk R = true) {x1 x2 x7 x8 x9 : Option Sl} : (fIfS (fOr (fTest (fOp (eqOp true) (fLc [12] (fIterS (fTup (fCons (fVar 10) (fCons (fC (.str "")) (fCons (fC (.str "A")) fNil))))) (gNm 12) (fun ρ => .ok true ρ) (fCallV d__law_refused (fCons (fVar 5) (fCons (fVar 12) fNil)))) (fLst (fCons (fVar 10) (fCons (fC (.str "")) (fCons (fC (.str "A")) fNil)))))) (fTest (fOp (eqOp true) (fCB reprOp (fCons (fVar 5) fNil)) (fVar 6)))) (fRet (fC (.bool false))) fNext) [some (.io 0 (.lst c)), x1, x2, some (.fr (tupS lk)), some (.fr (lstS r)), some (.fr (encN (lk, r))), some (.fr (.str R)), x7, x8, x9, some (.fr (.str s)), none, none] = .ok .nx [some (.io 0 (.lst c)), x1, x2, some (.fr (tupS lk)), some (.fr (lstS r)), some (.fr (encN (lk, r))), some (.fr (.str R)), x7, x8, x9, some (.fr (.str s)), none, none] := by
  obtain ⟨h1, h2⟩ := h.odd
  have hm : ∀ x ∈ ([s, "", "A"] : List Str), d__law_refused none [encN (lk, r), .str x] = .ok (.fr (.str x)) none := fun x hx => refused_ok (by
    simp only [List.mem_cons, List.not_mem_nil, or_false] at hx
    rcases hx with rfl | rfl | rfl
    · exact hs
    · exact h1
    · exact h2)
  have e := x_lcM (it := (fIterS (fTup (fCons (fVar 10) (fCons (fC (.str "")) (fCons (fC (.str "A")) fNil)))))) (gt := gNm 12) (f := fCallV d__law_refused (fCons (fVar 5) (fCons (fVar 12) fNil))) (ks := [12]) (enc := PyData.str) (xs := ([s, "", "A"] : List Str)) (F := PyData.str) (ρ := [some (.io 0 (.lst c)), x1, x2, some (.fr (tupS lk)), some (.fr (lstS r)), some (.fr (encN (lk, r))), some (.fr (.str R)), x7, x8, x9, some (.fr (.str s)), none, none]) (ρ1 := [some (.io 0 (.lst c)), x1, x2, some (.fr (tupS lk)), some (.fr (lstS r)), some (.fr (encN (lk, r))), some (.fr (.str R)), x7, x8, x9, some (.fr (.str s)), none, none]) (ρ0 := [some (.io 0 (.lst c)), x1, x2, some (.fr (tupS lk)), some (.fr (lstS r)), some (.fr (encN (lk, r))), some (.fr (.str R)), x7, x8, x9, some (.fr (.str s)), none, none]) (ρb := [some (.io 0 (.lst c)), x1, x2, some (.fr (tupS lk)), some (.fr (lstS r)), some (.fr (encN (lk, r))), some (.fr (.str R)), x7, x8, x9, some (.fr (.str s)), none, none]) (ρx := fun x => [some (.io 0 (.lst c)), x1, x2, some (.fr (tupS lk)), some (.fr (lstS r)), some (.fr (encN (lk, r))), some (.fr (.str R)), x7, x8, x9, some (.fr (.str s)), none, some (.fr (.str x))]) (ρy := fun x => [some (.io 0 (.lst c)), x1, x2, some (.fr (tupS lk)), some (.fr (lstS r)), some (.fr (encN (lk, r))), some (.fr (.str R)), x7, x8, x9, some (.fr (.str s)), none, some (.fr (.str x))]) rfl rfl rfl rfl (fun x _ => rfl) (fun x hx => by
    simp [fFz, frz, fCallV, fCons, fVar, fNil, Res.bind, callV, rds, rd, rd0, hm x hx, allFr, isFr]) (fun x _ => rfl) (by simp)
  have v1 : eqOp true (.list (([s, "", "A"] : List Str).map PyData.str)) (.list [.str s, .str "", .str "A"]) = some (.fr (.bool false)) := rowtest (ds := [s, "", "A"]) (es := [s, "", "A"]) rfl fun x hx => by
    simp only [List.mem_cons, List.not_mem_nil, or_false] at hx
    rcases hx with rfl | rfl | rfl
    · exact ho
    · decide +kernel
    · decide +kernel
  have v2 : eqOp true (.str R) (.str R) = some (.fr (.bool false)) := strtest hk
  have el : fLst (fCons (fVar 10) (fCons (fC (.str "")) (fCons (fC (.str "A")) fNil))) [some (.io 0 (.lst c)), x1, x2, some (.fr (tupS lk)), some (.fr (lstS r)), some (.fr (encN (lk, r))), some (.fr (.str R)), x7, x8, x9, some (.fr (.str s)), none, none] = .ok (.ow (.lst [.str s, .str "", .str "A"])) [some (.io 0 (.lst c)), x1, x2, some (.fr (tupS lk)), some (.fr (lstS r)), some (.fr (encN (lk, r))), some (.fr (.str R)), x7, x8, x9, some (.fr (.str s)), none, none] := rfl
  exact x_ifS (b1 := false) (x_or (b1 := false) (b2 := false) (x_tst (x_op e el rfl rfl v1)) (x_tst (x_op (x_cb (x_cons rfl x_nil) rfl hR) rfl rfl rfl v2))) rfl

end TX

namespace TX
open PySem PySem.Spec PyProof.Rows L2 RZ DL
set_option hygiene false
local macro_rules | `(tactic| fail "x") => `(tactic| first
    | ((with_reducible show (_ = true) → _); intro hq)
    | intro x hx
    | ((with_reducible apply id_sl); first
      | assumption
      | with_reducible apply x_c
      | with_reducible apply x_op
      | with_reducible apply x_cb
      | with_reducible apply x_tup
      | with_reducible apply x_lst
      | with_reducible apply x_fz
      | with_reducible apply x_callV
      | with_reducible apply x_callT
      | with_reducible apply x_callO
      | with_reducible apply x_lcM
      | with_reducible apply x_lcF
      | with_reducible apply x_if
      | with_reducible apply x_un
      | with_reducible apply x_sl
      | with_reducible apply x_append
      | with_reducible apply x_extend
      | with_reducible apply x_andV
      | with_reducible apply x_orV
      | with_reducible apply x_notV
      | with_reducible apply x_isi
      | with_reducible apply x_isi2
      | with_reducible apply x_bl
      | with_reducible apply x_m1
      | with_reducible apply x_chain
      | with_reducible apply x_ixm
      | with_reducible apply x_ssc
      | with_reducible apply x_lc2
      | ((with_reducible apply x_lcOF); (exact rfl))
      | with_reducible apply x_lcOM
      | ((with_reducible apply x_condT); first | exact rfl | assumption)
      | ((with_reducible apply x_condF); first | exact rfl | assumption)
      | exact rfl)
    | ((with_reducible apply id_fl); first
      | assumption
      | with_reducible apply x_seqIf
      | with_reducible apply x_seqSeq
      | with_reducible apply x_seqNext
      | with_reducible apply x_seqRet
      | with_reducible apply x_seq
      | with_reducible apply x_asg
      | with_reducible apply x_aug
      | with_reducible apply x_ifS
      | with_reducible apply x_drop
      | with_reducible apply x_ret
      | with_reducible apply x_par
      | with_reducible apply x_unp
      | with_reducible apply x_for
      | with_reducible apply p_fr
      | with_reducible apply p_ow
      | with_reducible apply p_br
      | with_reducible apply x_next
      | with_reducible apply x_loop0
      | with_reducible apply x_loop
      | ((with_reducible apply x_condT); first | exact rfl | assumption)
      | ((with_reducible apply x_condF); first | exact rfl | assumption)
      | exact rfl)
    | ((with_reducible apply id_ls); first
      | assumption
      | with_reducible apply x_nil
      | with_reducible apply x_cons)
    | ((with_reducible apply id_ld); first
      | assumption
      | with_reducible apply x_iterS
      | with_reducible apply i_l
      | with_reducible apply i_t
      | with_reducible apply x_enumM
      | with_reducible apply x_zipLM
      | with_reducible apply x_zipTM
      | with_reducible apply x_range1
      | exact rfl)
    | ((with_reducible apply id_b); first
      | assumption
      | with_reducible apply x_tst
      | with_reducible apply x_not
      | with_reducible apply x_and
      | with_reducible apply x_or
      | ((with_reducible apply x_condT); first | exact rfl | assumption)
      | ((with_reducible apply x_condF); first | exact rfl | assumption)
      | exact rfl)
    | ((with_reducible apply id_oi); first
      | assumption
      | with_reducible apply x_nopart
      | with_reducible apply x_part)
    | ((with_reducible apply id_ev); first
      | assumption
      | (dsimp only [List.set_cons_succ, List.set_cons_zero, Sl.put, wipeE, backE, setE, List.getElem?_cons_succ, List.getElem?_cons_zero, Cn.rd] <;> exact rfl))
    | ((with_reducible apply id_oev); first
      | assumption
      | with_reducible apply g_nm
      | with_reducible apply g_nil
      | with_reducible apply g_cons
      | ((with_reducible apply g_seqT); exact rfl)
      | ((with_reducible apply g_seqL); exact rfl)
      | refine g_seqT rfl ?_
      | exact rfl)
    | ((with_reducible apply id_od); first
      | assumption
      | with_reducible apply r_fr
      | with_reducible apply r_ow
      | with_reducible apply r_br
      | with_reducible apply r_bi
      | exact rfl)
    | ((with_reducible apply id_ods); first
      | assumption
      | with_reducible apply r_nil
      | with_reducible apply r_cons
      | with_reducible apply q_nil
      | with_reducible apply q_cons
      | exact rfl)
    | ((with_reducible apply id_oode); first
      | assumption
      | with_reducible apply z_fr
      | with_reducible apply z_ow
      | with_reducible apply z_br
      | exact rfl)
    | ((with_reducible apply id_oc); first
      | assumption
      | with_reducible apply c_n
      | with_reducible apply c_s)
    | ((with_reducible apply id_ret); first
      | assumption
      | with_reducible apply t_fr
      | with_reducible apply t_ow
      | with_reducible apply t_br
      | with_reducible apply x_fin
      | ((with_reducible show retS _ _ _ = _); exact rfl)
      | ((with_reducible apply r1) <;> first | assumption | omega)
      | ((with_reducible apply r2) <;> first | assumption | omega)
      | ((with_reducible apply r3) <;> first | assumption | omega)
      | ((with_reducible apply r4) <;> first | assumption | omega)
      | ((with_reducible apply r5) <;> first | assumption | omega)
      | ((with_reducible apply r6) <;> first | assumption | omega)
      | ((with_reducible apply r7) <;> first | assumption | omega)
      | ((with_reducible apply r8) <;> first | assumption | omega)
      | ((with_reducible apply r9) <;> first | assumption | omega))
    | ((with_reducible apply id_bo); first
      | assumption
      | exact rfl
      | (simp [allFr, isFr, noLstS, noLst, noLsts, noLstC, nl_tups, noLsts_str, noLst_encO]; done)
      | (simp [allFr, isFr, noLstS, noLst, noLsts, noLstC, nl_tups, noLsts_str, noLst_encO, *]; done))
    | ((with_reducible apply id_int); first
      | assumption
      | exact rfl)
    | ((with_reducible apply id_oosl); first
      | assumption
      | exact rfl)
    | ((with_reducible apply id_ocn); first
      | assumption
      | exact rfl)
    | ((with_reducible apply id_osl); first
      | assumption
      | ((with_reducible apply v1) <;> first | assumption | omega)
      | ((with_reducible apply v2) <;> first | assumption | omega)
      | ((with_reducible apply v3) <;> first | assumption | omega)
      | ((with_reducible apply v4) <;> first | assumption | omega)
      | ((with_reducible apply v5) <;> first | assumption | omega)
      | ((with_reducible apply v6) <;> first | assumption | omega)
      | ((with_reducible apply v7) <;> first | assumption | omega)
      | ((with_reducible apply v8) <;> first | assumption | omega)
      | ((with_reducible apply v9) <;> first | assumption | omega)
      | with_reducible exact v_all
      | with_reducible exact v_any
      | with_reducible exact v_lenL
      | with_reducible exact v_lenT
      | with_reducible exact v_sum
      | with_reducible exact in_list
      | with_reducible exact in_tup
      | ((with_reducible apply in_seq); assumption)
      | exact rfl)
    | ((with_reducible apply id_le); first | assumption | exact Nat.le_of_ble_eq_true rfl | omega)
    | ((with_reducible apply id_lt); first | assumption | exact Nat.lt_of_lt_of_le (Nat.lt_succ_self _) (Nat.le_of_ble_eq_true rfl) | omega))

variable {lk r : List Str} {c : List PyData} {R : Str} {o : Orch}
theorem rw_of (hO : OrOk o) (h : lk.Perm (frsO o)) (rd : r.Nodup) (rl : ∀ x ∈ r, x ∈ lk) (rn : r.length ≤ 10) : Rw lk r :=
  ⟨by rw [perm_len h]; exact hO.n, fun x hx => hO.frs x (h.mem_iff.mp hx), fun x hx => hO.nm x (h.mem_iff.mp hx), fun z => hO.sg ⟨h.mem_iff.mp z.1, h.mem_iff.mp z.2⟩, rd, rl, rn⟩
theorem rw_pick (hO : OrOk o) (h : lk.Perm (frsO o)) : Rw lk (pickR o lk) := by
  obtain ⟨h1, h2⟩ := row_facts (pick_row (perm_mem h))
  exact rw_of hO h h2 (fun x hx => (h1 x hx).2.1) (pickR_ok hO h).2
theorem rw_part {ys rest : List Str} (hO : OrOk o) (h : lk.Perm (frsO o)) (hp : (ys ++ rest).Perm lk) : Rw lk ys := by
  have nd : (ys ++ rest).Nodup := hp.nodup_iff.mpr (h.nodup_iff.mpr hO.nd)
  refine rw_of hO h (List.nodup_append.mp nd).1 (fun x hx => hp.mem_iff.mp (List.mem_append_left _ hx)) ?_
  have h1 := hp.length_eq
  have h2 := perm_len h
  have h3 := hO.n
  rw [List.length_append] at h1
  omega
theorem row_step {T : Int} (h : IsTape T c) (hT : T + 20 < 9000) (hO : OrOk o) (hp : lk.Perm (frsO o)) {x1 x5 x6 x7 x8 x9 x10 : Option Sl} : ∃ (c' : List PyData) (r : List Str), Rw lk r ∧ IsTape (T + 20) c' ∧
    (fIfS (fTest (fOp (eqOp false) (fCallT d__law_draw (fCons (fVar 0) (fCons (fC (.int 4)) fNil))) (fC (.int 0)))) (fAsg 4 (fFz (fCallT d__law_part (fCons (fVar 0) (fCons (fVar 3) (fCons (fCallT d__law_draw (fCons (fVar 0) (fCons (fOp addOp (fCB lenOp (fCons (fVar 3) fNil)) (fC (.int 1))) fNil))) fNil)))))) fNext) [some (.io 0 (.lst c)), x1, some (.fr (encO false o)), some (.fr (tupS lk)), some (.fr (lstS (pickR o lk))), x5, x6, x7, x8, x9, x10, none, none] = .ok .nx [some (.io 0 (.lst c')), x1, some (.fr (encO false o)), some (.fr (tupS lk)), some (.fr (lstS r)), x5, x6, x7, x8, x9, x10, none, none] := by
  obtain ⟨v, c1, r1, v0, v4, h1⟩ := draw_ok (n := 4) h (by omega) (by decide) (by decide)
  have hl := perm_len hp
  have hn := hO.n
  by_cases hv : v = 0
  · subst hv
    obtain ⟨u, c2, r2, u0, u1, h2⟩ := draw_ok (n := (lk.length : Int) + 1) h1 (by omega) (by omega) (by omega)
    obtain ⟨m, rfl⟩ := Int.eq_ofNat_of_zero_le u0
    obtain ⟨ys, rest, c3, r3, ly, pm, h3⟩ := part_ok (m := m) (v := tupS lk) (xs := lk) h2 (by omega) (.inr rfl) (by omega)
    refine ⟨c3, ys, rw_part hO hp pm, h3.mono (by omega), ?_⟩
    have v1 : eqOp false (.int 0) (.int 0) = some (.fr (.bool true)) := eqI
    have v2 : lenOp [tupS lk] = some (.fr (.int (lk.length : Nat))) := by simp [lenOp] <;> omega
    have v3 : addOp (.int (lk.length : Nat)) (.int 1) = some (.fr (.int ((lk.length : Int) + 1))) := addI
    refine x_ifS (b1 := true) (ρ1 := [some (.io 0 (.lst c1)), x1, some (.fr (encO false o)), some (.fr (tupS lk)), some (.fr (lstS (pickR o lk))), x5, x6, x7, x8, x9, x10, none, none]) ?_ ?_
    · repeat' fail "x"
    · show (fAsg 4 (fFz (fCallT d__law_part (fCons (fVar 0) (fCons (fVar 3) (fCons (fCallT d__law_draw (fCons (fVar 0) (fCons (fOp addOp (fCB lenOp (fCons (fVar 3) fNil)) (fC (.int 1))) fNil))) fNil)))))) [some (.io 0 (.lst c1)), x1, some (.fr (encO false o)), some (.fr (tupS lk)), some (.fr (lstS (pickR o lk))), x5, x6, x7, x8, x9, x10, none, none] = _
      repeat' fail "x"
  · refine ⟨c1, pickR o lk, rw_pick hO hp, h1.mono (by omega), ?_⟩
    have v1 : eqOp false (.int v) (.int 0) = some (.fr (.bool false)) := by
      rw [eqI]
      simp [hv]
    refine x_ifS (b1 := false) (ρ1 := [some (.io 0 (.lst c1)), x1, some (.fr (encO false o)), some (.fr (tupS lk)), some (.fr (lstS (pickR o lk))), x5, x6, x7, x8, x9, x10, none, none]) ?_ rfl
    repeat' fail "x"
theorem turn {T : Int} (h : IsTape T c) (hT : T < 7700) (x1 x2 x3 x4 x5 x6 x7 x8 x9 x10 : Option Sl) : ∃ (c' : List PyData) (y2 y3 y4 y5 y6 y7 y8 y9 y10 : Option Sl), (fSeq (fAsg 2 (fCallT d__law_orchard (fCons (fVar 0) (fCons (fC (.int 1)) (fCons (fC (.int 9)) fNil))))) (fSeq (fAsg 3 (fCallT d__law_liking (fCons (fVar 0) (fCons (fVar 2) fNil)))) (fSeq (fAsg 4 (fFz (fCallV d__law_pick (fCons (fVar 2) (fCons (fVar 3) fNil))))) (fSeq (fIfS (fTest (fOp (eqOp false) (fCallT d__law_draw (fCons (fVar 0) (fCons (fC (.int 4)) fNil))) (fC (.int 0)))) (fAsg 4 (fFz (fCallT d__law_part (fCons (fVar 0) (fCons (fVar 3) (fCons (fCallT d__law_draw (fCons (fVar 0) (fCons (fOp addOp (fCB lenOp (fCons (fVar 3) fNil)) (fC (.int 1))) fNil))) fNil)))))) fNext) (fSeq (fPar [5, 6] (fCons (fTup (fCons (fVar 3) (fCons (fVar 4) fNil))) (fCons (fCB reprOp (fCons (fTup (fCons (fVar 3) (fCons (fVar 4) fNil))) fNil)) fNil))) (fSeq (fFor (fIterS (fVar 3)) (gNm 7) (fSeq (fAsg 8 (fCallV d__law_known (fCons (fVar 5) (fCons (fVar 7) fNil)))) (fSeq (fAsg 9 (fFz (fLst (fCons (fCallV d_known (fCons (fVar 5) (fCons (fVar 7) fNil))) (fCons (fCallV (denK [1, 0] d_known) (fCons (fVar 7) (fCons (fLst (fCons (fFz (fCB listOp (fCons (fVar 3) fNil))) (fCons (fCB tupleOp (fCons (fVar 4) fNil)) fNil))) fNil))) fNil))))) (fIfS (fNot (fTest (fCallV (d__law_same 12) (fCons (fVar 9) (fCons (fLst (fCons (fVar 8) (fCons (fVar 8) fNil))) fNil))))) (fRet (fC (.bool false))) fNext)))) (fSeq (fAsg 10 (fOp ixOp (fLc [11] (fIterS (fTup (fCons (fC (.str "zzzzzzzz")) (fCons (fC (.str "yyyyyyyy")) fNil)))) (gNm 11) (fTest (fOp (inOp true) (fVar 11) (fVar 3))) (fVar 11)) (fC (.int 0)))) (fIfS (fOr (fTest (fOp (eqOp true) (fLc [12] (fIterS (fTup (fCons (fVar 10) (fCons (fC (.str "")) (fCons (fC (.str "A")) fNil))))) (gNm 12) (fun ρ => .ok true ρ) (fCallV d__law_refused (fCons (fVar 5) (fCons (fVar 12) fNil)))) (fLst (fCons (fVar 10) (fCons (fC (.str "")) (fCons (fC (.str "A")) fNil)))))) (fTest (fOp (eqOp true) (fCB reprOp (fCons (fVar 5) fNil)) (fVar 6)))) (fRet (fC (.bool false))) fNext)))))))) [some (.io 0 (.lst c)), x1, x2, x3, x4, x5, x6, x7, x8, x9, x10, none, none] = .ok .nx [some (.io 0 (.lst c')), x1, y2, y3, y4, y5, y6, y7, y8, y9, y10, none, none] ∧ IsTape (T + 240) c' := by
  obtain ⟨o, c1, r1, hO, hn, h1⟩ := orchard_ok (few := 1) (most := 9) h (by omega) (by decide) (by decide)
  have r1 : d__law_orchard (some (.lst c)) [.int 1, .int 9] = .ok (.fr (encO false o)) (some (.lst c1)) := r1
  obtain ⟨lk, c2, r2, hp, h2⟩ := liking_ok h1 (by omega) hO
  have hl := perm_len hp
  have r3 : d__law_pick none [encO false o, tupS lk] = .ok (.ow (.lst ((pickR o lk).map PyData.str))) none := lawpick_ok hO.small hO.ok (.inr rfl) (by have := hO.n; omega) (perm_mem hp) (by have := hO.n; omega)
  obtain ⟨c3, r, K, h3, e3⟩ := row_step h2 (by omega) hO hp (x1 := x1) (x5 := x5) (x6 := x6) (x7 := x7) (x8 := x8) (x9 := x9) (x10 := x10)
  obtain ⟨R, hR, hk⟩ := K.shown
  have s0 : (fAsg 2 (fCallT d__law_orchard (fCons (fVar 0) (fCons (fC (.int 1)) (fCons (fC (.int 9)) fNil))))) [some (.io 0 (.lst c)), x1, x2, x3, x4, x5, x6, x7, x8, x9, x10, none, none] = .ok .nx [some (.io 0 (.lst c1)), x1, some (.fr (encO false o)), x3, x4, x5, x6, x7, x8, x9, x10, none, none] := by
    repeat' fail "x"
  have s1 : (fAsg 3 (fCallT d__law_liking (fCons (fVar 0) (fCons (fVar 2) fNil)))) [some (.io 0 (.lst c1)), x1, some (.fr (encO false o)), x3, x4, x5, x6, x7, x8, x9, x10, none, none] = .ok .nx [some (.io 0 (.lst c2)), x1, some (.fr (encO false o)), some (.fr (tupS lk)), x4, x5, x6, x7, x8, x9, x10, none, none] := by
    repeat' fail "x"
  have s2 : (fAsg 4 (fFz (fCallV d__law_pick (fCons (fVar 2) (fCons (fVar 3) fNil))))) [some (.io 0 (.lst c2)), x1, some (.fr (encO false o)), some (.fr (tupS lk)), x4, x5, x6, x7, x8, x9, x10, none, none] = .ok .nx [some (.io 0 (.lst c2)), x1, some (.fr (encO false o)), some (.fr (tupS lk)), some (.fr (lstS (pickR o lk))), x5, x6, x7, x8, x9, x10, none, none] := by
    repeat' fail "x"
  have s4 : (fPar [5, 6] (fCons (fTup (fCons (fVar 3) (fCons (fVar 4) fNil))) (fCons (fCB reprOp (fCons (fTup (fCons (fVar 3) (fCons (fVar 4) fNil))) fNil)) fNil))) [some (.io 0 (.lst c3)), x1, some (.fr (encO false o)), some (.fr (tupS lk)), some (.fr (lstS r)), x5, x6, x7, x8, x9, x10, none, none] = .ok .nx [some (.io 0 (.lst c3)), x1, some (.fr (encO false o)), some (.fr (tupS lk)), some (.fr (lstS r)), some (.fr (encN (lk, r))), some (.fr (.str R)), x7, x8, x9, x10, none, none] := by
    have v1 : reprOp [.tuple [tupS lk, lstS r]] = some (.fr (.str R)) := hR
    show _ = Res.ok Fl.nx [some (.io 0 (.lst c3)), x1, some (.fr (encO false o)), some (.fr (tupS lk)), some (.fr (lstS r)), some (.fr (.tuple [tupS lk, lstS r])), some (.fr (.str R)), x7, x8, x9, x10, none, none]
    repeat' fail "x"
  obtain ⟨y7, y8, y9, e5⟩ := plums (c := c3) (R := R) K (x1 := x1) (x2 := some (.fr (encO false o))) (x10 := x10) lk x7 x8 x9 (fun f hf => hf)
  obtain ⟨s, hs, ho, e6⟩ := strange_step (c := c3) (R := R) K (x1 := x1) (x2 := some (.fr (encO false o))) (x7 := y7) (x8 := y8) (x9 := y9) (x10 := x10)
  have e7 := end_step (c := c3) K hs ho hR hk (x1 := x1) (x2 := some (.fr (encO false o))) (x7 := y7) (x8 := y8) (x9 := y9)
  refine ⟨c3, _, _, _, _, _, y7, y8, y9, _, x_seq s0 (x_seq s1 (x_seq s2 (x_seq e3 (x_seq s4 (x_seq (x_for ?_ e5) (x_seq e6 e7)))))), h3.mono (by omega)⟩
  exact iter_seq (i := 3) (.inr rfl) rfl
theorem turns : ∀ (m i : Nat) (T : Int) (c : List PyData) (x1 x2 x3 x4 x5 x6 x7 x8 x9 x10 : Option Sl), IsTape T c → T + 240 * m < 7700 → ∃ (c' : List PyData) (y1 y2 y3 y4 y5 y6 y7 y8 y9 y10 : Option Sl), fLoop (gNm 1) (fSeq (fAsg 2 (fCallT d__law_orchard (fCons (fVar 0) (fCons (fC (.int 1)) (fCons (fC (.int 9)) fNil))))) (fSeq (fAsg 3 (fCallT d__law_liking (fCons (fVar 0) (fCons (fVar 2) fNil)))) (fSeq (fAsg 4 (fFz (fCallV d__law_pick (fCons (fVar 2) (fCons (fVar 3) fNil))))) (fSeq (fIfS (fTest (fOp (eqOp false) (fCallT d__law_draw (fCons (fVar 0) (fCons (fC (.int 4)) fNil))) (fC (.int 0)))) (fAsg 4 (fFz (fCallT d__law_part (fCons (fVar 0) (fCons (fVar 3) (fCons (fCallT d__law_draw (fCons (fVar 0) (fCons (fOp addOp (fCB lenOp (fCons (fVar 3) fNil)) (fC (.int 1))) fNil))) fNil)))))) fNext) (fSeq (fPar [5, 6] (fCons (fTup (fCons (fVar 3) (fCons (fVar 4) fNil))) (fCons (fCB reprOp (fCons (fTup (fCons (fVar 3) (fCons (fVar 4) fNil))) fNil)) fNil))) (fSeq (fFor (fIterS (fVar 3)) (gNm 7) (fSeq (fAsg 8 (fCallV d__law_known (fCons (fVar 5) (fCons (fVar 7) fNil)))) (fSeq (fAsg 9 (fFz (fLst (fCons (fCallV d_known (fCons (fVar 5) (fCons (fVar 7) fNil))) (fCons (fCallV (denK [1, 0] d_known) (fCons (fVar 7) (fCons (fLst (fCons (fFz (fCB listOp (fCons (fVar 3) fNil))) (fCons (fCB tupleOp (fCons (fVar 4) fNil)) fNil))) fNil))) fNil))))) (fIfS (fNot (fTest (fCallV (d__law_same 12) (fCons (fVar 9) (fCons (fLst (fCons (fVar 8) (fCons (fVar 8) fNil))) fNil))))) (fRet (fC (.bool false))) fNext)))) (fSeq (fAsg 10 (fOp ixOp (fLc [11] (fIterS (fTup (fCons (fC (.str "zzzzzzzz")) (fCons (fC (.str "yyyyyyyy")) fNil)))) (gNm 11) (fTest (fOp (inOp true) (fVar 11) (fVar 3))) (fVar 11)) (fC (.int 0)))) (fIfS (fOr (fTest (fOp (eqOp true) (fLc [12] (fIterS (fTup (fCons (fVar 10) (fCons (fC (.str "")) (fCons (fC (.str "A")) fNil))))) (gNm 12) (fun ρ => .ok true ρ) (fCallV d__law_refused (fCons (fVar 5) (fCons (fVar 12) fNil)))) (fLst (fCons (fVar 10) (fCons (fC (.str "")) (fCons (fC (.str "A")) fNil)))))) (fTest (fOp (eqOp true) (fCB reprOp (fCons (fVar 5) fNil)) (fVar 6)))) (fRet (fC (.bool false))) fNext)))))))) ((List.range' i m).map fun (k : Nat) => PyData.int (k : Int)) [some (.io 0 (.lst c)), x1, x2, x3, x4, x5, x6, x7, x8, x9, x10, none, none] = .ok .nx [some (.io 0 (.lst c')), y1, y2, y3, y4, y5, y6, y7, y8, y9, y10, none, none]
  | 0, i, T, c, x1, x2, x3, x4, x5, x6, x7, x8, x9, x10, _, _ => ⟨c, x1, x2, x3, x4, x5, x6, x7, x8, x9, x10, rfl⟩
  | m + 1, i, T, c, x1, x2, x3, x4, x5, x6, x7, x8, x9, x10, h, hT => by
    obtain ⟨c1, y2, y3, y4, y5, y6, y7, y8, y9, y10, e1, h1⟩ := turn h (by omega) (some (.fr (.int i))) x2 x3 x4 x5 x6 x7 x8 x9 x10
    obtain ⟨c2, z1, z2, z3, z4, z5, z6, z7, z8, z9, z10, e2⟩ := turns m (i + 1) (T + 240) c1 (some (.fr (.int i))) y2 y3 y4 y5 y6 y7 y8 y9 y10 h1 (by omega)
    refine ⟨c2, z1, z2, z3, z4, z5, z6, z7, z8, z9, z10, ?_⟩
    rw [List.range'_succ, List.map_cons]
    exact x_loop rfl e1 e2
theorem right_ok {T : Int} (h : IsTape T c) (hT : T + 1500 < 8000) : ∃ c', d__law_right (some (.lst c)) [] = .ok (.fr (.bool true)) (some (.lst c')) := by
  obtain ⟨c', y1, y2, y3, y4, y5, y6, y7, y8, y9, y10, e⟩ := turns 4 0 T c none none none none none none none none none none h (by omega)
  refine ⟨c', ?_⟩
  have e1 : (fFor (fRange1 (fCons (fC (.int 4)) fNil)) (gNm 1) (fSeq (fAsg 2 (fCallT d__law_orchard (fCons (fVar 0) (fCons (fC (.int 1)) (fCons (fC (.int 9)) fNil))))) (fSeq (fAsg 3 (fCallT d__law_liking (fCons (fVar 0) (fCons (fVar 2) fNil)))) (fSeq (fAsg 4 (fFz (fCallV d__law_pick (fCons (fVar 2) (fCons (fVar 3) fNil))))) (fSeq (fIfS (fTest (fOp (eqOp false) (fCallT d__law_draw (fCons (fVar 0) (fCons (fC (.int 4)) fNil))) (fC (.int 0)))) (fAsg 4 (fFz (fCallT d__law_part (fCons (fVar 0) (fCons (fVar 3) (fCons (fCallT d__law_draw (fCons (fVar 0) (fCons (fOp addOp (fCB lenOp (fCons (fVar 3) fNil)) (fC (.int 1))) fNil))) fNil)))))) fNext) (fSeq (fPar [5, 6] (fCons (fTup (fCons (fVar 3) (fCons (fVar 4) fNil))) (fCons (fCB reprOp (fCons (fTup (fCons (fVar 3) (fCons (fVar 4) fNil))) fNil)) fNil))) (fSeq (fFor (fIterS (fVar 3)) (gNm 7) (fSeq (fAsg 8 (fCallV d__law_known (fCons (fVar 5) (fCons (fVar 7) fNil)))) (fSeq (fAsg 9 (fFz (fLst (fCons (fCallV d_known (fCons (fVar 5) (fCons (fVar 7) fNil))) (fCons (fCallV (denK [1, 0] d_known) (fCons (fVar 7) (fCons (fLst (fCons (fFz (fCB listOp (fCons (fVar 3) fNil))) (fCons (fCB tupleOp (fCons (fVar 4) fNil)) fNil))) fNil))) fNil))))) (fIfS (fNot (fTest (fCallV (d__law_same 12) (fCons (fVar 9) (fCons (fLst (fCons (fVar 8) (fCons (fVar 8) fNil))) fNil))))) (fRet (fC (.bool false))) fNext)))) (fSeq (fAsg 10 (fOp ixOp (fLc [11] (fIterS (fTup (fCons (fC (.str "zzzzzzzz")) (fCons (fC (.str "yyyyyyyy")) fNil)))) (gNm 11) (fTest (fOp (inOp true) (fVar 11) (fVar 3))) (fVar 11)) (fC (.int 0)))) (fIfS (fOr (fTest (fOp (eqOp true) (fLc [12] (fIterS (fTup (fCons (fVar 10) (fCons (fC (.str "")) (fCons (fC (.str "A")) fNil))))) (gNm 12) (fun ρ => .ok true ρ) (fCallV d__law_refused (fCons (fVar 5) (fCons (fVar 12) fNil)))) (fLst (fCons (fVar 10) (fCons (fC (.str "")) (fCons (fC (.str "A")) fNil)))))) (fTest (fOp (eqOp true) (fCB reprOp (fCons (fVar 5) fNil)) (fVar 6)))) (fRet (fC (.bool false))) fNext))))))))) [some (.io 0 (.lst c)), none, none, none, none, none, none, none, none, none, none, none, none] = .ok .nx [some (.io 0 (.lst c')), y1, y2, y3, y4, y5, y6, y7, y8, y9, y10, none, none] := x_for rfl e
  exact x_fin (x_seq e1 rfl) rfl rfl

end TX

namespace TX
open PySem PySem.Spec PyProof.Rows L2 RZ DL
theorem law_loop (ms : List Int) (h3 : ms.length ≤ 3) : ∀ (m i : Nat) (x2 : Option Sl), i + m ≤ 10 → ∃ y2, fLoop (gNm 2) (fIfS (fNot (fTest (fCallO d__law_right (fCons (fCallV d__law_tape (fCons (fVar 1) (fCons (fVar 2) fNil))) fNil)))) (fRet (fC (.bool false))) fNext) ((List.range' i m).map fun (k : Nat) => PyData.int (k : Int)) [none, some (.ow (.lst (ms.map PyData.int))), x2] = .ok .nx [none, some (.ow (.lst (ms.map PyData.int))), y2]
  | 0, i, x2, _ => ⟨x2, rfl⟩
  | m + 1, i, x2, hi => by
    obtain ⟨c, e1, ht⟩ := tape_ok ms i (by omega) (by omega)
    obtain ⟨c', e2⟩ := right_ok ht (by decide)
    have hn : noLsts c = true := by
      obtain ⟨x, y, t, rfl, _⟩ := ht
      rfl
    obtain ⟨y2, e3⟩ := law_loop ms h3 m (i + 1) (some (.fr (.int i))) (by omega)
    refine ⟨y2, ?_⟩
    rw [List.range'_succ, List.map_cons, fLoop]
    have eg : gNm 2 (.int (i : Int)) [none, some (.ow (.lst (ms.map PyData.int))), x2] = some [none, some (.ow (.lst (ms.map PyData.int))), some (.fr (.int i))] := rfl
    have et : fNot (fTest (fCallO d__law_right (fCons (fCallV d__law_tape (fCons (fVar 1) (fCons (fVar 2) fNil))) fNil))) [none, some (.ow (.lst (ms.map PyData.int))), some (.fr (.int i))] = .ok false [none, some (.ow (.lst (ms.map PyData.int))), some (.fr (.int i))] := by
      simp [fNot, fTest, fCallO, fCallV, fCons, fVar, fNil, Res.bind, callV, callO, rds, rd, rd0, Sl.own, Cn.rd, e1, e2, allFr, isFr, noLstS, hn, asB]
    rw [eg]
    simp only []
    rw [fIfS, et]
    exact e3
theorem law_math : ∀ ms : List Int, ms.length ≤ 3 → ∃ ρ1, g_law (ini1 3 (ms.map PyData.int)) = .ok (.rt (.fr (.bool true))) ρ1 := by
  intro ms h3
  have hlen : lenOp [.list (ms.map PyData.int)] = some (.fr (.int ms.length)) := by
    simp [lenOp]
  obtain ⟨m, hm, hm2⟩ : ∃ m : Nat, max2Op [.int 1, .int ms.length] = some (.fr (.int m)) ∧ m ≤ 3 := by
    match ms, h3 with
    | [], _ => exact ⟨1, rfl, by decide⟩
    | [_], _ => exact ⟨1, rfl, by decide⟩
    | [_, _], _ => exact ⟨2, rfl, by decide⟩
    | [_, _, _], _ => exact ⟨3, rfl, by decide⟩
  have e0 : ini1 3 (ms.map PyData.int) = [none, some (.ow (.lst (ms.map PyData.int))), none] := rfl
  have er : fRange1 (fCons (fCB max2Op (fCons (fC (.int 1)) (fCons (fCB lenOp (fCons (fVar 1) fNil)) fNil))) fNil) [none, some (.ow (.lst (ms.map PyData.int))), none] = .ok ((List.range' 0 m).map fun (k : Nat) => PyData.int (k : Int)) [none, some (.ow (.lst (ms.map PyData.int))), none] := by
    have hb : (m : Int) ≤ 1000000 := by omega
    simp only [fRange1, fCons, fCB, fC, fVar, fNil, Res.bind, List.getElem?_cons_succ, List.getElem?_cons_zero, rds, rd, rd0, Sl.own, Option.map, Cn.rd, hlen, ofOpt, hm, rng_nat, Int.toNat_natCast, List.range_eq_range']
    rw [if_pos ⟨hb, by omega⟩]
  obtain ⟨y2, e1⟩ := law_loop ms h3 m 0 none (by omega)
  refine ⟨[none, some (.ow (.lst (ms.map PyData.int))), y2], ?_⟩
  rw [e0, g_law, fSeq, fFor, er]
  simp only [Res.bind]
  rw [e1]
  rfl
end TX

namespace TX
open PySem PySem.Spec PyProof.Rows L2 RZ DL
theorem oxl_mk {K : PySem.W.Frag} {C : Addr} {bmB : List Value} {newId : String} {nm q : Str} {N : Addr} {bs bm : List Value} {sn : List Str} {sub : List Value} {ab : Bool} {col : Option Bool} {dd : Option Addr} {k0 k1 k2 k3 k5 : Option Value}
    (lk : K.lookup C = some (excClassObj nm q C N bs bm true sn sub ab col dd k0 k1 k2 k3 k5 newId)) (tl : PySem.W.excTail bmB bm = true) (sa : PySem.W.findIn K (.ref C) "__setattr__" = some (some (.builtin "object.__setattr__"))) (ex : PySem.W.subIn K (.ref C) (.type "BaseException") = some true)
    (ty : PySem.W.typeIn K (.ref C) = some (.type "type")) (kc : PySem.W.keepIn K (.ref C) = true) (wh : PySem.W.findIn K (.ref C) "what" = some none) : OxL K C bmB newId := ⟨⟨nm, q, N, bs, bm, sn, sub, ab, col, dd, k0, k1, k2, k3, k5, lk, tl⟩, sa, ex, ty, kc, wh⟩
theorem all_mk {l : PySem.W.OpenLaw} {w : World} {K : PySem.W.Frag} {h : Heap} {mg : Str → Option Value} {fa : Addr} (X : K.In h) (G : h.Ns mainGlobals mg) (hfa : mg "law" = some (.ref fa))
    {f__law_in : Addr} {od__law_in an__law_in : Option Addr} {sl__law_in : Array (Option Value)} {oc__law_in kV__law_in dc__law_in pm__law_in cd__law_in ct__law_in : Value}
    (a__law_in : PySem.W.nsIn K mainGlobals "_law_in" = some (some (.ref f__law_in))) (l__law_in : K.lookup f__law_in = some ⟨oc__law_in, od__law_in, .func (PySem.W.fnOf "_law_in" "_law_in" (defArgs s__law_in) (defBody s__law_in) (defScope s__law_in) .none kV__law_in dc__law_in pm__law_in an__law_in cd__law_in ct__law_in), sl__law_in⟩) (c__law_in : PySem.W.codeIn K cd__law_in "_law_in" = true) (k__law_in : PySem.W.keepIn K (.ref f__law_in) = true)
    {f__law_least : Addr} {od__law_least an__law_least : Option Addr} {sl__law_least : Array (Option Value)} {oc__law_least kV__law_least dc__law_least pm__law_least cd__law_least ct__law_least : Value}
    (a__law_least : PySem.W.nsIn K mainGlobals "_law_least" = some (some (.ref f__law_least))) (l__law_least : K.lookup f__law_least = some ⟨oc__law_least, od__law_least, .func (PySem.W.fnOf "_law_least" "_law_least" (defArgs s__law_least) (defBody s__law_least) (defScope s__law_least) .none kV__law_least dc__law_least pm__law_least an__law_least cd__law_least ct__law_least), sl__law_least⟩) (c__law_least : PySem.W.codeIn K cd__law_least "_law_least" = true) (k__law_least : PySem.W.keepIn K (.ref f__law_least) = true)
    {f__law_made : Addr} {od__law_made an__law_made : Option Addr} {sl__law_made : Array (Option Value)} {oc__law_made kV__law_made dc__law_made pm__law_made cd__law_made ct__law_made : Value}
    (a__law_made : PySem.W.nsIn K mainGlobals "_law_made" = some (some (.ref f__law_made))) (l__law_made : K.lookup f__law_made = some ⟨oc__law_made, od__law_made, .func (PySem.W.fnOf "_law_made" "_law_made" (defArgs s__law_made) (defBody s__law_made) (defScope s__law_made) .none kV__law_made dc__law_made pm__law_made an__law_made cd__law_made ct__law_made), sl__law_made⟩) (c__law_made : PySem.W.codeIn K cd__law_made "_law_made" = true) (k__law_made : PySem.W.keepIn K (.ref f__law_made) = true)
    {f__law_draw : Addr} {od__law_draw an__law_draw : Option Addr} {sl__law_draw : Array (Option Value)} {oc__law_draw kV__law_draw dc__law_draw pm__law_draw cd__law_draw ct__law_draw : Value}
    (a__law_draw : PySem.W.nsIn K mainGlobals "_law_draw" = some (some (.ref f__law_draw))) (l__law_draw : K.lookup f__law_draw = some ⟨oc__law_draw, od__law_draw, .func (PySem.W.fnOf "_law_draw" "_law_draw" (defArgs s__law_draw) (defBody s__law_draw) (defScope s__law_draw) .none kV__law_draw dc__law_draw pm__law_draw an__law_draw cd__law_draw ct__law_draw), sl__law_draw⟩) (c__law_draw : PySem.W.codeIn K cd__law_draw "_law_draw" = true) (k__law_draw : PySem.W.keepIn K (.ref f__law_draw) = true)
    {f__law_part : Addr} {od__law_part an__law_part : Option Addr} {sl__law_part : Array (Option Value)} {oc__law_part kV__law_part dc__law_part pm__law_part cd__law_part ct__law_part : Value}
    (a__law_part : PySem.W.nsIn K mainGlobals "_law_part" = some (some (.ref f__law_part))) (l__law_part : K.lookup f__law_part = some ⟨oc__law_part, od__law_part, .func (PySem.W.fnOf "_law_part" "_law_part" (defArgs s__law_part) (defBody s__law_part) (defScope s__law_part) .none kV__law_part dc__law_part pm__law_part an__law_part cd__law_part ct__law_part), sl__law_part⟩) (c__law_part : PySem.W.codeIn K cd__law_part "_law_part" = true) (k__law_part : PySem.W.keepIn K (.ref f__law_part) = true)
    {f__law_pairs : Addr} {od__law_pairs an__law_pairs : Option Addr} {sl__law_pairs : Array (Option Value)} {oc__law_pairs kV__law_pairs dc__law_pairs pm__law_pairs cd__law_pairs ct__law_pairs : Value}
    (a__law_pairs : PySem.W.nsIn K mainGlobals "_law_pairs" = some (some (.ref f__law_pairs))) (l__law_pairs : K.lookup f__law_pairs = some ⟨oc__law_pairs, od__law_pairs, .func (PySem.W.fnOf "_law_pairs" "_law_pairs" (defArgs s__law_pairs) (defBody s__law_pairs) (defScope s__law_pairs) .none kV__law_pairs dc__law_pairs pm__law_pairs an__law_pairs cd__law_pairs ct__law_pairs), sl__law_pairs⟩) (c__law_pairs : PySem.W.codeIn K cd__law_pairs "_law_pairs" = true) (k__law_pairs : PySem.W.keepIn K (.ref f__law_pairs) = true)
    {f__law_names : Addr} {od__law_names an__law_names : Option Addr} {sl__law_names : Array (Option Value)} {oc__law_names kV__law_names dc__law_names pm__law_names cd__law_names ct__law_names : Value}
    (a__law_names : PySem.W.nsIn K mainGlobals "_law_names" = some (some (.ref f__law_names))) (l__law_names : K.lookup f__law_names = some ⟨oc__law_names, od__law_names, .func (PySem.W.fnOf "_law_names" "_law_names" (defArgs s__law_names) (defBody s__law_names) (defScope s__law_names) .none kV__law_names dc__law_names pm__law_names an__law_names cd__law_names ct__law_names), sl__law_names⟩) (c__law_names : PySem.W.codeIn K cd__law_names "_law_names" = true) (k__law_names : PySem.W.keepIn K (.ref f__law_names) = true)
    {f__law_orchard : Addr} {od__law_orchard an__law_orchard : Option Addr} {sl__law_orchard : Array (Option Value)} {oc__law_orchard kV__law_orchard dc__law_orchard pm__law_orchard cd__law_orchard ct__law_orchard : Value}
    (a__law_orchard : PySem.W.nsIn K mainGlobals "_law_orchard" = some (some (.ref f__law_orchard))) (l__law_orchard : K.lookup f__law_orchard = some ⟨oc__law_orchard, od__law_orchard, .func (PySem.W.fnOf "_law_orchard" "_law_orchard" (defArgs s__law_orchard) (defBody s__law_orchard) (defScope s__law_orchard) .none kV__law_orchard dc__law_orchard pm__law_orchard an__law_orchard cd__law_orchard ct__law_orchard), sl__law_orchard⟩) (c__law_orchard : PySem.W.codeIn K cd__law_orchard "_law_orchard" = true) (k__law_orchard : PySem.W.keepIn K (.ref f__law_orchard) = true)
    {f__law_liking : Addr} {od__law_liking an__law_liking : Option Addr} {sl__law_liking : Array (Option Value)} {oc__law_liking kV__law_liking dc__law_liking pm__law_liking cd__law_liking ct__law_liking : Value}
    (a__law_liking : PySem.W.nsIn K mainGlobals "_law_liking" = some (some (.ref f__law_liking))) (l__law_liking : K.lookup f__law_liking = some ⟨oc__law_liking, od__law_liking, .func (PySem.W.fnOf "_law_liking" "_law_liking" (defArgs s__law_liking) (defBody s__law_liking) (defScope s__law_liking) .none kV__law_liking dc__law_liking pm__law_liking an__law_liking cd__law_liking ct__law_liking), sl__law_liking⟩) (c__law_liking : PySem.W.codeIn K cd__law_liking "_law_liking" = true) (k__law_liking : PySem.W.keepIn K (.ref f__law_liking) = true)
    {f__law_ripe : Addr} {od__law_ripe an__law_ripe : Option Addr} {sl__law_ripe : Array (Option Value)} {oc__law_ripe kV__law_ripe dc__law_ripe pm__law_ripe cd__law_ripe ct__law_ripe : Value}
    (a__law_ripe : PySem.W.nsIn K mainGlobals "_law_ripe" = some (some (.ref f__law_ripe))) (l__law_ripe : K.lookup f__law_ripe = some ⟨oc__law_ripe, od__law_ripe, .func (PySem.W.fnOf "_law_ripe" "_law_ripe" (defArgs s__law_ripe) (defBody s__law_ripe) (defScope s__law_ripe) .none kV__law_ripe dc__law_ripe pm__law_ripe an__law_ripe cd__law_ripe ct__law_ripe), sl__law_ripe⟩) (c__law_ripe : PySem.W.codeIn K cd__law_ripe "_law_ripe" = true) (k__law_ripe : PySem.W.keepIn K (.ref f__law_ripe) = true)
    {f__law_pick : Addr} {od__law_pick an__law_pick : Option Addr} {sl__law_pick : Array (Option Value)} {oc__law_pick kV__law_pick dc__law_pick pm__law_pick cd__law_pick ct__law_pick : Value}
    (a__law_pick : PySem.W.nsIn K mainGlobals "_law_pick" = some (some (.ref f__law_pick))) (l__law_pick : K.lookup f__law_pick = some ⟨oc__law_pick, od__law_pick, .func (PySem.W.fnOf "_law_pick" "_law_pick" (defArgs s__law_pick) (defBody s__law_pick) (defScope s__law_pick) .none kV__law_pick dc__law_pick pm__law_pick an__law_pick cd__law_pick ct__law_pick), sl__law_pick⟩) (c__law_pick : PySem.W.codeIn K cd__law_pick "_law_pick" = true) (k__law_pick : PySem.W.keepIn K (.ref f__law_pick) = true)
    {f__law_known : Addr} {od__law_known an__law_known : Option Addr} {sl__law_known : Array (Option Value)} {oc__law_known kV__law_known dc__law_known pm__law_known cd__law_known ct__law_known : Value}
    (a__law_known : PySem.W.nsIn K mainGlobals "_law_known" = some (some (.ref f__law_known))) (l__law_known : K.lookup f__law_known = some ⟨oc__law_known, od__law_known, .func (PySem.W.fnOf "_law_known" "_law_known" (defArgs s__law_known) (defBody s__law_known) (defScope s__law_known) .none kV__law_known dc__law_known pm__law_known an__law_known cd__law_known ct__law_known), sl__law_known⟩) (c__law_known : PySem.W.codeIn K cd__law_known "_law_known" = true) (k__law_known : PySem.W.keepIn K (.ref f__law_known) = true)
    {f_lot_of : Addr} {od_lot_of an_lot_of : Option Addr} {sl_lot_of : Array (Option Value)} {oc_lot_of kV_lot_of dc_lot_of pm_lot_of cd_lot_of ct_lot_of : Value}
    (a_lot_of : PySem.W.nsIn K mainGlobals "lot_of" = some (some (.ref f_lot_of))) (l_lot_of : K.lookup f_lot_of = some ⟨oc_lot_of, od_lot_of, .func (PySem.W.fnOf "lot_of" "lot_of" (defArgs s_lot_of) (defBody s_lot_of) (defScope s_lot_of) .none kV_lot_of dc_lot_of pm_lot_of an_lot_of cd_lot_of ct_lot_of), sl_lot_of⟩) (c_lot_of : PySem.W.codeIn K cd_lot_of "lot_of" = true) (k_lot_of : PySem.W.keepIn K (.ref f_lot_of) = true)
    {f_known : Addr} {od_known an_known : Option Addr} {sl_known : Array (Option Value)} {oc_known kV_known dc_known pm_known cd_known ct_known : Value}
    (a_known : PySem.W.nsIn K mainGlobals "known" = some (some (.ref f_known))) (l_known : K.lookup f_known = some ⟨oc_known, od_known, .func (PySem.W.fnOf "known" "known" (defArgs s_known) (defBody s_known) (defScope s_known) .none kV_known dc_known pm_known an_known cd_known ct_known), sl_known⟩) (c_known : PySem.W.codeIn K cd_known "known" = true) (k_known : PySem.W.keepIn K (.ref f_known) = true)
    {f__law_same : Addr} {od__law_same an__law_same : Option Addr} {sl__law_same : Array (Option Value)} {oc__law_same kV__law_same dc__law_same pm__law_same cd__law_same ct__law_same : Value}
    (a__law_same : PySem.W.nsIn K mainGlobals "_law_same" = some (some (.ref f__law_same))) (l__law_same : K.lookup f__law_same = some ⟨oc__law_same, od__law_same, .func (PySem.W.fnOf "_law_same" "_law_same" (defArgs s__law_same) (defBody s__law_same) (defScope s__law_same) .none kV__law_same dc__law_same pm__law_same an__law_same cd__law_same ct__law_same), sl__law_same⟩) (c__law_same : PySem.W.codeIn K cd__law_same "_law_same" = true) (k__law_same : PySem.W.keepIn K (.ref f__law_same) = true)
    {f__law_refused : Addr} {od__law_refused an__law_refused : Option Addr} {sl__law_refused : Array (Option Value)} {oc__law_refused kV__law_refused dc__law_refused pm__law_refused cd__law_refused ct__law_refused : Value}
    (a__law_refused : PySem.W.nsIn K mainGlobals "_law_refused" = some (some (.ref f__law_refused))) (l__law_refused : K.lookup f__law_refused = some ⟨oc__law_refused, od__law_refused, .func (PySem.W.fnOf "_law_refused" "_law_refused" (defArgs s__law_refused) (defBody s__law_refused) (defScope s__law_refused) .none kV__law_refused dc__law_refused pm__law_refused an__law_refused cd__law_refused ct__law_refused), sl__law_refused⟩) (c__law_refused : PySem.W.codeIn K cd__law_refused "_law_refused" = true) (k__law_refused : PySem.W.keepIn K (.ref f__law_refused) = true)
    {f__law_right : Addr} {od__law_right an__law_right : Option Addr} {sl__law_right : Array (Option Value)} {oc__law_right kV__law_right dc__law_right pm__law_right cd__law_right ct__law_right : Value}
    (a__law_right : PySem.W.nsIn K mainGlobals "_law_right" = some (some (.ref f__law_right))) (l__law_right : K.lookup f__law_right = some ⟨oc__law_right, od__law_right, .func (PySem.W.fnOf "_law_right" "_law_right" (defArgs s__law_right) (defBody s__law_right) (defScope s__law_right) .none kV__law_right dc__law_right pm__law_right an__law_right cd__law_right ct__law_right), sl__law_right⟩) (c__law_right : PySem.W.codeIn K cd__law_right "_law_right" = true) (k__law_right : PySem.W.keepIn K (.ref f__law_right) = true)
    {f__law_tape : Addr} {od__law_tape an__law_tape : Option Addr} {sl__law_tape : Array (Option Value)} {oc__law_tape kV__law_tape dc__law_tape pm__law_tape cd__law_tape ct__law_tape : Value}
    (a__law_tape : PySem.W.nsIn K mainGlobals "_law_tape" = some (some (.ref f__law_tape))) (l__law_tape : K.lookup f__law_tape = some ⟨oc__law_tape, od__law_tape, .func (PySem.W.fnOf "_law_tape" "_law_tape" (defArgs s__law_tape) (defBody s__law_tape) (defScope s__law_tape) .none kV__law_tape dc__law_tape pm__law_tape an__law_tape cd__law_tape ct__law_tape), sl__law_tape⟩) (c__law_tape : PySem.W.codeIn K cd__law_tape "_law_tape" = true) (k__law_tape : PySem.W.keepIn K (.ref f__law_tape) = true)
    {f__law_folded : Addr} {od__law_folded an__law_folded : Option Addr} {sl__law_folded : Array (Option Value)} {oc__law_folded kV__law_folded dc__law_folded pm__law_folded cd__law_folded ct__law_folded : Value}
    (a__law_folded : PySem.W.nsIn K mainGlobals "_law_folded" = some (some (.ref f__law_folded))) (l__law_folded : K.lookup f__law_folded = some ⟨oc__law_folded, od__law_folded, .func (PySem.W.fnOf "_law_folded" "_law_folded" (defArgs s__law_folded) (defBody s__law_folded) (defScope s__law_folded) .none kV__law_folded dc__law_folded pm__law_folded an__law_folded cd__law_folded ct__law_folded), sl__law_folded⟩) (c__law_folded : PySem.W.codeIn K cd__law_folded "_law_folded" = true) (k__law_folded : PySem.W.keepIn K (.ref f__law_folded) = true)
    {f_law : Addr} {od_law an_law : Option Addr} {sl_law : Array (Option Value)} {oc_law kV_law dc_law pm_law cd_law ct_law : Value}
    (a_law : PySem.W.nsIn K mainGlobals "law" = some (some (.ref f_law))) (l_law : K.lookup f_law = some ⟨oc_law, od_law, .func (PySem.W.fnOf "law" "law" (defArgs s_law) (defBody s_law) (defScope s_law) .none kV_law dc_law pm_law an_law cd_law ct_law), sl_law⟩) (c_law : PySem.W.codeIn K cd_law "law" = true) (k_law : PySem.W.keepIn K (.ref f_law) = true)
    {C_Clash : Addr} (a_Clash : PySem.W.nsIn K mainGlobals "Clash" = some (some (.ref C_Clash)))
    {C_NoFruit : Addr} (a_NoFruit : PySem.W.nsIn K mainGlobals "NoFruit" = some (some (.ref C_NoFruit)))
    {C_NoPicking : Addr} (a_NoPicking : PySem.W.nsIn K mainGlobals "NoPicking" = some (some (.ref C_NoPicking)))
    (v_LookupError : PySem.W.findCls K (.type "LookupError") (.type "type") "__init__" = some (.val (.builtin "LookupError.__init__")))
    (T_NoFruit : OxL K C_NoFruit bmLE "LookupError.__new__")
    {f_NoFruit_init : Addr} {od_NoFruit_init an_NoFruit_init : Option Addr} {sl_NoFruit_init : Array (Option Value)} {oc_NoFruit_init kV_NoFruit_init dc_NoFruit_init pm_NoFruit_init cd_NoFruit_init ct_NoFruit_init : Value}
    (a_NoFruit_init : PySem.W.findIn K (.ref C_NoFruit) "__init__" = some (some (.ref f_NoFruit_init))) (l_NoFruit_init : K.lookup f_NoFruit_init = some ⟨oc_NoFruit_init, od_NoFruit_init, .func (PySem.W.fnOf "__init__" "NoFruit.__init__" (defArgs s_NoFruit_init) (defBody s_NoFruit_init) (defScope s_NoFruit_init) .none kV_NoFruit_init dc_NoFruit_init pm_NoFruit_init an_NoFruit_init cd_NoFruit_init ct_NoFruit_init), sl_NoFruit_init⟩) (c_NoFruit_init : PySem.W.codeIn K cd_NoFruit_init "NoFruit.__init__" = true) (k_NoFruit_init : PySem.W.keepIn K (.ref f_NoFruit_init) = true) (t_NoFruit_init : PySem.W.typeIn K (.ref f_NoFruit_init) = some (.type "function"))
    (q_NoFruit : ExcQ K C_NoFruit)
    (k_NoFruit_Clash_NoPicking : PySem.W.kitAny K (.ref C_NoFruit) [.ref C_Clash, .ref C_NoPicking] = some false)
    (k_NoFruit_LookupError : PySem.W.kitOne K (.ref C_NoFruit) (.type "LookupError") = some true)
    (k_NoFruit_NoFruit : PySem.W.kitOne K (.ref C_NoFruit) (.ref C_NoFruit) = some true)
    (x_NoFruit : PySem.W.exmAny K (.ref C_NoFruit) [.ref C_Clash, .ref C_NoFruit, .ref C_NoPicking] = some true)
    (z_LookupError : PySem.W.nsIn K mainGlobals "LookupError" = some none)
    (z_abs : PySem.W.nsIn K mainGlobals "abs" = some none)
    (z_all : PySem.W.nsIn K mainGlobals "all" = some none)
    (z_any : PySem.W.nsIn K mainGlobals "any" = some none)
    (z_bool : PySem.W.nsIn K mainGlobals "bool" = some none)
    (z_enumerate : PySem.W.nsIn K mainGlobals "enumerate" = some none)
    (z_int : PySem.W.nsIn K mainGlobals "int" = some none)
    (z_isinstance : PySem.W.nsIn K mainGlobals "isinstance" = some none)
    (z_len : PySem.W.nsIn K mainGlobals "len" = some none)
    (z_list : PySem.W.nsIn K mainGlobals "list" = some none)
    (z_max : PySem.W.nsIn K mainGlobals "max" = some none)
    (z_min : PySem.W.nsIn K mainGlobals "min" = some none)
    (z_range : PySem.W.nsIn K mainGlobals "range" = some none)
    (z_repr : PySem.W.nsIn K mainGlobals "repr" = some none)
    (z_set : PySem.W.nsIn K mainGlobals "set" = some none)
    (z_sorted : PySem.W.nsIn K mainGlobals "sorted" = some none)
    (z_str : PySem.W.nsIn K mainGlobals "str" = some none)
    (z_tuple : PySem.W.nsIn K mainGlobals "tuple" = some none)
    (z_zip : PySem.W.nsIn K mainGlobals "zip" = some none) :
    ∃ fd : FuncData, (∀ (s : Shared) (v : Value), BindsTo s fd ⟨[v], []⟩ [("_law_script", v)]) ∧ ∀ base : Heap, K.In base → base.Ns mainGlobals mg → FnG l.prog w K mg base (L2.CX l.prog w) 15 fa fd ["_law_script"] (spLaw K) := by
  have m_LookupError := PySem.W.mg_none_of X G z_LookupError
  have m_abs := PySem.W.mg_none_of X G z_abs
  have m_all := PySem.W.mg_none_of X G z_all
  have m_any := PySem.W.mg_none_of X G z_any
  have m_bool := PySem.W.mg_none_of X G z_bool
  have m_enumerate := PySem.W.mg_none_of X G z_enumerate
  have m_int := PySem.W.mg_none_of X G z_int
  have m_isinstance := PySem.W.mg_none_of X G z_isinstance
  have m_len := PySem.W.mg_none_of X G z_len
  have m_list := PySem.W.mg_none_of X G z_list
  have m_max := PySem.W.mg_none_of X G z_max
  have m_min := PySem.W.mg_none_of X G z_min
  have m_range := PySem.W.mg_none_of X G z_range
  have m_repr := PySem.W.mg_none_of X G z_repr
  have m_set := PySem.W.mg_none_of X G z_set
  have m_sorted := PySem.W.mg_none_of X G z_sorted
  have m_str := PySem.W.mg_none_of X G z_str
  have m_tuple := PySem.W.mg_none_of X G z_tuple
  have m_zip := PySem.W.mg_none_of X G z_zip
  have F__law_in := fun_mk (st := s__law_in) l__law_in c__law_in k__law_in
  have b__law_in := F__law_in.binds (ps := ["_law_one", "_law_other"]) fun _ _ _ _ _ _ us hl => match us, hl with | [_, _], _ => rfl
  have F__law_least := fun_mk (st := s__law_least) l__law_least c__law_least k__law_least
  have b__law_least := F__law_least.binds (ps := ["_law_lots"]) fun _ _ _ _ _ _ us hl => match us, hl with | [_], _ => rfl
  have F__law_made := fun_mk (st := s__law_made) l__law_made c__law_made k__law_made
  have b__law_made := F__law_made.binds (ps := ["_law_pairs_here"]) fun _ _ _ _ _ _ us hl => match us, hl with | [_], _ => rfl
  have F__law_draw := fun_mk (st := s__law_draw) l__law_draw c__law_draw k__law_draw
  have b__law_draw := F__law_draw.binds (ps := ["_law_tape_here", "_law_many"]) fun _ _ _ _ _ _ us hl => match us, hl with | [_, _], _ => rfl
  have F__law_part := fun_mk (st := s__law_part) l__law_part c__law_part k__law_part
  have b__law_part := F__law_part.binds (ps := ["_law_tape_here", "_law_some", "_law_many"]) fun _ _ _ _ _ _ us hl => match us, hl with | [_, _, _], _ => rfl
  have F__law_pairs := fun_mk (st := s__law_pairs) l__law_pairs c__law_pairs k__law_pairs
  have b__law_pairs := F__law_pairs.binds (ps := ["_law_tape_here", "_law_names_here"]) fun _ _ _ _ _ _ us hl => match us, hl with | [_, _], _ => rfl
  have F__law_names := fun_mk (st := s__law_names) l__law_names c__law_names k__law_names
  have b__law_names := F__law_names.binds (ps := ["_law_tape_here", "_law_many"]) fun _ _ _ _ _ _ us hl => match us, hl with | [_, _], _ => rfl
  have F__law_orchard := fun_mk (st := s__law_orchard) l__law_orchard c__law_orchard k__law_orchard
  have b__law_orchard := F__law_orchard.binds (ps := ["_law_tape_here", "_law_few", "_law_most"]) fun _ _ _ _ _ _ us hl => match us, hl with | [_, _, _], _ => rfl
  have F__law_liking := fun_mk (st := s__law_liking) l__law_liking c__law_liking k__law_liking
  have b__law_liking := F__law_liking.binds (ps := ["_law_tape_here", "_law_orchard_here"]) fun _ _ _ _ _ _ us hl => match us, hl with | [_, _], _ => rfl
  have F__law_ripe := fun_mk (st := s__law_ripe) l__law_ripe c__law_ripe k__law_ripe
  have b__law_ripe := F__law_ripe.binds (ps := ["_law_orchard_here", "_law_gone"]) fun _ _ _ _ _ _ us hl => match us, hl with | [_, _], _ => rfl
  have F__law_pick := fun_mk (st := s__law_pick) l__law_pick c__law_pick k__law_pick
  have b__law_pick := F__law_pick.binds (ps := ["_law_orchard_here", "_law_liking_here"]) fun _ _ _ _ _ _ us hl => match us, hl with | [_, _], _ => rfl
  have F__law_known := fun_mk (st := s__law_known) l__law_known c__law_known k__law_known
  have b__law_known := F__law_known.binds (ps := ["_law_entry", "_law_plum"]) fun _ _ _ _ _ _ us hl => match us, hl with | [_, _], _ => rfl
  have F_lot_of := fun_mk (st := s_lot_of) l_lot_of c_lot_of k_lot_of
  have b_lot_of := F_lot_of.binds (ps := ["names"]) fun _ _ _ _ _ _ us hl => match us, hl with | [_], _ => rfl
  have F_known := fun_mk (st := s_known) l_known c_known k_known
  have b_known := F_known.binds (ps := ["picking", "fruit"]) fun _ _ _ _ _ _ us hl => match us, hl with | [_, _], _ => rfl
  have F__law_same := fun_mk (st := s__law_same) l__law_same c__law_same k__law_same
  have b__law_same := F__law_same.binds (ps := ["_law_found", "_law_due"]) fun _ _ _ _ _ _ us hl => match us, hl with | [_, _], _ => rfl
  have F__law_refused := fun_mk (st := s__law_refused) l__law_refused c__law_refused k__law_refused
  have b__law_refused := F__law_refused.binds (ps := ["_law_entry", "_law_plum"]) fun _ _ _ _ _ _ us hl => match us, hl with | [_, _], _ => rfl
  have F__law_right := fun_mk (st := s__law_right) l__law_right c__law_right k__law_right
  have b__law_right := F__law_right.binds (ps := ["_law_tape_here"]) fun _ _ _ _ _ _ us hl => match us, hl with | [_], _ => rfl
  have F__law_tape := fun_mk (st := s__law_tape) l__law_tape c__law_tape k__law_tape
  have b__law_tape := F__law_tape.binds (ps := ["_law_script", "_law_k"]) fun _ _ _ _ _ _ us hl => match us, hl with | [_, _], _ => rfl
  have F__law_folded := fun_mk (st := s__law_folded) l__law_folded c__law_folded k__law_folded
  have b__law_folded := F__law_folded.binds (ps := ["_law_script", "_law_many"]) fun _ _ _ _ _ _ us hl => match us, hl with | [_, _], _ => rfl
  have F_law := fun_mk (st := s_law) l_law c_law k_law
  have e := hfa.symm.trans (PySem.W.mg_of X G a_law)
  cases e
  refine ⟨PySem.W.fnOf "law" "law" (defArgs s_law) (defBody s_law) (defScope s_law) .none kV_law dc_law pm_law an_law cd_law ct_law, fun s v => .of_eq rfl, fun base _ _ => ?_⟩
  have g_Clash := PySem.W.mg_of X G a_Clash
  have g_NoFruit := PySem.W.mg_of X G a_NoFruit
  have g_NoPicking := PySem.W.mg_of X G a_NoPicking
  have F_NoFruit_init := fun_mk (st := s_NoFruit_init) l_NoFruit_init c_NoFruit_init k_NoFruit_init
  have b_NoFruit_init := F_NoFruit_init.binds (ps := ["self", "what"]) fun _ _ _ _ _ _ us hl => match us, hl with | [_, _], _ => rfl
  have R_NoFruit : RzC l.prog w K mg base "NoFruit" C_NoFruit 1 := ⟨g_NoFruit, _, _, _, _, _, _, PySem.F.excBase_LookupError, T_NoFruit, a_NoFruit_init, t_NoFruit_init, b_NoFruit_init, ok_NoFruit_init (P := l.prog) (w := w) (mg := mg) (base := base) (k := 0) F_NoFruit_init m_LookupError v_LookupError⟩
  have C__law_in := cal_mk F__law_in (PySem.W.mg_of X G a__law_in) b__law_in (ok__law_in (P := l.prog) (w := w) (mg := mg) (base := base) (k := 0) F__law_in m_all)
  have C__law_least := cal_mk F__law_least (PySem.W.mg_of X G a__law_least) b__law_least (ok__law_least (P := l.prog) (w := w) (mg := mg) (base := base) (k := 1) F__law_least C__law_in (by decide) m_tuple m_sorted m_any m_set)
  have C__law_made := cal_mk F__law_made (PySem.W.mg_of X G a__law_made) b__law_made (ok__law_made (P := l.prog) (w := w) (mg := mg) (base := base) (k := 2) F__law_made C__law_least (by decide) m_tuple m_sorted)
  have C__law_draw := cal_mk F__law_draw (PySem.W.mg_of X G a__law_draw) b__law_draw (ok__law_draw (P := l.prog) (w := w) (mg := mg) (base := base) (k := 0) F__law_draw)
  have C__law_part := cal_mk F__law_part (PySem.W.mg_of X G a__law_part) b__law_part (ok__law_part (P := l.prog) (w := w) (mg := mg) (base := base) (k := 1) F__law_part C__law_draw (by decide) m_list m_range m_min m_len)
  have C__law_pairs := cal_mk F__law_pairs (PySem.W.mg_of X G a__law_pairs) b__law_pairs (ok__law_pairs (P := l.prog) (w := w) (mg := mg) (base := base) (k := 2) F__law_pairs C__law_draw (by decide) C__law_part (by decide) m_enumerate m_range)
  have C__law_names := cal_mk F__law_names (PySem.W.mg_of X G a__law_names) b__law_names (ok__law_names (P := l.prog) (w := w) (mg := mg) (base := base) (k := 1) F__law_names C__law_draw (by decide) m_range m_len m_int)
  have C__law_orchard := cal_mk F__law_orchard (PySem.W.mg_of X G a__law_orchard) b__law_orchard (ok__law_orchard (P := l.prog) (w := w) (mg := mg) (base := base) (k := 3) F__law_orchard C__law_made (by decide) C__law_pairs (by decide) C__law_names (by decide) C__law_draw (by decide))
  have C__law_liking := cal_mk F__law_liking (PySem.W.mg_of X G a__law_liking) b__law_liking (ok__law_liking (P := l.prog) (w := w) (mg := mg) (base := base) (k := 2) F__law_liking C__law_part (by decide) m_tuple m_len)
  have C__law_ripe := cal_mk F__law_ripe (PySem.W.mg_of X G a__law_ripe) b__law_ripe (ok__law_ripe (P := l.prog) (w := w) (mg := mg) (base := base) (k := 1) F__law_ripe C__law_in (by decide) m_any)
  have C__law_pick := cal_mk F__law_pick (PySem.W.mg_of X G a__law_pick) b__law_pick (ok__law_pick (P := l.prog) (w := w) (mg := mg) (base := base) (k := 2) F__law_pick C__law_ripe (by decide))
  have C__law_known := cal_mk F__law_known (PySem.W.mg_of X G a__law_known) b__law_known (ok__law_known (P := l.prog) (w := w) (mg := mg) (base := base) (k := 0) F__law_known m_tuple m_sorted)
  have C_lot_of := cal_mk F_lot_of (PySem.W.mg_of X G a_lot_of) b_lot_of (ok_lot_of (P := l.prog) (w := w) (mg := mg) (base := base) (k := 0) F_lot_of m_tuple m_sorted)
  have C_known := cal_mk F_known (PySem.W.mg_of X G a_known) b_known (ok_known (P := l.prog) (w := w) (mg := mg) (base := base) (k := 2) F_known C_lot_of (by decide) m_list m_enumerate m_len R_NoFruit (by decide))
  have K_known_k0 := calK_mk F_known (PySem.W.mg_of X G a_known) (bindsK_of (ps := ["picking", "fruit"]) (ks := ["fruit", "picking"]) (is := [1, 0]) F_known fun _ _ _ _ _ _ ws hl => match ws, hl with | [_, _], _ => rfl) (ok_known (P := l.prog) (w := w) (mg := mg) (base := base) (k := 2) F_known C_lot_of (by decide) m_list m_enumerate m_len R_NoFruit (by decide))
  have D__law_same : ∀ n, Cal l.prog w K mg base "_law_same" ["_law_found", "_law_due"] (1 + n) (spD K mg 2 (d__law_same n)) := fun n => by
    induction n with
    | zero => exact cal_mk F__law_same (PySem.W.mg_of X G a__law_same) b__law_same (okG F__law_same (k := 0) sc__law_same (fun vs H Q E h => by obtain ⟨_, _, _, _, _, _, _, _, _, _, z⟩ := h; exact z.elim) fun cdv A outer s H vs Q E hr h => by obtain ⟨_, _, _, _, _, _, _, _, _, _, z⟩ := h; exact z.elim)
    | succ n ih => exact cal_mk F__law_same (PySem.W.mg_of X G a__law_same) b__law_same (ok__law_same (k := 1 + n) F__law_same m_isinstance m_list m_tuple m_len m_all m_zip m_str m_bool m_int ih)
  have C__law_same := D__law_same 12
  have C__law_refused := cal_mk F__law_refused (PySem.W.mg_of X G a__law_refused) b__law_refused (ok__law_refused (P := l.prog) (w := w) (mg := mg) (base := base) (k := 3) F__law_refused C_known (by decide) m_isinstance m_LookupError g_Clash g_NoFruit g_NoPicking q_NoFruit x_NoFruit k_NoFruit_NoFruit k_NoFruit_Clash_NoPicking k_NoFruit_LookupError)
  have C__law_right := cal_mk F__law_right (PySem.W.mg_of X G a__law_right) b__law_right (ok__law_right (P := l.prog) (w := w) (mg := mg) (base := base) (k := 13) F__law_right C__law_orchard (by decide) C__law_liking (by decide) C__law_pick (by decide) C__law_draw (by decide) C__law_part (by decide) C__law_known (by decide) C_known (by decide) C__law_same (by decide) C__law_refused (by decide) K_known_k0 m_range m_len m_repr m_tuple m_list)
  have C__law_tape := cal_mk F__law_tape (PySem.W.mg_of X G a__law_tape) b__law_tape (ok__law_tape (P := l.prog) (w := w) (mg := mg) (base := base) (k := 0) F__law_tape m_len m_abs m_int)
  have C__law_folded := cal_mk F__law_folded (PySem.W.mg_of X G a__law_folded) b__law_folded (ok__law_folded (P := l.prog) (w := w) (mg := mg) (base := base) (k := 0) F__law_folded m_list m_enumerate)
  exact ok_law (k := 14) F_law C__law_folded (by decide) C__law_right (by decide) C__law_tape (by decide) m_range m_max m_len law_math
end TX
open PySem PySem.W PyProof.Rows
set_option maxHeartbeats 0 in
theorem PySem.Challenge.cw_ripepicks_k43_what_a_picking_tells_holds : PySem.Challenge.rw_ripepicks_k43_what_a_picking_tells.Holds := by
  w_on; o_law; k_head; (case hw => w_witness2)
  k_fill
  refine DL.walk_ofG (l := PySem.Challenge.rw_ripepicks_k43_what_a_picking_tells) (n := 63) (k := 15) (x := "_law_script") (CX := fun w => L2.CX PySem.Challenge.rw_ripepicks_k43_what_a_picking_tells.prog w) (sp := fun w => DL.spLaw _) rfl (by decide) rfl ⟨⟨rfl, by decide, by decide⟩, rfl⟩ (fun w h Y => PySem.W.kIn_of Y) ?F (fun _ _ a ns hl _ hS => ⟨a, ns, rfl, hS, hl, fun _ => rfl⟩) (fun _ _ _ _ _ h => by
    obtain ⟨_, _, _, _, _, _, _, _, _, _, _, _, z⟩ := h
    exact z.elim)
  case F =>
    intro w mg fa h KX G hmg
    refine' TX.all_mk KX G hmg ?a__law_in ?l__law_in ?c__law_in ?k__law_in ?a__law_least ?l__law_least ?c__law_least ?k__law_least ?a__law_made ?l__law_made ?c__law_made ?k__law_made ?a__law_draw ?l__law_draw ?c__law_draw ?k__law_draw ?a__law_part ?l__law_part ?c__law_part ?k__law_part ?a__law_pairs ?l__law_pairs ?c__law_pairs ?k__law_pairs ?a__law_names ?l__law_names ?c__law_names ?k__law_names ?a__law_orchard ?l__law_orchard ?c__law_orchard ?k__law_orchard ?a__law_liking ?l__law_liking ?c__law_liking ?k__law_liking ?a__law_ripe ?l__law_ripe ?c__law_ripe ?k__law_ripe ?a__law_pick ?l__law_pick ?c__law_pick ?k__law_pick ?a__law_known ?l__law_known ?c__law_known ?k__law_known ?a_lot_of ?l_lot_of ?c_lot_of ?k_lot_of ?a_known ?l_known ?c_known ?k_known ?a__law_same ?l__law_same ?c__law_same ?k__law_same ?a__law_refused ?l__law_refused ?c__law_refused ?k__law_refused ?a__law_right ?l__law_right ?c__law_right ?k__law_right ?a__law_tape ?l__law_tape ?c__law_tape ?k__law_tape ?a__law_folded ?l__law_folded ?c__law_folded ?k__law_folded ?a_law ?l_law ?c_law ?k_law ?a_Clash ?a_NoFruit ?a_NoPicking ?v_LookupError ?T_NoFruit ?a_NoFruit_init ?l_NoFruit_init ?c_NoFruit_init ?k_NoFruit_init ?t_NoFruit_init ?q_NoFruit ?k_NoFruit_Clash_NoPicking ?k_NoFruit_LookupError ?k_NoFruit_NoFruit ?x_NoFruit ?z_LookupError ?z_abs ?z_all ?z_any ?z_bool ?z_enumerate ?z_int ?z_isinstance ?z_len ?z_list ?z_max ?z_min ?z_range ?z_repr ?z_set ?z_sorted ?z_str ?z_tuple ?z_zip
    (case a__law_in => k_is); (case l__law_in => k_is); (case c__law_in => k_is); (case k__law_in => k_is); (case a__law_least => k_is); (case l__law_least => k_is); (case c__law_least => k_is); (case k__law_least => k_is); (case a__law_made => k_is); (case l__law_made => k_is); (case c__law_made => k_is); (case k__law_made => k_is); (case a__law_draw => k_is); (case l__law_draw => k_is); (case c__law_draw => k_is); (case k__law_draw => k_is); (case a__law_part => k_is); (case l__law_part => k_is); (case c__law_part => k_is); (case k__law_part => k_is); (case a__law_pairs => k_is); (case l__law_pairs => k_is); (case c__law_pairs => k_is); (case k__law_pairs => k_is); (case a__law_names => k_is); (case l__law_names => k_is); (case c__law_names => k_is); (case k__law_names => k_is); (case a__law_orchard => k_is); (case l__law_orchard => k_is); (case c__law_orchard => k_is); (case k__law_orchard => k_is); (case a__law_liking => k_is); (case l__law_liking => k_is); (case c__law_liking => k_is); (case k__law_liking => k_is); (case a__law_ripe => k_is); (case l__law_ripe => k_is); (case c__law_ripe => k_is); (case k__law_ripe => k_is); (case a__law_pick => k_is); (case l__law_pick => k_is); (case c__law_pick => k_is); (case k__law_pick => k_is); (case a__law_known => k_is); (case l__law_known => k_is); (case c__law_known => k_is); (case k__law_known => k_is); (case a_lot_of => k_is); (case l_lot_of => k_is); (case c_lot_of => k_is); (case k_lot_of => k_is); (case a_known => k_is); (case l_known => k_is); (case c_known => k_is); (case k_known => k_is); (case a__law_same => k_is); (case l__law_same => k_is); (case c__law_same => k_is); (case k__law_same => k_is); (case a__law_refused => k_is); (case l__law_refused => k_is); (case c__law_refused => k_is); (case k__law_refused => k_is); (case a__law_right => k_is); (case l__law_right => k_is); (case c__law_right => k_is); (case k__law_right => k_is); (case a__law_tape => k_is); (case l__law_tape => k_is); (case c__law_tape => k_is); (case k__law_tape => k_is); (case a__law_folded => k_is); (case l__law_folded => k_is); (case c__law_folded => k_is); (case k__law_folded => k_is); (case a_law => k_is); (case l_law => k_is); (case c_law => k_is); (case k_law => k_is); (case a_Clash => k_is); (case a_NoFruit => k_is); (case a_NoPicking => k_is); (case v_LookupError => k_is); (case T_NoFruit => refine' TX.oxl_mk ?lk ?tl ?sa ?ex ?ty ?kc ?wh; (case lk => k_is); (case tl => rfl); (case sa => k_is); (case ex => k_is); (case ty => k_is); (case kc => k_is); (case wh => k_is)); (case a_NoFruit_init => k_is); (case l_NoFruit_init => k_is); (case c_NoFruit_init => k_is); (case k_NoFruit_init => k_is); (case t_NoFruit_init => k_is); (case q_NoFruit => refine' ⟨?hg, ?hk, ?hs, ?hd, ?ha, ?hn, ?ht, ?hm, ?wh⟩; (case hg => k_is); (case hk => k_is); (case hs => k_is); (case hd => k_is); (case ha => k_is); (case hn => k_is); (case ht => k_is); (case hm => k_is); (case wh => k_is)); (case k_NoFruit_Clash_NoPicking => kit_is); (case k_NoFruit_LookupError => kit_is); (case k_NoFruit_NoFruit => kit_is); (case x_NoFruit => kts_exm); (case z_LookupError => k_is); (case z_abs => k_is); (case z_all => k_is); (case z_any => k_is); (case z_bool => k_is); (case z_enumerate => k_is); (case z_int => k_is); (case z_isinstance => k_is); (case z_len => k_is); (case z_list => k_is); (case z_max => k_is); (case z_min => k_is); (case z_range => k_is); (case z_repr => k_is); (case z_set => k_is); (case z_sorted => k_is); (case z_str => k_is); (case z_tuple => k_is); (case z_zip => k_is)

