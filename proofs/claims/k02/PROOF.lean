import PyProof.Rows.All
import Wide.All
import OpenK.AllK
import Wide.FinOn
import HandS.ExcIs
import KE.RegKIsAll
import HandS.ForMost
import HandS.IsInst
import HandS.TupAny
import HandS.SetKeys
import HandS.Flow
import HandS.Style
import HandS.More
import HandS.Strs
import HandS.WordsDict
import HandS.Conv
import HandS.SortRule
import HandS.Defaults
import HandS.SetFor
import HandS.SortInts
import HandS.TupSets
import HandS.ExcCtx
import HandS.ExcInit
import HandS.ExcField
import HandS.CallSlots
import HandS.WordsExc
import HandS.ClsMeth
import KE.SortData
import KE.SortLaws
import KE.KDictZip
import HandS.HotCalls
import HandS.ExcIs
import PySem.Challenge.RW_hushbell_k02_hours_by_hand
set_option Elab.async false
set_option linter.all false
set_option maxRecDepth 100000
set_option maxHeartbeats 4000000
/-! DL: values by data. What a reading asks, said over plain data (PyData): RD, frames, judgements. -/
namespace DL
open PySem PySem.Spec PyProof.Rows L2
abbrev D := PyData
abbrev St := L2.St
abbrev strOk := PyData.strOk

theorem Same.sqt {K : PySem.W.Frag} {H H' : Hp} {a : Addr} {xs : List V} (e : Same H H') (h : SqT K H a xs) : SqT K H' a xs := by
  rcases h with (h | ⟨o, h⟩) | h
  · exact .inl (.inl (e _ _ h))
  · exact .inl (.inr ⟨o, e _ _ h⟩)
  · exact .inr h

/-! ### values that stand for data, read off the part F of the heap that stays -/
mutual
inductive RD (K : PySem.W.Frag) (F : Hp) : V → D → Prop
  | non : RD K F .non .none
  | bl (b : Bool) : RD K F (.bl b) (.bool b)
  | int (i : Int) : RD K F (.int i) (.int i)
  | str (x : Str) : x.length ≤ sizeLine → strOk x = true → RD K F (.str x) (.str x)
  | lst {a : Addr} {vs : List V} {ds : List D} : F a = some (.lst vs) → vs.length ≤ sizeLine → RDs K F vs ds → RD K F (.ref a) (.list ds)
  | tup {a : Addr} {vs : List V} {ds : List D} : SqT K F a vs → vs.length ≤ sizeLine → RDs K F vs ds → RD K F (.ref a) (.tuple ds)
inductive RDs (K : PySem.W.Frag) (F : Hp) : List V → List D → Prop
  | nil : RDs K F [] []
  | cons {v : V} {vs : List V} {d : D} {ds : List D} : RD K F v d → RDs K F vs ds → RDs K F (v :: vs) (d :: ds)
end
section
variable {K : PySem.W.Frag} {F F' : Hp}
mutual
theorem RD.mono (s : Same F F') : ∀ {v : V} {d : D}, RD K F v d → RD K F' v d
  | _, _, .non => .non
  | _, _, .bl b => .bl b
  | _, _, .int i => .int i
  | _, _, .str x h g => .str x h g
  | _, _, .lst h l r => .lst (s _ _ h) l (RDs.mono s r)
  | _, _, .tup h l r => .tup (Same.sqt s h) l (RDs.mono s r)
theorem RDs.mono (s : Same F F') : ∀ {vs : List V} {ds : List D}, RDs K F vs ds → RDs K F' vs ds
  | _, _, .nil => .nil
  | _, _, .cons h r => .cons (RD.mono s h) (RDs.mono s r)
end
mutual
theorem RD.dp : ∀ {v : V} {d : D}, RD K F v d → Dp K F v d
  | _, _, .non => .non
  | _, _, .bl b => .bl b
  | _, _, .int i => .int i
  | _, _, .str x h _ => .str x
  | _, _, .lst h l r => .lst (SqL.of h) (RDs.dp r)
  | _, _, .tup h l r => .tup h (RDs.dp r)
theorem RDs.dp : ∀ {vs : List V} {ds : List D}, RDs K F vs ds → DpAll K F vs ds
  | _, _, .nil => .nil
  | _, _, .cons h r => .cons (RD.dp h) (RDs.dp r)
end
mutual
theorem RD.lay : ∀ {v : V} {d : D}, RD K F v d → d.canLay0 = true
  | _, _, .non => by simp [PyData.canLay0]
  | _, _, .bl b => by simp [PyData.canLay0]
  | _, _, .int i => by simp [PyData.canLay0]
  | _, _, .str x h g => by simpa [PyData.canLay0] using g
  | _, _, .lst h l r => by simpa [PyData.canLay0] using RDs.lay r
  | _, _, .tup h l r => by simpa [PyData.canLay0] using RDs.lay r
theorem RDs.lay : ∀ {vs : List V} {ds : List D}, RDs K F vs ds → PyData.canLayAll0 ds = true
  | _, _, .nil => by simp [PyData.canLayAll0]
  | _, _, .cons h r => by simp [PyData.canLayAll0, RD.lay h, RDs.lay r]
end
theorem RDs.length : ∀ {vs : List V} {ds : List D}, RDs K F vs ds → vs.length = ds.length
  | _, _, .nil => rfl
  | _, _, .cons h r => congrArg Nat.succ (RDs.length r)
theorem RDs.get : ∀ {vs : List V} {ds : List D} {i : Nat} {d : D}, RDs K F vs ds → ds[i]? = some d → ∃ v, vs[i]? = some v ∧ RD K F v d
  | _, _, _, _, .nil, e => by simp at e
  | _, _, 0, _, .cons h r, e => by simp at e; subst e; exact ⟨_, rfl, h⟩
  | _, _, i + 1, _, .cons h r, e => by
    obtain ⟨v, h1, h2⟩ := RDs.get (i := i) r (by simpa using e)
    exact ⟨v, by simpa using h1, h2⟩
theorem RDs.getV : ∀ {vs : List V} {ds : List D} {i : Nat} {v : V}, RDs K F vs ds → vs[i]? = some v → ∃ d, ds[i]? = some d ∧ RD K F v d
  | _, _, _, _, .nil, e => by simp at e
  | _, _, 0, _, .cons h r, e => by simp at e; subst e; exact ⟨_, rfl, h⟩
  | _, _, i + 1, _, .cons h r, e => by
    obtain ⟨v, h1, h2⟩ := RDs.getV (i := i) r (by simpa using e)
    exact ⟨v, by simpa using h1, h2⟩
theorem RDs.append : ∀ {vs ws : List V} {ds es : List D}, RDs K F vs ds → RDs K F ws es → RDs K F (vs ++ ws) (ds ++ es)
  | _, _, _, _, .nil, s => s
  | _, _, _, _, .cons r t, s => .cons r (RDs.append t s)
theorem RDs.take : ∀ {vs : List V} {ds : List D} (n : Nat), RDs K F vs ds → RDs K F (vs.take n) (ds.take n)
  | _, _, 0, _ => by simp; exact .nil
  | _, _, _ + 1, .nil => .nil
  | _, _, n + 1, .cons r t => .cons r (RDs.take n t)
theorem RDs.drop : ∀ {vs : List V} {ds : List D} (n : Nat), RDs K F vs ds → RDs K F (vs.drop n) (ds.drop n)
  | _, _, 0, r => r
  | _, _, _ + 1, .nil => .nil
  | _, _, n + 1, .cons _ t => RDs.drop n t
theorem RDs.set {v : V} {d : D} (r : RD K F v d) : ∀ {vs : List V} {ds : List D} (i : Nat), RDs K F vs ds → RDs K F (vs.set i v) (ds.set i d)
  | _, _, _, .nil => .nil
  | _, _, 0, .cons _ t => .cons r t
  | _, _, i + 1, .cons q t => .cons q (RDs.set r i t)
theorem RDs.eraseIdx : ∀ {vs : List V} {ds : List D} (i : Nat), RDs K F vs ds → RDs K F (vs.eraseIdx i) (ds.eraseIdx i)
  | _, _, _, .nil => .nil
  | _, _, 0, .cons _ t => t
  | _, _, i + 1, .cons q t => .cons q (RDs.eraseIdx i t)
theorem RDs.reverse {vs : List V} {ds : List D} (r : RDs K F vs ds) : RDs K F vs.reverse ds.reverse := by
  induction vs generalizing ds with
  | nil => cases r; exact .nil
  | cons v vs ih =>
    cases r with
    | cons h t =>
      rw [List.reverse_cons, List.reverse_cons]
      exact (ih t).append (.cons h .nil)
theorem RDs.rep {vs : List V} {ds : List D} (r : RDs K F vs ds) : ∀ k : Nat, RDs K F (List.replicate k vs).flatten (List.replicate k ds).flatten
  | 0 => .nil
  | k + 1 => by
    rw [List.replicate_succ, List.replicate_succ, List.flatten_cons, List.flatten_cons]
    exact r.append (RDs.rep r k)
theorem RDs.ints : ∀ {vs : List V} {ns : List Int}, RDs K F vs (ns.map .int) → vs = ns.map V.int
  | _, [], .nil => rfl
  | _, n :: ns, .cons h r => by
    cases h
    rw [RDs.ints r]
    rfl
theorem RDs.of_ints : ∀ (ns : List Int), RDs K F (ns.map V.int) (ns.map .int)
  | [] => .nil
  | n :: ns => .cons (.int n) (RDs.of_ints ns)
theorem RDs.bools : ∀ {vs : List V} {bs : List Bool}, RDs K F vs (bs.map .bool) → vs = bs.map V.bl
  | _, [], .nil => rfl
  | _, n :: ns, .cons h r => by
    cases h
    rw [RDs.bools r]
    rfl
theorem RDs.strs : ∀ {vs : List V} {xs : List Str}, RDs K F vs (xs.map .str) → vs = xs.map V.str
  | _, [], .nil => rfl
  | _, n :: ns, .cons h r => by
    cases h
    rw [RDs.strs r]
    rfl
end

/-! ### the well: the one list that drawing changes -/
def Well (H : Hp) (a : Addr) : Prop := ∃ x y z : Int, H a = some (.lst [.int x, .int y, .int z]) ∧ 0 < z ∧ z < 4294967296
/-- what stays from one state to another: F grows by new objects alone; all but the well is as it was -/
structure Step (w : Option Addr) (H F H' F' : Hp) : Prop where
  ff : Same F F'
  fh : Same F' H'
  fr : ∀ b o, H b = some o → F' b = F b
  ex : ∀ b o, H b = some o → w ≠ some b → H' b = some o
  wl : ∀ a, w = some a → Well H a → Well H' a
  tp : ∀ b xs, H' b = some (.tup xs) → F' b = some (.tup xs)
/-- the part that stays, the well -/
structure Base (w : Option Addr) (H F : Hp) : Prop where
  fh : Same F H
  wl : ∀ a, w = some a → Well H a ∧ F a = none
  tp : ∀ b xs, H b = some (.tup xs) → F b = some (.tup xs)
section
variable {w : Option Addr} {H F H' F' H2 F2 : Hp}
theorem Step.refl (b : Base w H F) : Step w H F H F := ⟨Same.refl _, b.fh, fun _ _ _ => rfl, fun _ _ h _ => h, fun _ _ h => h, b.tp⟩
theorem Base.step (b : Base w H F) (s : Step w H F H' F') : Base w H' F' := by
  refine ⟨s.fh, fun a e => ?_, s.tp⟩
  obtain ⟨h1, h2⟩ := b.wl a e
  refine ⟨s.wl a e h1, ?_⟩
  obtain ⟨x, y, z, h3, _⟩ := h1
  rw [s.fr a _ h3, h2]
theorem Step.there (b : Base w H F) (s : Step w H F H' F') {c : Addr} {o : HO} (h : H c = some o) : ∃ o', H' c = some o' := by
  by_cases e : w = some c
  · obtain ⟨x, y, z, h3, _⟩ := s.wl c e (b.wl c e).1
    exact ⟨_, h3⟩
  · exact ⟨o, s.ex c o h e⟩
theorem Step.free (b : Base w H F) (s : Step w H F H' F') {c : Addr} (h : H' c = none) : H c = none := by
  cases q : H c with
  | none => rfl
  | some o =>
    obtain ⟨o', e⟩ := s.there b q
    rw [e] at h
    cases h
theorem Step.trans (b : Base w H F) (s : Step w H F H' F') (t : Step w H' F' H2 F2) : Step w H F H2 F2 := by
  refine ⟨s.ff.trans t.ff, t.fh, fun c o h => ?_, fun c o h e => t.ex c o (s.ex c o h e) e, fun a e h => t.wl a e (s.wl a e h), t.tp⟩
  obtain ⟨o', e⟩ := s.there b h
  rw [t.fr c o' e, s.fr c o h]
/-- a new object laid, into the part that stays -/
theorem Step.laid (b : Base w H F) {p : Addr} {o : HO} (hp : H p = none) : Step w H F (upd H p o) (upd F p o) := by
  have hF : F p = none := b.fh.free hp
  refine ⟨fun c u e => ?_, fun c u e => ?_, fun c u e => ?_, fun c u e _ => ?_, fun a e ⟨x, y, z, h, r⟩ => ⟨x, y, z, ?_, r⟩, fun c xs e => ?_⟩
  · rw [upd_ne (ne_of_none e hF)]; exact e
  · by_cases hc : c = p
    · subst hc; rw [upd_same] at e ⊢; exact e
    · rw [upd_ne hc] at e ⊢; exact b.fh _ _ e
  · rw [upd_ne (ne_of_none e hp)]
  · rw [upd_ne (ne_of_none e hp)]; exact e
  · rw [upd_ne (ne_of_none h hp)]; exact h
  · by_cases hc : c = p
    · subst hc; rw [upd_same] at e ⊢; exact e
    · rw [upd_ne hc] at e ⊢; exact b.tp _ _ e
/-- .. not into it -/
theorem Step.loose (b : Base w H F) {p : Addr} {o : HO} (hp : H p = none) (ho : ∀ xs, o ≠ .tup xs := by intro _ z; cases z) : Step w H F (upd H p o) F := by
  refine ⟨Same.refl _, fun c u e => ?_, fun c u e => rfl, fun c u e _ => ?_, fun a e ⟨x, y, z, h, r⟩ => ⟨x, y, z, ?_, r⟩, fun c xs e => ?_⟩
  · rw [upd_ne (ne_of_none (b.fh _ _ e) hp)]; exact b.fh _ _ e
  · rw [upd_ne (ne_of_none e hp)]; exact e
  · rw [upd_ne (ne_of_none h hp)]; exact h
  · by_cases hc : c = p
    · subst hc; rw [upd_same] at e; exact absurd (Option.some.inj e) (ho xs)
    · rw [upd_ne hc] at e; exact b.tp _ _ e
/-- what is new joins the part that stays -/
theorem Step.keep (b : Base w H F) (s : Step w H F H' F') {p : Addr} {o : HO} (hp : H p = none) (h : H' p = some o) (hF : F' p = none) : Step w H F H' (upd F' p o) := by
  refine ⟨fun c u e => ?_, fun c u e => ?_, fun c u e => ?_, s.ex, s.wl, fun c xs e => ?_⟩
  · rw [upd_ne (ne_of_none (s.ff _ _ e) hF)]; exact s.ff _ _ e
  · by_cases hc : c = p
    · subst hc; rw [upd_same] at e; cases e; exact h
    · rw [upd_ne hc] at e; exact s.fh _ _ e
  · rw [upd_ne (ne_of_none e hp)]; exact s.fr c u e
  · have z := s.tp c xs e
    rw [upd_ne (ne_of_none z hF)]; exact z
theorem Step.any (s : Step none H F H' F') : Step w H F H' F' :=
  ⟨s.ff, s.fh, s.fr, fun b o h _ => s.ex b o h (by simp), fun a e ⟨x, y, z, h, r⟩ => ⟨x, y, z, s.ex a _ h (by simp), r⟩, s.tp⟩
end

/-! ### what stands in a slot -/
inductive SV where
  | un
  | dat (d : D)
  | own (xs : List D)
  | dK (kvs : List (Key × D))
  | dT (kvs : List (List Key × D))
  | wel
  | scr (ns : List Int)
  | exn (a : Addr) (cls : Value) (d : Option Addr) (x : Str × Option D)
def SV.mu : SV → Bool
  | .own _ => true
  | .dK _ => true
  | .dT _ => true
  | _ => false
structure Bx where
  K : PySem.W.Frag
  w : Option Addr
  H0 : Hp
  F0 : Hp
/-- an object of the frame's own, at p -/
structure Own (B : Bx) (F : Hp) (p : Addr) : Prop where
  f : F p = none
  h0 : B.H0 p = none
  w : B.w ≠ some p
def RKV {κ : Type} (K : PySem.W.Frag) (F : Hp) (us : List (κ × V)) (ds : List (κ × D)) : Prop := us.map (·.1) = ds.map (·.1) ∧ RDs K F (us.map (·.2)) (ds.map (·.2))
def SVok (B : Bx) (F H : Hp) (p : Addr) (s : Option (Option V)) : SV → Prop
  | .un => True
  | .dat d => ∃ v, s = some (some v) ∧ RD B.K F v d
  | .own xs => s = some (some (V.ref p)) ∧ Own B F p ∧ ∃ vs, H p = some (.lst vs) ∧ vs.length ≤ sizeLine ∧ RDs B.K F vs xs
  | .dK kvs => s = some (some (V.ref p)) ∧ Own B F p ∧ ∃ us, H p = some (.dK us) ∧ RKV B.K F us kvs
  | .dT kvs => s = some (some (V.ref p)) ∧ Own B F p ∧ ∃ us, H p = some (.dT us) ∧ RKV B.K F us kvs
  | .wel => ∃ a, B.w = some a ∧ s = some (some (V.ref a))
  | .scr ns => ∃ a, s = some (some (V.ref a)) ∧ SqL B.K F a (ns.map V.int)
  | .exn a _ d x => s = some (some (V.ref a)) ∧ (x.2 = none → d = none) ∧ ∀ y, x.2 = some y → ∃ dd v, d = some dd ∧ F dd = some (.xd [("place", v)]) ∧ RD B.K F v y
structure Env (B : Bx) (σ : St) (H F : Hp) (ρ : List SV) : Prop where
  b0 : Base B.w B.H0 B.F0
  st : Step B.w B.H0 B.F0 H F
  hl : ρ.length = σ.length
  sl : ∃ ad : Nat → Addr, (∀ i s, ρ[i]? = some s → SVok B F H (ad i) σ[i]? s) ∧ ∀ i j s u, ρ[i]? = some s → ρ[j]? = some u → s.mu = true → u.mu = true → i ≠ j → ad i ≠ ad j
section
variable {B : Bx} {σ : St} {H F H' F' : Hp} {ρ : List SV}
theorem Env.base (e : Env B σ H F ρ) : Base B.w H F := e.b0.step e.st
theorem SVok.step {p : Addr} {s : Option (Option V)} (b : Base B.w H F) (t : Step B.w H F H' F') : ∀ {x : SV}, SVok B F H p s x → SVok B F' H' p s x
  | .un, _ => trivial
  | .dat d, ⟨v, e, r⟩ => ⟨v, e, r.mono t.ff⟩
  | .own xs, ⟨e, o, vs, h, l, r⟩ => ⟨e, ⟨(t.fr _ _ h).trans o.f, o.h0, o.w⟩, vs, t.ex _ _ h o.w, l, r.mono t.ff⟩
  | .dK kvs, ⟨e, o, us, h, k, r⟩ => ⟨e, ⟨(t.fr _ _ h).trans o.f, o.h0, o.w⟩, us, t.ex _ _ h o.w, k, r.mono t.ff⟩
  | .dT kvs, ⟨e, o, us, h, k, r⟩ => ⟨e, ⟨(t.fr _ _ h).trans o.f, o.h0, o.w⟩, us, t.ex _ _ h o.w, k, r.mono t.ff⟩
  | .wel, h => h
  | .scr ns, ⟨a, e, h⟩ => ⟨a, e, t.ff.seq h⟩
  | .exn a _ d x, ⟨e, h0, h⟩ => ⟨e, h0, fun y z => let ⟨dd, v, h1, h2, h3⟩ := h y z; ⟨dd, v, h1, t.ff _ _ h2, h3.mono t.ff⟩⟩
theorem Env.step (e : Env B σ H F ρ) (t : Step B.w H F H' F') : Env B σ H' F' ρ := by
  obtain ⟨b0, st, hl, ad, h1, h2⟩ := id e
  exact ⟨b0, st.trans b0 t, hl, ad, fun i s q => (h1 i s q).step e.base t, h2⟩
/-- a value that stands for data, stored -/
theorem Env.put (e : Env B σ H F ρ) {v : V} {d : D} (i : Nat) (r : RD B.K F v d) : Env B (σ.set i (some v)) H F (ρ.set i (.dat d)) := by
  obtain ⟨b0, st, hl, ad, h1, h2⟩ := id e
  by_cases hi : i < σ.length
  · have key : ∀ (j : Nat) (s : SV), (ρ.set i (.dat d))[j]? = some s → (j = i ∧ s = .dat d) ∨ (j ≠ i ∧ ρ[j]? = some s) := fun j s q => by
      by_cases hj : i = j
      · subst hj
        left
        rw [List.getElem?_set_self (by rw [hl]; exact hi)] at q
        exact ⟨rfl, (Option.some.inj q).symm⟩
      · rw [List.getElem?_set_ne hj] at q
        exact .inr ⟨fun z => hj z.symm, q⟩
    refine ⟨b0, st, by simp [hl], ad, fun j s q => ?_, fun j k s u q1 q2 m1 m2 ne => ?_⟩
    · rcases key j s q with ⟨rfl, rfl⟩ | ⟨hj, q⟩
      · exact ⟨v, List.getElem?_set_self hi, r⟩
      · rw [List.getElem?_set_ne (Ne.symm hj)]
        exact h1 j s q
    · rcases key j s q1 with ⟨rfl, rfl⟩ | ⟨_, q1⟩
      · cases m1
      · rcases key k u q2 with ⟨rfl, rfl⟩ | ⟨_, q2⟩
        · cases m2
        · exact h2 j k s u q1 q2 m1 m2 ne
  · rw [List.set_eq_of_length_le (by omega), List.set_eq_of_length_le (by omega)]
    exact e
/-- a slot forgotten -/
theorem Env.drop1 (e : Env B σ H F ρ) (i : Nat) (x : Option V) : Env B (σ.set i x) H F (ρ.set i .un) := by
  obtain ⟨b0, st, hl, ad, h1, h2⟩ := id e
  have key : ∀ (j : Nat) (s : SV), (ρ.set i .un)[j]? = some s → s = .un ∨ (j ≠ i ∧ ρ[j]? = some s) := fun j s q => by
    by_cases hj : i = j
    · subst hj
      left
      by_cases hl : i < ρ.length
      · rw [List.getElem?_set_self hl] at q
        exact (Option.some.inj q).symm
      · rw [List.getElem?_eq_none (by simpa using hl)] at q
        cases q
    · rw [List.getElem?_set_ne hj] at q
      exact .inr ⟨fun z => hj z.symm, q⟩
  refine ⟨b0, st, by simp [hl], ad, fun j s q => ?_, fun j k s u q1 q2 m1 m2 ne => ?_⟩
  · rcases key j s q with rfl | ⟨hj, q⟩
    · trivial
    · rw [List.getElem?_set_ne (Ne.symm hj)]
      exact h1 j s q
  · rcases key j s q1 with rfl | ⟨_, q1⟩
    · cases m1
    · rcases key k u q2 with rfl | ⟨_, q2⟩
      · cases m2
      · exact h2 j k s u q1 q2 m1 m2 ne
/-- an object of the frame's own, new or changed, in a slot: G what it is there -/
theorem Env.putMu {i : Nat} {p : Addr} {o : HO} {x : SV} (e : Env B σ H F ρ) (hF : F p = none) (h0 : B.H0 p = none) (hw : B.w ≠ some p)
    (hn : ∀ j s, ρ[j]? = some s → s.mu = true → j ≠ i → σ[j]? ≠ some (some (V.ref p))) (ok : SVok B F (upd H p o) p (some (some (V.ref p))) x) (ho : ∀ xs, o ≠ .tup xs := by intro _ z; cases z) : Env B (σ.set i (some (V.ref p))) (upd H p o) F (ρ.set i x) := by
  obtain ⟨b0, st, hl, ad, h1, h2⟩ := id e
  have mus : ∀ j s, ρ[j]? = some s → s.mu = true → σ[j]? = some (some (V.ref (ad j))) := fun j s q m => by
    have z := h1 j s q
    cases s <;> first
      | exact z.1
      | cases m
  have key : ∀ (j : Nat) (s : SV), (ρ.set i x)[j]? = some s → (j = i ∧ s = x) ∨ (j ≠ i ∧ ρ[j]? = some s) := fun j s q => by
    by_cases hj : i = j
    · subst hj
      left
      by_cases hl : i < ρ.length
      · rw [List.getElem?_set_self hl] at q
        exact ⟨rfl, (Option.some.inj q).symm⟩
      · rw [List.getElem?_eq_none (by simpa using hl)] at q
        cases q
    · rw [List.getElem?_set_ne hj] at q
      exact .inr ⟨fun z => hj z.symm, q⟩
  have ne : ∀ j s, ρ[j]? = some s → s.mu = true → j ≠ i → ad j ≠ p := fun j s q m hj z => hn j s q m hj (by rw [mus j s q m, z])
  refine ⟨b0, ⟨st.ff, fun c u q => ?_, st.fr, fun c u q z => ?_, fun a ea wa => ?_, fun c xs q => ?_⟩, by simp [hl], fun j => if j = i then p else ad j, fun j s q => ?_, fun j k s u q1 q2 m1 m2 nejk => ?_⟩
  · rw [upd_ne (ne_of_none q hF)]; exact st.fh _ _ q
  · rw [upd_ne (ne_of_none q h0)]; exact st.ex _ _ q z
  · obtain ⟨x1, y1, z1, hh, r⟩ := st.wl a ea wa
    exact ⟨x1, y1, z1, by rw [upd_ne (fun z => hw (by rw [← z]; exact ea))]; exact hh, r⟩
  · by_cases hc : c = p
    · subst hc; rw [upd_same] at q; exact absurd (Option.some.inj q) (ho xs)
    · rw [upd_ne hc] at q; exact st.tp _ _ q
  · rcases key j s q with ⟨rfl, rfl⟩ | ⟨hj, q⟩
    · dsimp only
      have hi : j < σ.length := by
        rw [← hl]
        have z := (List.getElem?_eq_some_iff.mp q).1
        simpa using z
      rw [if_pos rfl, List.getElem?_set_self hi]
      exact ok
    · dsimp only
      rw [if_neg hj, List.getElem?_set_ne (Ne.symm hj)]
      have z := h1 j s q
      have n := ne j s q
      cases s with
      | un => trivial
      | dat d => exact z
      | own xs =>
        obtain ⟨a1, a2, vs, a3, a4⟩ := z
        exact ⟨a1, a2, vs, by rw [upd_ne (n rfl hj)]; exact a3, a4⟩
      | dK kvs =>
        obtain ⟨a1, a2, vs, a3, a4⟩ := z
        exact ⟨a1, a2, vs, by rw [upd_ne (n rfl hj)]; exact a3, a4⟩
      | dT kvs =>
        obtain ⟨a1, a2, vs, a3, a4⟩ := z
        exact ⟨a1, a2, vs, by rw [upd_ne (n rfl hj)]; exact a3, a4⟩
      | wel => exact z
      | scr ns => exact z
      | exn a c d x => exact z
  · rcases key j s q1 with ⟨rfl, rfl⟩ | ⟨hj, q1'⟩
    · rcases key k u q2 with ⟨rfl, _⟩ | ⟨hk, q2'⟩
      · exact absurd rfl nejk
      · dsimp only
        rw [if_pos rfl, if_neg hk]
        exact (ne k u q2' m2 hk).symm
    · rcases key k u q2 with ⟨rfl, rfl⟩ | ⟨hk, q2'⟩
      · dsimp only
        rw [if_pos rfl, if_neg hj]
        exact ne j s q1' m1 hj
      · dsimp only
        rw [if_neg hj, if_neg hk]
        exact h2 j k s u q1' q2' m1 m2 nejk
/-- .. a new one -/
theorem Env.putNew {i : Nat} {p : Addr} {o : HO} {x : SV} (e : Env B σ H F ρ) (hp : H p = none) (ok : SVok B F (upd H p o) p (some (some (V.ref p))) x) (ho : ∀ xs, o ≠ .tup xs := by intro _ z; cases z) : Env B (σ.set i (some (V.ref p))) (upd H p o) F (ρ.set i x) := by
  have h0 : B.H0 p = none := e.st.free e.b0 hp
  refine e.putMu (e.st.fh.free hp) h0 (fun z => ?_) (fun j s q m hj z => ?_) ok ho
  · obtain ⟨⟨x1, y1, z1, hh, _⟩, _⟩ := e.b0.wl p z
    rw [h0] at hh; cases hh
  · obtain ⟨ad, h1, _⟩ := e.sl
    have y := h1 j s q
    cases s with
    | own xs =>
      obtain ⟨a1, a2, vs, a3, _⟩ := y
      rw [z] at a1; cases a1
      rw [hp] at a3; cases a3
    | dK kvs =>
      obtain ⟨a1, a2, vs, a3, _⟩ := y
      rw [z] at a1; cases a1
      rw [hp] at a3; cases a3
    | dT kvs =>
      obtain ⟨a1, a2, vs, a3, _⟩ := y
      rw [z] at a1; cases a1
      rw [hp] at a3; cases a3
    | _ => cases m
end
end DL

/-! DL: the judgements: what a reading asks, by data. -/
namespace DL
open PySem PySem.Spec PyProof.Rows L2

/-! ### results that a slot may take: data, or a new object of the frame's own -/
def NewV (K : PySem.W.Frag) (H H' F' : Hp) (v : V) : SV → Prop
  | .dat d => RD K F' v d
  | .own ds => ∃ p vs, v = .ref p ∧ H p = none ∧ F' p = none ∧ H' p = some (.lst vs) ∧ vs.length ≤ sizeLine ∧ RDs K F' vs ds
  | .dK kvs => ∃ p us, v = .ref p ∧ H p = none ∧ F' p = none ∧ H' p = some (.dK us) ∧ RKV K F' us kvs
  | .dT kvs => ∃ p us, v = .ref p ∧ H p = none ∧ F' p = none ∧ H' p = some (.dT us) ∧ RKV K F' us kvs
  | _ => False
section
variable {B : Bx} {σ : St} {H F H' F' H2 F2 : Hp} {ρ : List SV} {v : V} {K : PySem.W.Frag} {w : Option Addr}
theorem upd_id {H : Hp} {a : Addr} {o : HO} (h : H a = some o) : upd H a o = H := by
  funext b
  by_cases e : b = a
  · subst e; rw [upd_same, h]
  · rw [upd_ne e]
theorem Base.new_ne (b : Base w H F) {p : Addr} (h : H p = none) : w ≠ some p := fun z => by
  obtain ⟨⟨x, y, z, q, _⟩, _⟩ := b.wl p z
  rw [h] at q; cases q
theorem NewV.step (b : Base w H F) (s : Step w H F H' F') (t : Step w H' F' H2 F2) : ∀ {x : SV}, NewV K H H' F' v x → NewV K H H2 F2 v x
  | .dat d, r => RD.mono t.ff r
  | .own ds, ⟨p, vs, e, n, f, h, l, r⟩ => ⟨p, vs, e, n, (t.fr _ _ h).trans f, t.ex _ _ h (b.new_ne n), l, r.mono t.ff⟩
  | .dK ds, ⟨p, vs, e, n, f, h, l, r⟩ => ⟨p, vs, e, n, (t.fr _ _ h).trans f, t.ex _ _ h (b.new_ne n), l, r.mono t.ff⟩
  | .dT ds, ⟨p, vs, e, n, f, h, l, r⟩ => ⟨p, vs, e, n, (t.fr _ _ h).trans f, t.ex _ _ h (b.new_ne n), l, r.mono t.ff⟩
theorem NewV.older {H1 : Hp} (b : Base w H1 F) (s : Step w H1 F H F2) : ∀ {x : SV}, NewV K H H' F' v x → NewV K H1 H' F' v x
  | .dat d, r => r
  | .own ds, ⟨p, vs, e, n, r⟩ => ⟨p, vs, e, s.free b n, r⟩
  | .dK ds, ⟨p, vs, e, n, r⟩ => ⟨p, vs, e, s.free b n, r⟩
  | .dT ds, ⟨p, vs, e, n, r⟩ => ⟨p, vs, e, s.free b n, r⟩
/-- a new object that was made by the last expressions, stored -/
theorem Env.putObj (e : Env B σ H F ρ) (t : Step B.w H F H' F') {i : Nat} {p : Addr} {o : HO} {x : SV} (n : H p = none) (f : F' p = none) (h : H' p = some o) (ok : ∀ h0 : Own B F' p, SVok B F' H' p (some (some (V.ref p))) x) (ho : ∀ xs, o ≠ .tup xs := by intro _ z; cases z) :
    Env B (σ.set i (some (V.ref p))) H' F' (ρ.set i x) := by
  have h0 : B.H0 p = none := e.st.free e.b0 n
  have hw := e.base.new_ne n
  have q := (e.step t).putMu (i := i) (o := o) (x := x) f h0 hw (fun j s q m hj z => ?_) (by rw [upd_id h]; exact ok ⟨f, h0, hw⟩) ho
  · rw [upd_id h] at q
    exact q
  · obtain ⟨ad, h1, _⟩ := e.sl
    have y := h1 j s q
    cases s with
    | own xs =>
      obtain ⟨a1, a2, vs, a3, _⟩ := y
      rw [z] at a1; cases a1
      rw [n] at a3; cases a3
    | dK kvs =>
      obtain ⟨a1, a2, vs, a3, _⟩ := y
      rw [z] at a1; cases a1
      rw [n] at a3; cases a3
    | dT kvs =>
      obtain ⟨a1, a2, vs, a3, _⟩ := y
      rw [z] at a1; cases a1
      rw [n] at a3; cases a3
    | _ => cases m
theorem Env.putV (e : Env B σ H F ρ) (t : Step B.w H F H' F') (i : Nat) : ∀ {x : SV}, NewV B.K H H' F' v x → Env B (σ.set i (some v)) H' F' (ρ.set i x)
  | .dat d, r => (e.step t).put i r
  | .own ds, ⟨p, vs, ev, n, f, h, l, r⟩ => by
    subst ev
    exact e.putObj t n f h fun o => ⟨rfl, o, vs, h, l, r⟩
  | .dK ds, ⟨p, vs, ev, n, f, h, r⟩ => by
    subst ev
    exact e.putObj t n f h fun o => ⟨rfl, o, vs, h, r⟩
  | .dT ds, ⟨p, vs, ev, n, f, h, r⟩ => by
    subst ev
    exact e.putObj t n f h fun o => ⟨rfl, o, vs, h, r⟩
end

/-! ### what is seen of a value: data, or an own list as it stands -/
def Vw (K : PySem.W.Frag) (w : Option Addr) (F H : Hp) (v : V) (d : D) : Prop :=
  RD K F v d ∨ ∃ p vs ds, v = .ref p ∧ d = .list ds ∧ w ≠ some p ∧ H p = some (.lst vs) ∧ vs.length ≤ sizeLine ∧ RDs K F vs ds
inductive Vws (K : PySem.W.Frag) (w : Option Addr) (F H : Hp) : List V → List D → Prop
  | nil : Vws K w F H [] []
  | cons {v : V} {vs : List V} {d : D} {ds : List D} : Vw K w F H v d → Vws K w F H vs ds → Vws K w F H (v :: vs) (d :: ds)
section
variable {K : PySem.W.Frag} {w : Option Addr} {F H F' H' : Hp} {v : V} {d : D}
theorem Vw.step (t : Step w H F H' F') (h : Vw K w F H v d) : Vw K w F' H' v d := by
  rcases h with h | ⟨p, vs, ds, e1, e2, n, h, l, r⟩
  · exact .inl (h.mono t.ff)
  · exact .inr ⟨p, vs, ds, e1, e2, n, t.ex _ _ h n, l, r.mono t.ff⟩
theorem Vws.step (t : Step w H F H' F') : ∀ {vs : List V} {ds : List D}, Vws K w F H vs ds → Vws K w F' H' vs ds
  | _, _, .nil => .nil
  | _, _, .cons h r => .cons (h.step t) (Vws.step t r)
theorem Vw.dp (s : Same F H) (h : Vw K w F H v d) : Dp K H v d := by
  rcases h with h | ⟨p, vs, ds, rfl, rfl, n, h, l, r⟩
  · exact (h.mono s).dp
  · exact .lst (SqL.of h) (r.mono s).dp
theorem Vw.list {ds : List D} (s : Same F H) (h : Vw K w F H v (.list ds)) : ∃ p vs, v = .ref p ∧ H p = some (.lst vs) ∧ vs.length ≤ sizeLine ∧ RDs K F vs ds := by
  rcases h with h | ⟨p, vs, ds, rfl, e, n, h, l, r⟩
  · cases h with
    | lst h l r => exact ⟨_, _, rfl, s _ _ h, l, r⟩
  · cases e
    exact ⟨p, vs, rfl, h, l, r⟩
theorem Vw.tuple {ds : List D} (h : Vw K w F H v (.tuple ds)) : ∃ p vs, v = .ref p ∧ SqT K F p vs ∧ vs.length ≤ sizeLine ∧ RDs K F vs ds := by
  rcases h with h | ⟨p, vs, ds, rfl, e, n, h, l, r⟩
  · cases h with
    | tup h l r => exact ⟨_, _, rfl, h, l, r⟩
  · cases e
theorem Vw.int {i : Int} (h : Vw K w F H v (.int i)) : v = .int i := by
  rcases h with h | ⟨p, vs, ds, rfl, e, _⟩
  · cases h; rfl
  · cases e
theorem Vw.bool {i : Bool} (h : Vw K w F H v (.bool i)) : v = .bl i := by
  rcases h with h | ⟨p, vs, ds, rfl, e, _⟩
  · cases h; rfl
  · cases e
theorem Vw.none (h : Vw K w F H v .none) : v = .non := by
  rcases h with h | ⟨p, vs, ds, rfl, e, _⟩
  · cases h; rfl
  · cases e
theorem Vw.str {x : Str} (h : Vw K w F H v (.str x)) : v = .str x ∧ x.length ≤ sizeLine ∧ strOk x = true := by
  rcases h with h | ⟨p, vs, ds, rfl, e, _⟩
  · cases h with
    | str x l g => exact ⟨rfl, l, g⟩
  · cases e
theorem Vw.lay (s : Same F H) (h : Vw K w F H v d) : d.canLay0 = true := by
  rcases h with h | ⟨p, vs, ds, rfl, rfl, n, h, l, r⟩
  · exact h.lay
  · simpa [PyData.canLay0] using r.lay
theorem Vw.shaped (s : Same F H) (h : Vw K w F H v d) (g : d.depth ≤ 64) : SeqAt.shaped d = true := by
  unfold SeqAt.shaped
  rw [h.lay s, decide_eq_true g]
  rfl
end

/-! ### the judgements -/
abbrev DTE := List SV → (D → Prop) → Prop
abbrev DTX := List SV → (SV → Prop) → Prop
abbrev DTT := List SV → (Bool → Prop) → Prop
abbrev DTA := List SV → (List D → Prop) → Prop
structure DEnds where
  nx : List SV → Prop
  rt : SV → Prop
  bk : List SV → Prop := fun _ => False
  ct : List SV → Prop := fun _ => False
abbrev DTS := DEnds → List SV → Prop
abbrev DTG := D → List SV → (List SV → Prop) → Prop
section
variable (B : Bx)
def PuE (t : TE) (f : DTE) : Prop := ∀ (σ : St) (H F : Hp) (ρ : List SV) (Q : VK) (q : D → Prop), Env B σ H F ρ → f ρ q →
  (∀ d v H' F', q d → Step B.w H F H' F' → RD B.K F' v d → Q v H') → t σ H Q
def PuP (t : TE) (f : DTE) : Prop := ∀ (σ : St) (H F : Hp) (ρ : List SV) (Q : VK) (q : D → Prop), Env B σ H F ρ → f ρ q →
  (∀ d v H' F', q d → Step B.w H F H' F' → Vw B.K B.w F' H' v d → Q v H') → t σ H Q
def PuX (t : TE) (f : DTX) : Prop := ∀ (σ : St) (H F : Hp) (ρ : List SV) (Q : VK) (q : SV → Prop), Env B σ H F ρ → f ρ q →
  (∀ x v H' F', q x → Step B.w H F H' F' → NewV B.K H H' F' v x → Q v H') → t σ H Q
def PuT (t : TT) (f : DTT) : Prop := ∀ (σ : St) (H F : Hp) (ρ : List SV) (Q : Bool → Hp → Prop) (q : Bool → Prop), Env B σ H F ρ → f ρ q →
  (∀ b H' F', q b → Step B.w H F H' F' → Q b H') → t σ H Q
/-- items of a display -/
def PuA (t : TA) (f : DTA) : Prop := ∀ (σ : St) (H F : Hp) (ρ : List SV) (Q : List V → Hp → Prop) (q : List D → Prop), Env B σ H F ρ → f ρ q →
  (∀ ds vs H' F', q ds → Step B.w H F H' F' → RDs B.K F' vs ds → Q vs H') → t σ H Q
/-- arguments of a built-in -/
def PuV (t : TA) (f : DTA) : Prop := ∀ (σ : St) (H F : Hp) (ρ : List SV) (Q : List V → Hp → Prop) (q : List D → Prop), Env B σ H F ρ → f ρ q →
  (∀ ds vs H' F', q ds → Step B.w H F H' F' → Vws B.K B.w F' H' vs ds → Q vs H') → t σ H Q
end
/-- an argument of a def: data, the well, the script -/
def RC (K : PySem.W.Frag) (w : Option Addr) (F : Hp) (v : V) : SV → Prop
  | .dat d => RD K F v d
  | .wel => ∃ a, w = some a ∧ v = .ref a
  | .scr ns => ∃ a, v = .ref a ∧ SqL K F a (ns.map V.int)
  | .exn a _ d x => v = .ref a ∧ (x.2 = none → d = none) ∧ ∀ y, x.2 = some y → ∃ dd v', d = some dd ∧ F dd = some (.xd [("place", v')]) ∧ RD K F v' y
  | _ => False
inductive RCs (K : PySem.W.Frag) (w : Option Addr) (F : Hp) : List V → List SV → Prop
  | nil : RCs K w F [] []
  | cons {v : V} {vs : List V} {d : SV} {ds : List SV} : RC K w F v d → RCs K w F vs ds → RCs K w F (v :: vs) (d :: ds)
theorem RC.mono {K : PySem.W.Frag} {w : Option Addr} {F F' : Hp} {v : V} (s : Same F F') : ∀ {d : SV}, RC K w F v d → RC K w F' v d
  | .dat d, h => RD.mono s h
  | .wel, h => h
  | .scr ns, ⟨a, e, h⟩ => ⟨a, e, s.seq h⟩
  | .exn a _ d x, ⟨e, h0, h⟩ => ⟨e, h0, fun y z => let ⟨dd, v, h1, h2, h3⟩ := h y z; ⟨dd, v, h1, s _ _ h2, h3.mono s⟩⟩
theorem RCs.mono {K : PySem.W.Frag} {w : Option Addr} {F F' : Hp} (s : Same F F') : ∀ {vs : List V} {ds : List SV}, RCs K w F vs ds → RCs K w F' vs ds
  | _, _, .nil => .nil
  | _, _, .cons h r => .cons (RC.mono s h) (RCs.mono s r)
theorem RCs.length {K : PySem.W.Frag} {w : Option Addr} {F : Hp} : ∀ {vs : List V} {ds : List SV}, RCs K w F vs ds → vs.length = ds.length
  | _, _, .nil => rfl
  | _, _, .cons h r => congrArg Nat.succ (RCs.length r)
theorem RCs.get {K : PySem.W.Frag} {w : Option Addr} {F : Hp} : ∀ {vs : List V} {ds : List SV} {i : Nat} {d : SV}, RCs K w F vs ds → ds[i]? = some d → ∃ v, vs[i]? = some v ∧ RC K w F v d
  | _, _, _, _, .nil, e => by simp at e
  | _, _, 0, _, .cons h r, e => by simp at e; subst e; exact ⟨_, rfl, h⟩
  | _, _, i + 1, _, .cons h r, e => by
    obtain ⟨v, h1, h2⟩ := RCs.get (i := i) r (by simpa using e)
    exact ⟨v, by simpa using h1, h2⟩
abbrev DTC := List SV → (List SV → Prop) → Prop
def PuC (B : Bx) (t : TA) (f : DTC) : Prop := ∀ (σ : St) (H F : Hp) (ρ : List SV) (Q : List V → Hp → Prop) (q : List SV → Prop), Env B σ H F ρ → f ρ q →
  (∀ ds vs H' F', q ds → Step B.w H F H' F' → RCs B.K B.w F' vs ds → Q vs H') → t σ H Q
def PuS (B : Bx) (t : TS) (g : DTS) : Prop := ∀ (σ : St) (H F : Hp) (ρ : List SV) (De : Ends) (E : DEnds), Env B σ H F ρ → g E ρ →
  (∀ σ' H' F' ρ', E.nx ρ' → Same F F' → Env B σ' H' F' ρ' → De.nx σ' H') →
  (∀ x v H' F', E.rt x → Step B.w B.H0 B.F0 H' F' → NewV B.K B.H0 H' F' v x → De.rt v H') →
  (∀ σ' H' F' ρ', E.bk ρ' → Same F F' → Env B σ' H' F' ρ' → De.bk σ' H') → (∀ σ' H' F' ρ', E.ct ρ' → Same F F' → Env B σ' H' F' ρ' → De.ct σ' H') → t De σ H
/-- a target that stores into slots of vs alone -/
def PuG (B : Bx) (vs : List Nat) (g : TG) (f : DTG) : Prop := ∀ (v : V) (d : D) (σ : St) (H F : Hp) (ρ : List SV) (Q : L2.St → Hp → Prop) (q : List SV → Prop), Env B σ H F ρ → RD B.K F v d → f d ρ q →
  (∀ σ' ρ', q ρ' → Env B σ' H F ρ' → wipe σ' vs = wipe σ vs → Q σ' H) → g v σ H Q

/-! ### expressions -/
section
variable {B : Bx} {ta tb tc te : TE} {fa fb fc fe : DTE} {t u : TT} {f g : DTT}
theorem PuE.p (h : PuE B ta fa) : PuP B ta fa := fun σ H F ρ Q q e hf k => h σ H F ρ Q q e hf fun d v H' F' hd s r => k d v H' F' hd s (.inl r)
def xOf (f : DTE) : DTX := fun ρ q => f ρ fun d => q (.dat d)
theorem PuE.x (h : PuE B ta fa) : PuX B ta (xOf fa) := fun σ H F ρ Q q e hf k => h σ H F ρ Q _ e hf fun d v H' F' hd s r => k (.dat d) v H' F' hd s r
/-- a new list joins what stays -/
def eOf (f : DTX) : DTE := fun ρ q => f ρ fun x => match x with
  | .dat d => q d
  | .own ds => q (.list ds)
  | _ => False
theorem PuX.e {fx : DTX} (h : PuX B ta fx) : PuE B ta (eOf fx) := fun σ H F ρ Q q e hf k => h σ H F ρ Q _ e hf fun x v H' F' hd s r => by
  cases x with
  | dat d => exact k d v H' F' hd s r
  | own ds =>
    obtain ⟨p, vs, rfl, n, hF, hH, l, rr⟩ := r
    have s2 := Step.keep e.base s n hH hF
    exact k (.list ds) _ H' _ hd s2 (.lst upd_same l (rr.mono fun c u z => by rw [upd_ne (ne_of_none z hF)]; exact z))
  | _ => exact hd.elim

/-! names, constants -/
def dVar (i : Nat) : DTE := fun ρ q => match ρ[i]? with
  | some (.dat d) => q d
  | _ => False
theorem pu_var (i : Nat) : PuE B (tVar i) (dVar i) := fun σ H F ρ Q q e hf k => by
  unfold dVar at hf
  obtain ⟨ad, h1, _⟩ := e.sl
  split at hf
  · rename_i d hd
    obtain ⟨v, hv, r⟩ := h1 i _ hd
    exact ⟨v, hv, k d v H F hf (Step.refl e.base) r⟩
  · exact hf.elim
/-- a name as it is seen: an own list too -/
def dSee (i : Nat) : DTE := fun ρ q => match ρ[i]? with
  | some (.dat d) => q d
  | some (.own xs) => q (.list xs)
  | _ => False
theorem pu_see (i : Nat) : PuP B (tVar i) (dSee i) := fun σ H F ρ Q q e hf k => by
  unfold dSee at hf
  obtain ⟨ad, h1, _⟩ := e.sl
  split at hf
  · rename_i d hd
    obtain ⟨v, hv, r⟩ := h1 i _ hd
    exact ⟨v, hv, k d v H F hf (Step.refl e.base) (.inl r)⟩
  · rename_i xs hd
    obtain ⟨hv, o, vs, hp, l, r⟩ := h1 i _ hd
    exact ⟨_, hv, k _ _ H F hf (Step.refl e.base) (.inr ⟨_, vs, xs, rfl, rfl, o.w, hp, l, r⟩)⟩
  · exact hf.elim
def dC (d : D) : DTE := fun _ q => q d
theorem pu_int {i : Int} : PuE B (tC (.int i)) (dC (.int i)) := fun σ H F ρ Q q e hf k => k _ _ H F hf (Step.refl e.base) (.int i)
theorem pu_bl {b : Bool} : PuE B (tC (.bl b)) (dC (.bool b)) := fun σ H F ρ Q q e hf k => k _ _ H F hf (Step.refl e.base) (.bl b)
theorem pu_non : PuE B (tC .non) (dC .none) := fun σ H F ρ Q q e hf k => k _ _ H F hf (Step.refl e.base) .non
theorem pu_str {x : Str} (h : x.length ≤ sizeLine := by decide +kernel) (g : strOk x = true := by decide +kernel) : PuE B (tC (.str x)) (dC (.str x)) := fun σ H F ρ Q q e hf k => k _ _ H F hf (Step.refl e.base) (.str x h g)

/-! argument lists -/
def dNil : DTA := fun _ q => q []
def dCons (f : DTE) (g : DTA) : DTA := fun ρ q => f ρ fun d => g ρ fun ds => q (d :: ds)
theorem pua_nil : PuA B tNil dNil := fun σ H F ρ Q q e hf k => k [] [] H F hf (Step.refl e.base) .nil
theorem pua_cons {tr : TA} {fr : DTA} (ha : PuE B ta fa) (hr : PuA B tr fr) : PuA B (tCons ta tr) (dCons fa fr) := fun σ H F ρ Q q e hf k =>
  ha σ H F ρ _ _ e hf fun d v H1 F1 h1 s1 r1 => hr σ H1 F1 ρ _ _ (e.step s1) h1 fun ds vs H2 F2 h2 s2 r2 => k _ _ H2 F2 h2 (s1.trans e.base s2) (.cons (r1.mono s2.ff) r2)
theorem puv_nil : PuV B tNil dNil := fun σ H F ρ Q q e hf k => k [] [] H F hf (Step.refl e.base) .nil
theorem puv_cons {tr : TA} {fr : DTA} (ha : PuP B ta fa) (hr : PuV B tr fr) : PuV B (tCons ta tr) (dCons fa fr) := fun σ H F ρ Q q e hf k =>
  ha σ H F ρ _ _ e hf fun d v H1 F1 h1 s1 r1 => hr σ H1 F1 ρ _ _ (e.step s1) h1 fun ds vs H2 F2 h2 s2 r2 => k _ _ H2 F2 h2 (s1.trans e.base s2) (.cons (r1.step s2) r2)
def cNil : DTC := fun _ q => q []
def cCons (f : DTE) (g : DTC) : DTC := fun ρ q => f ρ fun d => g ρ fun ds => q (.dat d :: ds)
theorem puc_nil : PuC B tNil cNil := fun σ H F ρ Q q e hf k => k [] [] H F hf (Step.refl e.base) .nil
theorem puc_cons {tr : TA} {fr : DTC} (ha : PuE B ta fa) (hr : PuC B tr fr) : PuC B (tCons ta tr) (cCons fa fr) := fun σ H F ρ Q q e hf k =>
  ha σ H F ρ _ _ e hf fun d v H1 F1 h1 s1 r1 => hr σ H1 F1 ρ _ _ (e.step s1) h1 fun ds vs H2 F2 h2 s2 r2 => k _ _ H2 F2 h2 (s1.trans e.base s2) (.cons (RC.mono (d := .dat d) s2.ff r1) r2)
def cWel (i : Nat) (g : DTC) : DTC := fun ρ q => match ρ[i]? with
  | some .wel => g ρ fun ds => q (.wel :: ds)
  | _ => False
theorem puc_wel (i : Nat) {tr : TA} {fr : DTC} (hr : PuC B tr fr) : PuC B (tCons (tVar i) tr) (cWel i fr) := fun σ H F ρ Q q e hf k => by
  unfold cWel at hf
  obtain ⟨ad, h1, _⟩ := e.sl
  split at hf
  · rename_i hd
    obtain ⟨a, hw, hv⟩ := h1 i _ hd
    exact ⟨_, hv, hr σ H F ρ _ _ e hf fun ds vs H2 F2 h2 s2 r2 => k _ _ H2 F2 h2 s2 (.cons (d := .wel) ⟨a, hw, rfl⟩ r2)⟩
  · exact hf.elim
def cScr (i : Nat) (g : DTC) : DTC := fun ρ q => match ρ[i]? with
  | some (.scr ns) => g ρ fun ds => q (.scr ns :: ds)
  | _ => False
theorem puc_scr (i : Nat) {tr : TA} {fr : DTC} (hr : PuC B tr fr) : PuC B (tCons (tVar i) tr) (cScr i fr) := fun σ H F ρ Q q e hf k => by
  unfold cScr at hf
  obtain ⟨ad, h1, _⟩ := e.sl
  split at hf
  · rename_i ns hd
    obtain ⟨a, hv, hs⟩ := h1 i _ hd
    exact ⟨_, hv, hr σ H F ρ _ _ e hf fun ds vs H2 F2 h2 s2 r2 => k _ _ H2 F2 h2 s2 (.cons (d := .scr ns) ⟨a, rfl, s2.ff.seq hs⟩ r2)⟩
  · exact hf.elim

/-! operations by values -/
def R2ok (B : Bx) (r : R2) (g : D → D → (D → Prop) → Prop) : Prop := ∀ (H F : Hp) (x y : V) (d e : D) (Q : VK) (q : D → Prop), Base B.w H F → Vw B.K B.w F H x d → Vw B.K B.w F H y e → g d e q →
  (∀ z v H' F', q z → Step B.w H F H' F' → RD B.K F' v z → Q v H') → r x y H Q
def dOp (g : D → D → (D → Prop) → Prop) (fa fb : DTE) : DTE := fun ρ q => fa ρ fun d => fb ρ fun e => g d e q
theorem pu_op {r : R2} {g : D → D → (D → Prop) → Prop} (hr : R2ok B r g) (ha : PuP B ta fa) (hb : PuP B tb fb) : PuE B (tOp r ta tb) (dOp g fa fb) := fun σ H F ρ Q q e hf k =>
  ha σ H F ρ _ _ e hf fun d v H1 F1 h1 s1 r1 => hb σ H1 F1 ρ _ _ (e.step s1) h1 fun d2 v2 H2 F2 h2 s2 r2 =>
    hr H2 F2 v v2 d d2 Q q ((e.step s1).base.step s2) (r1.step s2) r2 h2 fun z v3 H3 F3 h3 s3 r3 => k z v3 H3 F3 h3 ((s1.trans e.base s2).trans e.base s3) r3
def R1ok (B : Bx) (r : V → Hp → VK → Prop) (g : D → (D → Prop) → Prop) : Prop := ∀ (H F : Hp) (x : V) (d : D) (Q : VK) (q : D → Prop), Base B.w H F → Vw B.K B.w F H x d → g d q →
  (∀ z v H' F', q z → Step B.w H F H' F' → RD B.K F' v z → Q v H') → r x H Q
def dUn (g : D → (D → Prop) → Prop) (fa : DTE) : DTE := fun ρ q => fa ρ fun d => g d q
theorem pu_un {r : V → Hp → VK → Prop} {g : D → (D → Prop) → Prop} (hr : R1ok B r g) (ha : PuP B ta fa) : PuE B (tUn r ta) (dUn g fa) := fun σ H F ρ Q q e hf k =>
  ha σ H F ρ _ _ e hf fun d v H1 F1 h1 s1 r1 => hr H1 F1 v d Q q (e.base.step s1) r1 h1 fun z v3 H3 F3 h3 s3 r3 => k z v3 H3 F3 h3 (s1.trans e.base s3) r3
/-- built-ins by lists of values; with a new list as answer -/
def RLok (B : Bx) (r : List V → Hp → VK → Prop) (g : List D → (SV → Prop) → Prop) : Prop := ∀ (H F : Hp) (xs : List V) (ds : List D) (Q : VK) (q : SV → Prop), Base B.w H F → Vws B.K B.w F H xs ds → g ds q →
  (∀ z v H' F', q z → Step B.w H F H' F' → NewV B.K H H' F' v z → Q v H') → r xs H Q
def xB (g : List D → (SV → Prop) → Prop) (fa : DTA) : DTX := fun ρ q => fa ρ fun ds => g ds q
theorem pu_cb {r : List V → Hp → VK → Prop} {g : List D → (SV → Prop) → Prop} {ta : TA} {fa : DTA} (hr : RLok B r g) (ha : PuV B ta fa) : PuX B (tCB r ta) (xB g fa) := fun σ H F ρ Q q e hf k =>
  ha σ H F ρ _ _ e hf fun d v H1 F1 h1 s1 r1 => hr H1 F1 v d Q q (e.base.step s1) r1 h1 fun z v3 H3 F3 h3 s3 r3 => k z v3 H3 F3 h3 (s1.trans e.base s3) (r3.older e.base s1)

/-! truths -/
def dBool (f : DTE) : DTT := fun ρ q => f ρ fun d => match d with
  | .bool b => q b
  | _ => False
theorem RD.of_bool {K : PySem.W.Frag} {F : Hp} {v : V} {b : Bool} (h : RD K F v (.bool b)) : v = .bl b := by cases h; rfl
theorem pu_tB (h : PuE B ta fa) : PuT B (tB ta) (dBool fa) := fun σ H F ρ Q q e hf k => h σ H F ρ _ _ e hf fun d v H' F' hd s r => by
  cases d with
  | bool b => exact ⟨b, r.of_bool, k b H' F' hd s⟩
  | _ => exact hd.elim
theorem pu_tTest (h : PuE B ta fa) : PuT B (tTest ta) (dBool fa) := fun σ H F ρ Q q e hf k => h σ H F ρ _ _ e hf fun d v H' F' hd s r => by
  cases d with
  | bool b => exact ⟨b, r.of_bool, k b H' F' hd s⟩
  | _ => exact hd.elim
def bAnd (f g : DTT) : DTT := fun ρ q => f ρ fun c => if c = true then g ρ q else q false
def bOr (f g : DTT) : DTT := fun ρ q => f ρ fun c => if c = true then q true else g ρ q
def bNot (f : DTT) : DTT := fun ρ q => f ρ fun c => q (!c)
theorem pu_and (ha : PuT B t f) (hb : PuT B u g) : PuT B (tAnd t u) (bAnd f g) := fun σ H F ρ Q q e hf k => ha σ H F ρ _ _ e hf fun b H1 F1 h1 s1 => by
  cases b with
  | true => exact hb σ H1 F1 ρ _ _ (e.step s1) h1 fun b H2 F2 h2 s2 => k b H2 F2 h2 (s1.trans e.base s2)
  | false => exact k false H1 F1 h1 s1
theorem pu_or (ha : PuT B t f) (hb : PuT B u g) : PuT B (tOr t u) (bOr f g) := fun σ H F ρ Q q e hf k => ha σ H F ρ _ _ e hf fun b H1 F1 h1 s1 => by
  cases b with
  | false => exact hb σ H1 F1 ρ _ _ (e.step s1) h1 fun b H2 F2 h2 s2 => k b H2 F2 h2 (s1.trans e.base s2)
  | true => exact k true H1 F1 h1 s1
theorem pu_not (ha : PuT B t f) : PuT B (tNot t) (bNot f) := fun σ H F ρ Q q e hf k => ha σ H F ρ _ _ e hf fun b H1 F1 h1 s1 => k _ H1 F1 h1 s1
def dAndV (fa fb : DTE) : DTE := fun ρ q => fa ρ fun d => match d with
  | .bool b => if b = true then fb ρ q else q (.bool false)
  | _ => False
def dOrV (fa fb : DTE) : DTE := fun ρ q => fa ρ fun d => match d with
  | .bool b => if b = true then q (.bool true) else fb ρ q
  | _ => False
def dNotV (fa : DTE) : DTE := fun ρ q => fa ρ fun d => match d with
  | .bool b => q (.bool (!b))
  | _ => False
theorem pu_andV (ha : PuE B ta fa) (hb : PuE B tb fb) : PuE B (tAndV ta tb) (dAndV fa fb) := fun σ H F ρ Q q e hf k => ha σ H F ρ _ _ e hf fun d v H1 F1 h1 s1 r1 => by
  cases d with
  | bool b =>
    refine ⟨b, r1.of_bool, ?_⟩
    cases b with
    | true => exact iteT (hb σ H1 F1 ρ _ _ (e.step s1) h1 fun d v H2 F2 h2 s2 r2 => k d v H2 F2 h2 (s1.trans e.base s2) r2)
    | false => exact iteF (k _ _ H1 F1 h1 s1 (.bl false))
  | _ => exact h1.elim
theorem pu_orV (ha : PuE B ta fa) (hb : PuE B tb fb) : PuE B (tOrV ta tb) (dOrV fa fb) := fun σ H F ρ Q q e hf k => ha σ H F ρ _ _ e hf fun d v H1 F1 h1 s1 r1 => by
  cases d with
  | bool b =>
    refine ⟨b, r1.of_bool, ?_⟩
    cases b with
    | true => exact iteT (k _ _ H1 F1 h1 s1 (.bl true))
    | false => exact iteF (hb σ H1 F1 ρ _ _ (e.step s1) h1 fun d v H2 F2 h2 s2 r2 => k d v H2 F2 h2 (s1.trans e.base s2) r2)
  | _ => exact h1.elim
theorem pu_notV (ha : PuE B ta fa) : PuE B (tNotV ta) (dNotV fa) := fun σ H F ρ Q q e hf k => ha σ H F ρ _ _ e hf fun d v H1 F1 h1 s1 r1 => by
  cases d with
  | bool b => exact ⟨b, r1.of_bool, k _ _ H1 F1 h1 s1 (.bl _)⟩
  | _ => exact h1.elim
def dIf (c : DTT) (fa fb : DTE) : DTE := fun ρ q => c ρ fun b => if b = true then fa ρ q else fb ρ q
theorem pu_ifE (hc : PuT B t f) (ha : PuE B ta fa) (hb : PuE B tb fb) : PuE B (tIf t ta tb) (dIf f fa fb) := fun σ H F ρ Q q e hf k => hc σ H F ρ _ _ e hf fun b H1 F1 h1 s1 => by
  cases b with
  | true => exact iteT (ha σ H1 F1 ρ _ _ (e.step s1) h1 fun d v H2 F2 h2 s2 r2 => k d v H2 F2 h2 (s1.trans e.base s2) r2)
  | false => exact iteF (hb σ H1 F1 ρ _ _ (e.step s1) h1 fun d v H2 F2 h2 s2 r2 => k d v H2 F2 h2 (s1.trans e.base s2) r2)
/-- a op1 b op2 c -/
def dChain (g g' : D → D → (D → Prop) → Prop) (fa fb fc : DTE) : DTE := fun ρ q => fa ρ fun d => fb ρ fun e => g d e fun z => match z with
  | .bool b => if b = true then fc ρ fun h => g' e h q else q (.bool false)
  | _ => False
theorem pu_chain {r r' : R2} {g g' : D → D → (D → Prop) → Prop} (hr : R2ok B r g) (hr' : R2ok B r' g') (ha : PuP B ta fa) (hb : PuP B tb fb) (hc : PuP B tc fc) : PuE B (tChain r r' ta tb tc) (dChain g g' fa fb fc) := fun σ H F ρ Q q e hf k =>
  ha σ H F ρ _ _ e hf fun d v H1 F1 h1 s1 r1 => hb σ H1 F1 ρ _ _ (e.step s1) h1 fun d2 v2 H2 F2 h2 s2 r2 =>
    hr H2 F2 v v2 d d2 _ _ ((e.step s1).base.step s2) (r1.step s2) r2 h2 fun z v3 H3 F3 h3 s3 r3 => by
      have e3 := ((e.step s1).step s2).step s3
      have st := (s1.trans e.base s2).trans e.base s3
      cases z with
      | bool b =>
        refine ⟨b, r3.of_bool, ?_⟩
        cases b with
        | true =>
          exact iteT (hc σ H3 F3 ρ _ _ e3 h3 fun d4 v4 H4 F4 h4 s4 r4 => hr' H4 F4 v2 v4 d2 d4 Q q (e3.step s4).base ((r2.step s3).step s4) r4 h4 fun z5 v5 H5 F5 h5 s5 r5 => k z5 v5 H5 F5 h5 ((st.trans e.base s4).trans e.base s5) r5)
        | false => exact iteF (k _ _ H3 F3 h3 st (.bl false))
      | _ => exact h3.elim

/-! displays -/
def dTup (f : DTA) : DTE := fun ρ q => f ρ fun ds => ds.length ≤ sizeLine ∧ q (.tuple ds)
theorem pu_tup {ta : TA} {fa : DTA} (ha : PuA B ta fa) : PuE B (tTup ta) (dTup fa) := fun σ H F ρ Q q e hf k => ha σ H F ρ _ _ e hf fun ds vs H1 F1 h1 s1 r1 => by
  have hl : vs.length ≤ sizeLine := by rw [r1.length]; exact h1.1
  refine ⟨hl, fun p hp => ?_⟩
  have b1 := e.base.step s1
  have s2 : Step B.w H1 F1 (upd H1 p (.tup vs)) (upd F1 p (.tup vs)) := Step.laid b1 hp
  exact k _ _ _ _ h1.2 (s1.trans e.base s2) (.tup (SqT.of upd_same) hl (r1.mono s2.ff))
def xLst (f : DTA) : DTX := fun ρ q => f ρ fun ds => ds.length ≤ sizeLine ∧ q (.own ds)
theorem pu_lst {ta : TA} {fa : DTA} (ha : PuA B ta fa) : PuX B (tLst ta) (xLst fa) := fun σ H F ρ Q q e hf k => ha σ H F ρ _ _ e hf fun ds vs H1 F1 h1 s1 r1 => by
  have hl : vs.length ≤ sizeLine := by rw [r1.length]; exact h1.1
  refine ⟨hl, fun p hp => ?_⟩
  have b1 := e.base.step s1
  have s2 : Step B.w H1 F1 (upd H1 p (.lst vs)) F1 := Step.loose b1 hp
  exact k (.own ds) _ _ F1 h1.2 (s1.trans e.base s2) ⟨p, vs, rfl, s1.free e.base hp, b1.fh.free hp, upd_same, hl, r1⟩
def xDict : DTX := fun _ q => q (.dK [])
theorem pu_dictK : PuX B (fun _ H Q => ∀ p, H p = none → Q (.ref p) (upd H p (.dK []))) xDict := fun σ H F ρ Q q e hf k p hp =>
  k (.dK []) _ _ F hf (Step.loose e.base hp) ⟨p, [], rfl, hp, e.base.fh.free hp, upd_same, rfl, .nil⟩
end
end DL

/-! DL: statements, loops, comprehensions, defs. -/
namespace DL
open PySem PySem.Spec PyProof.Rows L2

/-! ### statements -/
section
variable {B : Bx} {t u : TS} {g h : DTS} {te : TE} {fe : DTE} {fx : DTX}
def gNext : DTS := fun E ρ => E.nx ρ
theorem pu_next : PuS B tNext gNext := fun σ H F ρ De E e hg n r b c => n σ H F ρ hg (Same.refl _) e
def gSeq (g h : DTS) : DTS := fun E ρ => g { E with nx := h E } ρ
theorem pu_seq (h1 : PuS B t g) (h2 : PuS B u h) : PuS B (tSeq t u) (gSeq g h) := fun σ H F ρ De E e hg n r b c =>
  h1 σ H F ρ _ _ e hg (fun σ' H' F' ρ' q sm e' => h2 σ' H' F' ρ' De E e' q (fun σ2 H2 F2 ρ2 q2 z => n σ2 H2 F2 ρ2 q2 (sm.trans z)) r (fun σ2 H2 F2 ρ2 q2 z => b σ2 H2 F2 ρ2 q2 (sm.trans z)) fun σ2 H2 F2 ρ2 q2 z => c σ2 H2 F2 ρ2 q2 (sm.trans z)) r b c
def gBreak : DTS := fun E ρ => E.bk ρ
def gCont : DTS := fun E ρ => E.ct ρ
theorem pu_break : PuS B tBreak gBreak := fun σ H F ρ De E e hg n r b c => b σ H F ρ hg (Same.refl _) e
theorem pu_cont : PuS B tCont gCont := fun σ H F ρ De E e hg n r b c => c σ H F ρ hg (Same.refl _) e
def gNever : DTS := fun _ _ => False
theorem pu_never : PuS B tNever gNever := fun σ H F ρ De E e hg n r b c => hg.elim
def gDrop (f : DTE) : DTS := fun E ρ => f ρ fun _ => E.nx ρ
theorem pu_drop (he : PuE B te fe) : PuS B (tDrop te) (gDrop fe) := fun σ H F ρ De E e hg n r b c => he σ H F ρ _ _ e hg fun d v H' F' hd s _ => n σ H' F' ρ hd s.ff (e.step s)
theorem NewV.done {σ : St} {H F H' F' : Hp} {ρ : List SV} {v : V} {x : SV} (e : Env B σ H F ρ) (s : Step B.w H F H' F') (r : NewV B.K H H' F' v x) : NewV B.K B.H0 H' F' v x := r.older e.b0 e.st
def gRet (f : DTX) : DTS := fun E ρ => f ρ E.rt
theorem pu_ret (he : PuX B te fx) : PuS B (tRet te) (gRet fx) := fun σ H F ρ De E e hg n r b c => he σ H F ρ _ _ e hg fun x v H' F' hd s rv => r x v H' F' hd (e.st.trans e.b0 s) (rv.done e s)
def gRetN : DTS := fun E _ => E.rt (.dat .none)
theorem pu_retN : PuS B tRetN gRetN := fun σ H F ρ De E e hg n r b c => r (.dat .none) .non H F hg e.st .non
/-- an own object handed back -/
def gRetV (i : Nat) : DTS := fun E ρ => match ρ[i]? with
  | some (.own xs) => E.rt (.own xs)
  | some (.dat d) => E.rt (.dat d)
  | _ => False
theorem pu_retV (i : Nat) : PuS B (tRet (tVar i)) (gRetV i) := fun σ H F ρ De E e hg n r b c => by
  obtain ⟨ad, h1, _⟩ := e.sl
  unfold gRetV at hg
  split at hg
  · rename_i xs hx
    obtain ⟨hv, o, vs, hp, l, rr⟩ := h1 i _ hx
    exact ⟨_, hv, r _ _ H F hg e.st ⟨_, vs, rfl, o.h0, o.f, hp, l, rr⟩⟩
  · rename_i d hx
    obtain ⟨v, hv, rr⟩ := h1 i _ hx
    exact ⟨_, hv, r _ _ H F hg e.st rr⟩
  · exact hg.elim
def gIf (c : DTT) (g h : DTS) : DTS := fun E ρ => c ρ fun b => if b = true then g E ρ else h E ρ
theorem pu_if {tc : TT} {fc : DTT} (hc : PuT B tc fc) (h1 : PuS B t g) (h2 : PuS B u h) : PuS B (tIfS tc t u) (gIf fc g h) := fun σ H F ρ De E e hg n r b c =>
  hc σ H F ρ _ _ e hg fun k H1 F1 hk s1 => by
    cases k with
    | true => exact iteT (h1 σ H1 F1 ρ De E (e.step s1) hk (fun σ2 H2 F2 ρ2 q2 z => n σ2 H2 F2 ρ2 q2 (s1.ff.trans z)) r (fun σ2 H2 F2 ρ2 q2 z => b σ2 H2 F2 ρ2 q2 (s1.ff.trans z)) fun σ2 H2 F2 ρ2 q2 z => c σ2 H2 F2 ρ2 q2 (s1.ff.trans z))
    | false => exact iteF (h2 σ H1 F1 ρ De E (e.step s1) hk (fun σ2 H2 F2 ρ2 q2 z => n σ2 H2 F2 ρ2 q2 (s1.ff.trans z)) r (fun σ2 H2 F2 ρ2 q2 z => b σ2 H2 F2 ρ2 q2 (s1.ff.trans z)) fun σ2 H2 F2 ρ2 q2 z => c σ2 H2 F2 ρ2 q2 (s1.ff.trans z))
def gSet (i : Nat) (f : DTX) : DTS := fun E ρ => f ρ fun x => E.nx (ρ.set i x)
theorem pu_set (i : Nat) (he : PuX B te fx) : PuS B (tAsg te (gName i)) (gSet i fx) := fun σ H F ρ De E e hg n r b c =>
  he σ H F ρ _ _ e hg fun x v H' F' hd s rv => n _ H' F' _ hd s.ff (e.putV s i rv)
/-- a, b = x, y -/
def gPar (i j : Nat) (f g : DTX) : DTS := fun E ρ => f ρ fun x => g ρ fun y => E.nx ((ρ.set i x).set j y)
theorem pu_par (i j : Nat) {tb : TE} {fy : DTX} (ha : PuX B te fx) (hb : PuX B tb fy) : PuS B (tPar i j (tCons te (tCons tb tNil))) (gPar i j fx fy) := fun σ H F ρ De E e hg n r b c =>
  ha σ H F ρ _ _ e hg fun x v H1 F1 h1 s1 r1 => hb σ H1 F1 ρ _ _ (e.step s1) h1 fun y v2 H2 F2 h2 s2 r2 => by
    refine ⟨v, v2, rfl, ?_⟩
    have e1 : Env B (σ.set i (some v)) H1 F1 (ρ.set i x) := e.putV s1 i r1
    exact n _ H2 F2 _ h2 (s1.ff.trans s2.ff) (e1.putV s2 j r2)
/-- a target's store -/
def gAsg (f : DTE) (g : DTG) : DTS := fun E ρ => f ρ fun d => g d ρ E.nx
theorem pu_asg {vs : List Nat} {tg : TG} {fg : DTG} (he : PuE B te fe) (hg : PuG B vs tg fg) : PuS B (tAsg te tg) (gAsg fe fg) := fun σ H F ρ De E e hq n r b c =>
  he σ H F ρ _ _ e hq fun d v H1 F1 h1 s1 r1 => hg v d σ H1 F1 ρ _ _ (e.step s1) r1 h1 fun σ' ρ' q e' _ => n σ' H1 F1 ρ' q s1.ff e'
end

/-! ### targets -/
section
variable {B : Bx} {vs : List Nat}
def gnm (i : Nat) : DTG := fun d ρ q => q (ρ.set i (.dat d))
theorem wipe_get (σ : L2.St) : ∀ (vs : List Nat) (j : Nat), (wipe σ vs)[j]? = if j ∈ vs ∧ j < σ.length then some none else σ[j]?
  | [], j => by simp [wipe]
  | v :: vs, j => by
    unfold wipe
    rw [List.getElem?_set, wipe_get σ vs j, wipe_length]
    by_cases h : v = j
    · subst h
      by_cases hl : v < σ.length <;> simp [hl]
    · have h' : ¬ j = v := fun z => h z.symm
      simp [h, h']
theorem wipe_set {σ : L2.St} {vs : List Nat} {i : Nat} {x : Option V} (hi : i ∈ vs) : wipe (σ.set i x) vs = wipe σ vs := by
  apply List.ext_getElem?
  intro j
  rw [wipe_get, wipe_get, List.length_set]
  by_cases h : j ∈ vs ∧ j < σ.length
  · rw [if_pos h, if_pos h]
  · rw [if_neg h, if_neg h]
    by_cases e : i = j
    · subst e
      have hl : ¬ i < σ.length := fun z => h ⟨hi, z⟩
      rw [List.getElem?_eq_none (by simpa using hl), List.getElem?_eq_none (by simpa using hl)]
    · rw [List.getElem?_set_ne e]
theorem pu_gname (i : Nat) (hi : i ∈ vs := by decide) : PuG B vs (gName i) (gnm i) := fun v d σ H F ρ Q q e r hf k => k _ _ hf (e.put i r) (wipe_set hi)
abbrev DTGs := List D → List SV → (List SV → Prop) → Prop
def PuGs (B : Bx) (vs : List Nat) (g : TGs) (f : DTGs) : Prop := ∀ (ws : List V) (ds : List D) (σ : St) (H F : Hp) (ρ : List SV) (Q : L2.St → Hp → Prop) (q : List SV → Prop), Env B σ H F ρ → RDs B.K F ws ds → f ds ρ q →
  (∀ σ' ρ', q ρ' → Env B σ' H F ρ' → wipe σ' vs = wipe σ vs → Q σ' H) → g ws σ H Q
def gnil : DTGs := fun ds ρ q => match ds with
  | [] => q ρ
  | _ => False
def gcons (f : DTG) (g : DTGs) : DTGs := fun ds ρ q => match ds with
  | d :: ds => f d ρ fun ρ' => g ds ρ' q
  | _ => False
theorem pu_gnil : PuGs B vs gNil gnil := fun ws ds σ H F ρ Q q e r hf k => by
  cases r with
  | nil => exact ⟨rfl, k σ ρ hf e rfl⟩
  | cons _ _ => exact hf.elim
theorem pu_gcons {t : TG} {u : TGs} {f : DTG} {g : DTGs} (h1 : PuG B vs t f) (h2 : PuGs B vs u g) : PuGs B vs (gCons t u) (gcons f g) := fun ws ds σ H F ρ Q q e r hf k => by
  cases r with
  | nil => exact hf.elim
  | cons r rr => exact ⟨_, _, rfl, h1 _ _ σ H F ρ _ _ e r hf fun σ1 ρ1 q1 e1 w1 => h2 _ _ σ1 H F ρ1 _ _ e1 rr q1 fun σ2 ρ2 q2 e2 w2 => k σ2 ρ2 q2 e2 (w2.trans w1)⟩
def gtup (n : Nat) (g : DTGs) : DTG := fun d ρ q => match d with
  | .tuple ds => ds.length = n ∧ g ds ρ q
  | _ => False
theorem pu_gtup {n : Nat} {u : TGs} {g : DTGs} (h : PuGs B vs u g) : PuG B vs (gTup B.K n u) (gtup n g) := fun v d σ H F ρ Q q e r hf k => by
  cases d with
  | tuple ds =>
    cases r with
    | tup hs l rr => exact ⟨_, _, rfl, Same.sqt e.st.fh hs, rr.length.trans hf.1, h _ _ σ H F ρ _ _ e rr hf.2 k⟩
  | _ => exact hf.elim
end

/-! ### what is walked -/
/-- the walk of J gives the data ds -/
structure YL (K : PySem.W.Frag) (F0 : Hp) (J : It) (ds : List D) : Prop where
  small : ds.length ≤ sizeLine
  go : ∀ i H F, Same F0 F → Same F H → i < ds.length → J.go i H
  yld : ∀ i H F x H', Same F0 F → Same F H → i < ds.length → J.yld i H x H' → ∃ F' d, ds[i]? = some d ∧ (Base none H F → Step none H F H' F') ∧ RD K F' x d
  stop : ∀ i H F, Same F0 F → Same F H → ds.length ≤ i → J.stop i H
abbrev DTI := List SV → (List D → Prop) → Prop
def PuI (B : Bx) (wi : TI) (f : DTI) : Prop := ∀ (σ : St) (H F : Hp) (ρ : List SV) (R : It → Hp → Prop) (q : List D → Prop), Env B σ H F ρ → f ρ q →
  (∀ J H' F' ds, q ds → Step B.w H F H' F' → YL B.K F' J ds → R J H') → wi σ H R
section
variable {B : Bx}
theorem Base.none {w : Option Addr} {H F : Hp} (b : Base w H F) : Base none H F := ⟨b.fh, (fun a e => by cases e), b.tp⟩
/-- a loop over data: its turns one by one -/
def loopD (fg : DTG) (fb : DTS) : List D → DEnds → List SV → Prop
  | [], E, ρ => E.nx ρ
  | d :: ds, E, ρ => fg d ρ fun ρ' => fb { E with nx := loopD fg fb ds E, ct := loopD fg fb ds E, bk := E.nx } ρ'
def gFor (fi : DTI) (fg : DTG) (fb : DTS) : DTS := fun E ρ => fi ρ fun ds => loopD fg fb ds E ρ
theorem pu_for {wi : TI} {fi : DTI} {vs : List Nat} {tg : TG} {fg : DTG} {tb : TS} {fb : DTS} (hi : PuI B wi fi) (hg : PuG B vs tg fg) (hb : PuS B tb fb) : PuS B (tFor wi tg tb) (gFor fi fg fb) := fun σ H F ρ De E e hq n r b c =>
  hi σ H F ρ _ _ e hq fun J H1 F1 ds h1 s1 y => by
    refine ⟨fun i m σ' H' => m = ds.length - i ∧ i ≤ ds.length ∧ ∃ F' ρ', Same F1 F' ∧ Env B σ' H' F' ρ' ∧ loopD fg fb (ds.drop i) E ρ', ⟨ds.length, by simp, Nat.zero_le _, F1, ρ, Same.refl _, e.step s1, by simpa using h1⟩, ?_⟩
    rintro i m σ' H' ⟨rfl, hle, F', ρ', sm, e', hl⟩
    by_cases hlt : i < ds.length
    · refine .inr ⟨y.go i H' F' sm e'.st.fh hlt, fun σ2 H2 => ∃ F2 ρ2, Same F1 F2 ∧ Env B σ2 H2 F2 ρ2 ∧ loopD fg fb (ds.drop (i + 1)) E ρ2, fun σ2 H2 ⟨F2, ρ2, a1, a2, a3⟩ => ⟨ds.length - (i + 1), by omega, rfl, hlt, F2, ρ2, a1, a2, a3⟩, fun x H2 hy => ?_⟩
      obtain ⟨F2, d, hd, st, rd⟩ := y.yld i H' F' x H2 sm e'.st.fh hlt hy
      have s2 := (st e'.base.none).any (w := B.w)
      have ed : ds.drop i = d :: ds.drop (i + 1) := by
        obtain ⟨h3, h4⟩ := List.getElem?_eq_some_iff.mp hd
        rw [List.drop_eq_getElem_cons h3, h4]
      rw [ed] at hl
      have e2 := e'.step s2
      refine hg x d σ' H2 F2 ρ' _ _ e2 rd hl fun σ3 ρ3 q3 e3 _ => ?_
      have sm2 := sm.trans s2.ff
      refine hb σ3 H2 F2 ρ3 _ _ e3 q3 (fun σ4 H4 F4 ρ4 q4 z e4 => ⟨F4, ρ4, sm2.trans z, e4, q4⟩) r (fun σ4 H4 F4 ρ4 q4 z e4 => n σ4 H4 F4 ρ4 q4 (s1.ff.trans (sm2.trans z)) e4) fun σ4 H4 F4 ρ4 q4 z e4 => ⟨F4, ρ4, sm2.trans z, e4, q4⟩
    · refine .inl ⟨y.stop i H' F' sm e'.st.fh (by omega), ?_⟩
      rw [List.drop_eq_nil_of_le (by omega)] at hl
      exact n σ' H' F' ρ' hl (s1.ff.trans sm) e'

/-! ### list comprehensions -/
def wipeD (ρ : List SV) : List Nat → List SV
  | [] => ρ
  | v :: vs => (wipeD ρ vs).set v .un
theorem Env.wiped {σ : L2.St} {H F : Hp} {ρ : List SV} (e : Env B σ H F ρ) : ∀ vs : List Nat, Env B (wipe σ vs) H F (wipeD ρ vs)
  | [] => e
  | v :: vs => (Env.wiped e vs).drop1 v none
theorem Step.upd {w : Option Addr} {H F H' F' : Hp} {p : Addr} {o : HO} (b : Base w H F) (s : Step w H F H' F') (hp : H p = none) (hf : F' p = none) (ho : ∀ xs, o ≠ .tup xs := by intro _ z; cases z) : Step w H F (upd H' p o) F' := by
  have hw := b.new_ne hp
  refine ⟨s.ff, fun c u q => ?_, s.fr, fun c u q z => ?_, fun a ea wa => ?_, fun c xs q => ?_⟩
  · rw [upd_ne (ne_of_none q hf)]; exact s.fh _ _ q
  · rw [upd_ne (ne_of_none q hp)]; exact s.ex _ _ q z
  · obtain ⟨x1, y1, z1, hh, r⟩ := s.wl a ea wa
    exact ⟨x1, y1, z1, by rw [upd_ne (fun z => hw (by rw [← z]; exact ea))]; exact hh, r⟩
  · by_cases hc : c = p
    · subst hc; rw [upd_same] at q; exact absurd (Option.some.inj q) (ho xs)
    · rw [upd_ne hc] at q; exact s.tp _ _ q
def compD (vs : List Nat) (fg : DTG) (ft : DTT) (fe : DTE) (ρ : List SV) : List D → List D → (List D → Prop) → Prop
  | [], acc, q => q acc
  | d :: ds, acc, q => fg d (wipeD ρ vs) fun ρ' => ft ρ' fun b => if b = true then fe ρ' fun x => compD vs fg ft fe ρ ds (acc ++ [x]) q else compD vs fg ft fe ρ ds acc q
def xComp (vs : List Nat) (fi : DTI) (fg : DTG) (ft : DTT) (fe : DTE) : DTX := fun ρ q => fi ρ fun ds => compD vs fg ft fe ρ ds [] fun xs => q (.own xs)
theorem pu_yes : PuT B tYes fun _ q => q true := fun σ H F ρ Q q e hf k => k true H F hf (Step.refl e.base)
theorem pu_lc {wi : TI} {fi : DTI} {vs : List Nat} {tg : TG} {fg : DTG} {tt : TT} {ft : DTT} {te : TE} {fe : DTE} (hi : PuI B wi fi) (hg : PuG B vs tg fg) (ht : PuT B tt ft) (he : PuE B te fe) : PuX B (tLc wi tg tt te vs) (xComp vs fi fg ft fe) := fun σ H F ρ Q q e hq k =>
  hi σ H F ρ _ _ e hq fun J H1 F1 ds h1 s1 y => by
    intro L hL
    have b0 := e.base
    have nL : H L = none := s1.free b0 hL
    have wL := b0.new_ne nL
    have fL : F1 L = none := s1.fh.free hL
    refine ⟨fun i m H' => m = ds.length - i ∧ i ≤ ds.length ∧ ∃ F' acc vacc, Same F1 F' ∧ Step B.w H F H' F' ∧ H' L = some (.lst vacc) ∧ F' L = none ∧ acc.length ≤ i ∧ RDs B.K F' vacc acc ∧ compD vs fg ft fe ρ (ds.drop i) acc fun xs => q (.own xs),
      ⟨ds.length, by simp, Nat.zero_le _, F1, [], [], Same.refl _, s1.upd b0 nL fL, upd_same, fL, Nat.zero_le _, .nil, by simpa using h1⟩, ?_⟩
    rintro i m H' ⟨rfl, hle, F', acc, vacc, sm, st, eL, zL, la, ra, hc⟩
    have e' := e.step st
    by_cases hlt : i < ds.length
    · refine .inr ⟨y.go i H' F' sm st.fh hlt, fun H2 => ∃ F2 acc2 vacc2, Same F1 F2 ∧ Step B.w H F H2 F2 ∧ H2 L = some (.lst vacc2) ∧ F2 L = none ∧ acc2.length ≤ i + 1 ∧ RDs B.K F2 vacc2 acc2 ∧ compD vs fg ft fe ρ (ds.drop (i + 1)) acc2 fun xs => q (.own xs),
        fun H2 ⟨F2, acc2, vacc2, a⟩ => ⟨ds.length - (i + 1), by omega, rfl, hlt, F2, acc2, vacc2, a⟩, fun x H2 hy => ?_⟩
      obtain ⟨F2, d, hd, stt, rd⟩ := y.yld i H' F' x H2 sm st.fh hlt hy
      have s2 := (stt e'.base.none).any (w := B.w)
      have ed : ds.drop i = d :: ds.drop (i + 1) := by
        obtain ⟨h3, h4⟩ := List.getElem?_eq_some_iff.mp hd
        rw [List.drop_eq_getElem_cons h3, h4]
      rw [ed] at hc
      have e2 : Env B (wipe σ vs) H2 F2 (wipeD ρ vs) := (e'.step s2).wiped vs
      refine hg x d _ H2 F2 _ _ _ e2 rd hc fun σ3 ρ3 q3 e3 w3 => ?_
      have ww : wipe (wipe σ vs) vs = wipe σ vs := by
        apply List.ext_getElem?
        intro j
        rw [wipe_get, wipe_get, wipe_length]
        by_cases hj : j ∈ vs ∧ j < σ.length
        · rw [if_pos hj, if_pos hj]
        · rw [if_neg hj]
      refine ⟨w3.trans ww, ?_⟩
      have st2 := st.trans b0 s2
      refine ht σ3 H2 F2 ρ3 _ _ e3 q3 fun b H3 F3 h3 s3 => ?_
      have st3 := st2.trans b0 s3
      have eL2 := s2.ex _ _ eL wL
      have eL3 := s3.ex _ _ eL2 wL
      have fL2 : F2 L = none := (s2.fr _ _ eL).trans zL
      have fL3 : F3 L = none := (s3.fr _ _ eL2).trans fL2
      cases b with
      | true =>
        rw [if_pos rfl] at h3 ⊢
        refine he σ3 H3 F3 ρ3 _ _ (e3.step s3) h3 fun z yv H4 F4 h4 s4 r4 => ?_
        have eL4 := s4.ex _ _ eL3 wL
        have fL4 : F4 L = none := (s4.fr _ _ eL3).trans fL3
        refine ⟨vacc, eL4, ?_, F4, acc ++ [z], vacc ++ [yv], ((sm.trans s2.ff).trans s3.ff).trans s4.ff, (st3.trans b0 s4).upd b0 nL fL4, upd_same, fL4, by simp; omega, RDs.append (ra.mono ((s2.ff.trans s3.ff).trans s4.ff)) (.cons r4 .nil), h4⟩
        rw [ra.length]
        have := y.small
        omega
      | false =>
        rw [if_neg Bool.false_ne_true] at h3 ⊢
        exact ⟨F3, acc, vacc, (sm.trans s2.ff).trans s3.ff, st3, eL3, fL3, by omega, ra.mono (s2.ff.trans s3.ff), h3⟩
    · refine .inl ⟨y.stop i H' F' sm st.fh (by omega), ?_⟩
      rw [List.drop_eq_nil_of_le (by omega)] at hc
      exact k (.own acc) _ H' F' hc st ⟨L, vacc, rfl, nL, zL, eL, by rw [ra.length]; have := y.small; omega, ra⟩

/-! ### while -/
def gWhile (c : DTT) (g : DTS) : DTS := fun E ρ => ∃ (I : List SV → Prop) (μ : List SV → Nat), I ρ ∧ ∀ ρ', I ρ' → c ρ' fun b => if b = true then g { E with nx := fun ρ2 => I ρ2 ∧ μ ρ2 < μ ρ', ct := fun ρ2 => I ρ2 ∧ μ ρ2 < μ ρ', bk := E.nx } ρ' else E.nx ρ'
theorem pu_while {tc : TT} {fc : DTT} {tb : TS} {fb : DTS} (hc : PuT B tc fc) (hb : PuS B tb fb) : PuS B (tWhile tc tb) (gWhile fc fb) := fun σ H F ρ De E e hq n r b c => by
  obtain ⟨I, μ, i0, turn⟩ := hq
  refine ⟨fun m σ' H' => ∃ F' ρ', Same F F' ∧ Env B σ' H' F' ρ' ∧ I ρ' ∧ m = μ ρ', ⟨_, F, ρ, Same.refl _, e, i0, rfl⟩, ?_⟩
  rintro m σ' H' ⟨F', ρ', sm, e', i', rfl⟩
  refine hc σ' H' F' ρ' _ _ e' (turn ρ' i') fun k H2 F2 hk s2 => ?_
  have e2 := e'.step s2
  cases k with
  | true =>
    refine iteT ⟨fun σ3 H3 => ∃ F3 ρ3, Same F F3 ∧ Env B σ3 H3 F3 ρ3 ∧ I ρ3 ∧ μ ρ3 < μ ρ', fun σ3 H3 ⟨F3, ρ3, a1, a2, a3, a4⟩ => ⟨_, a4, F3, ρ3, a1, a2, a3, rfl⟩, ?_⟩
    rw [if_pos rfl] at hk
    exact hb σ' H2 F2 ρ' _ _ e2 hk (fun σ4 H4 F4 ρ4 q4 z e4 => ⟨F4, ρ4, (sm.trans s2.ff).trans z, e4, q4⟩) r (fun σ4 H4 F4 ρ4 q4 z e4 => n σ4 H4 F4 ρ4 q4 ((sm.trans s2.ff).trans z) e4) fun σ4 H4 F4 ρ4 q4 z e4 => ⟨F4, ρ4, (sm.trans s2.ff).trans z, e4, q4⟩
  | false =>
    rw [if_neg Bool.false_ne_true] at hk
    exact iteF (n σ' H2 F2 ρ' hk (sm.trans s2.ff) e2)
end

/-! ### what a for walks -/
section
variable {B : Bx} {K : PySem.W.Frag} {F0 : Hp}
theorem yl_seqL {a : Addr} {vs : List V} {ds : List D} (h : ∀ H F, Same F0 F → Same F H → SqL K H a vs) (l : vs.length ≤ sizeLine) (r : RDs K F0 vs ds) : YL K F0 (Itl K a) ds where
  small := by rw [← r.length]; exact l
  go := fun i H F s1 s2 hi => by
    have hi' : i < vs.length := by rw [r.length]; exact hi
    exact ⟨vs, vs[i], h H F s1 s2, List.getElem?_eq_getElem hi'⟩
  yld := fun i H F x H' s1 s2 hi y => by
    obtain ⟨e, y⟩ := y
    subst e
    obtain ⟨d, h1, h2⟩ := r.getV (y vs (h _ F s1 s2))
    exact ⟨F, d, h1, fun b => Step.refl b, h2.mono s1⟩
  stop := fun i H F s1 s2 hi => ⟨vs, h H F s1 s2, by rw [r.length]; exact hi⟩
theorem yl_seqT {a : Addr} {vs : List V} {ds : List D} (h : ∀ H F, Same F0 F → Same F H → SqT K H a vs) (l : vs.length ≤ sizeLine) (r : RDs K F0 vs ds) : YL K F0 (Itt K a) ds where
  small := by rw [← r.length]; exact l
  go := fun i H F s1 s2 hi => by
    have hi' : i < vs.length := by rw [r.length]; exact hi
    exact ⟨vs, vs[i], h H F s1 s2, List.getElem?_eq_getElem hi'⟩
  yld := fun i H F x H' s1 s2 hi y => by
    obtain ⟨e, y⟩ := y
    subst e
    obtain ⟨d, h1, h2⟩ := r.getV (y vs (h _ F s1 s2))
    exact ⟨F, d, h1, fun b => Step.refl b, h2.mono s1⟩
  stop := fun i H F s1 s2 hi => ⟨vs, h H F s1 s2, by rw [r.length]; exact hi⟩
def iL (f : DTE) : DTI := fun ρ q => f ρ fun d => match d with
  | .list ds => q ds
  | _ => False
def iT (f : DTE) : DTI := fun ρ q => f ρ fun d => match d with
  | .tuple ds => q ds
  | _ => False
theorem pui_list {te : TE} {fe : DTE} (he : PuE B te fe) : PuI B (iList B.K te) (iL fe) := fun σ H F ρ R q e hf k => he σ H F ρ _ _ e hf fun d v H1 F1 h1 s1 r1 => by
  cases d with
  | list ds =>
    cases r1 with
    | lst h l r => exact ⟨_, rfl, ⟨_, SqL.of (s1.fh _ _ h)⟩, k _ H1 F1 ds h1 s1 (yl_seqL (fun H F a b => SqL.of (b _ _ (a _ _ h))) l r)⟩
  | _ => exact h1.elim
theorem pui_tup {te : TE} {fe : DTE} (he : PuE B te fe) : PuI B (iTup B.K te) (iT fe) := fun σ H F ρ R q e hf k => he σ H F ρ _ _ e hf fun d v H1 F1 h1 s1 r1 => by
  cases d with
  | tuple ds =>
    cases r1 with
    | tup h l r => exact ⟨_, rfl, ⟨_, Same.sqt s1.fh h⟩, k _ H1 F1 ds h1 s1 (yl_seqT (fun H F a b => Same.sqt b (Same.sqt a h)) l r)⟩
  | _ => exact h1.elim
/-- lo, lo + 1, .. -/
def rangeD (lo : Int) : Nat → List D
  | 0 => []
  | n + 1 => .int lo :: rangeD (lo + 1) n
theorem rangeD_len : ∀ (n : Nat) (lo : Int), (rangeD lo n).length = n
  | 0, _ => rfl
  | n + 1, lo => congrArg Nat.succ (rangeD_len n (lo + 1))
theorem rangeD_get : ∀ (n : Nat) (lo : Int) (i : Nat), i < n → (rangeD lo n)[i]? = some (.int (lo + i))
  | 0, _, _, h => absurd h (Nat.not_lt_zero _)
  | n + 1, lo, 0, _ => by simp [rangeD]
  | n + 1, lo, i + 1, h => by
    have q := rangeD_get n (lo + 1) i (by omega)
    show (rangeD (lo + 1) n)[i]? = _
    rw [q]
    congr 2
    omega
theorem yl_range {lo : Int} {n : Nat} (hn : n ≤ sizeLine) : YL K F0 (Itr lo n) (rangeD lo n) where
  small := by rw [rangeD_len]; exact hn
  go := fun i H F s1 s2 hi => by rw [rangeD_len] at hi; exact hi
  yld := fun i H F x H' s1 s2 hi y => by
    rw [rangeD_len] at hi
    obtain ⟨e, y⟩ := y
    subst e y
    exact ⟨F, _, rangeD_get n lo i hi, fun b => Step.refl b, .int _⟩
  stop := fun i H F s1 s2 hi => by rw [rangeD_len] at hi; exact hi
def iR1 (f : DTA) : DTI := fun ρ q => f ρ fun ds => match ds with
  | [.int j] => (-1000000000 ≤ j ∧ j ≤ 16777216) ∧ q (rangeD 0 j.toNat)
  | _ => False
def iR2 (f : DTA) : DTI := fun ρ q => f ρ fun ds => match ds with
  | [.int i, .int j] => (-1000000000 ≤ i ∧ i ≤ 1000000000 ∧ -1000000000 ≤ j ∧ j - i ≤ 16777216) ∧ q (rangeD i (j - i).toNat)
  | _ => False
theorem Vws.one {K : PySem.W.Frag} {w : Option Addr} {F H : Hp} {vs : List V} {d : D} (h : Vws K w F H vs [d]) : ∃ v, vs = [v] ∧ Vw K w F H v d := by
  cases h with
  | cons h r => cases r; exact ⟨_, rfl, h⟩
theorem Vws.two {K : PySem.W.Frag} {w : Option Addr} {F H : Hp} {vs : List V} {d e : D} (h : Vws K w F H vs [d, e]) : ∃ v u, vs = [v, u] ∧ Vw K w F H v d ∧ Vw K w F H u e := by
  cases h with
  | cons h r => cases r with
    | cons h2 r => cases r; exact ⟨_, _, rfl, h, h2⟩
theorem Vws.three {K : PySem.W.Frag} {w : Option Addr} {F H : Hp} {vs : List V} {d e f : D} (h : Vws K w F H vs [d, e, f]) : ∃ v u x, vs = [v, u, x] ∧ Vw K w F H v d ∧ Vw K w F H u e ∧ Vw K w F H x f := by
  cases h with
  | cons h r => cases r with
    | cons h2 r => cases r with
      | cons h3 r => cases r; exact ⟨_, _, _, rfl, h, h2, h3⟩
theorem pui_range1 {ta : TA} {fa : DTA} (ha : PuV B ta fa) : PuI B (iRng1 ta) (iR1 fa) := fun σ H F ρ R q e hf k => ha σ H F ρ _ _ e hf fun ds vs H1 F1 h1 s1 r1 => by
  split at h1
  · rename_i j
    obtain ⟨v, rfl, hv⟩ := r1.one
    rw [hv.int]
    exact ⟨j, rfl, by omega, by omega, k _ H1 F1 _ h1.2 s1 (yl_range (by rw [sizeLine_eq]; omega))⟩
  · exact h1.elim
theorem pui_range2 {ta : TA} {fa : DTA} (ha : PuV B ta fa) : PuI B (iRng2 ta) (iR2 fa) := fun σ H F ρ R q e hf k => ha σ H F ρ _ _ e hf fun ds vs H1 F1 h1 s1 r1 => by
  split at h1
  · rename_i i j
    obtain ⟨v, u, rfl, hv, hu⟩ := r1.two
    rw [hv.int, hu.int]
    obtain ⟨⟨a1, a2, a0, a3⟩, a4⟩ := h1
    exact ⟨i, j, rfl, by omega, k _ H1 F1 _ a4 s1 (yl_range (by rw [sizeLine_eq]; omega))⟩
  · exact h1.elim
/-- lo, lo + c, .. -/
def rangeC (lo c : Int) : Nat → List D
  | 0 => []
  | n + 1 => .int lo :: rangeC (lo + c) c n
theorem rangeC_len (c : Int) : ∀ (n : Nat) (lo : Int), (rangeC lo c n).length = n
  | 0, _ => rfl
  | n + 1, lo => congrArg Nat.succ (rangeC_len c n (lo + c))
theorem rangeC_get (c : Int) : ∀ (n : Nat) (lo : Int) (i : Nat), i < n → (rangeC lo c n)[i]? = some (.int (lo + (i : Nat) * c))
  | 0, _, _, h => absurd h (Nat.not_lt_zero _)
  | n + 1, lo, 0, _ => by simp [rangeC]
  | n + 1, lo, i + 1, h => by
    have q := rangeC_get c n (lo + c) i (by omega)
    show (rangeC (lo + c) c n)[i]? = _
    rw [q]
    have z : ((i + 1 : Nat) : Int) * c = (i : Int) * c + c := by
      rw [Int.natCast_add, Int.add_mul]
      simp
    congr 2
    rw [z]
    omega
theorem yl_rangeC {lo c : Int} {n : Nat} (hn : n ≤ sizeLine) : YL K F0 (Itc lo c n) (rangeC lo c n) where
  small := by rw [rangeC_len]; exact hn
  go := fun i H F s1 s2 hi => by rw [rangeC_len] at hi; exact hi
  yld := fun i H F x H' s1 s2 hi y => by
    rw [rangeC_len] at hi
    obtain ⟨e, y⟩ := y
    subst e y
    exact ⟨F, _, rangeC_get c n lo i hi, fun b => Step.refl b, .int _⟩
  stop := fun i H F s1 s2 hi => by rw [rangeC_len] at hi; exact hi
/-- range(i, j, -1) -/
def iR3 (f : DTA) : DTI := fun ρ q => f ρ fun ds => match ds with
  | [.int i, .int j, .int c] => c = -1 ∧ (-1000000000 ≤ i ∧ i ≤ 1000000000 ∧ -1000000000 ≤ j ∧ j ≤ 1000000000 ∧ i - j ≤ 16777216) ∧ q (rangeC i (-1) (i - j).toNat)
  | _ => False
theorem pui_range3 {ta : TA} {fa : DTA} (ha : PuV B ta fa) : PuI B (iRng3 ta) (iR3 fa) := fun σ H F ρ R q e hf k => ha σ H F ρ _ _ e hf fun ds vs H1 F1 h1 s1 r1 => by
  split at h1
  · rename_i i j c
    obtain ⟨v, u, x, rfl, hv, hu, hx⟩ := r1.three
    rw [hv.int, hu.int, hx.int]
    obtain ⟨rfl, a3, a4⟩ := h1
    exact ⟨i, j, -1, _, rfl, RgC.neg (by omega) (by omega) (by omega) (by omega), k _ H1 F1 _ a4 s1 (yl_rangeC (by rw [sizeLine_eq]; omega))⟩
  · exact h1.elim
end
end DL

/-! DL: operations and built-ins by data. -/
namespace DL
open PySem PySem.Spec PyProof.Rows L2

/-! ### operators -/
section
variable {X : Cx}
def rAddX (K : PySem.W.Frag) : R2 := fun x y H Q => rI0 (fun i j => .int (i + j)) x y H Q ∨ (∃ i j, x = .str i ∧ y = .str j ∧ i.length + j.length ≤ sizeLine ∧ Q (.str (i ++ j)) H) ∨ rCat x y H Q ∨ rCatA K x y H Q
theorem op_addX : OpR X (binaryOp .Add) (rAddX X.K) :=
  op_add.or (op_add_str.or (op_cat.or op_catA))
def rMulX : R2 := fun x y H Q => rI CMul (fun i j => .int (i * j)) x y H Q ∨ rRep x y H Q
theorem op_mulX : OpR X (binaryOp .Mult) rMulX := op_mul.or op_rep
def rLtX (K : PySem.W.Frag) : R2 := fun x y H Q => rI0 (fun i j => .bl (decide (i < j))) x y H Q ∨ rLtT K x y H Q
theorem op_ltX (hu : X.A.units < cLine) : OpR X (compareOp .Lt) (rLtX X.K) := op_lt.or (op_ltT hu)
def rInX (K : PySem.W.Frag) : R2 := fun x y H Q => (∃ (c : Nat) (z : Str), x = .str ⟨#[c]⟩ ∧ y = .str z ∧ Q (.bl (decide (c ∈ z.cps.toList))) H) ∨ rIn K false x y H Q
theorem op_inX : OpR X (compareOp .In) (rInX X.K) := op_in_sign.or op_in_seq
def rNinX (K : PySem.W.Frag) : R2 := fun x y H Q => (∃ (c : Nat) (z : Str), x = .str ⟨#[c]⟩ ∧ y = .str z ∧ Q (.bl (!decide (c ∈ z.cps.toList))) H) ∨ rIn K true x y H Q
theorem op_ninX : OpR X (compareOp .NotIn) (rNinX X.K) := op_notIn_sign.or op_notIn_seq
end
def intsD : List D → Option (List Int)
  | [] => some []
  | .int i :: r => (intsD r).map (i :: ·)
  | _ => none
theorem intsD_some : ∀ {ds : List D} {ns : List Int}, intsD ds = some ns → ds = ns.map .int
  | [], _, h => by cases h; rfl
  | .int i :: r, ns, h => by
    cases e : intsD r with
    | none => simp [intsD, e] at h
    | some ms =>
      simp [intsD, e] at h
      subst h
      rw [intsD_some e]
      rfl
  | .none :: _, _, h => by simp [intsD] at h
  | .bool _ :: _, _, h => by simp [intsD] at h
  | .str _ :: _, _, h => by simp [intsD] at h
  | .list _ :: _, _, h => by simp [intsD] at h
  | .tuple _ :: _, _, h => by simp [intsD] at h
  | .dict _ :: _, _, h => by simp [intsD] at h
theorem intsD_map : ∀ ns : List Int, intsD (ns.map .int) = some ns
  | [] => rfl
  | n :: ns => by simp [intsD, intsD_map ns]
def boolsD : List D → Option (List Bool)
  | [] => some []
  | .bool i :: r => (boolsD r).map (i :: ·)
  | _ => none
theorem boolsD_some : ∀ {ds : List D} {ns : List Bool}, boolsD ds = some ns → ds = ns.map .bool
  | [], _, h => by cases h; rfl
  | .bool i :: r, ns, h => by
    cases e : boolsD r with
    | none => simp [boolsD, e] at h
    | some ms =>
      simp [boolsD, e] at h
      subst h
      rw [boolsD_some e]
      rfl
  | .none :: _, _, h => by simp [boolsD] at h
  | .int _ :: _, _, h => by simp [boolsD] at h
  | .str _ :: _, _, h => by simp [boolsD] at h
  | .list _ :: _, _, h => by simp [boolsD] at h
  | .tuple _ :: _, _, h => by simp [boolsD] at h
  | .dict _ :: _, _, h => by simp [boolsD] at h
theorem boolsD_map : ∀ ns : List Bool, boolsD (ns.map .bool) = some ns
  | [] => rfl
  | n :: ns => by simp [boolsD, boolsD_map ns]

def dAdd : D → D → (D → Prop) → Prop
  | .int i, .int j, q => q (.int (i + j))
  | .str a, .str b, q => a.length + b.length ≤ sizeLine ∧ q (.str (a ++ b))
  | .list a, .list b, q => a.length + b.length ≤ sizeLine ∧ q (.list (a ++ b))
  | .tuple a, .tuple b, q => a.length + b.length ≤ sizeLine ∧ q (.tuple (a ++ b))
  | _, _, _ => False
def dSub : D → D → (D → Prop) → Prop
  | .int i, .int j, q => q (.int (i - j))
  | _, _, _ => False
def dMul : D → D → (D → Prop) → Prop
  | .int i, .int j, q => CMul i j ∧ q (.int (i * j))
  | .list a, .int k, q => (-1000 ≤ k ∧ k ≤ 1000 ∧ a.length * k.toNat ≤ sizeLine) ∧ q (.list (List.replicate k.toNat a).flatten)
  | _, _, _ => False
def dMod : D → D → (D → Prop) → Prop
  | .int i, .int j, q => 0 < j ∧ q (.int (i % j))
  | _, _, _ => False
def dFdiv : D → D → (D → Prop) → Prop
  | .int i, .int j, q => (0 < j ∧ j < 1073741824) ∧ q (.int (i / j))
  | _, _, _ => False
def dPow : D → D → (D → Prop) → Prop
  | .int i, .int j, q => (0 ≤ j ∧ j ≤ 1000000 ∧ i.natAbs < 2 ^ 64) ∧ q (.int (i ^ j.toNat))
  | _, _, _ => False
def dNeg : D → (D → Prop) → Prop
  | .int i, q => q (.int (-i))
  | _, _ => False
def dLt : D → D → (D → Prop) → Prop
  | .int i, .int j, q => q (.bool (decide (i < j)))
  | .tuple a, .tuple b, q => (match intsD a, intsD b with
    | some ns, some ms => q (.bool (HT.lexLt ns ms))
    | _, _ => False)
  | _, _, _ => False
def dCmp (p : Int → Int → Bool) : D → D → (D → Prop) → Prop
  | .int i, .int j, q => q (.bool (p i j))
  | _, _, _ => False
def dEq : D → D → (D → Prop) → Prop := fun d e q => (d.depth ≤ 64 ∧ e.depth ≤ 64) ∧ q (.bool (PyData.eqv d e))
def dNe : D → D → (D → Prop) → Prop := fun d e q => (d.depth ≤ 64 ∧ e.depth ≤ 64) ∧ q (.bool (!PyData.eqv d e))
def isNoneD : D → Bool
  | .none => true
  | _ => false
def dIs : D → D → (D → Prop) → Prop
  | d, .none, q => q (.bool (isNoneD d))
  | _, _, _ => False
def dIsNot : D → D → (D → Prop) → Prop
  | d, .none, q => q (.bool (!isNoneD d))
  | _, _, _ => False
def flatD : D → Bool
  | .none => true
  | .bool _ => true
  | .int _ => true
  | .str _ => true
  | _ => false
def dIn : D → D → (D → Prop) → Prop
  | .str x, .str z, q => (match x.cps.toList with
    | [c] => q (.bool (decide (c ∈ z.cps.toList)))
    | _ => False)
  | d, .list es, q => (flatD d = true ∧ es.all flatD = true) ∧ q (.bool (es.any fun y => PyData.eqv y d))
  | d, .tuple es, q => (flatD d = true ∧ es.all flatD = true) ∧ q (.bool (es.any fun y => PyData.eqv y d))
  | _, _, _ => False
def dNotIn : D → D → (D → Prop) → Prop := fun d e q => dIn d e fun z => match z with
  | .bool b => q (.bool (!b))
  | _ => False
def dIx : D → D → (D → Prop) → Prop
  | .list ds, .int i, q => (match atI ds i with
    | some d => q d
    | none => False)
  | .tuple ds, .int i, q => (match atI ds i with
    | some d => q d
    | none => False)
  | .str z, .int i, q => (match atI z.cps.toList i with
    | some c => q (.str ⟨#[c]⟩)
    | none => False)
  | _, _, _ => False
section
variable {B : Bx} {K : PySem.W.Frag} {w : Option Addr} {F H : Hp}
theorem sizes1 {c : Nat} : (⟨#[c]⟩ : Str).length ≤ sizeLine := by
  show 1 ≤ sizeLine
  rw [sizeLine_eq]; omega
theorem strOk_app {x y : Str} (a : strOk x = true) (c : strOk y = true) : strOk (x ++ y) = true := by
  unfold strOk PyData.strOk at *
  rw [Str.cps_append, Array.all_append, a, c]
  rfl
theorem strOk_one {x : Str} {c : Nat} (a : strOk x = true) (h : c ∈ x.cps.toList) : strOk ⟨#[c]⟩ = true := by
  unfold strOk PyData.strOk at *
  rw [← Array.all_toList, List.all_eq_true] at a
  have q := a c h
  simpa using q
theorem v_add : R2ok B (rAddX B.K) dAdd := fun H F x y d e Q q b vx vy hg k => by
  unfold dAdd at hg
  split at hg
  · rw [vx.int, vy.int]
    exact .inl ⟨_, _, rfl, rfl, k _ _ H F hg (Step.refl b) (.int _)⟩
  · rename_i s t
    obtain ⟨rfl, _, o1⟩ := vx.str
    obtain ⟨rfl, _, o2⟩ := vy.str
    exact .inr (.inl ⟨_, _, rfl, rfl, hg.1, k _ _ H F hg.2 (Step.refl b) (.str _ (by rw [Str.length_append]; exact hg.1) (strOk_app o1 o2))⟩)
  · rename_i a c
    obtain ⟨p, vs, rfl, hp, l, r⟩ := vx.list b.fh
    obtain ⟨p2, vs2, rfl, hp2, l2, r2⟩ := vy.list b.fh
    refine .inr (.inr (.inl ⟨p, p2, vs, vs2, rfl, rfl, hp, hp2, by rw [r.length, r2.length]; exact hg.1, fun n hn => ?_⟩))
    have s2 : Step B.w H F (upd H n (.lst (vs ++ vs2))) (upd F n (.lst (vs ++ vs2))) := Step.laid b hn
    exact k _ _ _ _ hg.2 s2 (.lst upd_same (by rw [List.length_append, r.length, r2.length]; exact hg.1) ((r.append r2).mono s2.ff))
  · rename_i a c
    obtain ⟨p, vs, rfl, hp, l, r⟩ := vx.tuple
    obtain ⟨p2, vs2, rfl, hp2, l2, r2⟩ := vy.tuple
    refine .inr (.inr (.inr ⟨p, p2, vs, vs2, rfl, rfl, Same.sqt b.fh hp, Same.sqt b.fh hp2, by rw [r.length, r2.length]; exact hg.1, fun z => ?_, fun _ z => ?_, fun _ _ n hn => ?_⟩))
    · subst z
      cases r
      exact k _ _ H F hg.2 (Step.refl b) (.tup hp2 l2 r2)
    · subst z
      cases r2
      exact k _ _ H F hg.2 (Step.refl b) (.tup hp l (by simpa using r))
    · have s2 : Step B.w H F (upd H n (.tup (vs ++ vs2))) (upd F n (.tup (vs ++ vs2))) := Step.laid b hn
      exact k _ _ _ _ hg.2 s2 (.tup (SqT.of upd_same) (by rw [List.length_append, r.length, r2.length]; exact hg.1) ((r.append r2).mono s2.ff))
  · exact hg.elim
theorem v_int2 {h : Int → Int → Int} {g : D → D → (D → Prop) → Prop} (hi : ∀ i j q, g (.int i) (.int j) q → q (.int (h i j))) (hn : ∀ d e q, g d e q → ∃ i j, d = .int i ∧ e = .int j) : R2ok B (rI0 fun i j => .int (h i j)) g := fun H F x y d e Q q b vx vy hg k => by
  obtain ⟨i, j, rfl, rfl⟩ := hn d e q hg
  rw [vx.int, vy.int]
  exact ⟨_, _, rfl, rfl, k _ _ H F (hi i j q hg) (Step.refl b) (.int _)⟩
theorem v_intC {C : Int → Int → Prop} {h : Int → Int → Int} {g : D → D → (D → Prop) → Prop} (hi : ∀ i j q, g (.int i) (.int j) q → C i j ∧ q (.int (h i j))) (hn : ∀ d e q, g d e q → ∃ i j, d = .int i ∧ e = .int j) : R2ok B (rI C fun i j => .int (h i j)) g := fun H F x y d e Q q b vx vy hg k => by
  obtain ⟨i, j, rfl, rfl⟩ := hn d e q hg
  rw [vx.int, vy.int]
  exact ⟨_, _, rfl, rfl, (hi i j q hg).1, k _ _ H F (hi i j q hg).2 (Step.refl b) (.int _)⟩
theorem v_sub : R2ok B (rI0 fun i j => .int (i - j)) dSub := v_int2 (fun _ _ _ h => h) fun d e q h => by
  unfold dSub at h
  split at h
  · exact ⟨_, _, rfl, rfl⟩
  · exact h.elim
theorem v_mod : R2ok B (rI (fun _ j => 0 < j) fun i j => .int (i % j)) dMod := v_intC (fun _ _ _ h => h) fun d e q h => by
  unfold dMod at h
  split at h
  · exact ⟨_, _, rfl, rfl⟩
  · exact h.elim
theorem v_fdiv : R2ok B (rI CDiv fun i j => .int (i / j)) dFdiv := v_intC (fun _ _ _ h => h) fun d e q h => by
  unfold dFdiv at h
  split at h
  · exact ⟨_, _, rfl, rfl⟩
  · exact h.elim
theorem v_pow : R2ok B (rI CPow fun i j => .int (i ^ j.toNat)) dPow := v_intC (fun _ _ _ h => h) fun d e q h => by
  unfold dPow at h
  split at h
  · exact ⟨_, _, rfl, rfl⟩
  · exact h.elim
theorem v_mul : R2ok B rMulX dMul := fun H F x y d e Q q b vx vy hg k => by
  unfold dMul at hg
  split at hg
  · rw [vx.int, vy.int]
    exact .inl ⟨_, _, rfl, rfl, hg.1, k _ _ H F hg.2 (Step.refl b) (.int _)⟩
  · rename_i a c
    obtain ⟨p, vs, rfl, hp, l, r⟩ := vx.list b.fh
    rw [vy.int]
    obtain ⟨⟨h1, h2, h3⟩, h4⟩ := hg
    have hlen : ((List.replicate c.toNat vs).flatten).length ≤ sizeLine := by
      rw [RDs.length (r.rep c.toNat), List.length_flatten]
      simp only [List.map_replicate, List.sum_replicate_nat]
      rw [Nat.mul_comm]; exact h3
    refine .inr ⟨p, c, vs, rfl, rfl, hp, by omega, by omega, by rw [r.length]; exact h3, fun n hn => ?_⟩
    have s2 : Step B.w H F (upd H n (.lst (List.replicate c.toNat vs).flatten)) (upd F n (.lst (List.replicate c.toNat vs).flatten)) := Step.laid b hn
    exact k _ _ _ _ h4 s2 (.lst upd_same hlen ((r.rep _).mono s2.ff))
  · exact hg.elim
theorem v_neg : R1ok B (rU fun i => .int (-i)) dNeg := fun H F x d Q q b vx hg k => by
  unfold dNeg at hg
  split at hg
  · rw [vx.int]
    exact ⟨_, rfl, k _ _ H F hg (Step.refl b) (.int _)⟩
  · exact hg.elim
theorem v_cmp {p : Int → Int → Bool} : R2ok B (rI0 fun i j => .bl (p i j)) (dCmp p) := fun H F x y d e Q q b vx vy hg k => by
  unfold dCmp at hg
  split at hg
  · rw [vx.int, vy.int]
    exact ⟨_, _, rfl, rfl, k _ _ H F hg (Step.refl b) (.bl _)⟩
  · exact hg.elim
theorem v_lt : R2ok B (rLtX B.K) dLt := fun H F x y d e Q q b vx vy hg k => by
  unfold dLt at hg
  split at hg
  · rw [vx.int, vy.int]
    exact .inl ⟨_, _, rfl, rfl, k _ _ H F hg (Step.refl b) (.bl _)⟩
  · split at hg
    · rename_i ns ms e1 e2
      obtain ⟨p, vs, rfl, hp, l, r⟩ := vx.tuple
      obtain ⟨p2, vs2, rfl, hp2, l2, r2⟩ := vy.tuple
      rw [intsD_some e1] at r
      rw [intsD_some e2] at r2
      rw [r.ints] at hp
      rw [r2.ints] at hp2
      exact .inr ⟨p, p2, ns, ms, rfl, rfl, Same.sqt b.fh hp, Same.sqt b.fh hp2, k _ _ H F hg (Step.refl b) (.bl _)⟩
    · exact hg.elim
  · exact hg.elim
theorem v_eq : R2ok B (rEqD B.K) dEq := fun H F x y d e Q q b vx vy hg k => ⟨d, e, vx.dp b.fh, vy.dp b.fh, vx.shaped b.fh hg.1.1, vy.shaped b.fh hg.1.2, k _ _ H F hg.2 (Step.refl b) (.bl _)⟩
theorem v_ne : R2ok B (rNeD B.K) dNe := fun H F x y d e Q q b vx vy hg k => ⟨d, e, vx.dp b.fh, vy.dp b.fh, vx.shaped b.fh hg.1.1, vy.shaped b.fh hg.1.2, k _ _ H F hg.2 (Step.refl b) (.bl _)⟩
theorem Vw.isN {v : V} {d : D} (h : Vw K w F H v d) : decide (v = .non) = isNoneD d := by
  rcases h with h | ⟨p, vs, ds, rfl, rfl, _⟩
  · cases h <;> rfl
  · rfl
theorem v_is : R2ok B (fun x y H Q => y = .non ∧ Q (.bl (decide (x = .non))) H) dIs := fun H F x y d e Q q b vx vy hg k => by
  unfold dIs at hg
  split at hg
  · exact ⟨vy.none, by rw [vx.isN]; exact k _ _ H F hg (Step.refl b) (.bl _)⟩
  · exact hg.elim
theorem v_isnot : R2ok B (fun x y H Q => y = .non ∧ Q (.bl (!decide (x = .non))) H) dIsNot := fun H F x y d e Q q b vx vy hg k => by
  unfold dIsNot at hg
  split at hg
  · exact ⟨vy.none, by rw [vx.isN]; exact k _ _ H F hg (Step.refl b) (.bl _)⟩
  · exact hg.elim
theorem RD.flat {v : V} {d : D} (h : RD K F v d) : flatV v = flatD d := by
  cases h <;> rfl
theorem RDs.flat : ∀ {vs : List V} {ds : List D}, RDs K F vs ds → vs.all flatV = ds.all flatD
  | _, _, .nil => rfl
  | _, _, .cons h r => by rw [List.all_cons, List.all_cons, RD.flat h, RDs.flat r]
theorem RD.eqf {v u : V} {d e : D} (h : RD K F v d) (r : RD K F u e) (f : flatD d = true) (g : flatD e = true) : eqV v u = PyData.eqv d e := by
  cases h <;> first
    | (cases f; done)
    | (cases r <;> first
        | (cases g; done)
        | (simp [eqV, PyData.eqv]; done))
theorem RDs.anyf {v : V} {d : D} (h : RD K F v d) (f : flatD d = true) : ∀ {vs : List V} {ds : List D}, RDs K F vs ds → ds.all flatD = true → inV v vs = ds.any fun y => PyData.eqv y d
  | _, _, .nil, _ => rfl
  | _, _, .cons h1 r, g => by
    rw [List.all_cons, Bool.and_eq_true] at g
    have ih := RDs.anyf h f r g.2
    unfold inV at ih ⊢
    rw [List.any_cons, List.any_cons, h1.eqf h g.1 f, ih]
theorem Vw.rd {v : V} {d : D} (h : Vw K w F H v d) (f : flatD d = true) : RD K F v d := by
  rcases h with h | ⟨p, vs, ds, rfl, rfl, _⟩
  · exact h
  · cases f
theorem in_core {neg : Bool} {x y : V} {d e : D} {Q : VK} {q : D → Prop} (b : Base w H F) (vx : Vw K w F H x d) (vy : Vw K w F H y e)
    (hg : dIn d e q) (k : ∀ c : Bool, q (.bool c) → Q (.bl (if neg then !c else c)) H) : (∃ (c : Nat) (z : Str), x = .str ⟨#[c]⟩ ∧ y = .str z ∧ Q (.bl (if neg then !decide (c ∈ z.cps.toList) else decide (c ∈ z.cps.toList))) H) ∨ rIn K neg x y H Q := by
  unfold dIn at hg
  split at hg
  · rename_i s z
    obtain ⟨rfl, _⟩ := vx.str
    obtain ⟨rfl, _⟩ := vy.str
    split at hg
    · rename_i c hc
      have es : s = ⟨#[c]⟩ := by
        obtain ⟨a⟩ := s
        obtain ⟨l⟩ := a
        have : l = [c] := hc
        subst this
        rfl
      exact .inl ⟨c, z, by rw [es], rfl, k _ hg⟩
    · exact hg.elim
  · rename_i es
    obtain ⟨p, vs, rfl, hp, l, r⟩ := vy.list b.fh
    have rx := vx.rd hg.1.1
    exact .inr ⟨p, vs, rfl, .inl (SqL.of hp), by rw [rx.flat]; exact hg.1.1, by rw [r.flat]; exact hg.1.2, by rw [RDs.anyf rx hg.1.1 r hg.1.2]; exact k _ hg.2⟩
  · rename_i es
    obtain ⟨p, vs, rfl, hp, l, r⟩ := vy.tuple
    have rx := vx.rd hg.1.1
    exact .inr ⟨p, vs, rfl, .inr (Same.sqt b.fh hp), by rw [rx.flat]; exact hg.1.1, by rw [r.flat]; exact hg.1.2, by rw [RDs.anyf rx hg.1.1 r hg.1.2]; exact k _ hg.2⟩
  · exact hg.elim
theorem v_in : R2ok B (rInX B.K) dIn := fun H F x y d e Q q b vx vy hg k =>
  in_core (neg := false) b vx vy hg fun c hc => k _ _ H F hc (Step.refl b) (.bl _)
theorem v_notin : R2ok B (rNinX B.K) dNotIn := fun H F x y d e Q q b vx vy hg k =>
  in_core (neg := true) b vx vy hg fun c hc => k _ _ H F hc (Step.refl b) (.bl _)
theorem atI_mem {α : Type} {xs : List α} {i : Int} {c : α} (h : atI xs i = some c) : c ∈ xs := by
  unfold atI at h
  cases e : ixN xs.length i with
  | none => rw [e] at h; cases h
  | some j =>
    rw [e] at h
    exact List.mem_of_getElem? h
theorem RDs.at {vs : List V} {ds : List D} {i : Int} {d : D} (r : RDs K F vs ds) (h : atI ds i = some d) : ∃ v, atI vs i = some v ∧ RD K F v d := by
  unfold atI at h ⊢
  rw [r.length]
  cases e : ixN ds.length i with
  | none => rw [e] at h; cases h
  | some j =>
    rw [e] at h
    exact r.get h
theorem v_ix : R2ok B (rIx B.K) dIx := fun H F x y d e Q q b vx vy hg k => by
  unfold dIx at hg
  split at hg
  · rename_i ds i
    split at hg
    · rename_i d hd
      obtain ⟨p, vs, rfl, hp, l, r⟩ := vx.list b.fh
      rw [vy.int]
      obtain ⟨v, hv, rv⟩ := r.at hd
      exact .inl ⟨p, vs, i, v, rfl, rfl, SqL.of hp, hv, k _ _ H F hg (Step.refl b) rv⟩
    · exact hg.elim
  · rename_i ds i
    split at hg
    · rename_i d hd
      obtain ⟨p, vs, rfl, hp, l, r⟩ := vx.tuple
      rw [vy.int]
      obtain ⟨v, hv, rv⟩ := r.at hd
      exact .inr (.inl ⟨p, vs, i, v, rfl, rfl, Same.sqt b.fh hp, hv, k _ _ H F hg (Step.refl b) rv⟩)
    · exact hg.elim
  · rename_i z i
    split at hg
    · rename_i c hc
      obtain ⟨rfl, hz, oz⟩ := vx.str
      rw [vy.int]
      exact .inr (.inr ⟨z, i, c, rfl, rfl, hz, hc, k _ _ H F hg (Step.refl b) (.str _ sizes1 (strOk_one oz (atI_mem hc)))⟩)
    · exact hg.elim
  · exact hg.elim
end
end DL

/-! DL: built-ins, slices, walks, own objects changed, defs. -/
namespace DL
open PySem PySem.Spec PyProof.Rows L2

section
variable {B : Bx} {K : PySem.W.Frag} {w : Option Addr} {F H F0 : Hp}
/-! ### len, isinstance, all, any, max, min, tuple, list, int -/
def gLen : List D → (SV → Prop) → Prop
  | [.str y], q => q (.dat (.int y.length))
  | [.list ds], q => q (.dat (.int ds.length))
  | [.tuple ds], q => q (.dat (.int ds.length))
  | _, _ => False
def rLenX (K : PySem.W.Frag) : List V → Hp → VK → Prop := fun xs H Q => ∃ x n, xs = [x] ∧ LenV K x H n ∧ Q (.int n) H
theorem call_lenX {X : Cx} : CallR X (.builtin "len") (rLenX X.K) := call_len
theorem l_len : RLok B (rLenX B.K) gLen := fun H F xs ds Q q b vx hg k => by
  unfold gLen at hg
  split at hg
  · obtain ⟨v, rfl, hv⟩ := vx.one
    obtain ⟨rfl, hz, _⟩ := hv.str
    exact ⟨_, _, rfl, ⟨hz, rfl⟩, k _ _ H F hg (Step.refl b) (.int _)⟩
  · obtain ⟨v, rfl, hv⟩ := vx.one
    obtain ⟨p, vs, rfl, hp, l, r⟩ := hv.list b.fh
    exact ⟨_, vs.length, rfl, .inl ⟨vs, SqL.of hp, rfl⟩, by rw [r.length]; exact k _ _ H F hg (Step.refl b) (.int _)⟩
  · obtain ⟨v, rfl, hv⟩ := vx.one
    obtain ⟨p, vs, rfl, hp, l, r⟩ := hv.tuple
    exact ⟨_, vs.length, rfl, .inr ⟨vs, Same.sqt b.fh hp, rfl⟩, by rw [r.length]; exact k _ _ H F hg (Step.refl b) (.int _)⟩
  · exact hg.elim
def tyD : D → String
  | .none => "NoneType"
  | .bool _ => "bool"
  | .int _ => "int"
  | .str _ => "str"
  | .list _ => "list"
  | .tuple _ => "tuple"
  | .dict _ => "dict"
theorem Vw.ty {v : V} {d : D} (b : Base w H F) (h : Vw K w F H v d) : TyX K H v (.type (tyD d)) := by
  rcases h with h | ⟨p, vs, ds, rfl, rfl, n, h, _⟩
  · cases h with
    | non => exact .base .non
    | bl _ => exact .base (.bl _)
    | int _ => exact .base (.int _)
    | str _ _ _ => exact .base (.str _)
    | lst h l r => exact .base (.lst (b.fh _ _ h))
    | tup h l r =>
      rcases Same.sqt b.fh h with (z | ⟨o, z⟩) | ⟨o, its, n, z, c, _⟩
      · exact .base (.tup z)
      · exact .fTuple z
      · exact .kTuple z c
  · exact .base (.lst h)
def dIsi (p : D → Bool) (fa : DTE) : DTE := fun ρ q => fa ρ fun d => q (.bool (p d))
theorem pu_isi {n : String} {p : D → Bool} {ta : TE} {fa : DTE} (hp : ∀ d, kitB (tyD d) n = some (p d)) (ha : PuP B ta fa) : PuE B (tCB (rIsi B.K) (tCons ta (tCons (tC (.ty n)) tNil))) (dIsi p fa) := fun σ H F ρ Q q e hf k =>
  ha σ H F ρ _ _ e hf fun d v H1 F1 h1 s1 r1 => ⟨v, .ty n, _, _, _, rfl, .ty n, r1.ty (e.base.step s1), kit_ty (hp d), k _ _ H1 F1 h1 s1 (.bl _)⟩
def isIntD : D → Bool
  | .int _ => true
  | .bool _ => true
  | _ => false
def isBoolD : D → Bool
  | .bool _ => true
  | _ => false
def isStrD : D → Bool
  | .str _ => true
  | _ => false
def isTupD : D → Bool
  | .tuple _ => true
  | _ => false
def isListD : D → Bool
  | .list _ => true
  | _ => false
theorem kit_int : ∀ d, kitB (tyD d) "int" = some (isIntD d) := fun d => by cases d <;> (simp only [tyD, isIntD]; decide +kernel)
theorem kit_bool : ∀ d, kitB (tyD d) "bool" = some (isBoolD d) := fun d => by cases d <;> (simp only [tyD, isBoolD]; decide +kernel)
theorem kit_str : ∀ d, kitB (tyD d) "str" = some (isStrD d) := fun d => by cases d <;> (simp only [tyD, isStrD]; decide +kernel)
theorem kit_tup : ∀ d, kitB (tyD d) "tuple" = some (isTupD d) := fun d => by cases d <;> (simp only [tyD, isTupD]; decide +kernel)
theorem kit_list : ∀ d, kitB (tyD d) "list" = some (isListD d) := fun d => by cases d <;> (simp only [tyD, isListD]; decide +kernel)
def gAll : List D → (SV → Prop) → Prop
  | [.list ds], q => (match boolsD ds with
    | some bs => q (.dat (.bool (bs.all id)))
    | none => False)
  | _, _ => False
def gAny : List D → (SV → Prop) → Prop
  | [.list ds], q => (match boolsD ds with
    | some bs => q (.dat (.bool (bs.any id)))
    | none => False)
  | _, _ => False
theorem l_all : RLok B (rAll B.K) gAll := fun H F xs ds Q q b vx hg k => by
  unfold gAll at hg
  split at hg
  · split at hg
    · rename_i bs e
      obtain ⟨v, rfl, hv⟩ := vx.one
      obtain ⟨p, vs, rfl, hp, l, r⟩ := hv.list b.fh
      rw [boolsD_some e] at r
      rw [r.bools] at hp
      exact ⟨p, bs, rfl, SqL.of hp, k _ _ H F hg (Step.refl b) (.bl _)⟩
    · exact hg.elim
  · exact hg.elim
theorem l_any : RLok B (rAny B.K) gAny := fun H F xs ds Q q b vx hg k => by
  unfold gAny at hg
  split at hg
  · split at hg
    · rename_i bs e
      obtain ⟨v, rfl, hv⟩ := vx.one
      obtain ⟨p, vs, rfl, hp, l, r⟩ := hv.list b.fh
      rw [boolsD_some e] at r
      rw [r.bools] at hp
      exact ⟨p, bs, rfl, SqL.of hp, k _ _ H F hg (Step.refl b) (.bl _)⟩
    · exact hg.elim
  · exact hg.elim
def mxI : List Int → Int
  | [] => 0
  | [x] => x
  | x :: r => max x (mxI r)
def mnI : List Int → Int
  | [] => 0
  | [x] => x
  | x :: r => min x (mnI r)
theorem mxI_of : ∀ {ns : List Int} {m : Int}, m ∈ ns → (∀ y, y ∈ ns → y ≤ m) → mxI ns = m
  | [x], m, h, _ => by simp at h; rw [h]; rfl
  | x :: y :: r, m, h, u => by
    have hx := u x (by simp)
    show max x (mxI (y :: r)) = m
    by_cases e : m ∈ y :: r
    · rw [mxI_of e fun z hz => u z (List.mem_cons_of_mem _ hz)]
      omega
    · have em : m = x := by
        rcases List.mem_cons.mp h with z | z
        · exact z
        · exact absurd z e
      have hm : ∀ (l : List Int), l ≠ [] → mxI l ∈ l := by
        intro l
        induction l with
        | nil => intro z; exact absurd rfl z
        | cons a l ih =>
          intro _
          cases l with
          | nil => simp [mxI]
          | cons c l =>
            have q := ih (by simp)
            show max a (mxI (c :: l)) ∈ _
            rcases Int.le_total a (mxI (c :: l)) with z | z
            · rw [Int.max_eq_right z]; exact List.mem_cons_of_mem _ q
            · rw [Int.max_eq_left z]; simp
      have q := u _ (List.mem_cons_of_mem x (hm (y :: r) (by simp)))
      omega
theorem mnI_of : ∀ {ns : List Int} {m : Int}, m ∈ ns → (∀ y, y ∈ ns → m ≤ y) → mnI ns = m
  | [x], m, h, _ => by simp at h; rw [h]; rfl
  | x :: y :: r, m, h, u => by
    have hx := u x (by simp)
    show min x (mnI (y :: r)) = m
    by_cases e : m ∈ y :: r
    · rw [mnI_of e fun z hz => u z (List.mem_cons_of_mem _ hz)]
      omega
    · have em : m = x := by
        rcases List.mem_cons.mp h with z | z
        · exact z
        · exact absurd z e
      have hm : ∀ (l : List Int), l ≠ [] → mnI l ∈ l := by
        intro l
        induction l with
        | nil => intro z; exact absurd rfl z
        | cons a l ih =>
          intro _
          cases l with
          | nil => simp [mnI]
          | cons c l =>
            have q := ih (by simp)
            show min a (mnI (c :: l)) ∈ _
            rcases Int.le_total a (mnI (c :: l)) with z | z
            · rw [Int.min_eq_left z]; simp
            · rw [Int.min_eq_right z]; exact List.mem_cons_of_mem _ q
      have q := u _ (List.mem_cons_of_mem x (hm (y :: r) (by simp)))
      omega
def gMax : List D → (SV → Prop) → Prop
  | [.list ds], q => (match intsD ds with
    | some ns => ns ≠ [] ∧ q (.dat (.int (mxI ns)))
    | none => False)
  | _, _ => False
def gMin : List D → (SV → Prop) → Prop
  | [.list ds], q => (match intsD ds with
    | some ns => ns ≠ [] ∧ q (.dat (.int (mnI ns)))
    | none => False)
  | _, _ => False
theorem l_max : RLok B (rMax B.K) gMax := fun H F xs ds Q q b vx hg k => by
  unfold gMax at hg
  split at hg
  · split at hg
    · rename_i ns e
      obtain ⟨v, rfl, hv⟩ := vx.one
      obtain ⟨p, vs, rfl, hp, l, r⟩ := hv.list b.fh
      rw [intsD_some e] at r
      rw [r.ints] at hp
      exact ⟨p, ns, rfl, SqL.of hp, List.length_pos_iff.mpr hg.1, fun m h1 h2 => by rw [← mxI_of h1 h2]; exact k _ _ H F hg.2 (Step.refl b) (.int _)⟩
    · exact hg.elim
  · exact hg.elim
theorem l_min : RLok B (rMin B.K) gMin := fun H F xs ds Q q b vx hg k => by
  unfold gMin at hg
  split at hg
  · split at hg
    · rename_i ns e
      obtain ⟨v, rfl, hv⟩ := vx.one
      obtain ⟨p, vs, rfl, hp, l, r⟩ := hv.list b.fh
      rw [intsD_some e] at r
      rw [r.ints] at hp
      exact ⟨p, ns, rfl, SqL.of hp, List.length_pos_iff.mpr hg.1, fun m h1 h2 => by rw [← mnI_of h1 h2]; exact k _ _ H F hg.2 (Step.refl b) (.int _)⟩
    · exact hg.elim
  · exact hg.elim
def gMax2 : List D → (SV → Prop) → Prop
  | [.int i, .int j], q => q (.dat (.int (max i j)))
  | _, _ => False
def gMin2 : List D → (SV → Prop) → Prop
  | [.int i, .int j], q => q (.dat (.int (min i j)))
  | _, _ => False
theorem l_max2 : RLok B (fun xs H Q => ∃ i j, xs = [.int i, .int j] ∧ Q (.int (if j > i then j else i)) H) gMax2 := fun H F xs ds Q q b vx hg k => by
  unfold gMax2 at hg
  split at hg
  · rename_i i j
    obtain ⟨v, u, rfl, hv, hu⟩ := vx.two
    rw [hv.int, hu.int]
    refine ⟨i, j, rfl, ?_⟩
    have e : (if j > i then j else i) = max i j := by
      split <;> omega
    rw [e]
    exact k _ _ H F hg (Step.refl b) (.int _)
  · exact hg.elim
theorem l_min2 : RLok B (fun xs H Q => ∃ i j, xs = [.int i, .int j] ∧ Q (.int (if j < i then j else i)) H) gMin2 := fun H F xs ds Q q b vx hg k => by
  unfold gMin2 at hg
  split at hg
  · rename_i i j
    obtain ⟨v, u, rfl, hv, hu⟩ := vx.two
    rw [hv.int, hu.int]
    refine ⟨i, j, rfl, ?_⟩
    have e : (if j < i then j else i) = min i j := by
      split <;> omega
    rw [e]
    exact k _ _ H F hg (Step.refl b) (.int _)
  · exact hg.elim
def gTuple : List D → (SV → Prop) → Prop
  | [.list ds], q => q (.dat (.tuple ds))
  | [.tuple ds], q => q (.dat (.tuple ds))
  | _, _ => False
def rTupX (K : PySem.W.Frag) : List V → Hp → VK → Prop := fun xs H Q => ∃ p ys, xs = [.ref p] ∧ ((SqL K H p ys ∧ ∀ l, H l = none → Q (.ref l) (upd H l (.tup ys))) ∨ (SqT K H p ys ∧ Q (.ref p) H))
theorem call_tupX {X : Cx} : CallR X (.type "tuple") (rTupX X.K) := call_tuple_of
theorem l_tuple : RLok B (rTupX B.K) gTuple := fun H F xs ds Q q b vx hg k => by
  unfold gTuple at hg
  split at hg
  · obtain ⟨v, rfl, hv⟩ := vx.one
    obtain ⟨p, vs, rfl, hp, l, r⟩ := hv.list b.fh
    refine ⟨p, vs, rfl, .inl ⟨SqL.of hp, fun n hn => ?_⟩⟩
    have s2 : Step B.w H F (upd H n (.tup vs)) (upd F n (.tup vs)) := Step.laid b hn
    exact k _ _ _ _ hg s2 (.tup (SqT.of upd_same) l (r.mono s2.ff))
  · obtain ⟨v, rfl, hv⟩ := vx.one
    obtain ⟨p, vs, rfl, hp, l, r⟩ := hv.tuple
    exact ⟨p, vs, rfl, .inr ⟨Same.sqt b.fh hp, k _ _ H F hg (Step.refl b) (.tup hp l r)⟩⟩
  · exact hg.elim
def gList : List D → (SV → Prop) → Prop
  | [.list ds], q => q (.own ds)
  | [.tuple ds], q => q (.own ds)
  | _, _ => False
def rListX (K : PySem.W.Frag) : List V → Hp → VK → Prop := fun xs H Q => ∃ p ys, xs = [.ref p] ∧ (SqL K H p ys ∨ SqT K H p ys) ∧ ∀ l, H l = none → Q (.ref l) (upd H l (.lst ys))
theorem call_listX {X : Cx} : CallR X (.type "list") (rListX X.K) := call_list_of
theorem l_list : RLok B (rListX B.K) gList := fun H F xs ds Q q b vx hg k => by
  unfold gList at hg
  split at hg
  · obtain ⟨v, rfl, hv⟩ := vx.one
    obtain ⟨p, vs, rfl, hp, l, r⟩ := hv.list b.fh
    exact ⟨p, vs, rfl, .inl (SqL.of hp), fun n hn => k _ _ _ F hg (Step.loose b hn) ⟨n, vs, rfl, hn, b.fh.free hn, upd_same, l, r⟩⟩
  · obtain ⟨v, rfl, hv⟩ := vx.one
    obtain ⟨p, vs, rfl, hp, l, r⟩ := hv.tuple
    exact ⟨p, vs, rfl, .inr (Same.sqt b.fh hp), fun n hn => k _ _ _ F hg (Step.loose b hn) ⟨n, vs, rfl, hn, b.fh.free hn, upd_same, l, r⟩⟩
  · exact hg.elim
def gInt : List D → (SV → Prop) → Prop
  | [.int i], q => q (.dat (.int i))
  | [.bool b], q => q (.dat (.int (if b then 1 else 0)))
  | _, _ => False
theorem l_int : RLok B (fun xs H Q => (∃ i, xs = [.int i] ∧ Q (.int i) H) ∨ ∃ k, xs = [.bl k] ∧ Q (.int (if k then 1 else 0)) H) gInt := fun H F xs ds Q q b vx hg k => by
  unfold gInt at hg
  split at hg
  · obtain ⟨v, rfl, hv⟩ := vx.one
    rw [hv.int]
    exact .inl ⟨_, rfl, k _ _ H F hg (Step.refl b) (.int _)⟩
  · obtain ⟨v, rfl, hv⟩ := vx.one
    rw [hv.bool]
    exact .inr ⟨_, rfl, k _ _ H F hg (Step.refl b) (.int _)⟩
  · exact hg.elim

/-! ### slices -/
def cutD (xs : List D) (lo hi : Option Int) : List D := (xs.drop (HT.sIx xs.length 0 lo)).take (HT.sIx xs.length xs.length hi - HT.sIx xs.length 0 lo)
theorem RDs.cut {vs : List V} {ds : List D} (r : RDs K F vs ds) (lo hi : Option Int) : RDs K F (cutV vs lo hi) (cutD ds lo hi) := by
  unfold cutV cutD
  rw [r.length]
  exact (r.drop _).take _
abbrev DTO := List SV → (Option Int → Prop) → Prop
def PuO (B : Bx) (t : TO) (f : DTO) : Prop := ∀ (σ : L2.St) (H F : Hp) (ρ : List SV) (Q : Option Int → Hp → Prop) (q : Option Int → Prop), Env B σ H F ρ → f ρ q →
  (∀ o H' F', q o → Step B.w H F H' F' → Q o H') → t σ H Q
def oNo : DTO := fun _ q => q none
def oSome (f : DTE) : DTO := fun ρ q => f ρ fun d => match d with
  | .int i => q (some i)
  | _ => False
theorem puo_none : PuO B tNoPart oNo := fun σ H F ρ Q q e hf k => k none H F hf (Step.refl e.base)
theorem puo_some {te : TE} {fe : DTE} (he : PuE B te fe) : PuO B (tPart te) (oSome fe) := fun σ H F ρ Q q e hf k => he σ H F ρ _ _ e hf fun d v H1 F1 h1 s1 r1 => by
  cases d with
  | int i =>
    cases r1
    exact ⟨i, rfl, k _ H1 F1 h1 s1⟩
  | _ => exact h1.elim
def rSlX (K : PySem.W.Frag) : V → Option Int → Option Int → Hp → VK → Prop := fun x lo hi H Q => rSlL K x lo hi H Q ∨ rSlA K x lo hi H Q
theorem sl_X {X : Cx} : SlR X (rSlX X.K) := sl_list.or sl_tupA
def xSl (f : DTE) (l h : DTO) : DTX := fun ρ q => f ρ fun d => l ρ fun lo => h ρ fun hi => match d with
  | .list ds => q (.own (cutD ds lo hi))
  | .tuple ds => q (.dat (.tuple (cutD ds lo hi)))
  | _ => False
theorem cut_whole {xs : List D} {lo hi : Option Int} (h : HT.sIx xs.length 0 lo = 0 ∧ HT.sIx xs.length xs.length hi = xs.length) : cutD xs lo hi = xs := by
  unfold cutD
  rw [h.1, h.2]
  simp
theorem pu_slice {te : TE} {fe : DTE} {tl th : TO} {fl fh : DTO} (he : PuP B te fe) (hl : PuO B tl fl) (hh : PuO B th fh) : PuX B (tSl (rSlX B.K) te tl th) (xSl fe fl fh) := fun σ H F ρ Q q e hf k =>
  he σ H F ρ _ _ e hf fun d v H1 F1 h1 s1 r1 => hl σ H1 F1 ρ _ _ (e.step s1) h1 fun lo H2 F2 h2 s2 => hh σ H2 F2 ρ _ _ ((e.step s1).step s2) h2 fun hi H3 F3 h3 s3 => by
    have st := (s1.trans e.base s2).trans e.base s3
    have b3 := e.base.step st
    have r3 := (r1.step s2).step s3
    cases d with
    | list ds =>
      obtain ⟨p, vs, rfl, hp, l, r⟩ := r3.list b3.fh
      refine .inl ⟨p, vs, rfl, SqL.of hp, fun n hn => ?_⟩
      exact k _ _ _ F3 h3 (st.trans e.base (Step.loose b3 hn)) ⟨n, _, rfl, st.free e.base hn, b3.fh.free hn, upd_same, Nat.le_trans (cutV_length _ _ _) l, r.cut lo hi⟩
    | tuple ds =>
      obtain ⟨p, vs, rfl, hp, l, r⟩ := r3.tuple
      refine .inr ⟨p, vs, rfl, Same.sqt b3.fh hp, fun z => ?_, fun _ n hn => ?_⟩
      · rw [r.length] at z
        have h4 : q (.dat (.tuple (cutD ds lo hi))) := h3
        rw [cut_whole z] at h4
        exact k _ _ H3 F3 h4 st (.tup hp l r)
      · have s4 : Step B.w H3 F3 (upd H3 n (.tup (cutV vs lo hi))) (upd F3 n (.tup (cutV vs lo hi))) := Step.laid b3 hn
        exact k _ _ _ _ h3 (st.trans e.base s4) (.tup (SqT.of upd_same) (Nat.le_trans (cutV_length _ _ _) l) ((r.cut lo hi).mono s4.ff))
    | _ => exact h3.elim
def xRev (f : DTE) : DTX := fun ρ q => f ρ fun d => match d with
  | .list ds => q (.own ds.reverse)
  | _ => False
theorem pu_revL {te : TE} {fe : DTE} (he : PuP B te fe) : PuX B (tRevL B.K te) (xRev fe) := fun σ H F ρ Q q e hf k => he σ H F ρ _ _ e hf fun d v H1 F1 h1 s1 r1 => by
  cases d with
  | list ds =>
    have b1 := e.base.step s1
    obtain ⟨p, vs, rfl, hp, l, r⟩ := r1.list b1.fh
    exact ⟨p, vs, rfl, SqL.of hp, fun n hn => k _ _ _ F1 h1 (s1.trans e.base (Step.loose b1 hn)) ⟨n, _, rfl, s1.free e.base hn, b1.fh.free hn, upd_same, by rw [List.length_reverse]; exact l, r.reverse⟩⟩
  | _ => exact h1.elim

/-! ### a text, sign by sign; enumerate; zip -/
def signsD (x : Str) : List D := x.cps.toList.map fun c => .str ⟨#[c]⟩
theorem yl_str {x : Str} (h : x.length ≤ sizeLine) (g : strOk x = true) : YL K F0 (Its x) (signsD x) where
  small := by
    unfold signsD
    rw [List.length_map, Array.length_toList]
    exact h
  go := fun i H F s1 s2 hi => by
    unfold signsD at hi
    rw [List.length_map, Array.length_toList] at hi
    exact hi
  yld := fun i H F v H' s1 s2 hi y => by
    obtain ⟨e, c, hc, rfl⟩ := y
    subst e
    have hm : c ∈ x.cps.toList := List.mem_of_getElem? (by rw [Array.getElem?_toList]; exact hc)
    refine ⟨F, .str ⟨#[c]⟩, ?_, fun b => Step.refl b, .str _ sizes1 (strOk_one g hm)⟩
    unfold signsD
    rw [List.getElem?_map, Array.getElem?_toList, hc]
    rfl
  stop := fun i H F s1 s2 hi => by
    unfold signsD at hi
    rw [List.length_map, Array.length_toList] at hi
    exact hi
def iStrD (f : DTE) : DTI := fun ρ q => f ρ fun d => match d with
  | .str x => q (signsD x)
  | _ => False
theorem pui_str {te : TE} {fe : DTE} (he : PuE B te fe) : PuI B (iStr te) (iStrD fe) := fun σ H F ρ R q e hf k => he σ H F ρ _ _ e hf fun d v H1 F1 h1 s1 r1 => by
  cases d with
  | str x =>
    cases r1 with
    | str x l g => exact ⟨x, rfl, k _ H1 F1 _ h1 s1 (yl_str l g)⟩
  | _ => exact h1.elim
def enumD : Nat → List D → List D
  | _, [] => []
  | i, d :: ds => .tuple [.int (i : Nat), d] :: enumD (i + 1) ds
theorem enumD_len : ∀ (ds : List D) (i : Nat), (enumD i ds).length = ds.length
  | [], _ => rfl
  | d :: ds, i => congrArg Nat.succ (enumD_len ds (i + 1))
theorem enumD_get : ∀ (ds : List D) (j i : Nat) (d : D), ds[i]? = some d → (enumD j ds)[i]? = some (.tuple [.int ((j + i : Nat) : Int), d])
  | [], _, _, _, h => by simp at h
  | a :: ds, j, 0, d, h => by simp at h; subst h; simp [enumD]
  | a :: ds, j, i + 1, d, h => by
    have q := enumD_get ds (j + 1) i d (by simpa using h)
    show (enumD (j + 1) ds)[i]? = _
    rw [q]
    congr 5
    omega
theorem pair_rd {v u : V} {d e : D} {p : Addr} (hp : F p = none) (r : RD K F v d) (r2 : RD K F u e) : RD K (upd F p (.tup [v, u])) (.ref p) (.tuple [d, e]) := by
  have s : Same F (upd F p (.tup [v, u])) := fun c o e => by rw [upd_ne (ne_of_none e hp)]; exact e
  exact .tup (SqT.of upd_same) (by show 2 ≤ sizeLine; rw [sizeLine_eq]; omega) (.cons (r.mono s) (.cons (r2.mono s) .nil))
theorem yl_enum {a : Addr} {vs : List V} {ds : List D} (h : F0 a = some (.lst vs)) (l : vs.length ≤ sizeLine) (r : RDs K F0 vs ds) : YL K F0 (Ite K a) (enumD 0 ds) where
  small := by rw [enumD_len, ← r.length]; exact l
  go := fun i H F s1 s2 hi => by
    rw [enumD_len] at hi
    have hi' : i < vs.length := by rw [r.length]; exact hi
    exact ⟨vs, vs[i], SqL.of (s2 _ _ (s1 _ _ h)), List.getElem?_eq_getElem hi'⟩
  yld := fun i H F x H' s1 s2 hi y => by
    obtain ⟨p, z, rfl, hp, rfl, y⟩ := y
    obtain ⟨d, h1, h2⟩ := r.getV (y vs (SqL.of (s2 _ _ (s1 _ _ h))))
    refine ⟨upd F p (.tup [.int (i : Nat), z]), _, enumD_get ds 0 i d h1, fun b => Step.laid b hp, ?_⟩
    rw [Nat.zero_add]
    exact pair_rd (s2.free hp) (.int _) (h2.mono s1)
  stop := fun i H F s1 s2 hi => by
    rw [enumD_len] at hi
    exact ⟨vs, SqL.of (s2 _ _ (s1 _ _ h)), by rw [r.length]; exact hi⟩
def iEnumD (f : DTA) : DTI := fun ρ q => f ρ fun ds => match ds with
  | [.list ds] => q (enumD 0 ds)
  | _ => False
theorem RDs.one {vs : List V} {d : D} (h : RDs K F vs [d]) : ∃ v, vs = [v] ∧ RD K F v d := by
  cases h with
  | cons h r => cases r; exact ⟨_, rfl, h⟩
theorem RDs.two {vs : List V} {d e : D} (h : RDs K F vs [d, e]) : ∃ v u, vs = [v, u] ∧ RD K F v d ∧ RD K F u e := by
  cases h with
  | cons h r => cases r with
    | cons h2 r => cases r; exact ⟨_, _, rfl, h, h2⟩
theorem pui_enum {ta : TA} {fa : DTA} (ha : PuA B ta fa) : PuI B (iEnum B.K ta) (iEnumD fa) := fun σ H F ρ R q e hf k => ha σ H F ρ _ _ e hf fun ds vs H1 F1 h1 s1 r1 => by
  split at h1
  · obtain ⟨v, rfl, hv⟩ := r1.one
    cases hv with
    | lst h l r => exact ⟨_, _, rfl, SqL.of (s1.fh _ _ h), k _ H1 F1 _ h1 s1 (yl_enum h l r)⟩
  · exact h1.elim
def zipD : List D → List D → List D
  | a :: as, c :: cs => .tuple [a, c] :: zipD as cs
  | _, _ => []
theorem zipD_len : ∀ (xs ys : List D), (zipD xs ys).length = min xs.length ys.length
  | [], _ => by simp [zipD]
  | _ :: _, [] => by simp [zipD]
  | a :: as, c :: cs => by simp [zipD, zipD_len as cs]
theorem zipD_get : ∀ (xs ys : List D) (i : Nat) (d e : D), xs[i]? = some d → ys[i]? = some e → (zipD xs ys)[i]? = some (.tuple [d, e])
  | [], _, _, _, _, h, _ => by simp at h
  | _ :: _, [], _, _, _, _, h => by simp at h
  | a :: as, c :: cs, 0, d, e, h, g => by simp at h g; subst h g; simp [zipD]
  | a :: as, c :: cs, i + 1, d, e, h, g => zipD_get as cs i d e (by simpa using h) (by simpa using g)
theorem yl_zip {a c : Addr} {vs us : List V} {ds es : List D} (h : F0 a = some (.lst vs)) (h2 : F0 c = some (.lst us)) (l : vs.length ≤ sizeLine) (r : RDs K F0 vs ds) (r2 : RDs K F0 us es) : YL K F0 (Itz K a c) (zipD ds es) where
  small := by
    rw [zipD_len, ← r.length]
    exact Nat.le_trans (Nat.min_le_left _ _) l
  go := fun i H F s1 s2 hi => by
    rw [zipD_len] at hi
    have hi' : i < vs.length := by rw [r.length]; omega
    have hi2 : i < us.length := by rw [r2.length]; omega
    exact ⟨vs, us, vs[i], us[i], SqL.of (s2 _ _ (s1 _ _ h)), SqL.of (s2 _ _ (s1 _ _ h2)), List.getElem?_eq_getElem hi', List.getElem?_eq_getElem hi2⟩
  yld := fun i H F x H' s1 s2 hi y => by
    obtain ⟨p, z, z2, rfl, hp, rfl, y, y2⟩ := y
    obtain ⟨d, h3, h4⟩ := r.getV (y vs (SqL.of (s2 _ _ (s1 _ _ h))))
    obtain ⟨e, h5, h6⟩ := r2.getV (y2 us (SqL.of (s2 _ _ (s1 _ _ h2))))
    exact ⟨upd F p (.tup [z, z2]), _, zipD_get ds es i d e h3 h5, fun b => Step.laid b hp, pair_rd (s2.free hp) (h4.mono s1) (h6.mono s1)⟩
  stop := fun i H F s1 s2 hi => by
    rw [zipD_len] at hi
    exact ⟨vs, us, SqL.of (s2 _ _ (s1 _ _ h)), SqL.of (s2 _ _ (s1 _ _ h2)), by rw [r.length, r2.length]; omega⟩
def iZipD (f : DTA) : DTI := fun ρ q => f ρ fun ds => match ds with
  | [.list ds, .list es] => q (zipD ds es)
  | _ => False
theorem pui_zip {ta : TA} {fa : DTA} (ha : PuA B ta fa) : PuI B (iZip B.K ta) (iZipD fa) := fun σ H F ρ R q e hf k => ha σ H F ρ _ _ e hf fun ds vs H1 F1 h1 s1 r1 => by
  split at h1
  · obtain ⟨v, u, rfl, hv, hu⟩ := r1.two
    cases hv with
    | lst h l r =>
      cases hu with
      | lst h2 l2 r2 => exact ⟨_, _, _, _, rfl, SqL.of (s1.fh _ _ h), SqL.of (s1.fh _ _ h2), k _ H1 F1 _ h1 s1 (yl_zip h h2 l r r2)⟩
  · exact h1.elim
end
end DL

/-! DL: own lists changed; defs and their calls. -/
namespace DL
open PySem PySem.Spec PyProof.Rows L2

section
variable {B : Bx} {σ : L2.St} {H F : Hp} {ρ : List SV}
/-- an own object changed where it stands -/
theorem Env.change (e : Env B σ H F ρ) {i : Nat} {p : Addr} {s x : SV} {o : HO} (hs : ρ[i]? = some s) (m : s.mu = true) (hv : σ[i]? = some (some (V.ref p))) (ow : Own B F p) (ok : SVok B F (upd H p o) p (some (some (V.ref p))) x) (ho : ∀ xs, o ≠ .tup xs := by intro _ z; cases z) :
    Env B σ (upd H p o) F (ρ.set i x) := by
  have q := e.putMu (i := i) (o := o) (x := x) ow.f ow.h0 ow.w (fun j u hu mu hj z => ?_) ok ho
  · have es : σ.set i (some (V.ref p)) = σ := by
      obtain ⟨h1, h2⟩ := List.getElem?_eq_some_iff.mp hv
      rw [← h2]
      exact List.set_getElem_self _
    rw [es] at q
    exact q
  · obtain ⟨ad, h1, h2⟩ := e.sl
    have mus : ∀ j s, ρ[j]? = some s → s.mu = true → σ[j]? = some (some (V.ref (ad j))) := fun j s q m => by
      have z := h1 j s q
      cases s <;> first
        | exact z.1
        | cases m
    have a1 := mus i s hs m
    have a2 := mus j u hu mu
    rw [hv] at a1
    rw [z] at a2
    have b1 : p = ad i := by simpa using a1
    have b2 : p = ad j := by simpa using a2
    exact h2 j i u s hu hs mu m hj (by rw [← b1, ← b2])
theorem Env.own (e : Env B σ H F ρ) {i : Nat} {xs : List D} (h : ρ[i]? = some (.own xs)) : ∃ p vs, σ[i]? = some (some (V.ref p)) ∧ Own B F p ∧ H p = some (.lst vs) ∧ vs.length ≤ sizeLine ∧ RDs B.K F vs xs := by
  obtain ⟨ad, h1, _⟩ := e.sl
  obtain ⟨a, b, vs, c⟩ := h1 i _ h
  exact ⟨_, vs, a, b, c⟩
def gAppend (i : Nat) (fe : DTE) : DTS := fun E ρ => match ρ[i]? with
  | some (.own xs) => fe ρ fun d => xs.length < sizeLine ∧ E.nx (ρ.set i (.own (xs ++ [d])))
  | _ => False
theorem pu_append (i : Nat) {te : TE} {fe : DTE} (he : PuE B te fe) : PuS B (tDrop (tBM B.K "list" rAppend (tVar i) (tCons te tNil))) (gAppend i fe) := fun σ H F ρ De E e hg n r b c => by
  unfold gAppend at hg
  split at hg
  · rename_i xs hx
    obtain ⟨p, vs, hv, ow, hp, l, rr⟩ := e.own hx
    refine ⟨_, hv, .inl ⟨rfl, _, SqL.of hp⟩, he σ H F ρ _ _ e hg fun d v H1 F1 h1 s1 r1 => ?_⟩
    have hp1 := s1.ex _ _ hp ow.w
    have e1 := e.step s1
    have ow1 : Own B F1 p := ⟨(s1.fr _ _ hp).trans ow.f, ow.h0, ow.w⟩
    have hlen : vs.length < sizeLine := by rw [rr.length]; exact h1.1
    refine ⟨p, vs, v, rfl, rfl, hp1, hlen, ?_⟩
    exact n _ _ F1 _ h1.2 s1.ff (e1.change hx rfl hv ow1 ⟨rfl, ow1, vs ++ [v], upd_same, by rw [List.length_append]; exact hlen, (rr.mono s1.ff).append (.cons r1 .nil)⟩)
  · exact hg.elim
def gPop (i j : Nat) : DTS := fun E ρ => match ρ[i]? with
  | some (.own xs) => (match xs[xs.length - 1]? with
    | some d => E.nx ((ρ.set i (.own xs.dropLast)).set j (.dat d))
    | none => False)
  | _ => False
theorem RDs.dropLast {K : PySem.W.Frag} {vs : List V} {ds : List D} (r : RDs K F vs ds) : RDs K F vs.dropLast ds.dropLast := by
  rw [List.dropLast_eq_take, List.dropLast_eq_take, r.length]
  exact r.take _
theorem pu_pop (i j : Nat) : PuS B (tAsg (tBM0 B.K "list" rPop (tVar i)) (gName j)) (gPop i j) := fun σ H F ρ De E e hg n r b c => by
  unfold gPop at hg
  split at hg
  · rename_i xs hx
    obtain ⟨p, vs, hv, ow, hp, l, rr⟩ := e.own hx
    split at hg
    · rename_i d hd
      rw [← rr.length] at hd
      obtain ⟨v, h1, h2⟩ := rr.get hd
      refine ⟨_, hv, .inl ⟨rfl, _, SqL.of hp⟩, p, vs, v, rfl, rfl, hp, h1, ?_⟩
      have e1 : Env B σ (upd H p (.lst vs.dropLast)) F (ρ.set i (.own xs.dropLast)) := e.change hx rfl hv ow ⟨rfl, ow, _, upd_same, by rw [List.length_dropLast]; omega, rr.dropLast⟩
      exact n _ _ F _ hg (Same.refl _) (e1.put j h2)
    · exact hg.elim
  · exact hg.elim
def gPopAt (i : Nat) (fe : DTE) : DTS := fun E ρ => match ρ[i]? with
  | some (.own xs) => fe ρ fun d => match d with
    | .int k => (0 ≤ k ∧ k < xs.length) ∧ E.nx (ρ.set i (.own (xs.eraseIdx k.toNat)))
    | _ => False
  | _ => False
theorem seqIx_nat {k : Int} {n : Nat} (h0 : 0 ≤ k) (h1 : k < n) : seqIndex? k n = some k.toNat := by
  have e : ixN n k = some k.toNat := by
    unfold ixN
    rw [if_pos h0, if_pos h1]
  exact (ixN_seq e).1
theorem pu_popAt (i : Nat) {te : TE} {fe : DTE} (he : PuE B te fe) : PuS B (tDrop (tBM B.K "list" rPopAt (tVar i) (tCons te tNil))) (gPopAt i fe) := fun σ H F ρ De E e hg n r b c => by
  unfold gPopAt at hg
  split at hg
  · rename_i xs hx
    obtain ⟨p, vs, hv, ow, hp, l, rr⟩ := e.own hx
    refine ⟨_, hv, .inl ⟨rfl, _, SqL.of hp⟩, he σ H F ρ _ _ e hg fun d v H1 F1 h1 s1 r1 => ?_⟩
    have hp1 := s1.ex _ _ hp ow.w
    have e1 := e.step s1
    have ow1 : Own B F1 p := ⟨(s1.fr _ _ hp).trans ow.f, ow.h0, ow.w⟩
    cases d with
    | int k =>
      cases r1
      obtain ⟨⟨k0, k1⟩, h2⟩ := h1
      have hk : k.toNat < vs.length := by rw [rr.length]; omega
      have hz := sizeLine_eq
      refine ⟨p, vs, k, k.toNat, vs[k.toNat], rfl, rfl, hp1, by omega, by omega, seqIx_nat k0 (by omega), List.getElem?_eq_getElem hk, ?_⟩
      exact n _ _ F1 _ h2 s1.ff (e1.change hx rfl hv ow1 ⟨rfl, ow1, _, upd_same, Nat.le_trans (len_erase _ _) l, (rr.mono s1.ff).eraseIdx _⟩)
    | _ => exact h1.elim
  · exact hg.elim
def gInsert (i : Nat) (fa fe : DTE) : DTS := fun E ρ => match ρ[i]? with
  | some (.own xs) => fa ρ fun d => fe ρ fun d2 => match d with
    | .int k => (0 ≤ k ∧ k < 1000000 ∧ xs.length < sizeLine) ∧ E.nx (ρ.set i (.own (xs.take k.toNat ++ [d2] ++ xs.drop k.toNat)))
    | _ => False
  | _ => False
def rIns : V → List V → Hp → VK → Prop := fun x vs H Q => ∃ (l : Addr) (xs : List V) (i : Int) (y : V), x = .ref l ∧ vs = [.int i, y] ∧ H l = some (.lst xs) ∧ xs.length < sizeLine ∧ 0 ≤ i ∧ i < 2 ^ 63 ∧
    Q .non (upd H l (.lst (xs.take i.toNat ++ [y] ++ xs.drop i.toNat)))
theorem mt_ins {X : Cx} : MtR X "list.insert" rIns := mt_insert
theorem pu_insert (i : Nat) {ta te : TE} {fa fe : DTE} (ha : PuE B ta fa) (he : PuE B te fe) : PuS B (tDrop (tBM B.K "list" rIns (tVar i) (tCons ta (tCons te tNil)))) (gInsert i fa fe) := fun σ H F ρ De E e hg n r b c => by
  unfold gInsert at hg
  split at hg
  · rename_i xs hx
    obtain ⟨p, vs, hv, ow, hp, l, rr⟩ := e.own hx
    refine ⟨_, hv, .inl ⟨rfl, _, SqL.of hp⟩, ha σ H F ρ _ _ e hg fun d v H1 F1 h1 s1 r1 => he σ H1 F1 ρ _ _ (e.step s1) h1 fun d2 v2 H2 F2 h2 s2 r2 => ?_⟩
    have st := s1.trans e.base s2
    have hp2 := st.ex _ _ hp ow.w
    have e2 := e.step st
    have ow2 : Own B F2 p := ⟨(st.fr _ _ hp).trans ow.f, ow.h0, ow.w⟩
    cases d with
    | int k =>
      cases r1
      obtain ⟨⟨k0, k1, k2⟩, h3⟩ := h2
      have k2' : vs.length < sizeLine := by rw [rr.length]; exact k2
      refine ⟨p, vs, k, v2, rfl, rfl, hp2, k2', k0, by omega, ?_⟩
      have r3 := rr.mono st.ff
      refine n _ _ F2 _ h3 st.ff (e2.change hx rfl hv ow2 ⟨rfl, ow2, _, upd_same, ?_, ((r3.take _).append (.cons r2 .nil)).append (r3.drop _)⟩)
      simp only [List.length_append, List.length_take, List.length_drop, List.length_cons, List.length_nil]
      omega
    | _ => exact h2.elim
  · exact hg.elim
def gSetIx (i : Nat) (fe fk : DTE) : DTS := fun E ρ => fe ρ fun d => match ρ[i]? with
  | some (.own xs) => fk ρ fun z => match z with
    | .int k => (0 ≤ k ∧ k < xs.length) ∧ E.nx (ρ.set i (.own (xs.set k.toNat d)))
    | _ => False
  | _ => False
theorem pu_setIx (i : Nat) {te tk : TE} {fe fk : DTE} (he : PuE B te fe) (hk : PuE B tk fk) : PuS B (tAsg te (gSub (tVar i) tk rSetL)) (gSetIx i fe fk) := fun σ H F ρ De E e hg n r b c =>
  he σ H F ρ _ _ e hg fun d v H1 F1 h1 s1 r1 => by
    have e1 := e.step s1
    split at h1
    · rename_i xs hx
      obtain ⟨p, vs, hv, ow, hp, l, rr⟩ := e1.own hx
      refine ⟨_, hv, hk σ H1 F1 ρ _ _ e1 h1 fun z u H2 F2 h2 s2 r2 => ?_⟩
      have hp2 := s2.ex _ _ hp ow.w
      have e2 := e1.step s2
      have ow2 : Own B F2 p := ⟨(s2.fr _ _ hp).trans ow.f, ow.h0, ow.w⟩
      cases z with
      | int k =>
        cases r2
        obtain ⟨⟨k0, k1⟩, h3⟩ := h2
        have hk' : ixN vs.length k = some k.toNat := by
          unfold ixN
          rw [if_pos k0, if_pos (by rw [rr.length]; exact k1)]
        refine ⟨p, vs, k, k.toNat, rfl, rfl, hp2, hk', ?_⟩
        exact n _ _ F2 _ h3 (s1.ff.trans s2.ff) (e2.change hx rfl hv ow2 ⟨rfl, ow2, _, upd_same, by rw [List.length_set]; exact l, (rr.mono s2.ff).set (r1.mono s2.ff) _⟩)
      | _ => exact h2.elim
    · exact h1.elim
end

/-! ### defs -/
abbrev Spec := List SV → (SV → Prop) → Prop
def spA (K : PySem.W.Frag) (spec : Spec) : Sp := fun vs H Q _ => ∃ (w : Option Addr) (F : Hp) (ds : List SV) (q : SV → Prop), Base w H F ∧ RCs K w F vs ds ∧ spec ds q ∧ ∀ x v H' F', q x → Step w H F H' F' → NewV K H H' F' v x → Q v H'
def FunT (K : PySem.W.Frag) (mg : Str → Option Value) (x : Str) (st : Stmt) : Prop := ∃ f fd, mg x = some (.ref f) ∧ Fun K x x st f fd
structure FnD (P : Program) (w : World) (K : PySem.W.Frag) (mg : Str → Option Value) (base : Heap) (k : Nat) (x : Str) (ps : List Str) (spec : Spec) (f : Addr) (fd : FuncData) : Prop where
  mgf : mg x = some (.ref f)
  kp : PySem.W.keepIn K (.ref f) = true
  bd : Binds K fd ps []
  ok : FnOk P w K mg base CX0 k f fd ps (spA K spec)
def startD (N : List Str) (xs : List SV) : List SV := xs ++ List.replicate (N.length - xs.length) .un
section
variable {P : Program} {w : World} {K : PySem.W.Frag} {mg : Str → Option Value} {base : Heap}
theorem env_start {w' : Option Addr} {H F : Hp} {N : List Str} {vs : List V} {xs : List SV} (b : Base w' H F) (r : RCs K w' F vs xs) (hN : xs.length ≤ N.length) : Env ⟨K, w', H, F⟩ (L2.start N vs) H F (startD N xs) := by
  have mu : ∀ i s, (startD N xs)[i]? = some s → s.mu = false ∧ ((∃ v, vs[i]? = some v ∧ RC K w' F v s) ∨ s = .un) := fun i s h => by
    unfold startD at h
    by_cases hi : i < xs.length
    · rw [List.getElem?_append_left hi] at h
      obtain ⟨v, h1, h2⟩ := r.get h
      refine ⟨?_, .inl ⟨v, h1, h2⟩⟩
      cases s <;> first
        | rfl
        | exact h2.elim
    · rw [List.getElem?_append_right (by omega), List.getElem?_replicate] at h
      split at h
      · cases h; exact ⟨rfl, .inr rfl⟩
      · cases h
  refine ⟨b, Step.refl b, ?_, fun _ => 0, fun i s h => ?_, fun i j s u h1 h2 m1 m2 => ?_⟩
  · unfold startD L2.start
    rw [List.length_append, List.length_append, List.length_replicate, List.length_replicate, List.length_map, r.length]
  · obtain ⟨_, ⟨v, h1, h2⟩ | rfl⟩ := mu i s h
    · have hv : (L2.start N vs)[i]? = some (some v) := by
        unfold L2.start
        have hi : i < vs.length := (List.getElem?_eq_some_iff.mp h1).1
        rw [List.getElem?_append_left (by simpa using hi), List.getElem?_map, h1]
        rfl
      rw [hv]
      cases s with
      | dat d => exact ⟨v, rfl, h2⟩
      | wel =>
        obtain ⟨a, e1, e2⟩ := h2
        exact ⟨a, e1, by rw [e2]⟩
      | scr ns =>
        obtain ⟨a, e1, e2⟩ := h2
        exact ⟨a, by rw [e1], e2⟩
      | exn a c d x =>
        obtain ⟨e1, e2⟩ := h2
        exact ⟨by rw [e1], e2⟩
      | _ => exact h2.elim
    · trivial
  · have q := (mu i s h1).1
    rw [m1] at q
    cases q
/-- THE RULE for a def by data: its body's reading, by data; its promise -/
theorem fnD_ok {x : Str} {st : Stmt} {N ps : List Str} {k : Nat} {spec : Spec} {g : DTS} {f : Addr} {fd : FuncData} (mgf : mg x = some (.ref f)) (T : Fun K x x st f fd) (S : FnScope N ps (defScope st))
    (bd : ∀ (kV doc pm : Value) (an : Option Addr) (cdv ct : Value) (us : List Value), us.length = ps.length → bindArgs (PySem.W.fnOf x x (defArgs st) (defBody st) (defScope st) .none kV doc pm an cdv ct) ⟨us, []⟩ = pure (ps.zip us))
    (body : ∀ (cdv : Value) (A : Around) (outer : List PySem.Env) (s : Shared) (H : Hp) (E : XK), Room k (A.deeper (envOfC x (defScope st) s.heap.objs.size f cdv)) →
      ∃ t, PSs (cxOf CX0 P w K mg base N x (defScope st) f cdv A outer s H E).nox (defBody st) t ∧ ∀ (w' : Option Addr) (H0 F0 : Hp), PuS ⟨K, w', H0, F0⟩ t g)
    (len : ∀ ds q, spec ds q → ds.length = ps.length)
    (sem : ∀ ds q, spec ds q → g { nx := fun _ => q (.dat .none), rt := q } (startD N ds)) : FnD P w K mg base (k + 1) x ps spec f fd := by
  refine ⟨mgf, T.kp, T.binds bd, T.ok S (fun vs H Q E h => ?_) (fun cdv A outer s H vs Q E hr h => ?_)⟩
  · obtain ⟨w', F, ds, q, b, r, hs, _⟩ := h
    rw [r.length]
    exact len _ _ hs
  · obtain ⟨w', F, ds, q, b, r, hs, hk⟩ := h
    obtain ⟨t, h1, h2⟩ := body cdv A outer s H E hr
    refine ⟨t, h1, ?_⟩
    have hN : ds.length ≤ N.length := by
      rw [len _ _ hs]
      have := congrArg List.length S.pre
      rw [List.length_take] at this
      omega
    have e := env_start (N := N) b r hN
    exact h2 w' H F (L2.start N vs) H F (startD N ds) _ _ e (sem ds q hs) (fun σ' H' F' ρ' hq _ e' => hk (.dat .none) .non H' F' hq e'.st .non) (fun x v H' F' hx st nv => hk x v H' F' hx st nv) (fun σ' H' F' ρ' hq _ _ => hq.elim) fun σ' H' F' ρ' hq _ _ => hq.elim
end
/-- a call by a def's promise -/
def xCall (spec : Spec) (fa : DTC) : DTX := fun ρ q => fa ρ fun ds => spec ds q
theorem pu_call {B : Bx} {spec : Spec} {E : XK} {ta : TA} {fa : DTC} (ha : PuC B ta fa) : PuX B (tCall (spA B.K spec) [] E ta) (xCall spec fa) := fun σ H F ρ Q q e hf k =>
  ha σ H F ρ _ _ e hf fun ds vs H1 F1 h1 s1 r1 => by
    rw [List.append_nil]
    exact ⟨B.w, F1, ds, q, e.base.step s1, r1, h1, fun x v H' F' hx st nv => k x v H' F' hx (s1.trans e.base st) (nv.older e.base s1)⟩
end DL

/-! DL: rules of syntax that the layer lacks. -/
namespace DL
open PySem PySem.Spec PyProof.Rows L2
section
variable {X : Cx}
/-- a module's number, text -/
theorem pe_gint {x : Str} {i : Int} {pos : Pos} (hg : Gl X x) (hm : ∃ t, X.mg x = some (.int i t)) (hd : (x == ("__debug__" : Str)) = false := by decide) : PE X (.Name x pos) (tC (.int i)) :=
  let ⟨t, h⟩ := hm
  pe_glob hg h ⟨t, rfl⟩ hd
theorem pe_gstr {x y : Str} {pos : Pos} (hg : Gl X x) (hm : ∃ t, X.mg x = some (.str y t)) (hd : (x == ("__debug__" : Str)) = false := by decide) : PE X (.Name x pos) (tC (.str y)) :=
  let ⟨t, h⟩ := hm
  pe_glob hg h ⟨t, rfl⟩ hd
/-- a built-in class as a value -/
theorem pe_bty (n : String) {x : Str} {pos : Pos} (hg : Gl X x) (hm : X.mg x = none) (hv : bootBuiltins x = some (.type n)) (hn : x ≠ "__name__" := by decide) (hd : (x == ("__debug__" : Str)) = false := by decide) : PE X (.Name x pos) (tC (.ty n)) :=
  pe_bltn hg hm hv rfl hn hd
/-- a list, a tuple or a text, walked -/
def iSeq (K : PySem.W.Frag) (tl : TE) : TI := fun σ H R => tl σ H fun x H1 => (∃ a, x = .ref a ∧ (∃ xs, SqL K H1 a xs) ∧ R (Itl K a) H1) ∨ (∃ a, x = .ref a ∧ (∃ xs, SqT K H1 a xs) ∧ R (Itt K a) H1) ∨ ∃ z, x = .str z ∧ R (Its z) H1
theorem pi_seq {tg l : Expr} {tl : TE} (hl : PE X l tl) : PI X tg l (iSeq X.K tl) := by
  refine ⟨fun pins s σ H R I h => ?_⟩
  refine thn (hl.run pins s σ H _ I h) fun v s1 ⟨x, H1, I1, r1, q1⟩ => ?_
  -- each by its own rule, at an expression that is evaluated already
  rcases q1 with ⟨a, e, ⟨xs, hq⟩, q⟩ | ⟨a, e, ⟨xs, hq⟩, q⟩ | ⟨z, e, q⟩
  · subst e
    cases r1
    obtain ⟨its, rv, p, hz⟩ := I1.list hq
    refine wpAny_pyIter_list p.isList ⟨s1.heap.objs.size, [s1.heap.objs.size], _, _, H1, rfl, I1.kept (t' := s1.toks) fun b o e => Heap.get?_push_of_some _ e, turn_list a _, ⟨_, Heap.get?_push_size _ rfl, rfl, rfl⟩, fun b hb => ?_, q⟩
    obtain rfl : b = s1.heap.objs.size := by simpa using hb
    exact I1.fpOk (Nat.le_refl _) (I1.hok.fresh (Nat.le_refl _))
  · subst e
    cases r1
    obtain ⟨its, rv, p, hz⟩ := I1.tuple hq
    refine wpAny_pyIter_tuple (show s1.heap.IsTuple a its.toArray from p) ⟨s1.heap.objs.size, [s1.heap.objs.size], _, _, H1, rfl, I1.kept (t' := s1.toks) fun b o e => Heap.get?_push_of_some _ e, turn_tuple a _, ⟨_, Heap.get?_push_size _ rfl, rfl, rfl⟩, fun b hb => ?_, q⟩
    obtain rfl : b = s1.heap.objs.size := by simpa using hb
    exact I1.fpOk (Nat.le_refl _) (I1.hok.fresh (Nat.le_refl _))
  · subst e
    obtain ⟨t, rfl⟩ := r1
    cases ha : z.cps.all (· < 128) with
    | false => exact wpAny_pyIter_wide ha (pi_one (tg := tg) (tk := s1.toks) I1 _ (turn_str _ z t "str_iterator" (.inr rfl)) ⟨_, Heap.get?_push_size _ rfl, rfl, rfl⟩ q)
    | true => exact wpAny_pyIter_ascii ha (pi_one (tg := tg) (tk := s1.toks) I1 _ (turn_str _ z t "str_ascii_iterator" (.inl rfl)) ⟨_, Heap.get?_push_size _ rfl, rfl, rfl⟩ q)
end
/-! the same with the written part told by name (within a comprehension the context is not one for all turns) -/
section
variable {X : Cx} (K : PySem.W.Frag) (h : X.K = K)
include h
theorem op_addK : OpR X (binaryOp .Add) (rAddX K) := by subst h; exact op_addX
theorem op_ltK (hu : X.A.units < cLine) : OpR X (compareOp .Lt) (rLtX K) := by subst h; exact op_ltX hu
theorem op_inK : OpR X (compareOp .In) (rInX K) := by subst h; exact op_inX
theorem op_ninK : OpR X (compareOp .NotIn) (rNinX K) := by subst h; exact op_ninX
theorem op_eqK (hu : X.A.units + 64 < cLine) : OpR X (compareOp .Eq) (rEqD K) := by subst h; exact op_eqD hu
theorem op_neK (hu : X.A.units + 64 < cLine) : OpR X (compareOp .NotEq) (rNeD K) := by subst h; exact op_neD hu
theorem ix_K : IxR X (rIx K) := by subst h; exact ix_seq
theorem sl_K : SlR X (rSlX K) := by subst h; exact sl_X
theorem call_lenK : CallR X (.builtin "len") (rLenX K) := by subst h; exact call_lenX
theorem call_isiN : CallR X (.builtin "isinstance") (rIsi K) := by subst h; exact call_isi
theorem cr_allK (hc : X.calm = true) : CallR X (.builtin "all") (rAll K) := by subst h; exact cr_all hc
theorem cr_anyK (hc : X.calm = true) : CallR X (.builtin "any") (rAny K) := by subst h; exact cr_any hc
theorem cr_maxK (hc : X.calm = true) : CallR X (.builtin "max") (rMax K) := by subst h; exact cr_max hc
theorem cr_minK (hc : X.calm = true) : CallR X (.builtin "min") (rMin K) := by subst h; exact cr_min hc
theorem call_tupK : CallR X (.type "tuple") (rTupX K) := by subst h; exact call_tupX
theorem call_listK : CallR X (.type "list") (rListX K) := by subst h; exact call_listX
theorem pi_seqK {tg l : Expr} {tl : TE} (hl : PE X l tl) : PI X tg l (iSeq K tl) := by subst h; exact pi_seq hl
theorem pi_enumK {e : Expr} {ta : TA} {p pos tpos : Pos} {elts : List Expr} {kk : Nat} (hg : Gl X "enumerate") (hm : X.mg "enumerate" = none) (ha : PA X [e] ta) (hs : starEach [e] X.env = [(false, eval e X.env)] := by rfl) :
    PI X (.Tuple elts kk tpos) (.Call (.Name "enumerate" p) [e] [] pos) (iEnum K ta) := by subst h; exact pi_enum hg hm ha hs
theorem pg_tupK {es : List Expr} {k : Nat} {t : TGs} {n : Nat} {pos : Pos} (hc : X.calm = true) (hh : PGs X es t)
    (hn : (assignEach es X.env).length = n := by rfl) (hst : (assignEach es X.env).findIdx? (·.1) = none := by rfl) : PG X (.Tuple es k pos) (gTup K n t) := by subst h; exact pg_tup hc hh hn hst
theorem pe_revK {e : Expr} {te : TE} {k : Nat} {p1 p2 p3 pos : Pos} (he : PE X e te) : PE X (.Subscript e (.Slice none none (some (.UnaryOp .USub (.Constant (.int 1) k p1) p2)) p3) pos) (tRevL K te) := by subst h; exact pe_revL he
end
section
variable {B : Bx}
def iSeqD (f : DTE) : DTI := fun ρ q => f ρ fun d => match d with
  | .list ds => q ds
  | .tuple ds => q ds
  | .str x => q (signsD x)
  | _ => False
theorem pui_seq {te : TE} {fe : DTE} (he : PuE B te fe) : PuI B (iSeq B.K te) (iSeqD fe) := fun σ H F ρ R q e hf k => he σ H F ρ _ _ e hf fun d v H1 F1 h1 s1 r1 => by
  cases d with
  | list ds =>
    cases r1 with
    | lst h l r => exact .inl ⟨_, rfl, ⟨_, SqL.of (s1.fh _ _ h)⟩, k _ H1 F1 ds h1 s1 (yl_seqL (fun H F a b => SqL.of (b _ _ (a _ _ h))) l r)⟩
  | tuple ds =>
    cases r1 with
    | tup h l r => exact .inr (.inl ⟨_, rfl, ⟨_, Same.sqt s1.fh h⟩, k _ H1 F1 ds h1 s1 (yl_seqT (fun H F a b => Same.sqt b (Same.sqt a h)) l r)⟩)
  | str x =>
    cases r1 with
    | str x l g => exact .inr (.inr ⟨x, rfl, k _ H1 F1 _ h1 s1 (yl_str l g)⟩)
  | _ => exact h1.elim
end
end DL

/-! DL: set(xs) and len(set(xs)) of any texts (the library's proof for whole numbers, turned to texts). -/
namespace DL
open PySem PySem.Spec PyProof.Rows L2
/-- each text once, in the order of the first ones -/
def stepS (acc : List Str) (x : Str) : List Str := if acc.any (· == x) then acc else acc ++ [x]
def metS (xs : List Str) (i : Nat) : List Str := (xs.take i).foldl stepS []
theorem metS_succ (xs : List Str) (i : Nat) (h : i < xs.length) : metS xs (i + 1) = stepS (metS xs i) (xs.getD i Str.empty) := by
  unfold metS
  rw [List.take_add_one, List.getElem?_eq_getElem h, List.foldl_append]
  simp [List.getD, List.getElem?_eq_getElem h]
theorem stepS_le (acc : List Str) (x : Str) : (stepS acc x).length ≤ acc.length + 1 := by
  unfold stepS
  split
  · omega
  · simp
theorem foldS_le : ∀ (xs acc : List Str), (xs.foldl stepS acc).length ≤ acc.length + xs.length
  | [], acc => by simp
  | x :: xs, acc => by
    have h := foldS_le xs (stepS acc x)
    have g := stepS_le acc x
    simp only [List.foldl_cons, List.length_cons]
    omega
theorem metS_le (xs : List Str) (i : Nat) : (metS xs i).length ≤ i := by
  have h := foldS_le (xs.take i) []
  unfold metS
  simp only [List.length_nil, List.length_take] at h
  omega
theorem metS_any (acc : List Str) (v k : Str) : (stepS acc v).any (· == k) = (acc.any (· == k) || decide (k = v)) := by
  unfold stepS
  by_cases h : acc.any (· == v) = true
  · rw [if_pos h]
    by_cases e : k = v
    · subst e; rw [h]; simp
    · simp [e]
  · rw [if_neg h, List.any_append]
    by_cases e : k = v
    · subst e; simp
    · have hb : (v == k) = false := by simpa [beq_iff_eq] using (fun h' : v = k => e h'.symm)
      simp [hb, e]
theorem metS_len (acc : List Str) (v : Str) : (stepS acc v).length = if acc.any (· == v) then acc.length else acc.length + 1 := by
  unfold stepS; split <;> simp
section
variable {prog : Program} {w : World} {A : Around} {R : Result → Shared → Prop} {I : Addr} {fp wr : List Addr} {G : Array GenState → Array GenState → Prop} {n : Nat} {P : Nat → Value → Prop} {St : Nat → Shared → Prop}
theorem loopS (W : WalksS prog w A.in1 I fp wr G n P St) (S : Addr) (hSf : S ∉ fp)
    (xs : List Str) (hsz : xs.length = n) (hval : ∀ i v, P i v → ∃ t, v = .str (xs.getD i Str.empty) t) (hb : n + 1 < scanBound) :
    ∀ (k i : Nat) (s : Shared), n - i = k → i ≤ n → St i s →
      s.heap.SetOf (PySem.strKind prog w) S (fun k' => (metS xs i).any (· == k')) (metS xs i).length →
      (∀ s', Moved (S :: wr) G s s' → s'.heap.SetOf (PySem.strKind prog w) S (fun k' => (metS xs n).any (· == k')) (metS xs n).length → R (.ok (.ret .none)) s') →
      codeAny (model prog w) A (.builtin "set.update.loop" ⟨[.ref S, .ref I], []⟩) R s := by
  have hSw : S ∉ wr := fun h => hSf (W.sub _ h)
  have hsub : ∀ b ∈ wr, b ∈ S :: wr := fun b hb => List.mem_cons_of_mem _ hb
  intro k
  induction k with
  | zero =>
    intro i s hk hi hst hS hR
    have hin : i = n := by omega
    subst hin
    refine codeAny_builtin PyProof.Rows.F.entry_set_update_loop ?_
    rw [Around.under_plainId PyProof.Rows.F.plain_set_update_loop _]
    show wpAny _ A.in1 (pyNext (.ref I) >>= _) _ _ s
    refine wpAny_bind (W.done s _ _ hst fun s' hm => ?_)
    show wpAny _ A.in1 (ret Value.none) _ _ s'
    exact wpAny_pure (hR s' (hm.mono hsub) (by
      obtain ⟨o, es, ep, t, ho, rest⟩ := hS
      exact ⟨o, es, ep, t, hm.heap S _ hSw ho, rest⟩))
  | succ k ih =>
    intro i s hk hi hst hS hR
    have hlt : i < n := by omega
    refine codeAny_builtin PyProof.Rows.F.entry_set_update_loop ?_
    rw [Around.under_plainId PyProof.Rows.F.plain_set_update_loop _]
    show wpAny _ A.in1 (pyNext (.ref I) >>= _) _ _ s
    refine wpAny_bind (W.item i s _ _ hlt hst fun v s' hP hst' hm => ?_)
    obtain ⟨t, rfl⟩ := hval i v hP
    have hS' : s'.heap.SetOf (PySem.strKind prog w) S (fun k' => (metS xs i).any (· == k')) (metS xs i).length := by
      obtain ⟨o, es, ep, tb, ho, rest⟩ := hS
      exact ⟨o, es, ep, tb, hm.heap S _ hSw ho, rest⟩
    show wpAny _ A.in1 (holding [Value.str (xs.getD i Str.empty) t] (setAdd S (.str (xs.getD i Str.empty) t)) >>= _) _ _ s'
    refine wpAny_bind (wpAny_holding ?_)
    unfold setAdd
    refine wpAny_holding ?_
    refine wpAny_bind ((PySem.strKind prog w).pyHash (k := xs.getD i Str.empty) (strKind_is _ _ _ _) ?_)
    have hroom : (metS xs i).length + 1 < scanBound := by have := metS_le xs i; omega
    refine wpAny_setAddHashed_of (knd := PySem.strKind prog w) (s := { s' with toks := s'.toks + 1 }) (strKind_is _ _ _ _) rfl hS' hroom fun h' hsb hS2 => ?_

    have hSi : h'.SetOf (PySem.strKind prog w) S (fun k' => (metS xs (i + 1)).any (· == k')) (metS xs (i + 1)).length :=
      SetOf_congr hS2 (fun k' => by rw [metS_succ xs i (by omega), metS_any]) (by rw [metS_succ xs i (by omega), metS_len])
    refine wpAny_pure ⟨plainId_quiet PyProof.Rows.F.plain_set_update_loop _, ih (i + 1) _ (by omega) hlt (W.frame _ s' _ _ hst' (Nat.le_succ _) fun b hb o e => ?_) hSi fun s'' hm'' hS'' => ?_⟩
    · rw [hsb.2 b (fun h : b = S => hSf (by rw [← h]; exact hb))]; exact e
    · refine hR s'' (Moved.trans W.gtrans ((hm.mono hsub).then_heap (Nat.le_succ _) fun b o hb e => ?_) hm'') hS''
      rw [hsb.2 b (fun h : b = S => hb (by rw [h]; exact List.mem_cons_self))]; exact e
end
section
variable {prog : Program} {w : World} {A : Around} {E : Value → Shared → Prop} {s : Shared}
theorem setS_list {l : Addr} {items : Array Value} {xs : List Str} {Q : Value → Shared → Prop}
    (hh : A.handled = none) (hl : s.heap.IsList l items) (hi : PyProof.Rows.StrsAre items.toList xs) (hb : items.size + 1 < scanBound)
    (h : ∀ (h' : Heap) (tk : Nat), h'.SetOf (PySem.strKind prog w) s.heap.objs.size (fun k' => (metS xs items.size).any (· == k')) (metS xs items.size).length →
      (∀ b o, b < s.heap.objs.size → s.heap.get? b = some o → h'.get? b = some o) → Q (.ref s.heap.objs.size) { s with heap := h', toks := tk }) :
    wpAny (model prog w) A (call (.type "set") [.ref l]) Q E s := by
  obtain ⟨c, tl, hmro⟩ := PySem.F.called_set.mro
  have hmade := PySem.F.called_set.made
  have hsub := PySem.F.called_set.sub
  refine wpAny_call (codeAny_of_tree ?_)
  show wpAny _ _ (callAny (.type "set") _) _ _ _
  refine wpAny_pure ⟨Code.quiet_builtin _ (by decide +kernel), codeAny_builtin PySem.F.entry_type_call ?_⟩
  rw [Around.under_plain (weight_type_call_type "set" [.ref l] []) rfl]
  have h1 := PySem.F.called_set.notType
  have h2 := PySem.F.called_set.canCreate
  have hct := PySem.F.typeCall_set_1 (.ref l)
  repeat (any_goals (first | assumption | wp_step))

  refine codeAny_mono (code_set_new_1 (.ref l) (E := E) (Q₁ := fun obj s₁ => ∃ led : Bool, obj = .ref s.heap.objs.size ∧ s₁ = { s with heap := s.heap.push { cls := .type "set", dict := none, data := .set #[] 0 (.fresh 0 0 led) } }) fun led => ⟨led, rfl, rfl⟩) fun r s₁ hr => ?_
  cases r with
  | error e => exact hr
  | ok fl =>
    cases fl with
    | ret obj =>
      obtain ⟨led, rfl, rfl⟩ := hr
      have hS : (s.heap.push { cls := .type "set", dict := none, data := .set #[] 0 (.fresh 0 0 led) }).get? s.heap.objs.size = some { cls := .type "set", dict := none, data := .set #[] 0 (.fresh 0 0 led) } := Heap.get?_push_size _ rfl
      have hT : Shared.TypeIs { s with heap := s.heap.push { cls := .type "set", dict := none, data := .set #[] 0 (.fresh 0 0 led) } } (.ref s.heap.objs.size) "set" := ⟨_, hS, rfl⟩
      have hli := PySem.F.called_set.init.lookup
      have hbi := PySem.F.called_set.init.bind (.ref s.heap.objs.size)
      repeat (any_goals (first | assumption | wp_step))

      refine codeAny_mono (codeAny_call_builtin (R := wants (fun r s₂ => r = .none ∧ ∃ h' tk, s₂ = { s with heap := h', toks := tk } ∧
          h'.SetOf (PySem.strKind prog w) s.heap.objs.size (fun k' => (metS xs items.size).any (· == k')) (metS xs items.size).length ∧
          (∀ b o, b < s.heap.objs.size → s.heap.get? b = some o → h'.get? b = some o)) E) PySem.F.called_set.init.plain PySem.F.entry_set_init (check_set_init_1 hT ?_)) fun r₂ s₂ hr₂ => ?_
      · obtain ⟨ol, hol, hcl, nl, hdl⟩ := hl
        obtain ⟨ocls, odict, odata, oslots⟩ := ol
        simp only at hcl hdl
        subst hcl; subst hdl
        have hol' : (s.heap.push { cls := .type "set", dict := none, data := .set #[] 0 (.fresh 0 0 led) }).get? l = some { cls := .type "list", dict := odict, data := .seq items nl, slots := oslots } := Heap.get?_push_of_some _ hol
        have hsls := PySem.F.sub_list_set
        have hslf := PySem.F.sub_list_frozenset
        have hne : (Value.type "list" == Value.type "dict") = false := by decide
        have hl1 : (s.heap.push { cls := .type "set", dict := none, data := .set #[] 0 (.fresh 0 0 led) }).IsList l items := ⟨_, hol', rfl, nl, rfl⟩
        unfold Builtin.«set.__init__» noKeywords Builtin.Frozenset.updateFrom
        generalize hPI : pyIter = PI
        wp_walk
        subst hPI

        refine wpAny_pyIter_list hl1 ?_
        refine wpAny_bind (wpAny_runValue ?_)
        have hlS : l < s.heap.objs.size := Heap.lt_size hol
        have hh3 : A.in1.in1.in1.handled = none := by simp [hh]
        have hneI : l ≠ (s.heap.push { cls := .type "set", dict := none, data := .set #[] 0 (.fresh 0 0 led) }).objs.size := by
          rw [Heap.size_push]; exact Nat.ne_of_lt (Nat.lt_succ_of_lt hlS)
        have hSf : s.heap.objs.size ∉ [(s.heap.push { cls := .type "set", dict := none, data := .set #[] 0 (.fresh 0 0 led) }).objs.size, l] := by
          rw [Heap.size_push]; simp only [List.mem_cons, List.mem_singleton, List.not_mem_nil, or_false, not_or]
          exact ⟨Nat.ne_of_lt (Nat.lt_succ_self _), Nat.ne_of_gt hlS⟩
        have hsz : xs.length = items.size := by rw [← PyProof.Rows.StrsAre.len_eq hi, Array.length_toList]
        have hval : ∀ (i : Nat) (v : Value), items[i]? = some v → ∃ t, v = .str (xs.getD i Str.empty) t := fun i v hv => SS.strs_at hi i v (by rw [Array.getElem?_toList]; exact hv)
        refine loopS ((Walks.list hh3 _ l hneI items).toS) s.heap.objs.size hSf xs hsz hval (by omega) (items.size - 0) 0 _ (by omega) (Nat.zero_le _) ⟨⟨_, Heap.get?_push_size _ rfl, rfl, rfl⟩, (hl1.push _)⟩ ?hS0 ?hR
        case hS0 =>
          have hget : ((s.heap.push { cls := .type "set", dict := none, data := .set #[] 0 (.fresh 0 0 led) }).push { cls := .type "list_iterator", data := .fields #[.ref l, .int 0 0] }).get? s.heap.objs.size
              = some { cls := .type "set", dict := none, data := .set #[] 0 (.fresh 0 0 led) } := Heap.get?_push_of_some _ hS
          exact PyProof.Rows.SetOf_congr ((PyProof.Rows.setObjOf_fresh (knd := PySem.strKind prog w) led).setOf hget (by unfold scanBound; omega)) (fun _ => rfl) rfl
        case hR =>
          intro s' hm hS'
          obtain ⟨h', g', d', tk', os'⟩ := s'
          have eg : g' = s.gens := hm.gens
          have ed : d' = s.drawn := hm.drawn
          have eo : os' = s.os := hm.os
          subst eg; subst ed; subst eo
          show wpAny _ _ _ _ _ _
          refine wpAny_pure ?_
          show wpAny _ _ (ret Value.none) _ _ _
          refine wpAny_pure ⟨rfl, h', tk', rfl, hS', fun b o hb e => ?_⟩
          have hb1 : b ≠ s.heap.objs.size := Nat.ne_of_lt hb
          have hb2 : b ≠ (s.heap.push { cls := .type "set", dict := none, data := .set #[] 0 (.fresh 0 0 led) }).objs.size := by
            rw [Heap.size_push]; exact Nat.ne_of_lt (Nat.lt_succ_of_lt hb)
          exact hm.heap b o (by simp only [List.mem_cons, List.mem_singleton, List.not_mem_nil, or_false, not_or]; exact ⟨hb1, hb2⟩) (Heap.get?_push_of_some _ (Heap.get?_push_of_some _ e))

      · cases r₂ with
        | error e => exact hr₂
        | ok fl₂ =>
          cases fl₂ with
          | ret r =>
            obtain ⟨rfl, h', tk, rfl, hS', hk'⟩ := hr₂
            repeat (any_goals (first | assumption | wp_step))
            exact h _ _ hS' hk'
          | _ => exact hr₂.elim
    | _ => exact hr.elim
end
/-- len(set(xs)) -/
def setSize (xs : List Str) : Nat := (xs.foldl stepS []).length
def tLenSetX (K : PySem.W.Frag) (ta : TE) : TE := fun σ H Q => ta σ H fun x H1 => ∃ l, ∃ xs : List Str, x = .ref l ∧ SqL K H1 l (xs.map V.str) ∧ xs.length ≤ 1000 ∧ Q (.int (setSize xs : Nat)) H1
theorem pe_lenSetX {X : Cx} {a : Expr} {ta : TE} {p p2 q pos : Pos} (hc : X.calm = true) (hg : Gl X "len") (hm : X.mg "len" = none) (hg2 : Gl X "set") (hm2 : X.mg "set" = none) (ha : PE X a ta)
    (na : starEach [a] X.env = (false, eval a X.env) :: starEach [] X.env := by rfl) : PE X (.Call (.Name "len" p) [.Call (.Name "set" p2) [a] [] q] [] pos) (tLenSetX X.K ta) := by
  refine ⟨fun pins s σ H Q I h => Call_ (ld_blt I hg hm boot_len (PyProof.Rows.callWith_builtin1 (PyProof.Rows.args_cons ?_ rfl) rfl rfl))⟩
  refine Call_ (ld_blt I hg2 hm2 boot_set (PyProof.Rows.callWith_type1 (PyProof.Rows.args_cons (thn (ha.run pins s σ H _ I h) fun v s1 ⟨x, H1, I1, r1, q1⟩ => PyProof.Rows.args_nil ?_) na) na rfl))
  obtain ⟨l, xs, rfl, hq, h1, q1⟩ := q1
  cases r1
  obtain ⟨its, r, pl, hz⟩ := I1.list hq
  have hl : its.toArray.size = xs.length := by rw [List.size_toArray, ← r.length, List.length_map]
  refine setS_list (xs := xs) (I1.ok.hd hc) pl.isList (by simpa using strsAre_of r) (by rw [hl]; unfold scanBound; omega) fun h' tk hS hk => PyProof.Rows.args_nil ?_
  rw [hl] at hS
  have e : metS xs xs.length = xs.foldl stepS [] := by
    unfold metS
    rw [List.take_length]
  rw [e] at hS
  have hsm := foldS_le xs []
  simp only [List.length_nil] at hsm
  obtain ⟨o, es, ep, t, ho, hex, hd, _, _, _, hf, hn⟩ := hS
  have I2 : Inv X pins σ H1 { s1 with heap := h', toks := tk } := I1.kept fun b o e => hk b o (Heap.lt_size e) e
  exact call_len_set ho hex hd hf (by rw [hn] <;> omega) ⟨.int (setSize xs : Nat), H1, I2.tok _, ⟨_, by rw [hn]; rfl⟩, q1⟩
theorem pe_lenSetK {X : Cx} {a : Expr} {ta : TE} {p p2 q pos : Pos} (K : PySem.W.Frag) (h : X.K = K) (hc : X.calm = true) (hg : Gl X "len") (hm : X.mg "len" = none) (hg2 : Gl X "set") (hm2 : X.mg "set" = none) (ha : PE X a ta)
    (na : starEach [a] X.env = (false, eval a X.env) :: starEach [] X.env := by rfl) : PE X (.Call (.Name "len" p) [.Call (.Name "set" p2) [a] [] q] [] pos) (tLenSetX K ta) := by subst h; exact pe_lenSetX hc hg hm hg2 hm2 ha na
def strsD : List D → Option (List Str)
  | [] => some []
  | .str i :: r => (strsD r).map (i :: ·)
  | _ => none
theorem strsD_some : ∀ {ds : List D} {ns : List Str}, strsD ds = some ns → ds = ns.map .str
  | [], _, h => by cases h; rfl
  | .str i :: r, ns, h => by
    cases e : strsD r with
    | none => simp [strsD, e] at h
    | some ms =>
      simp [strsD, e] at h
      subst h
      rw [strsD_some e]
      rfl
  | .none :: _, _, h => by simp [strsD] at h
  | .int _ :: _, _, h => by simp [strsD] at h
  | .bool _ :: _, _, h => by simp [strsD] at h
  | .list _ :: _, _, h => by simp [strsD] at h
  | .tuple _ :: _, _, h => by simp [strsD] at h
  | .dict _ :: _, _, h => by simp [strsD] at h
theorem strsD_map : ∀ ns : List Str, strsD (ns.map .str) = some ns
  | [] => rfl
  | n :: ns => by simp [strsD, strsD_map ns]
def dLenSet (f : DTE) : DTE := fun ρ q => f ρ fun d => match d with
  | .list ds => (match strsD ds with
    | some xs => xs.length ≤ 1000 ∧ q (.int (setSize xs : Nat))
    | none => False)
  | _ => False
theorem pu_lenSet {B : Bx} {ta : TE} {fa : DTE} (ha : PuP B ta fa) : PuE B (tLenSetX B.K ta) (dLenSet fa) := fun σ H F ρ Q q e hf k => ha σ H F ρ _ _ e hf fun d v H1 F1 h1 s1 r1 => by
  have b1 := e.base.step s1
  cases d with
  | list ds =>
    dsimp only at h1
    split at h1
    · rename_i xs hx
      obtain ⟨p, vs, rfl, hp, l, r⟩ := r1.list b1.fh
      rw [strsD_some hx] at r
      rw [r.strs] at hp
      exact ⟨p, xs, rfl, SqL.of hp, h1.1, k _ _ H1 F1 h1.2 s1 (.int _)⟩
    · exact h1.elim
  | _ => exact h1.elim
end DL

/-! DL: xs[a:c] = ys where c may lie behind the end (the layer's proof for ends within, turned). -/
namespace DL
open PySem PySem.Spec PyProof.Rows L2
theorem bounds_cut {a c n : Nat} (hac : a ≤ c) (ha : a ≤ n) : sliceBounds (some (a : Int)) (some (c : Int)) none n = ((a : Int), ((min c n : Nat) : Int), 1) := by
  obtain ⟨h1, h2, h3⟩ := slice_bounds (some (a : Int)) (some (c : Int)) n
  rw [HT.sIx_nat] at h1 h2
  have e : min a n = a := by omega
  rw [e] at h1
  generalize sliceBounds (some (a : Int)) (some (c : Int)) none n = z at *
  obtain ⟨x, y, u⟩ := z
  simp only at h1 h2 h3
  rw [h1, h2, h3]
theorem splice_cut (its its2 : List Value) (a c : Nat) : its.toArray.extract 0 a ++ its2.toArray ++ its.toArray.extract (min c its.toArray.size) its.toArray.size = (its.take a ++ its2 ++ its.drop c).toArray := by
  rw [splice_eq]
  congr 2
  rw [List.size_toArray]
  by_cases h : c ≤ its.length
  · rw [Nat.min_eq_left h]
  · rw [Nat.min_eq_right (by omega), List.drop_eq_nil_of_le (Nat.le_refl _), List.drop_eq_nil_of_le (by omega)]
section
variable {prog : Program} {w : World} {A : Around} {E : Value → Shared → Prop} {s : Shared}
theorem setItem_cut {l b sl : Addr} {items new : Array Value} {n n2 : Nat} {vl vu : Value} {a c : Nat} {Q : Unit → Shared → Prop}
    (e : s.heap.get? l = some { cls := .type "list", data := .seq items n }) (e2 : s.heap.get? b = some { cls := .type "list", data := .seq new n2 }) (hne : l ≠ b)
    (hs : s.heap.IsSliceOf sl vl vu .none) (pl : IsPart vl (some (a : Int))) (pu : IsPart vu (some (c : Int))) (hac : a ≤ c) (ha : a ≤ items.size)
    (hsz : items.size + new.size ≤ sizeLine) (h : Q () { s with heap := s.heap.update l (Obj.mapSeq fun xs => xs.extract 0 a ++ new ++ xs.extract (min c items.size) xs.size) }) :
    wpAny (model prog w) A (setItem (.ref l) (.ref sl) (.ref b)) Q E s := by
  have hl : s.heap.IsList l items := PySem.IsL.isList e
  have hb : s.heap.IsList b new := PySem.IsL.isList e2
  obtain ⟨os, hos, hcs, hds⟩ := id hs
  have hTs : s.TypeIs (.ref sl) "slice" := ⟨os, hos, hcs⟩
  have hstep : ¬ ((rawPart none == rawInt 0) = true) := Bool.false_ne_true
  have hsame : Builtin.List.listSameRef (.ref l) (.ref b) = false := by
    unfold Builtin.List.listSameRef
    exact beq_eq_false_iff_ne.mpr hne
  have hmax : (max (a : Int) ((min c items.size : Nat) : Int)).toNat = min c items.size := by omega
  have hz' : ((fun xs : Array Value => xs.extract 0 a ++ new ++ xs.extract (min c items.size) xs.size) items).size ≤ sizeLine + 1 := by
    simp only [Array.size_append, Array.size_extract]
    omega
  unfold setItem
  try with_reducible refine wpAny_holding ?_
  first | refine wpAny_bind (wpAny_pure ?_) | skip
  refine wpAny_bind (wpAny_sequenceKey hl.typeIs (by decide) ?_)
  refine wpAny_bind (wpAny_callSpecial?_slot (name := Str.ofString "__setitem__") hl.typeIs slot_list_setitem
    (wpAny_call_entry slot_list_setitem hl.typeIs entry_list_setitem ?_ (args_list_setitem _ _ _)))
  show wpAny _ _ (Builtin.List.listSubscript? (.ref sl) >>= _) _ _ s
  refine wpAny_bind ?_
  unfold Builtin.List.listSubscript?
  refine wpAny_bind (wpAny_specialOf hTs slice_no_index ?_)
  simp only [Option.isNone_none, if_true]
  refine wpAny_pure ?_
  show wpAny _ _ (typeOf (.ref sl) >>= _) _ _ s
  refine wpAny_bind (wpAny_typeOf hTs ?_)
  first
    | rw [if_neg (by decide)]
    | refine PySem.W.KFB.if_not (by decide) ?_
  rw [listSliceParts_eq]
  refine wpAny_bind (wpAny_bind (wpAny_field hos hds (x := .none) rfl (wpAny_bind (wpAny_listPart .none ?_))))
  rw [if_neg hstep]
  refine wpAny_bind (wpAny_field hos hds (x := vl) rfl (wpAny_bind (wpAny_listPart pl ?_)))
  refine wpAny_bind (wpAny_field hos hds (x := vu) rfl (wpAny_bind (wpAny_listPart pu (wpAny_pure ?_))))
  first
    | simp only [hsame, Bool.false_eq_true, if_false]
    | refine PySem.W.KFB.if_not hsame ?_
    | (dsimp only
       rw [if_neg (by rw [hsame]; exact Bool.false_ne_true)])
  refine wpAny_bind (m := Builtin.List.listAllItems (.ref b) "must assign iterable to extended slice") ?_
  unfold Builtin.List.listAllItems
  refine wpAny_bind (wpAny_typeOf hb.typeIs ?_)
  first
    | refine PySem.W.KFB.if_so (by decide) ?_
    | rw [if_pos (by decide)]
    | simp only [beq_self_eq_true, Bool.true_or, if_true]
  unfold Builtin.List.listItems
  refine wpAny_bind (wpAny_seqItems e2 rfl (wpAny_pure ?_))
  refine wpAny_bind (wpAny_bind (wpAny_seqItems e rfl (wpAny_pure ?_)))
  refine wpAny_bind (wpAny_of_eq ((sliceIndices_raw (some (a : Int)) (some (c : Int)) none items.size (by simp)).trans (congrArg (pure : Int × Int × Int → Sem (Int × Int × Int)) (bounds_cut hac ha))) ?_)
  show wpAny _ _ (if ((1 : Int) == 1) = true then _ else _) _ _ s
  rw [if_pos (by decide)]
  refine wpAny_bind (wpAny_rule ?_)
  first
    | simp only [notLongL hsz, Bool.false_eq_true, if_false]
    | refine PySem.W.KFB.if_not (notLongL hsz) ?_
  first | refine wpAny_bind (wpAny_pure ?_) | skip
  show wpAny _ _ (updateSeq l (fun xs => xs.extract 0 ((a : Int)).toNat ++ new ++ xs.extract (max (a : Int) ((min c items.size : Nat) : Int)).toNat xs.size) >>= _) _ _ s
  rw [hmax, Int.toNat_natCast]
  refine wpAny_bind (wpAny_updateSeq (hz := Nat.le_trans (Nat.le_add_right _ _) hsz) (_hz' := hz') e rfl ?_)
  refine wpAny_bind (wpAny_letGo ?_)
  first
    | exact wpAny_bind (wpAny_pure (wpAny_pure ⟨.none, rfl, wpAny_pure h⟩))
    | exact wpAny_pure ⟨.none, rfl, wpAny_pure h⟩
end
section
variable {X : Cx} {o lo hi : Expr} {to tl th : TE} {pos p2 : Pos}
def gSlc (to tl th : TE) : TG := fun v σ H Q => to σ H fun x H1 => tl σ H1 fun l H2 => th σ H2 fun u H3 => ∃ (p b : Addr) (a c : Int) (xs ys : List V), x = .ref p ∧ v = .ref b ∧ l = .int a ∧ u = .int c ∧ H3 p = some (.lst xs) ∧ H3 b = some (.lst ys) ∧ p ≠ b ∧ (0 ≤ a ∧ a ≤ c ∧ a ≤ xs.length) ∧ xs.length + ys.length ≤ sizeLine ∧
  Q σ (upd H3 p (.lst (xs.take a.toNat ++ ys ++ xs.drop c.toNat)))
theorem pg_setSl (ho : PE X o to) (hl : PE X lo tl) (hh : PE X hi th)
    (ha : ∀ v, assign (.Subscript o (.Slice (some lo) (some hi) none p2) pos) X.env v = (do
      let ov ← holding [v] (eval o X.env)
      let iv ← holding [v, ov] (eval (.Slice (some lo) (some hi) none p2) X.env)
      standAt pos
      holding [v, ov, iv] (setItem ov iv v)
      release [iv, v, ov] []) := by intro _; rfl) : PG X (.Subscript o (.Slice (some lo) (some hi) none p2) pos) (gSlc to tl th) := by
  refine ⟨fun pins s σ H v u Q I r h => ?_⟩
  rw [ha]
  refine wpAny_bind (wpAny_holding (thn (ho.run pins s σ H _ I h) fun ov s1 ⟨x, H1, I1, r1, q1⟩ => wpAny_bind (wpAny_holding (wpAny_Slice ?_))))
  rw [evalPart_some]
  refine thn (hl.run pins s1 σ H1 _ I1 q1) fun vl s2 ⟨l, H2, I2, rl, q2⟩ => ?_
  rw [evalPart_some]
  refine thn (hh.run pins s2 σ H2 _ I2 q2) fun vu s3 ⟨z, H3, I3, rz, q3⟩ => ?_
  rw [evalPart_none]
  refine wpAny_pure (wpAny_bind (wpAny_standAt (wpAny_bind (wpAny_holding ?_))))
  obtain ⟨p, b, a, c, xs, ys, ex, ev, el, ez, hp, hb, ne, ⟨h0, hac, hal⟩, hz, q⟩ := q3
  subst ex ev el ez
  cases r1
  cases r
  obtain ⟨ta, rfl⟩ := rl
  obtain ⟨tc, rfl⟩ := rz
  have I4 : Inv X pins σ H3 { s3 with heap := s3.heap.push { cls := .type "slice", data := .fields #[.int a ta, .int c tc, .none] } } := I3.kept (t' := s3.toks) fun b ob q => Heap.get?_push_of_some _ q
  obtain ⟨_, its, n, r4, l4, e4⟩ := I4.lstM hp
  obtain ⟨_, its2, n2, r5, l5, e5⟩ := I4.lstM hb
  obtain ⟨a, rfl⟩ := Int.eq_ofNat_of_zero_le h0
  obtain ⟨c, rfl⟩ := Int.eq_ofNat_of_zero_le (Int.le_trans h0 hac)
  simp only [Int.toNat_natCast] at q
  refine setItem_cut (a := a) (c := c) e4 e5 ne (Heap.IsSliceOf.new ..) (.int _ _) (.int _ _) (by omega) (by rw [List.size_toArray]; omega) (by rw [List.size_toArray, List.size_toArray]; omega) (wpAny_release ⟨σ, _, ?_, q⟩)
  refine I4.lset (its' := its.take a ++ its2 ++ its.drop c) (t' := s3.toks) hp e4 ?_ (Vals.append (Vals.append (r4.take _) r5) (r4.drop _)) ?_
  · exact splice_cut its its2 a c
  · rw [List.length_append, List.length_append, List.length_take, List.length_drop]
    omega
end
section
variable {B : Bx}
def gSetSl (i : Nat) (fe fl fh : DTE) : DTS := fun E ρ => fe ρ fun d => match d, ρ[i]? with
  | .list ys, some (.own xs) => fl ρ fun a => fh ρ fun c => match a, c with
    | .int a, .int c => (0 ≤ a ∧ a ≤ c ∧ a ≤ xs.length ∧ xs.length + ys.length ≤ sizeLine) ∧ E.nx (ρ.set i (.own (xs.take a.toNat ++ ys ++ xs.drop c.toNat)))
    | _, _ => False
  | _, _ => False
theorem pu_setSl (i : Nat) {te tl th : TE} {fe fl fh : DTE} (he : PuE B te fe) (hl : PuE B tl fl) (hh : PuE B th fh) : PuS B (tAsg te (gSlc (tVar i) tl th)) (gSetSl i fe fl fh) := fun σ H F ρ De E e hg n r b c =>
  he σ H F ρ _ _ e hg fun d v H1 F1 h1 s1 r1 => by
    have e1 := e.step s1
    split at h1
    · rename_i ys xs hx
      obtain ⟨p, vs, hv, ow, hp, l, rr⟩ := e1.own hx
      refine ⟨_, hv, hl σ H1 F1 ρ _ _ e1 h1 fun a va H2 F2 h2 s2 r2 => hh σ H2 F2 ρ _ _ (e1.step s2) h2 fun c vc H3 F3 h3 s3 r3 => ?_⟩
      have st := s2.trans e1.base s3
      have e3 := e1.step st
      have hp3 := st.ex _ _ hp ow.w
      have ow3 : Own B F3 p := ⟨(st.fr _ _ hp).trans ow.f, ow.h0, ow.w⟩
      split at h3
      · rename_i a c
        cases r2
        cases r3
        obtain ⟨⟨h0, hac, hal, hz⟩, h4⟩ := h3
        cases r1.mono st.ff with
        | lst hb lb rb =>
          rename_i q us
          have hb3 := e3.st.fh _ _ hb
          have ne : p ≠ q := fun z => by
            rw [← z, ow3.f] at hb
            cases hb
          have lens : (vs.take a.toNat ++ us ++ vs.drop c.toNat).length ≤ sizeLine := by
            have h1 := rr.length
            have h2 := rb.length
            rw [List.length_append, List.length_append, List.length_take, List.length_drop]
            omega
          refine ⟨p, q, a, c, vs, us, rfl, rfl, rfl, rfl, hp3, hb3, ne, ⟨h0, hac, by rw [rr.length]; exact hal⟩, by rw [rr.length, rb.length]; exact hz, ?_⟩
          have r5 := rr.mono st.ff
          exact n _ _ F3 _ h4 (s1.ff.trans st.ff) (e3.change hx rfl hv ow3 ⟨rfl, ow3, _, upd_same, lens, ((r5.take _).append rb).append (r5.drop _)⟩)
      · exact h3.elim
    · exact h1.elim
/-! ### the script -/
def xLenScr (i : Nat) : DTE := fun ρ q => match ρ[i]? with
  | some (.scr ns) => q (.int ns.length)
  | _ => False
theorem pu_lenScr (i : Nat) : PuE B (tCB (rLenX B.K) (tCons (tVar i) tNil)) (xLenScr i) := fun σ H F ρ Q q e hf k => by
  unfold xLenScr at hf
  obtain ⟨ad, h1, _⟩ := e.sl
  split at hf
  · rename_i ns hx
    obtain ⟨a, hv, hs⟩ := h1 i _ hx
    refine ⟨_, hv, _, ns.length, rfl, .inl ⟨_, e.st.fh.seq hs, by rw [List.length_map]⟩, k _ _ H F hf (Step.refl e.base) (.int _)⟩
  · exact hf.elim
def dIxScr (i : Nat) (fk : DTE) : DTE := fun ρ q => match ρ[i]? with
  | some (.scr ns) => fk ρ fun d => match d with
    | .int k => (match atI ns k with
      | some n => q (.int n)
      | none => False)
    | _ => False
  | _ => False
theorem atI_map {α β : Type} (f : α → β) (xs : List α) (i : Int) : atI (xs.map f) i = (atI xs i).map f := by
  unfold atI
  rw [List.length_map]
  cases ixN xs.length i with
  | none => rfl
  | some j => simp
theorem pu_ixScr (i : Nat) {tk : TE} {fk : DTE} (hk : PuE B tk fk) : PuE B (tOp (rIx B.K) (tVar i) tk) (dIxScr i fk) := fun σ H F ρ Q q e hf k => by
  unfold dIxScr at hf
  obtain ⟨ad, h1, _⟩ := e.sl
  split at hf
  · rename_i ns hx
    obtain ⟨a, hv, hs⟩ := h1 i _ hx
    refine ⟨_, hv, hk σ H F ρ _ _ e hf fun d v H1 F1 h2 s1 r1 => ?_⟩
    cases d with
    | int j =>
      cases r1
      dsimp only at h2
      split at h2
      · rename_i z hz
        refine .inl ⟨a, ns.map V.int, j, .int z, rfl, rfl, s1.fh.seq (s1.ff.seq hs), ?_, k _ _ H1 F1 h2 s1 (.int _)⟩
        rw [atI_map, hz]
        rfl
      · exact h2.elim
    | _ => exact h2.elim
  · exact hf.elim
end
end DL

/-! DL: the well drawn from. -/
namespace DL
open PySem PySem.Spec PyProof.Rows L2
theorem Step.drawn {w : Option Addr} {H F : Hp} {a : Addr} {x y z : Int} (b : Base w H F) (hw : w = some a) (h0 : 0 < z) (h1 : z < 4294967296) : Step w H F (L2.upd H a (.lst [.int x, .int y, .int z])) F := by
  obtain ⟨_, hF⟩ := b.wl a hw
  refine ⟨Same.refl _, fun c u e => ?_, fun _ _ _ => rfl, fun c u e ne => ?_, fun a2 e2 _ => ?_, fun c xs e => ?_⟩
  · rw [upd_ne (ne_of_none e hF)]; exact b.fh _ _ e
  · rw [upd_ne (fun q => ne (by rw [hw, q]))]; exact e
  · rw [hw] at e2
    cases e2
    exact ⟨x, y, z, upd_same, h0, h1⟩
  · by_cases hc : c = a
    · subst hc; rw [upd_same] at e; cases e
    · rw [upd_ne hc] at e; exact b.tp _ _ e
/-- drawing: some number below many -/
def sp_take : Spec
  | [.wel, .dat (.int m)], q => (0 < m ∧ m < 1073741824) ∧ ∀ r, 0 ≤ r → r < m → q (.dat (.int r))
  | _, _ => False
theorem sp_take_args {K : PySem.W.Frag} {w : Option Addr} {F : Hp} {vs : List V} {ds : List SV} {q : SV → Prop} (h : sp_take ds q) (r : RCs K w F vs ds) :
    ∃ a m, w = some a ∧ vs = [.ref a, .int m] ∧ ds.length = 2 ∧ (0 < m ∧ m < 1073741824) ∧ ∀ r, 0 ≤ r → r < m → q (.dat (.int r)) := by
  unfold sp_take at h
  split at h
  · cases r with
    | cons r1 rr =>
      cases rr with
      | cons r2 rr =>
        cases rr
        obtain ⟨a, e1, e2⟩ := r1
        cases (show RD K F _ (.int _) from r2)
        exact ⟨a, _, e1, by rw [e2], rfl, h⟩
  · exact h.elim
end DL

/-! DL: loops and comprehensions by data: how they are shown. -/
namespace DL
open PySem PySem.Spec PyProof.Rows L2
/-- a loop over data by what holds of the items left -/
theorem loopD_by {fg : DTG} {fb : DTS} {E : DEnds} {ds : List D} {ρ : List SV} (I : List D → List SV → Prop) (h : I ds ρ) (h0 : ∀ ρ, I [] ρ → E.nx ρ)
    (hs : ∀ d ds ρ (nx : List SV → Prop), I (d :: ds) ρ → (∀ ρ', I ds ρ' → nx ρ') → fg d ρ fun ρ' => fb { E with nx := nx, ct := nx, bk := E.nx } ρ') : loopD fg fb ds E ρ := by
  induction ds generalizing ρ with
  | nil => exact h0 ρ h
  | cons d ds ih => exact hs d ds ρ _ h fun ρ' h' => ih h'
/-- a comprehension: each item by g (none: left out) -/
theorem compD_by {vs : List Nat} {fg : DTG} {ft : DTT} {fe : DTE} {ρ : List SV} {q : List D → Prop} (g : D → Option D) : ∀ (ds acc : List D),
    (∀ d ∈ ds, ∀ (kt : D → Prop) (kf : Prop), (match g d with | some x => kt x | none => kf) → fg d (wipeD ρ vs) fun ρ' => ft ρ' fun b => if b = true then fe ρ' kt else kf) →
    q (acc ++ ds.filterMap g) → compD vs fg ft fe ρ ds acc q
  | [], acc, _, hq => by simpa [compD] using hq
  | d :: ds, acc, hs, hq => by
    refine hs d (by simp) _ _ ?_
    have ih := fun acc' => compD_by (q := q) g ds acc' fun e he => hs e (List.mem_cons_of_mem _ he)
    cases hg : g d with
    | none =>
      rw [List.filterMap_cons_none hg] at hq
      exact ih acc hq
    | some x =>
      rw [List.filterMap_cons_some hg] at hq
      exact ih (acc ++ [x]) (by rw [List.append_assoc]; exact hq)
/-- .. every item -/
theorem compD_map {vs : List Nat} {fg : DTG} {fe : DTE} {ρ : List SV} {q : List D → Prop} (g : D → D) (ds : List D)
    (hs : ∀ d ∈ ds, ∀ (kt : D → Prop), kt (g d) → fg d (wipeD ρ vs) fun ρ' => fe ρ' kt) (hq : q (ds.map g)) : compD vs fg (fun _ q => q true) fe ρ ds [] q := by
  refine compD_by (fun d => some (g d)) ds [] (fun d hd kt kf h => ?_) (by rw [List.nil_append, List.filterMap_eq_map']; exact hq)
  simp only [if_true]
  exact hs d hd kt h
/-- .. with a test -/
theorem compD_if {vs : List Nat} {fg : DTG} {ft : DTT} {fe : DTE} {ρ : List SV} {q : List D → Prop} (p : D → Bool) (g : D → D) (ds : List D)
    (hs : ∀ d ∈ ds, ∀ (kt : D → Prop) (kf : Prop), (if p d = true then kt (g d) else kf) → fg d (wipeD ρ vs) fun ρ' => ft ρ' fun b => if b = true then fe ρ' kt else kf)
    (hq : q ((ds.filter p).map g)) : compD vs fg ft fe ρ ds [] q := by
  refine compD_by (fun d => if p d = true then some (g d) else none) ds [] (fun d hd kt kf h => hs d hd kt kf ?_) ?_
  · cases e : p d <;> simp_all
  · rw [List.nil_append]
    have e : ∀ l : List D, l.filterMap (fun d => if p d = true then some (g d) else none) = (l.filter p).map g := by
      intro l
      induction l with
      | nil => rfl
      | cons d l ih =>
        cases e : p d with
        | true => rw [List.filterMap_cons_some (by rw [e]; rfl), List.filter_cons_of_pos e, List.map_cons, ih]
        | false => rw [List.filterMap_cons_none (by rw [e]; rfl), List.filter_cons_of_neg (by rw [e]; simp), ih]
    rw [e]
    exact hq
/-- a comprehension whose items are not known but by what holds of them -/
theorem compD_any {vs : List Nat} {fg : DTG} {ft : DTT} {fe : DTE} {ρ : List SV} {q : List D → Prop} (R : List D → List D → Prop) : ∀ (ds acc : List D), R ds acc →
    (∀ d ds acc (kt : D → Prop) (kf : Prop), R (d :: ds) acc → (∀ x, R ds (acc ++ [x]) → kt x) → (R ds acc → kf) → fg d (wipeD ρ vs) fun ρ' => ft ρ' fun b => if b = true then fe ρ' kt else kf) →
    (∀ acc, R [] acc → q acc) → compD vs fg ft fe ρ ds acc q
  | [], acc, h, _, hq => hq acc h
  | d :: ds, acc, h, hs, hq => hs d ds acc _ _ h (fun x hx => compD_any R ds (acc ++ [x]) hx hs hq) fun hx => compD_any R ds acc hx hs hq
theorem at0 {α : Type} (a : α) (l : List α) : atI (a :: l) 0 = some a := atI_nat (j := 0) rfl
theorem at1 {α : Type} (a b : α) (l : List α) : atI (a :: b :: l) 1 = some b := atI_nat (j := 1) rfl
theorem at2 {α : Type} (a b c : α) (l : List α) : atI (a :: b :: c :: l) 2 = some c := atI_nat (j := 2) rfl
theorem at3 {α : Type} (a b c d : α) (l : List α) : atI (a :: b :: c :: d :: l) 3 = some d := atI_nat (j := 3) rfl
theorem boolsD_mapf {α : Type} (p : α → Bool) (l : List α) : boolsD (l.map fun d => PyData.bool (p d)) = some (l.map p) := by
  have e : (l.map fun d => PyData.bool (p d)) = (l.map p).map .bool := by rw [List.map_map]; rfl
  rw [e, boolsD_map]
theorem intsD_mapf {α : Type} (p : α → Int) (l : List α) : intsD (l.map fun d => PyData.int (p d)) = some (l.map p) := by
  have e : (l.map fun d => PyData.int (p d)) = (l.map p).map .int := by rw [List.map_map]; rfl
  rw [e, intsD_map]
theorem strsD_mapf {α : Type} (p : α → Str) (l : List α) : strsD (l.map fun d => PyData.str (p d)) = some (l.map p) := by
  have e : (l.map fun d => PyData.str (p d)) = (l.map p).map .str := by rw [List.map_map]; rfl
  rw [e, strsD_map]
theorem all_id_map {α : Type} (p : α → Bool) (l : List α) : (l.map p).all id = l.all p := by
  rw [List.all_map]; rfl
theorem any_id_map {α : Type} (p : α → Bool) (l : List α) : (l.map p).any id = l.any p := by
  rw [List.any_map]; rfl
theorem dpI (i : Int) : (PyData.int i).depth = 0 := by simp [PyData.depth]
theorem dpB (i : Bool) : (PyData.bool i).depth = 0 := by simp [PyData.depth]
theorem dpS (i : Str) : (PyData.str i).depth = 0 := by simp [PyData.depth]
theorem dpN : PyData.none.depth = 0 := by simp [PyData.depth]
theorem evII (i j : Int) : (PyData.int i).eqv (.int j) = decide (i = j) := by
  rw [PyData.eqv]
  rw [Bool.eq_iff_iff]
  simp
theorem evBB (i j : Bool) : (PyData.bool i).eqv (.bool j) = decide (i = j) := by
  rw [PyData.eqv]
  rw [Bool.eq_iff_iff]
  simp
theorem evSS (i j : Str) : (PyData.str i).eqv (.str j) = decide (i = j) := by
  rw [PyData.eqv]
  rw [Bool.eq_iff_iff]
  simp
/-! depths -/
theorem depthAll_le {n : Nat} : ∀ {ds : List D}, (∀ d ∈ ds, d.depth ≤ n) → PyData.depthAll ds ≤ n
  | [], _ => by simp [PyData.depthAll]
  | d :: ds, h => by
    have h1 := h d (by simp)
    have h2 := depthAll_le (ds := ds) fun e he => h e (List.mem_cons_of_mem _ he)
    simp only [PyData.depthAll]
    omega
theorem depth_list {n : Nat} {ds : List D} (h : ∀ d ∈ ds, d.depth ≤ n) : (PyData.list ds).depth ≤ n + 1 := by
  have := depthAll_le h
  simp only [PyData.depth]
  omega
theorem depth_tuple {n : Nat} {ds : List D} (h : ∀ d ∈ ds, d.depth ≤ n) : (PyData.tuple ds).depth ≤ n + 1 := by
  have := depthAll_le h
  simp only [PyData.depth]
  omega
end DL

/-! DL: a list that becomes the well; small data. -/
namespace DL
open PySem PySem.Spec PyProof.Rows L2
/-- what is told of slots across the making of a well: plain data and the script alone -/
def uw1 : SV → SV
  | .dat d => .dat d
  | .scr ns => .scr ns
  | _ => .un
def unwel : List SV → List SV
  | [] => []
  | s :: r => uw1 s :: unwel r
theorem unwel_len : ∀ ρ : List SV, (unwel ρ).length = ρ.length
  | [] => rfl
  | s :: r => by simp [unwel, unwel_len r]
theorem unwel_get : ∀ {ρ : List SV} {i : Nat} {s : SV}, (unwel ρ)[i]? = some s → s = .un ∨ (ρ[i]? = some s ∧ ((∃ d, s = .dat d) ∨ ∃ ns, s = .scr ns))
  | [], _, _, h => by simp [unwel] at h
  | x :: r, 0, s, h => by
    cases x with
    | dat d => cases h; exact .inr ⟨rfl, .inl ⟨_, rfl⟩⟩
    | scr ns => cases h; exact .inr ⟨rfl, .inr ⟨_, rfl⟩⟩
    | _ => cases h; exact .inl rfl
  | x :: r, i + 1, s, h => unwel_get (ρ := r) (i := i) h
theorem Env.swap {B B' : Bx} {σ : L2.St} {H F : Hp} {ρ : List SV} (e : Env B σ H F ρ) (hK : B'.K = B.K) (b0 : Base B'.w B'.H0 B'.F0) (st : Step B'.w B'.H0 B'.F0 H F) : Env B' σ H F (unwel ρ) := by
  obtain ⟨_, _, hl, ad, h1, _⟩ := e
  refine ⟨b0, st, by rw [unwel_len, hl], ad, fun j s q => ?_, fun j k s u q1 q2 m1 m2 ne => ?_⟩
  · rcases unwel_get q with rfl | ⟨q, ⟨d, rfl⟩ | ⟨ns, rfl⟩⟩
    · trivial
    · obtain ⟨v, e1, r⟩ := h1 j _ q
      exact ⟨v, e1, by rw [hK]; exact r⟩
    · obtain ⟨a, e1, r⟩ := h1 j _ q
      exact ⟨a, e1, by rw [hK]; exact r⟩
  · rcases unwel_get q1 with rfl | ⟨_, ⟨d, rfl⟩ | ⟨ns, rfl⟩⟩ <;> cases m1
/-- a well made: what follows draws from it -/
def gWell (i : Nat) (f : DTX) (g : DTS) : DTS := fun E ρ => f ρ fun x => match x with
  | .own [.int a, .int b, .int c] => (0 < c ∧ c < 4294967296) ∧ g { nx := fun ρ' => E.nx (unwel ρ'), rt := E.rt, bk := fun ρ' => E.bk (unwel ρ'), ct := fun ρ' => E.ct (unwel ρ') } ((unwel ρ).set i .wel)
  | _ => False
theorem Step.unwell {w : Option Addr} {H F H1 F1 H2 F2 : Hp} {p : Addr} (b : Base w H F) (s : Step w H F H1 F1) (n : H p = none) (t : Step (some p) H1 F1 H2 F2) : Step w H F H2 F2 := by
  refine ⟨s.ff.trans t.ff, t.fh, fun c o h => ?_, fun c o h e => ?_, fun a e h => ?_, t.tp⟩
  · obtain ⟨o', e⟩ := s.there b h
    rw [t.fr c o' e, s.fr c o h]
  · exact t.ex c o (s.ex c o h e) fun z => by cases z; rw [n] at h; cases h
  · obtain ⟨x, y, z, h1, h2⟩ := s.wl a e h
    refine ⟨x, y, z, t.ex a _ h1 fun q => ?_, h2⟩
    cases q
    obtain ⟨_, _, _, h3, _⟩ := h
    rw [n] at h3
    cases h3
theorem pu_well {B : Bx} (i : Nat) {tc : TE} {fx : DTX} {t : TS} {g : DTS} (hx : PuX B tc fx) (h : ∀ w1 H1 F1, PuS ⟨B.K, w1, H1, F1⟩ t g) : PuS B (tSeq (tAsg tc (gName i)) t) (gWell i fx g) := fun σ H F ρ De E e hq n r b c => by
  refine hx σ H F ρ _ _ e hq fun x v H1 F1 hx s1 nv => ?_
  split at hx
  · rename_i x0 y0 z0
    obtain ⟨hz, hg⟩ := hx
    obtain ⟨p, vs, rfl, hn, hF, hp, l, rr⟩ := nv
    have hp' : H1 p = some (.lst [.int x0, .int y0, .int z0]) := by
      rw [hp, RDs.ints (ns := [x0, y0, z0]) rr]
      rfl
    have b1 : Base (some p) H1 F1 := ⟨s1.fh, (fun a q => by cases q; exact ⟨⟨x0, y0, z0, hp', hz⟩, hF⟩), s1.tp⟩
    have e1 : Env ⟨B.K, some p, H1, F1⟩ σ H1 F1 (unwel ρ) := (e.step s1).swap rfl b1 (Step.refl b1)
    have e2 : Env ⟨B.K, some p, H1, F1⟩ (σ.set i (some (V.ref p))) H1 F1 ((unwel ρ).set i .wel) := by
      have e3 := e1.drop1 i (some (V.ref p))
      obtain ⟨b0, st, hl, ad, h1, h2⟩ := id e3
      have key : ∀ j s, ((unwel ρ).set i .wel)[j]? = some s → (j = i ∧ s = .wel ∧ i < σ.length) ∨ (j ≠ i ∧ (((unwel ρ).set i .un)[j]? = some s)) := fun j s q => by
        by_cases hj : i = j
        · subst hj
          left
          have hlt : i < (unwel ρ).length := by
            rcases Nat.lt_or_ge i (unwel ρ).length with z | z
            · exact z
            · rw [List.getElem?_eq_none (by simpa using z)] at q; cases q
          rw [List.getElem?_set_self hlt] at q
          refine ⟨rfl, (Option.some.inj q).symm, ?_⟩
          rw [unwel_len, e.hl] at hlt
          exact hlt
        · rw [List.getElem?_set_ne hj] at q ⊢
          exact .inr ⟨fun z => hj z.symm, q⟩
      refine ⟨b0, st, by simpa using hl, ad, fun j s q => ?_, fun j k s u q1 q2 m1 m2 ne => ?_⟩
      · rcases key j s q with ⟨rfl, rfl, hl2⟩ | ⟨hj, q⟩
        · exact ⟨p, rfl, List.getElem?_set_self hl2⟩
        · exact h1 j s q
      · rcases key j s q1 with ⟨_, rfl, _⟩ | ⟨_, q1⟩
        · cases m1
        · rcases key k u q2 with ⟨_, rfl, _⟩ | ⟨_, q2⟩
          · cases m2
          · exact h2 j k s u q1 q2 m1 m2 ne
    have s0 := e.st.trans e.b0 s1
    have back : ∀ {σ' : L2.St} {H' F' : Hp} {ρ' : List SV}, Env ⟨B.K, some p, H1, F1⟩ σ' H' F' ρ' → Env B σ' H' F' (unwel ρ') := fun e' => e'.swap rfl e.b0 (Step.unwell e.b0 s0 (e.st.free e.b0 hn) e'.st)
    refine h (some p) H1 F1 _ H1 F1 _ _ _ e2 hg (fun σ' H' F' ρ' hx ff e' => n σ' H' F' _ hx (s1.ff.trans ff) (back e')) (fun x v H' F' hx st nv => ?_)
      (fun σ' H' F' ρ' hx ff e' => b σ' H' F' _ hx (s1.ff.trans ff) (back e')) (fun σ' H' F' ρ' hx ff e' => c σ' H' F' _ hx (s1.ff.trans ff) (back e'))
    exact r x v H' F' hx (Step.unwell e.b0 s0 (e.st.free e.b0 hn) st) (nv.older e.b0 s0)
  · exact hx.elim

/-! ### something of a list, at a place that is not known -/
theorem atI_lt {α : Type} {xs : List α} {k : Int} (h0 : 0 ≤ k) (h1 : k < xs.length) : ∃ v, v ∈ xs ∧ atI xs k = some v := by
  have hr : k.toNat < xs.length := by omega
  refine ⟨xs[k.toNat], List.getElem_mem _, ?_⟩
  have z : ((k.toNat : Nat) : Int) = k := by omega
  have y := atI_nat (j := k.toNat) (List.getElem?_eq_getElem hr)
  rw [z] at y
  exact y
theorem ix_any {ds : List D} {r : Int} {q : D → Prop} (h0 : 0 ≤ r) (h1 : r < ds.length) (h : ∀ d ∈ ds, q d) : dIx (.list ds) (.int r) q := by
  have hr : r.toNat < ds.length := by omega
  have e : atI ds r = some ds[r.toNat] := by
    have z : ((r.toNat : Nat) : Int) = r := by omega
    have y := atI_nat (j := r.toNat) (List.getElem?_eq_getElem hr)
    rw [z] at y
    exact y
  show (match atI ds r with
    | some d => q d
    | none => False)
  rw [e]
  exact h _ (List.getElem_mem _)
theorem rangeD_mem : ∀ {n : Nat} {lo : Int} {d : D}, d ∈ rangeD lo n → ∃ k : Int, d = .int k ∧ lo ≤ k ∧ k < lo + n
  | 0, _, _, h => by simp [rangeD] at h
  | n + 1, lo, d, h => by
    simp only [rangeD, List.mem_cons] at h
    rcases h with rfl | h
    · exact ⟨lo, rfl, by omega, by omega⟩
    · obtain ⟨k, rfl, h1, h2⟩ := rangeD_mem h
      exact ⟨k, rfl, by omega, by omega⟩
theorem cut_len (xs : List D) (lo hi : Option Int) : (cutD xs lo hi).length ≤ xs.length := by
  unfold cutD
  rw [List.length_take, List.length_drop]
  omega
/-! ### small data: of depth at most n, no list, tuple or text of it longer than l -/
def smB (l : Nat) : Nat → D → Bool
  | _, .none => true
  | _, .bool _ => true
  | _, .int _ => true
  | _, .str x => decide (x.length ≤ l)
  | n + 1, .list ds => decide (ds.length ≤ l) && ds.all (smB l n)
  | n + 1, .tuple ds => decide (ds.length ≤ l) && ds.all (smB l n)
  | _, _ => false
def Sm (l n : Nat) (d : D) : Prop := smB l n d = true
theorem Sm.mono {l : Nat} : ∀ {n : Nat} {d : D} {l' n' : Nat}, l ≤ l' → n ≤ n' → Sm l n d → Sm l' n' d := by
  intro n
  induction n with
  | zero =>
    intro d l' n' h1 h2 h
    cases d with
    | str x =>
      have : x.length ≤ l := by simpa [Sm, smB] using h
      have : x.length ≤ l' := by omega
      simpa [Sm, smB] using this
    | list ds => simp [Sm, smB] at h
    | tuple ds => simp [Sm, smB] at h
    | none => simp [Sm, smB]
    | bool b => simp [Sm, smB]
    | int b => simp [Sm, smB]
    | _ => simp [Sm, smB] at h
  | succ n ih =>
    intro d l' n' h1 h2 h
    obtain ⟨n', rfl⟩ : ∃ k, n' = k + 1 := ⟨n' - 1, by omega⟩
    cases d with
    | str x =>
      have : x.length ≤ l := by simpa [Sm, smB] using h
      have : x.length ≤ l' := by omega
      simpa [Sm, smB] using this
    | list ds =>
      simp only [Sm, smB, Bool.and_eq_true, decide_eq_true_eq, List.all_eq_true] at h ⊢
      exact ⟨by omega, fun d hd => ih h1 (by omega) (h.2 d hd)⟩
    | tuple ds =>
      simp only [Sm, smB, Bool.and_eq_true, decide_eq_true_eq, List.all_eq_true] at h ⊢
      exact ⟨by omega, fun d hd => ih h1 (by omega) (h.2 d hd)⟩
    | none => simp [Sm, smB]
    | bool b => simp [Sm, smB]
    | int b => simp [Sm, smB]
    | _ => simp [Sm, smB] at h
theorem Sm.list {l n : Nat} {ds : List D} (h : ds.length ≤ l) (h2 : ∀ d ∈ ds, Sm l n d) : Sm l (n + 1) (.list ds) := by
  simp only [Sm, smB, Bool.and_eq_true, decide_eq_true_eq, List.all_eq_true]
  exact ⟨h, h2⟩
theorem Sm.tuple {l n : Nat} {ds : List D} (h : ds.length ≤ l) (h2 : ∀ d ∈ ds, Sm l n d) : Sm l (n + 1) (.tuple ds) := by
  simp only [Sm, smB, Bool.and_eq_true, decide_eq_true_eq, List.all_eq_true]
  exact ⟨h, h2⟩
theorem Sm.int {l n : Nat} (i : Int) : Sm l n (.int i) := by simp [Sm, smB]
theorem Sm.bool {l n : Nat} (i : Bool) : Sm l n (.bool i) := by simp [Sm, smB]
theorem Sm.none {l n : Nat} : Sm l n .none := by simp [Sm, smB]
theorem Sm.str {l n : Nat} {x : Str} (h : x.length ≤ l) : Sm l n (.str x) := by simp [Sm, smB, h]
theorem Sm.of_str {l n : Nat} {x : Str} (h : Sm l n (.str x)) : x.length ≤ l := by simpa [Sm, smB] using h
theorem Sm.of_list {l n : Nat} {ds : List D} (h : Sm l n (.list ds)) : ∃ m, n = m + 1 ∧ ds.length ≤ l ∧ ∀ d ∈ ds, Sm l m d := by
  cases n with
  | zero => simp [Sm, smB] at h
  | succ m =>
    simp only [Sm, smB, Bool.and_eq_true, decide_eq_true_eq, List.all_eq_true] at h
    exact ⟨m, rfl, h⟩
theorem Sm.of_tuple {l n : Nat} {ds : List D} (h : Sm l n (.tuple ds)) : ∃ m, n = m + 1 ∧ ds.length ≤ l ∧ ∀ d ∈ ds, Sm l m d := by
  cases n with
  | zero => simp [Sm, smB] at h
  | succ m =>
    simp only [Sm, smB, Bool.and_eq_true, decide_eq_true_eq, List.all_eq_true] at h
    exact ⟨m, rfl, h⟩
theorem Sm.depth {l : Nat} : ∀ {n : Nat} {d : D}, Sm l n d → d.depth ≤ n := by
  intro n
  induction n with
  | zero =>
    intro d h
    cases d <;> first
      | (simp [PyData.depth]; done)
      | (simp [Sm, smB] at h; done)
  | succ n ih =>
    intro d h
    cases d with
    | list ds => exact depth_list fun e he => ih (by obtain ⟨m, e1, _, h2⟩ := h.of_list; cases e1; exact h2 e he)
    | tuple ds => exact depth_tuple fun e he => ih (by obtain ⟨m, e1, _, h2⟩ := h.of_tuple; cases e1; exact h2 e he)
    | _ => first
      | (simp [PyData.depth]; done)
      | (simp [Sm, smB] at h; done)
/-- a def that promises nothing -/
def spNo : Spec := fun _ _ => False
theorem fnD_no {P : Program} {w : World} {K : PySem.W.Frag} {mg : Str → Option Value} {base : Heap} {x : Str} {st : Stmt} {N ps : List Str} (k : Nat) {f : Addr} {fd : FuncData} (mgf : mg x = some (.ref f)) (T : Fun K x x st f fd) (S : FnScope N ps (defScope st))
    (bd : ∀ (kV doc pm : Value) (an : Option Addr) (cdv ct : Value) (us : List Value), us.length = ps.length → bindArgs (PySem.W.fnOf x x (defArgs st) (defBody st) (defScope st) .none kV doc pm an cdv ct) ⟨us, []⟩ = pure (ps.zip us)) :
    FnD P w K mg base (k + 1) x ps spNo f fd :=
  ⟨mgf, T.kp, T.binds bd, T.ok S (fun vs H Q E h => by obtain ⟨_, _, _, _, _, _, h, _⟩ := h; exact h.elim) (fun cdv A outer s H vs Q E hr h => by obtain ⟨_, _, _, _, _, _, h, _⟩ := h; exact h.elim)⟩
theorem FnD.spec {P : Program} {w : World} {K : PySem.W.Frag} {mg : Str → Option Value} {base : Heap} {k : Nat} {x : Str} {ps : List Str} {sp sp' : Spec} {f : Addr} {fd : FuncData} (h : FnD P w K mg base k x ps sp f fd) (e : ∀ ds q, sp' ds q → sp ds q) : FnD P w K mg base k x ps sp' f fd :=
  ⟨h.mgf, h.kp, h.bd, h.ok.imp fun vs H Q E ⟨w, F, ds, q, b, r, hs, hk⟩ => ⟨w, F, ds, q, b, r, e _ _ hs, hk⟩⟩
theorem FnD.lvl {P : Program} {w : World} {K : PySem.W.Frag} {mg : Str → Option Value} {base : Heap} {k k' : Nat} {x : Str} {ps : List Str} {sp : Spec} {f : Addr} {fd : FuncData} (h : FnD P w K mg base k x ps sp f fd) (e : k ≤ k') : FnD P w K mg base k' x ps sp f fd :=
  ⟨h.mgf, h.kp, h.bd, h.ok.mono e⟩
end DL

/-! DL: kinds of data, one by one. -/
namespace DL
open PySem
theorem isIntD_none : isIntD (PyData.none) = false := rfl
theorem isIntD_bool (b : Bool) : isIntD (PyData.bool b) = true := rfl
theorem isIntD_int (i : Int) : isIntD (PyData.int i) = true := rfl
theorem isIntD_str (x : Str) : isIntD (PyData.str x) = false := rfl
theorem isIntD_list (xs : List D) : isIntD (PyData.list xs) = false := rfl
theorem isIntD_tuple (xs : List D) : isIntD (PyData.tuple xs) = false := rfl
theorem isIntD_dict (xs : List (D × D)) : isIntD (PyData.dict xs) = false := rfl
theorem isBoolD_none : isBoolD (PyData.none) = false := rfl
theorem isBoolD_bool (b : Bool) : isBoolD (PyData.bool b) = true := rfl
theorem isBoolD_int (i : Int) : isBoolD (PyData.int i) = false := rfl
theorem isBoolD_str (x : Str) : isBoolD (PyData.str x) = false := rfl
theorem isBoolD_list (xs : List D) : isBoolD (PyData.list xs) = false := rfl
theorem isBoolD_tuple (xs : List D) : isBoolD (PyData.tuple xs) = false := rfl
theorem isBoolD_dict (xs : List (D × D)) : isBoolD (PyData.dict xs) = false := rfl
theorem isStrD_none : isStrD (PyData.none) = false := rfl
theorem isStrD_bool (b : Bool) : isStrD (PyData.bool b) = false := rfl
theorem isStrD_int (i : Int) : isStrD (PyData.int i) = false := rfl
theorem isStrD_str (x : Str) : isStrD (PyData.str x) = true := rfl
theorem isStrD_list (xs : List D) : isStrD (PyData.list xs) = false := rfl
theorem isStrD_tuple (xs : List D) : isStrD (PyData.tuple xs) = false := rfl
theorem isStrD_dict (xs : List (D × D)) : isStrD (PyData.dict xs) = false := rfl
theorem isTupD_none : isTupD (PyData.none) = false := rfl
theorem isTupD_bool (b : Bool) : isTupD (PyData.bool b) = false := rfl
theorem isTupD_int (i : Int) : isTupD (PyData.int i) = false := rfl
theorem isTupD_str (x : Str) : isTupD (PyData.str x) = false := rfl
theorem isTupD_list (xs : List D) : isTupD (PyData.list xs) = false := rfl
theorem isTupD_tuple (xs : List D) : isTupD (PyData.tuple xs) = true := rfl
theorem isTupD_dict (xs : List (D × D)) : isTupD (PyData.dict xs) = false := rfl
theorem isListD_none : isListD (PyData.none) = false := rfl
theorem isListD_bool (b : Bool) : isListD (PyData.bool b) = false := rfl
theorem isListD_int (i : Int) : isListD (PyData.int i) = false := rfl
theorem isListD_str (x : Str) : isListD (PyData.str x) = false := rfl
theorem isListD_list (xs : List D) : isListD (PyData.list xs) = true := rfl
theorem isListD_tuple (xs : List D) : isListD (PyData.tuple xs) = false := rfl
theorem isListD_dict (xs : List (D × D)) : isListD (PyData.dict xs) = false := rfl
theorem isNoneD_none : isNoneD (PyData.none) = true := rfl
theorem isNoneD_bool (b : Bool) : isNoneD (PyData.bool b) = false := rfl
theorem isNoneD_int (i : Int) : isNoneD (PyData.int i) = false := rfl
theorem isNoneD_str (x : Str) : isNoneD (PyData.str x) = false := rfl
theorem isNoneD_list (xs : List D) : isNoneD (PyData.list xs) = false := rfl
theorem isNoneD_tuple (xs : List D) : isNoneD (PyData.tuple xs) = false := rfl
theorem isNoneD_dict (xs : List (D × D)) : isNoneD (PyData.dict xs) = false := rfl
theorem flatD_none : flatD (PyData.none) = true := rfl
theorem flatD_bool (b : Bool) : flatD (PyData.bool b) = true := rfl
theorem flatD_int (i : Int) : flatD (PyData.int i) = true := rfl
theorem flatD_str (x : Str) : flatD (PyData.str x) = true := rfl
theorem flatD_list (xs : List D) : flatD (PyData.list xs) = false := rfl
theorem flatD_tuple (xs : List D) : flatD (PyData.tuple xs) = false := rfl
theorem flatD_dict (xs : List (D × D)) : flatD (PyData.dict xs) = false := rfl
def q_startD_1 := @startD.eq_1
def q_gNext_1 := @gNext.eq_1
def q_gSeq_1 := @gSeq.eq_1
def q_gBreak_1 := @gBreak.eq_1
def q_gCont_1 := @gCont.eq_1
def q_gNever_1 := @gNever.eq_1
def q_gDrop_1 := @gDrop.eq_1
def q_gRet_1 := @gRet.eq_1
def q_gRetN_1 := @gRetN.eq_1
def q_gRetV_1 := @gRetV.eq_1
def q_gIf_1 := @gIf.eq_1
def q_gSet_1 := @gSet.eq_1
def q_gPar_1 := @gPar.eq_1
def q_gAsg_1 := @gAsg.eq_1
def q_gnm_1 := @gnm.eq_1
def q_gnil_1 := @gnil.eq_1
def q_gcons_1 := @gcons.eq_1
def q_gtup_1 := @gtup.eq_1
def q_gFor_1 := @gFor.eq_1
def q_iL_1 := @iL.eq_1
def q_iT_1 := @iT.eq_1
def q_iR1_1 := @iR1.eq_1
def q_iR2_1 := @iR2.eq_1
def q_iR3_1 := @iR3.eq_1
def q_iSeqD_1 := @iSeqD.eq_1
def q_iStrD_1 := @iStrD.eq_1
def q_iEnumD_1 := @iEnumD.eq_1
def q_iZipD_1 := @iZipD.eq_1
def q_xComp_1 := @xComp.eq_1
def q_xOf_1 := @xOf.eq_1
def q_eOf_1 := @eOf.eq_1
def q_dVar_1 := @dVar.eq_1
def q_dSee_1 := @dSee.eq_1
def q_dC_1 := @dC.eq_1
def q_dNil_1 := @dNil.eq_1
def q_dCons_1 := @dCons.eq_1
def q_cNil_1 := @cNil.eq_1
def q_cCons_1 := @cCons.eq_1
def q_cWel_1 := @cWel.eq_1
def q_cScr_1 := @cScr.eq_1
def q_dOp_1 := @dOp.eq_1
def q_dUn_1 := @dUn.eq_1
def q_xB_1 := @xB.eq_1
def q_dBool_1 := @dBool.eq_1
def q_bAnd_1 := @bAnd.eq_1
def q_bOr_1 := @bOr.eq_1
def q_bNot_1 := @bNot.eq_1
def q_dAndV_1 := @dAndV.eq_1
def q_dOrV_1 := @dOrV.eq_1
def q_dNotV_1 := @dNotV.eq_1
def q_dIf_1 := @dIf.eq_1
def q_dChain_1 := @dChain.eq_1
def q_dTup_1 := @dTup.eq_1
def q_xLst_1 := @xLst.eq_1
def q_xDict_1 := @xDict.eq_1
def q_dIsi_1 := @dIsi.eq_1
def q_xSl_1 := @xSl.eq_1
def q_oNo_1 := @oNo.eq_1
def q_oSome_1 := @oSome.eq_1
def q_xRev_1 := @xRev.eq_1
def q_gAppend_1 := @gAppend.eq_1
def q_gPop_1 := @gPop.eq_1
def q_gPopAt_1 := @gPopAt.eq_1
def q_gInsert_1 := @gInsert.eq_1
def q_gSetIx_1 := @gSetIx.eq_1
def q_gSetSl_1 := @gSetSl.eq_1
def q_xCall_1 := @xCall.eq_1
def q_dLenSet_1 := @dLenSet.eq_1
def q_xLenScr_1 := @xLenScr.eq_1
def q_dIxScr_1 := @dIxScr.eq_1
def q_gWell_1 := @gWell.eq_1
def q_dAdd_1 := @dAdd.eq_1
def q_dAdd_2 := @dAdd.eq_2
def q_dAdd_3 := @dAdd.eq_3
def q_dAdd_4 := @dAdd.eq_4
def q_dSub_1 := @dSub.eq_1
def q_dMul_1 := @dMul.eq_1
def q_dMul_2 := @dMul.eq_2
def q_dMod_1 := @dMod.eq_1
def q_dFdiv_1 := @dFdiv.eq_1
def q_dPow_1 := @dPow.eq_1
def q_dNeg_1 := @dNeg.eq_1
def q_dLt_1 := @dLt.eq_1
def q_dLt_2 := @dLt.eq_2
def q_dCmp_1 := @dCmp.eq_1
def q_dEq_1 := @dEq.eq_1
def q_dNe_1 := @dNe.eq_1
def q_dIs_1 := @dIs.eq_1
def q_dIsNot_1 := @dIsNot.eq_1
def q_dIn_1 := @dIn.eq_1
def q_dIn_2 := @dIn.eq_2
def q_dIn_3 := @dIn.eq_3
def q_dNotIn_1 := @dNotIn.eq_1
def q_dIx_1 := @dIx.eq_1
def q_dIx_2 := @dIx.eq_2
def q_dIx_3 := @dIx.eq_3
def q_gLen_1 := @gLen.eq_1
def q_gLen_2 := @gLen.eq_2
def q_gLen_3 := @gLen.eq_3
def q_gAll_1 := @gAll.eq_1
def q_gAny_1 := @gAny.eq_1
def q_gMax_1 := @gMax.eq_1
def q_gMin_1 := @gMin.eq_1
def q_gMax2_1 := @gMax2.eq_1
def q_gMin2_1 := @gMin2.eq_1
def q_gTuple_1 := @gTuple.eq_1
def q_gTuple_2 := @gTuple.eq_2
def q_gList_1 := @gList.eq_1
def q_gList_2 := @gList.eq_2
def q_gInt_1 := @gInt.eq_1
def q_gInt_2 := @gInt.eq_2
def q_wipeD_1 := @wipeD.eq_1
def q_wipeD_2 := @wipeD.eq_2
def q_unwel_1 := @unwel.eq_1
def q_unwel_2 := @unwel.eq_2
def q_intsD_1 := @intsD.eq_1
def q_intsD_2 := @intsD.eq_2
def q_boolsD_1 := @boolsD.eq_1
def q_boolsD_2 := @boolsD.eq_2
def q_strsD_1 := @strsD.eq_1
def q_strsD_2 := @strsD.eq_2
def q_sp_take_1 := @sp_take.eq_1
def q_uw1_1 := @uw1.eq_1
def q_uw1_2 := @uw1.eq_2
end DL

/-! DL: dicts of the frame's own. -/
namespace DL
open PySem PySem.Spec PyProof.Rows L2
section
variable {κ : Type} [DecidableEq κ]
def hasD (kvs : List (κ × D)) (k : κ) : Bool := kvs.any fun kv => decide (kv.1 = k)
def putD (kvs : List (κ × D)) (k : κ) (d : D) : List (κ × D) := if hasD kvs k = true then kvs.map (fun kv => if kv.1 = k then (kv.1, d) else kv) else kvs ++ [(k, d)]
theorem hasD_eq : ∀ {us : List (κ × V)} {ds : List (κ × D)} (k : κ), us.map (·.1) = ds.map (·.1) → (us.any fun kv => decide (kv.1 = k)) = hasD ds k
  | [], [], _, _ => rfl
  | [], _ :: _, _, h => by simp at h
  | _ :: _, [], _, h => by simp at h
  | u :: us, d :: ds, k, h => by
    simp only [List.map_cons, List.cons.injEq] at h
    have ih := hasD_eq (us := us) (ds := ds) k h.2
    unfold hasD at ih ⊢
    rw [List.any_cons, List.any_cons, ih, h.1]
variable {K : PySem.W.Frag} {F F' : Hp}
theorem RKV.mono (s : Same F F') {us : List (κ × V)} {ds : List (κ × D)} (h : RKV K F us ds) : RKV K F' us ds := ⟨h.1, h.2.mono s⟩
theorem rkv_repl {v : V} {d : D} (r : RD K F v d) (k : κ) : ∀ {us : List (κ × V)} {ds : List (κ × D)}, RKV K F us ds → RKV K F (us.map fun kv => if kv.1 = k then (kv.1, v) else kv) (ds.map fun kv => if kv.1 = k then (kv.1, d) else kv)
  | [], [], h => h
  | [], _ :: _, h => by simp [RKV] at h
  | _ :: _, [], h => by simp [RKV] at h
  | u :: us, e :: ds, ⟨h1, h2⟩ => by
    simp only [List.map_cons, List.cons.injEq] at h1
    cases h2 with
    | cons h3 h4 =>
      obtain ⟨g1, g2⟩ := rkv_repl r k (us := us) (ds := ds) ⟨h1.2, h4⟩
      refine ⟨?_, ?_⟩
      · simp only [List.map_cons]
        rw [g1]
        by_cases c : u.1 = k
        · rw [if_pos c, if_pos (h1.1 ▸ c)]
          simp [h1.1]
        · rw [if_neg c, if_neg (h1.1 ▸ c)]
          simp [h1.1]
      · simp only [List.map_cons]
        refine .cons ?_ g2
        by_cases c : u.1 = k
        · rw [if_pos c, if_pos (h1.1 ▸ c)]
          exact r
        · rw [if_neg c, if_neg (h1.1 ▸ c)]
          exact h3
theorem RKV.put {v : V} {d : D} (r : RD K F v d) (k : κ) {us : List (κ × V)} {ds : List (κ × D)} (h : RKV K F us ds) : RKV K F (putK us k v) (putD ds k d) := by
  unfold putK putD
  rw [hasD_eq k h.1]
  split
  · exact rkv_repl r k h
  · refine ⟨by rw [List.map_append, List.map_append, h.1]; rfl, ?_⟩
    rw [List.map_append, List.map_append]
    exact h.2.append (.cons r .nil)
theorem RKV.len {us : List (κ × V)} {ds : List (κ × D)} (h : RKV K F us ds) : us.length = ds.length := by
  have := congrArg List.length h.1
  simpa using this
theorem RKV.has {us : List (κ × V)} {ds : List (κ × D)} (h : RKV K F us ds) (k : κ) : (valV us k).isSome = hasD ds k := by
  rw [← valV_any, hasD_eq k h.1]
end
def keyD : D → Option Key
  | .int i => some (.inl i)
  | .str x => some (.inr x)
  | _ => none
theorem keyD_rd {K : PySem.W.Frag} {F : Hp} {v : V} {d : D} {k : Key} (h : RD K F v d) (e : keyD d = some k) : v = kV k := by
  cases h with
  | int i => cases e; rfl
  | str x _ _ => cases e; rfl
  | _ => cases e
def dOfK : Key → D
  | .inl i => .int i
  | .inr x => .str x
def keysD : List D → Option (List Key)
  | [] => some []
  | d :: ds => match keyD d, keysD ds with
    | some k, some ks => some (k :: ks)
    | _, _ => none
theorem keysD_rd {K : PySem.W.Frag} {F : Hp} : ∀ {vs : List V} {ds : List D} {ks : List Key}, RDs K F vs ds → keysD ds = some ks → vs = ks.map kV
  | _, _, ks, .nil, e => by simp [keysD] at e; subst e; rfl
  | _, _, ks, .cons (d := d) (ds := ds) h r, e => by
    unfold keysD at e
    cases e1 : keyD d with
    | none => rw [e1] at e; cases e
    | some k =>
      cases e2 : keysD ds with
      | none => rw [e1, e2] at e; cases e
      | some ks2 =>
        rw [e1, e2] at e
        cases e
        rw [keyD_rd h e1, keysD_rd r e2]
        rfl
section
variable {B : Bx} {σ : L2.St} {H F : Hp} {ρ : List SV}
theorem Env.dk (e : Env B σ H F ρ) {i : Nat} {kvs : List (Key × D)} (h : ρ[i]? = some (.dK kvs)) : ∃ p us, σ[i]? = some (some (V.ref p)) ∧ Own B F p ∧ H p = some (.dK us) ∧ RKV B.K F us kvs := by
  obtain ⟨ad, h1, _⟩ := e.sl
  obtain ⟨a, b, vs, c⟩ := h1 i _ h
  exact ⟨_, vs, a, b, c⟩
theorem Env.dt (e : Env B σ H F ρ) {i : Nat} {kvs : List (List Key × D)} (h : ρ[i]? = some (.dT kvs)) : ∃ p us, σ[i]? = some (some (V.ref p)) ∧ Own B F p ∧ H p = some (.dT us) ∧ RKV B.K F us kvs := by
  obtain ⟨ad, h1, _⟩ := e.sl
  obtain ⟨a, b, vs, c⟩ := h1 i _ h
  exact ⟨_, vs, a, b, c⟩
/-- found[k] = v -/
def gDPut (i : Nat) (fk fv : DTE) : DTS := fun E ρ => fv ρ fun d => match ρ[i]? with
  | some (.dK kvs) => fk ρ fun z => match keyD z with
    | some k => kvs.length < sizeLine ∧ E.nx (ρ.set i (.dK (putD kvs k d)))
    | none => False
  | _ => False
theorem pu_dput (i : Nat) {tk tv : TE} {fk fv : DTE} (hv : PuE B tv fv) (hk : PuE B tk fk) : PuS B (sDPut (tVar i) tk tv) (gDPut i fk fv) := fun σ H F ρ De E e hg n r b c =>
  hv σ H F ρ _ _ e hg fun d v H1 F1 h1 s1 r1 => by
    have e1 := e.step s1
    split at h1
    · rename_i kvs hx
      obtain ⟨p, us, hv, ow, hp, rr⟩ := e1.dk hx
      refine ⟨_, hv, hk σ H1 F1 ρ _ _ e1 h1 fun z u H2 F2 h2 s2 r2 => ?_⟩
      have hp2 := s2.ex _ _ hp ow.w
      have e2 := e1.step s2
      have ow2 : Own B F2 p := ⟨(s2.fr _ _ hp).trans ow.f, ow.h0, ow.w⟩
      cases ek : keyD z with
      | none => rw [ek] at h2; exact h2.elim
      | some k =>
        rw [ek] at h2
        obtain ⟨hl, h3⟩ := h2
        have eu := keyD_rd r2 ek
        subst eu
        refine ⟨p, _, rfl, DPut.k hp2 (by rw [rr.len]; exact hl), ?_⟩
        exact n _ _ F2 _ h3 (s1.ff.trans s2.ff) (e2.change hx rfl hv ow2 ⟨rfl, ow2, _, upd_same, (rr.mono s2.ff).put (r1.mono s2.ff) k⟩)
    · exact h1.elim
/-- found[(a, b)] = v -/
def gDPutT (i : Nat) (fk : DTA) (fv : DTE) : DTS := fun E ρ => fv ρ fun d => match ρ[i]? with
  | some (.dT kvs) => fk ρ fun zs => match keysD zs with
    | some ks => (zs.length ≤ sizeLine ∧ kvs.length < sizeLine) ∧ E.nx (ρ.set i (.dT (putD kvs ks d)))
    | none => False
  | _ => False
theorem pu_dputT (i : Nat) {tk : TA} {tv : TE} {fk : DTA} {fv : DTE} (hv : PuE B tv fv) (hk : PuA B tk fk) : PuS B (sDPut (tVar i) (tTup tk) tv) (gDPutT i fk fv) := fun σ H F ρ De E e hg n r b c =>
  hv σ H F ρ _ _ e hg fun d v H1 F1 h1 s1 r1 => by
    have e1 := e.step s1
    split at h1
    · rename_i kvs hx
      obtain ⟨p, us, hv, ow, hp, rr⟩ := e1.dt hx
      refine ⟨_, hv, hk σ H1 F1 ρ _ _ e1 h1 fun zs ws H2 F2 h2 s2 r2 => ?_⟩
      have hp2 := s2.ex _ _ hp ow.w
      have e2 := e1.step s2
      have ow2 : Own B F2 p := ⟨(s2.fr _ _ hp).trans ow.f, ow.h0, ow.w⟩
      cases ek : keysD zs with
      | none => rw [ek] at h2; exact h2.elim
      | some ks =>
        rw [ek] at h2
        obtain ⟨⟨hz, hl⟩, h3⟩ := h2
        have eu := keysD_rd r2 ek
        refine ⟨by rw [r2.length]; exact hz, fun t ht => ?_⟩
        have s3 : Step B.w H2 F2 (upd H2 t (.tup ws)) (upd F2 t (.tup ws)) := Step.laid e2.base ht
        have e3 := e2.step s3
        have hp3 := s3.ex _ _ hp2 ow.w
        have ow3 : Own B (upd F2 t (.tup ws)) p := ⟨(s3.fr _ _ hp2).trans ow2.f, ow.h0, ow.w⟩
        refine ⟨p, _, rfl, DPut.t (k := ks) hp3 (by rw [upd_same, eu]) (by rw [rr.len]; exact hl), ?_⟩
        have ff := (s1.ff.trans s2.ff).trans s3.ff
        exact n _ _ _ _ h3 ff (e3.change hx rfl hv ow3 ⟨rfl, ow3, _, upd_same, (rr.mono (s2.ff.trans s3.ff)).put (r1.mono (s2.ff.trans s3.ff)) ks⟩)
    · exact h1.elim
/-- x in found, x not in found -/
def dInK (i : Nat) (neg : Bool) (fk : DTE) : DTE := fun ρ q => fk ρ fun z => match ρ[i]?, keyD z with
  | some (.dK kvs), some k => q (.bool (if neg then !(hasD kvs k) else hasD kvs k))
  | _, _ => False
theorem pu_dnotin (i : Nat) {tk : TE} {fk : DTE} (hk : PuE B tk fk) : PuE B (tDNotIn tk (tVar i)) (dInK i true fk) := fun σ H F ρ Q q e hf k =>
  hk σ H F ρ _ _ e hf fun z v H1 F1 h1 s1 r1 => by
    have e1 := e.step s1
    split at h1
    · rename_i kvs kk hx ek
      obtain ⟨p, us, hv, ow, hp, rr⟩ := e1.dk hx
      have eu := keyD_rd r1 ek
      subst eu
      refine ⟨_, hv, p, _, rfl, DGet.k hp, ?_⟩
      rw [rr.has kk]
      exact k _ _ H1 F1 h1 s1 (.bl _)
    · exact h1.elim
theorem pu_din (i : Nat) {tk : TE} {fk : DTE} (hk : PuE B tk fk) : PuE B (tDIn tk (tVar i)) (dInK i false fk) := fun σ H F ρ Q q e hf k =>
  hk σ H F ρ _ _ e hf fun z v H1 F1 h1 s1 r1 => by
    have e1 := e.step s1
    split at h1
    · rename_i kvs kk hx ek
      obtain ⟨p, us, hv, ow, hp, rr⟩ := e1.dk hx
      have eu := keyD_rd r1 ek
      subst eu
      refine ⟨_, hv, p, _, rfl, DGet.k hp, ?_⟩
      rw [rr.has kk]
      exact k _ _ H1 F1 h1 s1 (.bl _)
    · exact h1.elim
/-- list(found) -/
def xListK (i : Nat) : DTX := fun ρ q => match ρ[i]? with
  | some (.dK kvs) => kvs.length ≤ sizeLine ∧ (∀ kv ∈ kvs, strOkK kv.1 = true) ∧ q (.own (kvs.map fun kv => dOfK kv.1))
  | _ => False
where strOkK : Key → Bool
  | .inl _ => true
  | .inr x => decide (x.length ≤ sizeLine) && strOk x
theorem rds_keys {K : PySem.W.Frag} {F : Hp} : ∀ {us : List (Key × V)} {kvs : List (Key × D)}, us.map (·.1) = kvs.map (·.1) → (∀ kv ∈ kvs, xListK.strOkK kv.1 = true) → RDs K F (us.map fun kv => kV kv.1) (kvs.map fun kv => dOfK kv.1)
  | [], [], _, _ => .nil
  | [], _ :: _, h, _ => by simp at h
  | _ :: _, [], h, _ => by simp at h
  | (a, v) :: us, (b, d) :: ds, h, g => by
    simp only [List.map_cons, List.cons.injEq] at h
    refine .cons ?_ (rds_keys h.2 fun kv hk => g kv (List.mem_cons_of_mem _ hk))
    have z := g (b, d) (by simp)
    have ea : a = b := h.1
    subst ea
    cases a with
    | inl i => exact .int i
    | inr x =>
      simp only [xListK.strOkK, Bool.and_eq_true, decide_eq_true_eq] at z
      exact .str x z.1 z.2
theorem pu_listK (i : Nat) : PuX B (tCB rListD (tCons (tVar i) tNil)) (xListK i) := fun σ H F ρ Q q e hf k => by
  unfold xListK at hf
  split at hf
  · rename_i kvs hx
    obtain ⟨p, us, hv, ow, hp, rr⟩ := e.dk hx
    obtain ⟨hl, hs, hq⟩ := hf
    refine ⟨_, hv, p, us, rfl, hp, fun l hl2 => ?_⟩
    have b := e.base
    exact k (.own _) _ _ F hq (Step.loose b hl2) ⟨l, _, rfl, hl2, b.fh.free hl2, upd_same, by rw [List.length_map, rr.len]; exact hl, rds_keys rr.1 hs⟩
  · exact hf.elim
end
end DL

/-! DL: sorted(d) of a dict whose keys are pairs of ints. -/
namespace DL
open PySem PySem.Spec PyProof.Rows L2
abbrev pkey (p : Int × Int) : List Key := [.inl p.1, .inl p.2]
/-- the pair that a reference stands for -/
def prOf (H : Hp) : Value → Int × Int
  | .ref b => (match H b with
    | some (.tup [.int i, .int j]) => (i, j)
    | _ => (0, 0))
  | _ => (0, 0)
def adOf : Value → Addr
  | .ref b => b
  | _ => 0
def rSortedDT : List V → Hp → VK → Prop := fun xs H Q => ∃ (a : Addr) (kvs : List (List Key × V)) (ps : List (Int × Int)), xs = [.ref a] ∧ H a = some (.dT kvs) ∧ kvs.map (·.1) = ps.map pkey ∧
  ∀ (bs : List Addr) (qs : List (Int × Int)) (p : Addr), qs.Perm ps → qs.Pairwise (fun x y => SrtO.lexB y x = false) → bs.length = qs.length → (∀ (j : Nat) (b : Addr) (q : Int × Int), bs[j]? = some b → qs[j]? = some q → H b = some (.tup [.int q.1, .int q.2])) → H p = none →
    Q (.ref p) (upd H p (.lst (bs.map V.ref)))
theorem kt_get {H : Hp} : ∀ {kvs : List (List Key × V)} {xs : List (List Key × Addr × Value)} {ps : List (Int × Int)}, KT H kvs xs → kvs.map (·.1) = ps.map pkey →
    (xs.map fun x => prOf H (.ref x.2.1)) = ps ∧ ∀ x ∈ xs, ∃ i j : Int, H x.2.1 = some (.tup [.int i, .int j])
  | [], _, ps, .nil, h => by
    cases ps with
    | nil => exact ⟨rfl, fun x hx => nomatch hx⟩
    | cons => simp at h
  | kv :: kvs, x :: xs, ps, .cons h1 h2, h => by
    cases ps with
    | nil => simp at h
    | cons p ps =>
      simp only [List.map_cons, List.cons.injEq] at h
      obtain ⟨g1, g2⟩ := kt_get h2 h.2
      have e : H x.2.1 = some (.tup [.int p.1, .int p.2]) := by
        have z := h1.2.1
        rw [h.1] at z
        exact z
      refine ⟨?_, fun y hy => ?_⟩
      · rw [List.map_cons, g1]
        congr 1
        simp only [prOf, e]
      · rcases List.mem_cons.mp hy with rfl | hy
        · exact ⟨_, _, e⟩
        · exact g2 y hy
section
variable {X : Cx}
theorem cr_sortedDT (hc : X.calm = true) : CallR X (.builtin "sorted") rSortedDT := by
  intro pins s σ H xs us Q I r h
  obtain ⟨d, kvs, ps, rfl, hd, hps, q⟩ := h
  obtain ⟨u, rfl, rx⟩ := r.one
  cases rx
  obtain ⟨z, hs, ks, pr, o, es, ep, ho, hx, hdt, he, hn⟩ := (show ObjOk X.prog X.w H s.heap d (.dT kvs) from I.hok _ _ hd)
  have l1 : es.size = ks.length := size_of_entries he
  have l2 : kvs.length = ks.length := Paired.length pr
  obtain ⟨k1, k2⟩ := kt_get pr hps
  refine Calls.call_function_entry PyProof.Rows.kind_sorted PyProof.Rows.plain_sorted PyProof.Rows.entry_sorted (PyProof.Rows.args_sorted1 _) ?_
  unfold Builtin.«sorted»
  refine wpAny_bind (m := checkCount "sorted" 1 1 _) (wpAny_pure ?_)
  refine wpAny_bind (PySem.W.kdu_collect (A := X.A.in1) (kdl_raw hs hx hdt) (I.ok.hd hc) ho (by omega) fun h' tk acc' kp it => ?_)
  have ea : acc'.toList = ks.map fun x => Value.ref x.2.1 := by
    have hl : acc'.toList.length = ks.length := by rw [Array.length_toList, it.1]; exact l1
    apply List.ext_getElem?
    intro j
    rw [List.getElem?_map]
    cases hj : acc'.toList[j]? with
    | none =>
      have h1 := List.getElem?_eq_none_iff.mp hj
      rw [List.getElem?_eq_none (by omega)]
      all_goals rfl
    | some v =>
      obtain ⟨en, hen, hv⟩ := it.2 j v (by rw [← Array.getElem?_toList]; exact hj)
      have qe := entry_at he j
      rw [hen] at qe
      cases hb : ks[j]? with
      | none =>
        rw [hb] at qe
        exact nomatch (show some en = none from qe)
      | some b =>
        rw [hb] at qe
        have e2 : en = entryOfKey (tupleKind (mixKind X.prog X.w)) b := Option.some.inj qe
        rw [hv, e2]
        all_goals rfl
  have I1 : Inv X pins σ H { s with heap := h', toks := tk } := I.kept kp
  have hal : acc'.toList.length ≤ sizeLine := by rw [ea, List.length_map]; omega
  refine wpAny_bind (wpAny_newList ?_ hal)
  have hoL : (h'.push (seqObj "list" acc'.toList.toArray 0)).get? h'.objs.size = some (seqObj "list" acc'.toList.toArray 0) := Heap.get?_push_size _ rfl
  show wpAny _ _ _ _ _ { s with heap := h'.push (seqObj "list" acc'.toList.toArray 0), toks := tk }
  have memv : ∀ v ∈ acc'.toList, ∃ b i j, v = Value.ref b ∧ H b = some (.tup [.int i, .int j]) := fun v hv => by
    rw [ea] at hv
    obtain ⟨x, hx, rfl⟩ := List.mem_map.mp hv
    obtain ⟨i, j, e⟩ := k2 x hx
    exact ⟨_, i, j, rfl, e⟩
  have pairAt : ∀ v ∈ acc'.toList, Srt.IsPair (h'.push (seqObj "list" acc'.toList.toArray 0)) v (prOf H v).1 (prOf H v).2 := fun v hv => by
    obtain ⟨b, i, j, rfl, e⟩ := memv v hv
    obtain ⟨_, its2, r2, o, ho, hc, n, hd⟩ := I1.hok _ _ e
    obtain ⟨u1, u2, rfl, ri, rj⟩ := vals2 r2
    obtain ⟨t1, rfl⟩ := ri
    obtain ⟨t2, rfl⟩ := rj
    have ep : prOf H (.ref b) = (i, j) := by simp only [prOf, e]
    rw [ep]
    exact ⟨b, o, t1, t2, n, rfl, Heap.get?_push_of_some _ ho, hc, hd⟩
  refine wpAny_bind (wpAny_holding (wpAny_call_entry PyProof.Rows.slot_list_sort ⟨_, hoL, rfl⟩ PyProof.Rows.entry_list_sort
    (SrtO.list_sort_ord (s := { s with heap := h'.push (seqObj "list" acc'.toList.toArray 0), toks := tk }) (ltv := fun v u => SrtO.lexB (prOf H v) (prOf H u)) (SrtO.swo_lex (prOf H)) hoL hal
      (fun h2 => SrtO.pairs_sortableO (by omega) pairAt fun o e => by
        have e' : some o = some (seqObj "list" acc'.toList.toArray 0) := e.symm.trans hoL
        cases e'
        intro c
        exact absurd (Value.type.inj c) (by decide))
      fun out g1 g2 => ⟨_, rfl, ?_⟩) (PyProof.Rows.args_list_sort _)))
  obtain ⟨e', he'⟩ := PyProof.Rows.sortedHeap_at (vs := acc'.toList) (out := out.toArray) hoL
  have mem2 : ∀ v ∈ out, ∃ b i j, v = Value.ref b ∧ H b = some (.tup [.int i, .int j]) := fun v hv => memv v (g2.perm.mem_iff.mp hv)
  have eo : out = (out.map adOf).map Value.ref := by
    rw [List.map_map]
    have : ∀ l : List Value, (∀ v ∈ l, ∃ b i j, v = Value.ref b ∧ H b = some (.tup [.int i, .int j])) → l = l.map (Value.ref ∘ adOf) := by
      intro l
      induction l with
      | nil => intro _; rfl
      | cons v l ih =>
        intro hh
        obtain ⟨b, i, j, rfl, _⟩ := hh v (by simp)
        rw [List.map_cons, ← ih fun w hw => hh w (List.mem_cons_of_mem _ hw)]
        rfl
    exact this out mem2
  have rv : Vals ((out.map adOf).map V.ref) out := by
    have this := vals_refs (out.map adOf)
    rw [← eo] at this
    exact this
  have hlen : ((out.map adOf).map V.ref).length ≤ sizeLine := by
    rw [List.length_map, List.length_map, g2.perm.length_eq]
    exact hal
  refine wpAny_pure ⟨_, rfl, .ref h'.objs.size, upd H h'.objs.size (.lst ((out.map adOf).map V.ref)), I1.laid (t' := tk) (fun b u e => ?_) (Nat.le_refl _)
    (show ObjOk X.prog X.w _ _ _ (.lst ((out.map adOf).map V.ref)) from ⟨hlen, out, e', rv, he'⟩), rfl, q (out.map adOf) (out.map (prOf H)) _ ?_ ?_ (by rw [List.length_map, List.length_map]) (fun j b qq e1 e2 => ?_) (I1.hok.fresh (Nat.le_refl _))⟩
  · have hb : b < h'.objs.size := Heap.lt_size e
    rw [PyProof.Rows.sortedHeap_old (Nat.ne_of_lt hb) (by rw [PyProof.Rows.size_push']; exact Nat.lt_succ_of_lt hb)]
    exact Heap.get?_push_of_some _ e
  · rw [← k1]
    have z := g2.perm.map (prOf H)
    rw [ea, List.map_map] at z
    exact z
  · rw [List.pairwise_map]
    exact g1
  · rw [List.getElem?_map] at e1 e2
    cases eo2 : out[j]? with
    | none => rw [eo2] at e1; cases e1
    | some v =>
      rw [eo2] at e1 e2
      cases e1
      cases e2
      obtain ⟨b, i, j2, rfl, e⟩ := mem2 v (List.mem_of_getElem? eo2)
      have ep : prOf H (.ref b) = (i, j2) := by simp only [prOf, e]
      rw [ep]
      exact e
end
end DL

/-! DL: keyword-only parameters; what is never reached; sorted keys. -/
namespace DL
open PySem PySem.Spec PyProof.Rows L2
section
variable {B : Bx}
def xDictT : DTX := fun _ q => q (.dT [])
theorem pu_dictT : PuX B tDNewT xDictT := fun σ H F ρ Q q e hf k p hp =>
  k (.dT []) _ _ F hf (Step.loose e.base hp) ⟨p, [], rfl, hp, e.base.fh.free hp, upd_same, rfl, .nil⟩
abbrev prD (p : Int × Int) : D := .tuple [.int p.1, .int p.2]
/-- sorted(found), found a dict whose keys are pairs of ints -/
def xSortedT (i : Nat) : DTX := fun ρ q => match ρ[i]? with
  | some (.dT kvs) => ∃ ps : List (Int × Int), kvs.map (·.1) = ps.map pkey ∧ ps.length ≤ sizeLine ∧ ∀ qs : List (Int × Int), qs.Perm ps → qs.Pairwise (fun x y => SrtO.lexB y x = false) → q (.own (qs.map prD))
  | _ => False
theorem rds_pairs {K : PySem.W.Frag} {F : Hp} : ∀ {bs : List Addr} {qs : List (Int × Int)}, bs.length = qs.length → (∀ (j : Nat) (b : Addr) (q : Int × Int), bs[j]? = some b → qs[j]? = some q → F b = some (.tup [.int q.1, .int q.2])) →
    RDs K F (bs.map V.ref) (qs.map prD)
  | [], [], _, _ => .nil
  | [], _ :: _, h, _ => by simp at h
  | _ :: _, [], h, _ => by simp at h
  | b :: bs, q :: qs, h, g => by
    refine .cons (.tup (SqT.of (g 0 b q rfl rfl)) (by show 2 ≤ sizeLine; rw [sizeLine_eq]; omega) (.cons (.int _) (.cons (.int _) .nil))) (rds_pairs (by simpa using h) fun j b' q' h1 h2 => g (j + 1) b' q' (by simpa using h1) (by simpa using h2))
theorem pu_sortedT (i : Nat) : PuX B (tCB rSortedDT (tCons (tVar i) tNil)) (xSortedT i) := fun σ H F ρ Q q e hf k => by
  unfold xSortedT at hf
  split at hf
  · rename_i kvs hx
    obtain ⟨p, us, hv, ow, hp, rr⟩ := e.dt hx
    obtain ⟨ps, h1, h2, hq⟩ := hf
    refine ⟨_, hv, p, us, ps, rfl, hp, rr.1.trans h1, fun bs qs l g1 g2 g3 g4 hl => ?_⟩
    have b := e.base
    exact k (.own _) _ _ F (hq qs g1 g2) (Step.loose b hl) ⟨l, _, rfl, hl, b.fh.free hl, upd_same, by rw [List.length_map, g3, g1.length_eq]; exact h2, rds_pairs g3 fun j b' q' e1 e2 => b.tp _ _ (g4 j b' q' e1 e2)⟩
  · exact hf.elim
theorem RCs.append {K : PySem.W.Frag} {w : Option Addr} {F : Hp} : ∀ {vs us : List V} {xs ys : List SV}, RCs K w F vs xs → RCs K w F us ys → RCs K w F (vs ++ us) (xs ++ ys)
  | _, _, _, _, .nil, h => h
  | _, _, _, _, .cons h r, s => .cons h (RCs.append r s)
/-- f(e, .., orders = v) -/
def xCallN (n m : Nat) (spec : Spec) (fa fb : DTC) : DTX := fun ρ q => fa ρ fun ds => fb ρ fun es => (ds.length = n ∧ es.length = m) ∧ spec (ds ++ es) q
theorem pu_callN {n m : Nat} {spec : Spec} {E : XK} {ta tb : TA} {fa fb : DTC} (ha : PuC B ta fa) (hb : PuC B tb fb) : PuX B (tCallN n m (spA B.K spec) (fun vs zs => vs ++ zs) E ta tb) (xCallN n m spec fa fb) := fun σ H F ρ Q q e hf k =>
  ha σ H F ρ _ _ e hf fun ds vs H1 F1 h1 s1 r1 => hb σ H1 F1 ρ _ _ (e.step s1) h1 fun es us H2 F2 h2 s2 r2 => by
    refine ⟨by rw [r1.length]; exact h2.1.1, by rw [r2.length]; exact h2.1.2, B.w, F2, ds ++ es, q, (e.step s1).base.step s2, RCs.append (r1.mono s2.ff) r2, h2.2, fun x v H' F' hx st nv => ?_⟩
    have s12 := s1.trans e.base s2
    exact k x v H' F' hx (s12.trans e.base st) (nv.older e.base s12)
end
structure FnK (P : Program) (w : World) (K : PySem.W.Frag) (mg : Str → Option Value) (base : Heap) (k : Nat) (x : Str) (ps : List Str) (n : Nat) (ks : List Str) (spec : Spec) (f : Addr) (fd : FuncData) : Prop where
  mgf : mg x = some (.ref f)
  kp : PySem.W.keepIn K (.ref f) = true
  kb : KBn K fd ps n ks (fun us ws => us ++ ws) (fun vs zs => vs ++ zs)
  ok : FnOk P w K mg base CX0 k f fd ps (spA K spec)
section
variable {P : Program} {w : World} {K : PySem.W.Frag} {mg : Str → Option Value} {base : Heap}
theorem Vals.append2 {vs us : List V} {xs ys : List Value} (h : Vals vs xs) (r : Vals us ys) : Vals (vs ++ us) (xs ++ ys) := h.append r
theorem fnK_ok {x : Str} {st : Stmt} {N ps ks : List Str} {n k : Nat} {spec : Spec} {g : DTS} {f : Addr} {fd : FuncData} (mgf : mg x = some (.ref f)) (T : Fun K x x st f fd) (S : FnScope N ps (defScope st))
    (bd : ∀ (kV doc pm : Value) (an : Option Addr) (cdv ct : Value) (us ws : List Value), us.length = n → ws.length = ks.length → bindArgs (PySem.W.fnOf x x (defArgs st) (defBody st) (defScope st) .none kV doc pm an cdv ct) ⟨us, ks.zip ws⟩ = pure (ps.zip (us ++ ws)))
    (body : ∀ (cdv : Value) (A : Around) (outer : List PySem.Env) (s : Shared) (H : Hp) (E : XK), Room k (A.deeper (envOfC x (defScope st) s.heap.objs.size f cdv)) →
      ∃ t, PSs (cxOf CX0 P w K mg base N x (defScope st) f cdv A outer s H E).nox (defBody st) t ∧ ∀ (w' : Option Addr) (H0 F0 : Hp), PuS ⟨K, w', H0, F0⟩ t g)
    (len : ∀ ds q, spec ds q → ds.length = ps.length)
    (sem : ∀ ds q, spec ds q → g { nx := fun _ => q (.dat .none), rt := q } (startD N ds)) : FnK P w K mg base (k + 1) x ps n ks spec f fd := by
  refine ⟨mgf, T.kp, ⟨fun s us ws _ l1 l2 => ?_, fun r1 r2 => r1.append r2⟩, T.ok S (fun vs H Q E h => ?_) (fun cdv A outer s H vs Q E hr h => ?_)⟩
  · obtain ⟨oc, od, kV, doc, pm, an, cdv, ct, osl, rfl, lk, hcd⟩ := T.ex
    exact .of_eq (bd kV doc pm an cdv ct us ws l1 l2)
  · obtain ⟨w', F, ds, q, b, r, hs, _⟩ := h
    rw [r.length]
    exact len _ _ hs
  · obtain ⟨w', F, ds, q, b, r, hs, hk⟩ := h
    obtain ⟨t, h1, h2⟩ := body cdv A outer s H E hr
    refine ⟨t, h1, ?_⟩
    have hN : ds.length ≤ N.length := by
      rw [len _ _ hs]
      have := congrArg List.length S.pre
      rw [List.length_take] at this
      omega
    have e := env_start (N := N) b r hN
    exact h2 w' H F (L2.start N vs) H F (startD N ds) _ _ e (sem ds q hs) (fun σ' H' F' ρ' hq _ e' => hk (.dat .none) .non H' F' hq e'.st .non) (fun x v H' F' hx st nv => hk x v H' F' hx st nv) (fun σ' H' F' ρ' hq _ _ => hq.elim) fun σ' H' F' ρ' hq _ _ => hq.elim
end
/-! names for the walks -/
def q_xDictT_1 := @xDictT.eq_1
def q_xSortedT_1 := @xSortedT.eq_1
def q_xCallN_1 := @xCallN.eq_1
def q_gDPut_1 := @gDPut.eq_1
def q_gDPutT_1 := @gDPutT.eq_1
def q_dInK_1 := @dInK.eq_1
def q_xListK_1 := @xListK.eq_1
def q_keyD_1 := @keyD.eq_1
def q_keyD_2 := @keyD.eq_2
def q_keysD_1 := @keysD.eq_1
def q_keysD_2 := @keysD.eq_2
end DL

/-! DL: sorted lists, sorted sets, list.index. -/
namespace DL
open PySem PySem.Spec PyProof.Rows L2
/-! ### set(xs), xs a list of ints, as the set that can be walked -/
section
variable {P : Program} {w : World} {A : Around} {E : Value → Shared → Prop} {s : Shared}
abbrev fresh0 (w : World) : Obj := { cls := .type "set", dict := none, data := .set #[] 0 (.fresh 0 0 (!w.params.followText "set-order")) }
theorem setI_list {l : Addr} {items : Array Value} (ns : List Int) {Q : Value → Shared → Prop} (hh : A.handled = none) (hl : s.heap.IsList l items) (hit : IntsAre items.toList ns) (hb : ns.length + 1 < scanBound)
    (h : ∀ (h' : Heap) (tk c : Nat), SetR w h' s.heap.objs.size (fun j => decide (j ∈ ns)) c → c ≤ ns.length → (∀ b o, s.heap.get? b = some o → h'.get? b = some o) → Q (.ref s.heap.objs.size) { s with heap := h', toks := tk }) :
    wpAny (model P w) A (call (.type "set") [.ref l]) Q E s := by
  have hisz : items.size = ns.length := by
    have q := IntsAre.length hit
    rwa [Array.length_toList] at q
  obtain ⟨c, tl, hmro⟩ := PySem.F.called_set.mro
  have hmade := PySem.F.called_set.made
  have hsub := PySem.F.called_set.sub
  refine wpAny_call (codeAny_of_tree ?_)
  show wpAny _ _ (callAny (.type "set") _) _ _ _
  refine wpAny_pure ⟨Code.quiet_builtin _ (by decide +kernel), codeAny_builtin PySem.F.entry_type_call ?_⟩
  rw [Around.under_plain (weight_type_call_type "set" [.ref l] []) rfl]
  have h1 := PySem.F.called_set.notType
  have h2 := PySem.F.called_set.canCreate
  have hct := PySem.F.typeCall_set_1 (.ref l)
  repeat (any_goals (first | assumption | wp_step))

  refine codeAny_mono (code_set_led1 (.ref l) (E := E) (Q₁ := fun obj s₁ => obj = .ref s.heap.objs.size ∧ s₁ = { s with heap := s.heap.push (fresh0 w) }) ⟨rfl, rfl⟩) fun r s₁ hr => ?_
  cases r with
  | error e => exact hr
  | ok fl =>
    cases fl with
    | ret obj =>
      obtain ⟨rfl, rfl⟩ := hr
      have hS : (s.heap.push (fresh0 w)).get? s.heap.objs.size = some (fresh0 w) := Heap.get?_push_size _ rfl
      have hT : Shared.TypeIs { s with heap := s.heap.push (fresh0 w) } (.ref s.heap.objs.size) "set" := ⟨_, hS, rfl⟩
      have hli := PySem.F.called_set.init.lookup
      have hbi := PySem.F.called_set.init.bind (.ref s.heap.objs.size)
      repeat (any_goals (first | assumption | wp_step))

      refine codeAny_mono (codeAny_call_builtin (R := wants (fun r s₂ => r = .none ∧ ∃ h' tk c, s₂ = { s with heap := h', toks := tk } ∧ SetR w h' s.heap.objs.size (fun j => decide (j ∈ ns)) c ∧ c ≤ ns.length ∧ ∀ b o, s.heap.get? b = some o → h'.get? b = some o) E)
        PySem.F.called_set.init.plain PySem.F.entry_set_init (check_set_init_1 hT ?_)) fun r₂ s₂ hr₂ => ?_
      · obtain ⟨ol, hol, hcl, nl, hdl⟩ := hl
        obtain ⟨ocls, odict, odata, oslots⟩ := ol
        simp only at hcl hdl
        subst hcl; subst hdl
        have hol' : (s.heap.push (fresh0 w)).get? l = some { cls := .type "list", dict := odict, data := .seq items nl, slots := oslots } := Heap.get?_push_of_some _ hol
        have hsls := PySem.F.sub_list_set
        have hslf := PySem.F.sub_list_frozenset
        have hne : (Value.type "list" == Value.type "dict") = false := by decide
        have hl1 : (s.heap.push (fresh0 w)).IsList l items := ⟨_, hol', rfl, nl, rfl⟩
        unfold Builtin.«set.__init__» noKeywords Builtin.Frozenset.updateFrom
        generalize hPI : pyIter = PI
        wp_walk
        subst hPI

        refine wpAny_pyIter_list hl1 ?_
        refine wpAny_bind (wpAny_runValue ?_)
        have hlS : l < s.heap.objs.size := Heap.lt_size hol
        have hh3 : A.in1.in1.in1.handled = none := by simp [hh]
        have hneI : l ≠ (s.heap.push (fresh0 w)).objs.size := by
          rw [Heap.size_push]; exact Nat.ne_of_lt (Nat.lt_succ_of_lt hlS)
        have hSf : s.heap.objs.size ∉ [(s.heap.push (fresh0 w)).objs.size, l] := by
          rw [Heap.size_push]
          intro z
          rcases List.mem_cons.mp z with z | z
          · exact absurd z (Nat.ne_of_lt (Nat.lt_succ_self _))
          · rw [List.mem_singleton] at z
            exact absurd z (Nat.ne_of_gt hlS)
        have hval : ∀ (i : Nat) (v : Value), items[i]? = some v → ∃ k t, ns[i]? = some k ∧ v = .int k t := fun i v hv => by
          have hi : i < ns.length := by rw [← hisz]; exact (Array.getElem?_eq_some_iff.mp hv).1
          obtain ⟨t, e⟩ := PyProof.Rows.IntsAre.int_at hit i v (by rw [Array.getElem?_toList]; exact hv)
          exact ⟨ns[i], t, List.getElem?_eq_getElem hi, by rw [e, List.getD_eq_getElem?_getD, List.getElem?_eq_getElem hi]; rfl⟩
        refine set_update_ints ((Walks.list hh3 _ l hneI items).toS) s.heap.objs.size hSf ns hisz hb hval (items.size - 0) 0 _ (by omega) (Nat.zero_le _) ⟨⟨_, Heap.get?_push_size _ rfl, rfl, rfl⟩, (hl1.push _)⟩ ?hS0 ?hR
        case hS0 =>
          have hget : ((s.heap.push (fresh0 w)).push { cls := .type "list_iterator", data := .fields #[.ref l, .int 0 0] }).get? s.heap.objs.size = some (fresh0 w) := Heap.get?_push_of_some _ hS
          exact ⟨0, Nat.le_refl 0, setR_new_at hget⟩
        case hR =>
          intro s' c' hm hc' hS'
          obtain ⟨h', g2, d', tk', os'⟩ := s'
          obtain rfl : g2 = s.gens := hm.gens
          obtain rfl : d' = s.drawn := hm.drawn
          obtain rfl : os' = s.os := hm.os
          show wpAny _ _ _ _ _ _
          refine wpAny_pure ?_
          show wpAny _ _ (ret Value.none) _ _ _
          refine wpAny_pure ⟨rfl, h', tk', c', rfl, hS', by omega, fun b o e => ?_⟩
          have hb0 : b < s.heap.objs.size := Heap.lt_size e
          refine hm.heap b o (fun z => ?_) (Heap.get?_push_of_some _ (Heap.get?_push_of_some _ e))
          rw [Heap.size_push] at z
          rcases List.mem_cons.mp z with z | z
          · exact absurd z (Nat.ne_of_lt hb0)
          · rw [List.mem_singleton] at z
            exact absurd z (Nat.ne_of_lt (Nat.lt_succ_of_lt hb0))

      · cases r₂ with
        | error e => exact hr₂
        | ok fl₂ =>
          cases fl₂ with
          | ret r =>
            obtain ⟨rfl, h', tk, c', rfl, hS', hc', hk'⟩ := hr₂
            repeat (any_goals (first | assumption | wp_step))
            exact h _ _ _ hS' hc' hk'
          | _ => exact hr₂.elim
    | _ => exact hr.elim
end
section
variable {X : Cx}
def rSetI (K : PySem.W.Frag) (w : World) : List V → Hp → VK → Prop := fun xs H Q => ∃ (l : Addr) (ns : List Int), xs = [.ref l] ∧ (SqL K H l (ns.map V.int) ∨ SqT K H l (ns.map V.int)) ∧ ns.length ≤ 1000 ∧
  ∀ p c, H p = none → c ≤ ns.length → Q (.ref p) (upd H p (SetO w p (fun j => decide (j ∈ ns)) c))
theorem cr_setI (K : PySem.W.Frag) (hK : X.K = K) (hc : X.calm = true) : CallR X (.type "set") (rSetI K X.w) := by
  subst hK
  intro pins s σ H xs us Q I r h
  obtain ⟨l, ns, rfl, hq, hl, q⟩ := h
  rw [Vals.ref1 r]
  have fin : ∀ (h' : Heap) (tk c : Nat), SetR X.w h' s.heap.objs.size (fun j => decide (j ∈ ns)) c → c ≤ ns.length → (∀ b o, s.heap.get? b = some o → h'.get? b = some o) → EP X pins σ Q (.ref s.heap.objs.size) { s with heap := h', toks := tk } := fun h' tk c R hc k =>
    ⟨.ref _, _, I.laid (t' := tk) (a := s.heap.objs.size) k (Nat.le_refl _) (setO_new R), rfl, q _ c (I.hok.fresh (Nat.le_refl _)) hc⟩
  rcases hq with hq | hq
  · obtain ⟨its, rv, pl, hz⟩ := I.list hq
    exact setI_list ns (I.ok.hd hc) pl.isList (by simpa using rv.ints) (by unfold scanBound; omega) fin
  · obtain ⟨its, rv, pl, hz⟩ := I.tuple hq
    exact call_set_tupI ns (I.ok.hd hc) pl (by simpa using rv.ints) (by unfold scanBound; omega) fin
/-- sorted(xs), xs pairs of ints -/
def rSortedPT (K : PySem.W.Frag) : List V → Hp → VK → Prop := fun vs H Q => ∃ (a : Addr) (xs : List V), vs = [V.ref a] ∧ SqL K H a xs ∧ (∀ x ∈ xs, ∃ p : Int × Int, TupI K H x [p.1, p.2]) ∧
  ∀ ys p, ys.Perm xs → ys.Pairwise (fun x y => ∀ p q : Int × Int, TupI K H x [p.1, p.2] → TupI K H y [q.1, q.2] → SrtO.lexB q p = false) → H p = none → Q (.ref p) (upd H p (.lst ys))
def prH (h : Heap) (u : Value) : Int × Int := match TS.intsOf h u with
  | [i, j] => (i, j)
  | _ => (0, 0)
theorem cr_sortedPT : CallR X (.builtin "sorted") (rSortedPT X.K) := by
  intro pins s σ H vs us Q I r h
  obtain ⟨a, xs, rfl, hs, hx, q⟩ := h
  obtain ⟨its, rv, hl, hz⟩ := I.list hs
  rw [Vals.ref1 r]
  obtain ⟨e1, e2⟩ := bkV_refs rv fun x m => by
    obtain ⟨p, t, e, _⟩ := hx x m
    exact ⟨t, e⟩
  have raw : ∀ {t : Addr} {p : Int × Int}, TupI X.K H (.ref t) [p.1, p.2] → prH s.heap (.ref t) = p := fun {t p} ⟨t', e, h⟩ => by
    cases e
    have z := (tupI_raw (ns := [p.1, p.2]) I h).ints
    unfold prH
    rw [z]
  refine SrtO.sorted_pairsO (k := prH s.heap) hl.isList (by rw [← rv.length]; exact hz) (fun v hv => ?_) fun h' d out h1 h2 kp hd hn => ?_
  · obtain ⟨t, rfl⟩ := e2 v hv
    have hm : V.ref t ∈ xs := by rw [e1]; exact List.mem_map.mpr ⟨_, hv, rfl⟩
    obtain ⟨p, hp⟩ := hx _ hm
    rw [raw hp]
    obtain ⟨t', e, ht⟩ := hp
    cases e
    obtain ⟨its2, r2, ⟨⟨cls, dd, data, sl⟩, ho, hc, n, hd⟩, _⟩ := I.tuple ht
    obtain ⟨u1, u2, rfl, ri, rj⟩ := vals2 r2
    obtain ⟨t1, rfl⟩ := ri
    obtain ⟨t2, rfl⟩ := rj
    exact ⟨t, _, t1, t2, n, rfl, ho, hc, hd⟩
  · have h3 : ∀ u ∈ out, ∃ a, u = Value.ref a := fun u hu => e2 u (h2.perm.mem_iff.mp hu)
    obtain ⟨n, hn⟩ := hn
    have hp : (out.map bkV).Perm xs := by
      rw [e1]
      exact h2.perm.map bkV
    refine ⟨.ref d, upd H d (.lst (out.map bkV)), I.laid (t' := s.toks) kp hd ⟨?_, out, n, bkV_vals h3, hn⟩, rfl, q _ d hp ?_ (I.hok.fresh hd)⟩
    · rw [hp.length_eq]
      exact hz
    · rw [List.pairwise_map]
      refine List.Pairwise.imp (fun {u v} huv p q' hn hm => ?_) h1
      obtain ⟨t, et, ht⟩ := id hn
      obtain ⟨t', et', ht'⟩ := id hm
      have eu := bkV_ref et
      have ev := bkV_ref et'
      subst eu ev
      rw [← raw hn, ← raw hm]
      exact huv
end
def rSrt (K : PySem.W.Frag) : List V → Hp → VK → Prop := fun vs H Q => rSortedI K vs H Q ∨ rSortedPT K vs H Q
theorem cr_srt {X : Cx} (K : PySem.W.Frag) (h : X.K = K) : CallR X (.builtin "sorted") (rSrt K) := by
  subst h
  intro pins s σ H vs us Q I r h
  rcases h with h | h
  · exact cr_sortedI pins s σ H vs us Q I r h
  · exact cr_sortedPT pins s σ H vs us Q I r h
theorem cr_srtSet {X : Cx} (w : World) (hw : X.w = w) (hc : X.calm = true) : CallR X (.builtin "sorted") (rSortedSet w) := by
  subst hw
  exact cr_sortedSet hc
theorem cr_setK {X : Cx} (K : PySem.W.Frag) (w : World) (hK : X.K = K) (hw : X.w = w) (hc : X.calm = true) : CallR X (.type "set") (rSetI K w) := by
  subst hw
  exact cr_setI K hK hc

/-! ### by data -/
def pairD : D → Option (Int × Int)
  | .tuple [.int i, .int j] => some (i, j)
  | _ => none
theorem pairD_some {d : D} {p : Int × Int} (h : pairD d = some p) : d = prD p := by
  unfold pairD at h
  split at h
  · cases h; rfl
  · cases h
def pairsD : List D → Option (List (Int × Int))
  | [] => some []
  | d :: r => match pairD d, pairsD r with
    | some p, some ps => some (p :: ps)
    | _, _ => none
theorem pairsD_some : ∀ {ds : List D} {ps : List (Int × Int)}, pairsD ds = some ps → ds = ps.map prD
  | [], _, h => by cases h; rfl
  | d :: r, ps, h => by
    unfold pairsD at h
    split at h
    · rename_i p ps' h1 h2
      cases h
      rw [pairD_some h1, pairsD_some h2]
      rfl
    · cases h
theorem pairsD_map : ∀ ps : List (Int × Int), pairsD (ps.map prD) = some ps
  | [] => rfl
  | p :: ps => by
    have ih := pairsD_map ps
    rw [List.map_cons]
    unfold pairsD
    rw [ih]
    rfl
theorem intsD_pairs {p : Int × Int} {ps : List (Int × Int)} : intsD ((p :: ps).map prD) = none := rfl
section
variable {K : PySem.W.Frag} {F : Hp}
theorem rds_perm {vs ws : List V} (h : vs.Perm ws) : ∀ {ds : List D}, RDs K F vs ds → ∃ es, es.Perm ds ∧ RDs K F ws es := by
  induction h with
  | nil => intro ds r; cases r; exact ⟨[], .nil, .nil⟩
  | cons x h ih =>
    intro ds r
    cases r with
    | cons r rr =>
      obtain ⟨es, h1, h2⟩ := ih rr
      exact ⟨_ :: es, h1.cons _, .cons r h2⟩
  | swap x y l =>
    intro ds r
    cases r with
    | cons r rr =>
      cases rr with
      | cons r2 rr => exact ⟨_, List.Perm.swap _ _ _, .cons r2 (.cons r rr)⟩
  | trans h1 h2 ih1 ih2 =>
    intro ds r
    obtain ⟨es, g1, g2⟩ := ih1 r
    obtain ⟨fs, g3, g4⟩ := ih2 g2
    exact ⟨fs, g3.trans g1, g4⟩
theorem perm_pairs {es : List D} {ps : List (Int × Int)} (h : es.Perm (ps.map prD)) : ∃ qs : List (Int × Int), es = qs.map prD ∧ qs.Perm ps := by
  obtain ⟨qs, h1, h2⟩ : ∃ qs : List (Int × Int), es = qs.map prD ∧ qs.length = es.length := by
    have all : ∀ e ∈ es, ∃ p : Int × Int, e = prD p := fun e he => by
      obtain ⟨p, _, rfl⟩ := List.mem_map.mp (h.mem_iff.mp he)
      exact ⟨p, rfl⟩
    clear h
    induction es with
    | nil => exact ⟨[], rfl, rfl⟩
    | cons e es ih =>
      obtain ⟨qs, h1, h2⟩ := ih fun x hx => all x (List.mem_cons_of_mem _ hx)
      obtain ⟨p, rfl⟩ := all e (by simp)
      exact ⟨p :: qs, by rw [h1]; rfl, by simp [h2]⟩
  refine ⟨qs, h1, ?_⟩
  subst h1
  have inj : ∀ x y : Int × Int, prD x = prD y → x = y := fun x y z => by
    cases x; cases y
    simpa [prD] using z
  have key : (qs.map prD).map (fun d => (pairD d).getD (0, 0)) |>.Perm ((ps.map prD).map fun d => (pairD d).getD (0, 0)) := h.map _
  have e : ∀ l : List (Int × Int), (l.map prD).map (fun d => (pairD d).getD (0, 0)) = l := fun l => by
    rw [List.map_map]
    conv => rhs; rw [← List.map_id l]
    rfl
  rw [e, e] at key
  exact key
theorem RD.tupI {H : Hp} (s : Same F H) {v : V} {p : Int × Int} (h : RD K F v (prD p)) : TupI K H v [p.1, p.2] := by
  cases h with
  | tup hs l r =>
    obtain ⟨u1, u2, rfl, r1, r2⟩ := RDs.two r
    cases r1
    cases r2
    exact ⟨_, rfl, Same.sqt s hs⟩
end
section
variable {B : Bx}
/-- sorted(a list of ints, of pairs) -/
def gSort : List D → (SV → Prop) → Prop
  | [.list ds], q => (match intsD ds with
    | some ns => ∀ ms : List Int, ms.Perm ns → ms.Pairwise (· ≤ ·) → q (.own (ms.map .int))
    | none => (match pairsD ds with
      | some ps => ∀ qs : List (Int × Int), qs.Perm ps → qs.Pairwise (fun x y => SrtO.lexB y x = false) → q (.own (qs.map prD))
      | none => False))
  | _, _ => False
theorem l_sort : RLok B (rSrt B.K) gSort := fun H F xs ds Q q b vx hg k => by
  unfold gSort at hg
  split at hg
  · obtain ⟨v, rfl, hv⟩ := vx.one
    obtain ⟨p, vs, rfl, hp, l, r⟩ := hv.list b.fh
    split at hg
    · rename_i ns e
      rw [intsD_some e] at r
      have lr := r.length
      rw [r.ints] at hp l
      refine .inl ⟨p, ns, rfl, SqL.of hp, fun ms n h1 h2 hn => ?_⟩
      refine k _ _ _ F (hg ms h1 h2) (Step.loose b hn) ⟨n, _, rfl, hn, b.fh.free hn, upd_same, ?_, RDs.of_ints ms⟩
      rw [List.length_map, h1.length_eq]
      rwa [List.length_map] at l
    · split at hg
      · rename_i ps e
        rw [pairsD_some e] at r
        refine .inr ⟨p, vs, rfl, SqL.of hp, fun x hx => ?_, fun ys n h1 h2 hn => ?_⟩
        · obtain ⟨j, hj, e2⟩ := List.mem_iff_getElem.mp hx
          obtain ⟨d, h3, h4⟩ := r.getV (i := j) (v := x) (by rw [List.getElem?_eq_getElem hj, e2])
          rw [List.getElem?_map] at h3
          cases hq : ps[j]? with
          | none => rw [hq] at h3; cases h3
          | some pp =>
            rw [hq] at h3
            cases h3
            exact ⟨pp, h4.tupI b.fh⟩
        · obtain ⟨es, g1, g2⟩ := rds_perm h1.symm r
          obtain ⟨qs, rfl, g3⟩ := perm_pairs g1
          refine k _ _ _ F (hg qs g3 ?_) (Step.loose b hn) ⟨n, _, rfl, hn, b.fh.free hn, upd_same, by rw [h1.length_eq]; exact l, g2⟩
          have key : ∀ {ys : List V} {qs : List (Int × Int)}, RDs B.K F ys (qs.map prD) → ys.Pairwise (fun x y => ∀ p q : Int × Int, TupI B.K H x [p.1, p.2] → TupI B.K H y [q.1, q.2] → SrtO.lexB q p = false) → qs.Pairwise (fun x y => SrtO.lexB y x = false) := by
            intro ys
            induction ys with
            | nil => intro qs r _; cases qs with
              | nil => exact .nil
              | cons => cases r
            | cons y ys ih =>
              intro qs r pw
              cases qs with
              | nil => exact .nil
              | cons q0 qs =>
                cases r with
                | cons r rr =>
                  rw [List.pairwise_cons] at pw
                  refine List.pairwise_cons.mpr ⟨fun q1 hq1 => ?_, ih rr pw.2⟩
                  obtain ⟨j, hj, e2⟩ := List.mem_iff_getElem.mp hq1
                  obtain ⟨v, h3, h4⟩ := rr.get (i := j) (d := prD q1) (by rw [List.getElem?_map, List.getElem?_eq_getElem hj, e2]; rfl)
                  exact pw.1 v (List.mem_of_getElem? h3) q0 q1 (r.tupI b.fh) (h4.tupI b.fh)
          exact key g2 h2
      · exact hg.elim
  · exact hg.elim
/-- sorted(set(xs)) -/
def sortSetD (d : D) (q : SV → Prop) : Prop := match d with
  | .list ds => (match intsD ds with
    | some ns => ns.length < 64 ∧ ∀ ms : List Int, ms.Pairwise (· < ·) → (∀ k, k ∈ ms ↔ k ∈ ns) → q (.own (ms.map .int))
    | none => False)
  | .tuple ds => (match intsD ds with
    | some ns => ns.length < 64 ∧ ∀ ms : List Int, ms.Pairwise (· < ·) → (∀ k, k ∈ ms ↔ k ∈ ns) → q (.own (ms.map .int))
    | none => False)
  | _ => False
def xSortSet (f : DTE) : DTX := fun ρ q => f ρ fun d => sortSetD d q
theorem sortSet_list {ns : List Int} {q : SV → Prop} (h : ns.length < 64) (hq : ∀ ms : List Int, ms.Pairwise (· < ·) → (∀ k, k ∈ ms ↔ k ∈ ns) → q (.own (ms.map .int))) : sortSetD (.list (ns.map .int)) q := by
  unfold sortSetD
  simp only [intsD_map]
  exact ⟨h, hq⟩
theorem sortSet_tuple {ns : List Int} {q : SV → Prop} (h : ns.length < 64) (hq : ∀ ms : List Int, ms.Pairwise (· < ·) → (∀ k, k ∈ ms ↔ k ∈ ns) → q (.own (ms.map .int))) : sortSetD (.tuple (ns.map .int)) q := by
  unfold sortSetD
  simp only [intsD_map]
  exact ⟨h, hq⟩
theorem sort_ints {ns : List Int} {q : SV → Prop} (h : ∀ ms : List Int, ms.Perm ns → ms.Pairwise (· ≤ ·) → q (.own (ms.map .int))) : gSort [.list (ns.map .int)] q := by
  unfold gSort
  simp only [intsD_map]
  exact h
theorem sort_pairs {ps : List (Int × Int)} {q : SV → Prop} (h : ∀ qs : List (Int × Int), qs.Perm ps → qs.Pairwise (fun x y => SrtO.lexB y x = false) → q (.own (qs.map prD))) : gSort [.list (ps.map prD)] q := by
  unfold gSort
  cases ps with
  | nil =>
    intro ms h1 _
    rw [List.Perm.eq_nil h1]
    exact h [] .nil .nil
  | cons p ps =>
    simp only [intsD_pairs, pairsD_map]
    exact h
/-- rising lists of the same members -/
theorem rise_uniq : ∀ {x y : List Int}, x.Pairwise (· < ·) → y.Pairwise (· < ·) → (∀ k, k ∈ x ↔ k ∈ y) → x = y
  | [], [], _, _, _ => rfl
  | [], b :: y, _, _, h => absurd ((h b).mpr (by simp)) (by simp)
  | a :: x, [], _, _, h => absurd ((h a).mp (by simp)) (by simp)
  | a :: x, b :: y, hx, hy, h => by
    rw [List.pairwise_cons] at hx hy
    have e : a = b := by
      have h1 := (h a).mp (by simp)
      have h2 := (h b).mpr (by simp)
      rcases List.mem_cons.mp h1 with z | z
      · exact z
      · rcases List.mem_cons.mp h2 with z2 | z2
        · exact z2.symm
        · have := hy.1 a z
          have := hx.1 b z2
          omega
    subst e
    rw [rise_uniq hx.2 hy.2 fun k => ?_]
    constructor
    · intro hk
      rcases List.mem_cons.mp ((h k).mp (List.mem_cons_of_mem _ hk)) with z | z
      · have := hx.1 k hk
        omega
      · exact z
    · intro hk
      rcases List.mem_cons.mp ((h k).mpr (List.mem_cons_of_mem _ hk)) with z | z
      · have := hy.1 k hk
        omega
      · exact z
theorem pu_sortSet {w : World} {te : TE} {fe : DTE} (he : PuP B te fe) : PuX B (tCB (rSortedSet w) (tCons (tCB (rSetI B.K w) (tCons te tNil)) tNil)) (xSortSet fe) := fun σ H F ρ Q q e hf k => he σ H F ρ _ _ e hf fun d v H1 F1 h1 s1 r1 => by
  have b1 := e.base.step s1
  have fin : ∀ (ns : List Int) (l : Addr), (SqL B.K H1 l (ns.map V.int) ∨ SqT B.K H1 l (ns.map V.int)) → (ns.length < 64 ∧ ∀ ms : List Int, ms.Pairwise (· < ·) → (∀ k, k ∈ ms ↔ k ∈ ns) → q (.own (ms.map .int))) →
      rSetI B.K w [.ref l] H1 fun v H2 => (tNil σ H2 fun vs H3 => rSortedSet w (v :: vs) H3 Q) := fun ns l hq hg =>
    ⟨l, ns, rfl, hq, by omega, fun p c hp hc => ⟨p, _, c, rfl, upd_same, by omega, fun ms n g1 g2 g3 hn => by
      have s2 : Step B.w H1 F1 (upd H1 p (SetO w p (fun j => decide (j ∈ ns)) c)) F1 := Step.loose b1 hp (by intro _ z; cases z)
      have b2 := b1.step s2
      have st := (s1.trans e.base s2).trans e.base (Step.loose (o := .lst (ms.map V.int)) b2 hn)
      refine k (.own (ms.map .int)) _ _ F1 (hg.2 ms g1 fun j => (g2 j).trans (by simp)) st ⟨n, _, rfl, (s1.trans e.base s2).free e.base hn, b2.fh.free hn, upd_same, ?_, RDs.of_ints ms⟩
      rw [List.length_map, g3, sizeLine_eq]
      omega⟩⟩
  cases d with
  | list ds =>
    unfold sortSetD at h1
    dsimp only at h1
    split at h1
    · rename_i ns hx
      obtain ⟨p, vs, rfl, hp, l, r⟩ := r1.list b1.fh
      rw [intsD_some hx] at r
      rw [r.ints] at hp
      exact fin ns p (.inl (SqL.of hp)) h1
    · exact h1.elim
  | tuple ds =>
    unfold sortSetD at h1
    dsimp only at h1
    split at h1
    · rename_i ns hx
      obtain ⟨p, vs, rfl, hp, l, r⟩ := r1.tuple
      rw [intsD_some hx] at r
      rw [r.ints] at hp
      exact fin ns p (.inr (Same.sqt b1.fh hp)) h1
    · exact h1.elim
  | _ => exact h1.elim
/-- xs.index(y) -/
def idxD : List D → D → Option Nat
  | [], _ => none
  | d :: r, e => if PyData.eqv d e = true then some 0 else (idxD r e).map (· + 1)
theorem idxD_spec : ∀ {ds : List D} {e : D} {j : Nat}, idxD ds e = some j → (∃ z, ds[j]? = some z ∧ PyData.eqv z e = true) ∧ ∀ m z', m < j → ds[m]? = some z' → PyData.eqv z' e = false
  | [], _, _, h => by cases h
  | d :: r, e, j, h => by
    unfold idxD at h
    split at h
    · rename_i c
      cases h
      exact ⟨⟨d, rfl, c⟩, fun m z' hm => absurd hm (Nat.not_lt_zero _)⟩
    · rename_i c
      cases hi : idxD r e with
      | none => rw [hi] at h; cases h
      | some i =>
        rw [hi] at h
        cases h
        obtain ⟨⟨z, h1, h2⟩, h3⟩ := idxD_spec hi
        refine ⟨⟨z, by simpa using h1, h2⟩, fun m z' hm hz => ?_⟩
        cases m with
        | zero =>
          simp at hz
          subst hz
          simpa using c
        | succ m => exact h3 m z' (Nat.lt_of_succ_lt_succ hm) (by simpa using hz)
def dIdx (fa fb : DTE) : DTE := fun ρ q => fa ρ fun d => match d with
  | .list ds => fb ρ fun e => (flatD e = true ∧ ds.all flatD = true) ∧ (match idxD ds e with
    | some j => q (.int (j : Nat))
    | none => False)
  | _ => False
theorem pu_index {to te : TE} {fo fe : DTE} (ho : PuP B to fo) (he : PuE B te fe) : PuE B (tBM B.K "list" (rIndex B.K) to (tCons te tNil)) (dIdx fo fe) := fun σ H F ρ Q q e hf k =>
  ho σ H F ρ _ _ e hf fun d v H1 F1 h1 s1 r1 => by
    have e1 := e.step s1
    cases d with
    | list ds =>
      obtain ⟨p, vs, rfl, hp, l, r⟩ := r1.list e1.base.fh
      refine ⟨.inl ⟨rfl, _, SqL.of hp⟩, he σ H1 F1 ρ _ _ e1 h1 fun d2 v2 H2 F2 h2 s2 r2 => ?_⟩
      obtain ⟨⟨f1, f2⟩, h2⟩ := h2
      obtain ⟨p', vs', ep, hp', l', r'⟩ := (r1.step s2).list (e1.step s2).base.fh
      cases ep
      cases hi : idxD ds d2 with
      | none => rw [hi] at h2; exact h2.elim
      | some j =>
        rw [hi] at h2
        obtain ⟨⟨z, hz, hzq⟩, hno⟩ := idxD_spec hi
        obtain ⟨u, hu, ru⟩ := r'.get hz
        have fl : ∀ d ∈ ds, flatD d = true := List.all_eq_true.mp f2
        refine ⟨p, vs', v2, j, u, rfl, rfl, SqL.of hp', by rw [r2.flat]; exact f1, by rw [r'.flat]; exact f2, hu, ?_, fun m z' hm hz' => ?_, k _ _ H2 F2 h2 (s1.trans e.base s2) (.int _)⟩
        · rw [ru.eqf r2 (fl z (List.mem_of_getElem? hz)) f1]
          exact hzq
        · obtain ⟨d3, h3, h4⟩ := r'.getV hz'
          rw [h4.eqf r2 (fl d3 (List.mem_of_getElem? h3)) f1]
          exact hno m d3 hm h3
    | _ => exact h1.elim
end
/-- return (a, b), lists of the frame's own -/
def gRetT2 (i j : Nat) : DTS := fun E ρ => match ρ[i]?, ρ[j]? with
  | some (.own xs), some (.own ys) => E.rt (.dat (.tuple [.list xs, .list ys]))
  | _, _ => False
theorem pu_retT2 {B : Bx} (i j : Nat) (hij : i ≠ j := by decide) : PuS B (tRet (tTup (tCons (tVar i) (tCons (tVar j) tNil)))) (gRetT2 i j) := fun σ H F ρ De E e hg n r b c => by
  unfold gRetT2 at hg
  split at hg
  · rename_i xs ys hx hy
    obtain ⟨ad, h1, h2⟩ := e.sl
    obtain ⟨a1, ⟨a2, a3, a4⟩, vs, a5, a6, a7⟩ := h1 i _ hx
    obtain ⟨b1, ⟨b2, b3, b4⟩, ws, b5, b6, b7⟩ := h1 j _ hy
    have ne := h2 i j _ _ hx hy rfl rfl hij
    refine ⟨_, a1, _, b1, by show 2 ≤ sizeLine; rw [sizeLine_eq]; omega, fun p hp => ?_⟩
    have s1 := Step.keep e.b0 e.st a3 a5 a2
    have f2 : (upd F (ad i) (.lst vs)) (ad j) = none := by rw [upd_ne (Ne.symm ne)]; exact b2
    have s2 := Step.keep e.b0 s1 b3 b5 f2
    have bs := e.b0.step s2
    have s3 : Step B.w H _ (upd H p (.tup [.ref (ad i), .ref (ad j)])) _ := Step.laid bs hp
    have g1 : Same F (upd F (ad i) (.lst vs)) := fun c o z => by rw [upd_ne (ne_of_none z a2)]; exact z
    have g2 : Same (upd F (ad i) (.lst vs)) (upd (upd F (ad i) (.lst vs)) (ad j) (.lst ws)) := fun c o z => by rw [upd_ne (ne_of_none z f2)]; exact z
    refine r (.dat (.tuple [.list xs, .list ys])) _ _ _ hg (s2.trans e.b0 s3) (.tup (SqT.of upd_same) (by show 2 ≤ sizeLine; rw [sizeLine_eq]; omega) (.cons (.lst (s3.ff _ _ (g2 _ _ upd_same)) a6 (a7.mono ((g1.trans g2).trans s3.ff))) (.cons (.lst (s3.ff _ _ upd_same) b6 (b7.mono ((g1.trans g2).trans s3.ff))) .nil)))
  · exact hg.elim
def q_gRetT2_1 := @gRetT2.eq_1
theorem pe_bmK {X : Cx} {o e : Expr} {es : List Expr} {to : TE} {t : TA} {name : Str} {apos cpos : Pos} {T id : String} {r : V → List V → Hp → VK → Prop} (K : PySem.W.Frag) (h : X.K = K) (pa : PlainAttrs T) (slot : Slot T name id)
    (hty : typeOf (.builtin id) = pure (.type "method_descriptor")) (hm : MtR X id r) (ho : PE X o to) (ha : PA X (e :: es) t) (hb : attributeBase o name X.env (eval o X.env) = eval o X.env := by rfl)
    (hf : ((backTo cpos (starEach (e :: es) X.env)).all (fun x => !x.1) && (backToKw cpos (keywordEach [] X.env)).all (fun x => x.1.isSome) && decide ((e :: es).length + ([] : List Keyword).length + (if ([] : List Keyword).isEmpty then 0 else 1) < 30)) = true := by rfl)
    (hl : (apos.endLine == cpos.line) = true := by rfl) (hs : starEach (e :: es) X.env = (false, eval e X.env) :: starEach es X.env := by rfl) (hp : (backTo cpos (starEach es X.env)).any (·.1) = false := by rfl) :
    PE X (.Call (.Attribute o name apos) (e :: es) [] cpos) (tBM K T r to t) := by
  subst h
  exact pe_bm pa slot hty hm ho ha hb hf hl hs hp
theorem mt_indexK {X : Cx} (K : PySem.W.Frag) (h : X.K = K) : MtR X "list.index" (rIndex K) := by subst h; exact mt_index
def q_gSort_1 := @gSort.eq_1
def q_xSortSet_1 := @xSortSet.eq_1
def q_dIdx_1 := @dIdx.eq_1
end DL

/-! DL: a tuple or a list turned. -/
namespace DL
open PySem PySem.Spec PyProof.Rows L2 HT
section
variable {prog : Program} {w : World} {A : Around} {E : Value → Shared → Prop} {s : Shared}
theorem back_adjust (n : Nat) : Builtin.Slice.sliceAdjust none none (-1) (n : Int) = ((n : Int) - 1, -1) := by
  unfold Builtin.Slice.sliceAdjust
  simp
theorem back_places (n : Nat) : Builtin.Slice.slicePlaces ((n : Int) - 1) (-1) (-1) = n := by
  unfold Builtin.Slice.slicePlaces
  have h1 : ¬ ((-1 : Int) > 0) := by decide
  simp only [h1, if_false]
  by_cases c : (n : Int) - 1 > -1
  · rw [if_pos c, show (- -1 : Int) = 1 by decide, Int.ediv_one]
    omega
  · rw [if_neg c]
    omega
theorem back_applied {sl : Addr} {vs : Value} {n : Nat} {Q : Int × Int × Nat → Shared → Prop} (hs : s.heap.IsSliceOf sl .none .none vs) (ps : IsPart vs (some (-1)))
    (h : Q ((n : Int) - 1, -1, n) s) : wpAny (model prog w) A (Builtin.Slice.sliceApplied (.ref sl) (pure (n : Int))) Q E s := by
  obtain ⟨os, hos, hcs, hds⟩ := id hs
  unfold Builtin.Slice.sliceApplied Builtin.Slice.sliceFields
  refine wpAny_bind (wpAny_bind (wpAny_field hos hds (x := .none) rfl (wpAny_bind (wpAny_field hos hds (x := .none) rfl (wpAny_bind (wpAny_field hos hds (x := vs) rfl (wpAny_pure ?_)))))))
  refine wpAny_bind (slicePart_ ps ?_)
  show wpAny _ _ (if ((-1 : Int) == 0) = true then _ else _) _ _ s
  rw [if_neg (by decide)]
  refine wpAny_bind (slicePart_none (wpAny_bind (slicePart_none (wpAny_bind (wpAny_pure ?_)))))
  show wpAny _ _ (match Builtin.Slice.sliceAdjust none none (-1) (n : Int) with | (lo, hi) => pure (lo, (-1 : Int), Builtin.Slice.slicePlaces lo hi (-1))) _ _ s
  rw [back_adjust]
  show wpAny _ _ (pure ((n : Int) - 1, (-1 : Int), Builtin.Slice.slicePlaces ((n : Int) - 1) (-1) (-1))) _ _ s
  rw [back_places]
  exact wpAny_pure h
theorem fm_congr {α β : Type} {f g : α → Option β} : ∀ {l : List α}, (∀ x ∈ l, f x = g x) → l.filterMap f = l.filterMap g
  | [], _ => rfl
  | a :: l, h => by
    have ih := fm_congr (l := l) fun x hx => h x (List.mem_cons_of_mem _ hx)
    have e := h a (by simp)
    simp only [List.filterMap_cons, ih, e]
theorem back_pick (xs : Array Value) : ((List.range xs.size).filterMap fun (m : Nat) => xs[(((xs.size : Nat) : Int) - 1 + (m : Int) * -1).toNat]?).toArray = xs.toList.reverse.toArray := by
  have e : (List.range xs.size).filterMap (fun (m : Nat) => xs[(((xs.size : Nat) : Int) - 1 + (m : Int) * -1).toNat]?) = ((List.range xs.size).map fun k => xs.size - 1 - k).filterMap (xs[·]?) := by
    rw [List.filterMap_map]
    refine fm_congr fun m hm => ?_
    have := List.mem_range.mp hm
    show xs[(((xs.size : Nat) : Int) - 1 + (m : Int) * -1).toNat]? = xs[xs.size - 1 - m]?
    rw [show (((xs.size : Nat) : Int) - 1 + (m : Int) * -1).toNat = xs.size - 1 - m by omega]
  rw [e, PySem.W.krv_range, List.filterMap_reverse, PySem.W.krv_all]
theorem tuple_back {t sl : Addr} {items : Array Value} {vs : Value} {Q : Value → Shared → Prop} (ht : IsTup s.heap t items) (hs : s.heap.IsSliceOf sl .none .none vs) (ps : IsPart vs (some (-1)))
    (h : Q (.ref s.heap.objs.size) { s with heap := s.heap.push { cls := .type "tuple", data := .seq items.toList.reverse.toArray } }) (hsz : items.size ≤ sizeLine) : wpAny (model prog w) A (getItem (.ref t) (.ref sl)) Q E s := by
  have htake : sizeOk (.seq items.toList.reverse.toArray) := by
    show items.toList.reverse.toArray.size ≤ sizeLine
    rw [List.size_toArray, List.length_reverse, Array.length_toList]
    exact hsz
  obtain ⟨os, hos, hcs, hds⟩ := id hs
  have hTs : s.TypeIs (.ref sl) "slice" := ⟨os, hos, hcs⟩
  unfold getItem
  try with_reducible refine wpAny_holding ?_
  first | refine wpAny_bind (wpAny_pure ?_) | skip
  refine wpAny_bind (wpAny_sequenceKey ht.typeIs (by decide) ?_)
  refine wpAny_bind (wpAny_callSpecial?_slot (name := Str.ofString "__getitem__") ht.typeIs PyProof.Rows.slot_tuple_getitem (wpAny_call_entry PyProof.Rows.slot_tuple_getitem ht.typeIs entry_tuple_getitem ?_ (args_tuple_getitem _ _)))
  show wpAny _ _ (Builtin.Tuple.tupleItemsOf (.ref t) >>= _) _ _ s
  refine wpAny_bind (tupleItemsOf_ ht (wpAny_bind (wpAny_typeOf hTs ?_)))
  rw [if_pos (by decide)]
  refine wpAny_bind (back_applied hs ps ?_)
  have hno : ¬ ((((items.size : Nat) : Int) - 1 == 0 && (-1 : Int) == 1 && items.size == items.size) = true) := by
    intro q
    rw [Bool.and_eq_true, Bool.and_eq_true] at q
    exact absurd q.1.2 (by decide)
  show wpAny _ _ (if ((((items.size : Nat) : Int) - 1 == 0 && (-1 : Int) == 1 && items.size == items.size) = true) then _ else _) _ _ s
  rw [if_neg hno, back_pick]
  first
    | exact wpAny_bind (m := Builtin.Tuple.tupleExact _) (wpAny_newObj_type (wpAny_pure ⟨_, rfl, wpAny_pure h⟩) htake)
    | exact wpAny_bind (m := Builtin.Tuple.tupleExact _) (wpAny_newObj_type (wpAny_bind (wpAny_pure (wpAny_pure ⟨_, rfl, wpAny_pure h⟩))) htake)
    | exact wpAny_bind (wpAny_bind (m := Builtin.Tuple.tupleExact _) (wpAny_newObj_type (wpAny_pure (wpAny_pure ⟨_, rfl, wpAny_pure h⟩)) htake))
    | exact wpAny_bind (wpAny_bind (m := Builtin.Tuple.tupleExact _) (wpAny_newObj_type (wpAny_pure ⟨_, rfl, wpAny_pure h⟩) htake))
end
/-- t[::-1], xs[::-1] -/
def tRevA (K : PySem.W.Frag) (te : TE) : TE := fun σ H Q => te σ H fun x H1 => ∃ a xs, x = .ref a ∧ ((SqL K H1 a xs ∧ ∀ p, H1 p = none → Q (.ref p) (upd H1 p (.lst xs.reverse))) ∨ (SqT K H1 a xs ∧ ∀ p, H1 p = none → Q (.ref p) (upd H1 p (.tup xs.reverse))))
section
variable {X : Cx}
theorem pe_revA {e : Expr} {te : TE} {k : Nat} {p1 p2 p3 pos : Pos} (he : PE X e te) : PE X (.Subscript e (.Slice none none (some (.UnaryOp .USub (.Constant (.int 1) k p1) p2)) p3) pos) (tRevA X.K te) := by
  refine ⟨fun pins s σ H Q I h => ?_⟩
  refine Subscript_ (thn (he.run pins s σ H _ I h) fun v s1 hh => ?_)
  obtain ⟨x, H1, I1, r1, a, xs, ex, hx⟩ := hh
  subst ex
  cases r1
  have hst : PO X (some (.UnaryOp .USub (.Constant (.int 1) k p1) p2)) (tPart (tUn (rU fun i => .int (-i)) (tC (.int 1)))) := po_some (pe_un un_neg pe_int)
  refine wpAny_Slice (thn (po_none.run pins s1 σ H1 (fun o H2 => o = none ∧ H2 = H1) I1 ⟨rfl, rfl⟩) fun vl s2 hh => ?_)
  obtain ⟨l, H2, I2, pl, el, e2⟩ := hh
  subst el e2
  refine thn (po_none.run pins s2 σ H2 (fun o H3 => o = none ∧ H3 = H2) I2 ⟨rfl, rfl⟩) fun vu s3 hh => ?_
  obtain ⟨u, H3, I3, pu, eu, e3⟩ := hh
  subst eu e3
  refine thn (hst.run pins s3 σ H3 (fun o H4 => o = some (-1) ∧ H4 = H3) I3 ⟨1, rfl, -1, rfl, rfl, rfl⟩) fun vs s4 hh => ?_
  obtain ⟨o, H4, I4, ps, eo, e4⟩ := hh
  subst eo e4
  have I5 : Inv X pins σ H4 { s4 with heap := s4.heap.push { cls := .type "slice", data := .fields #[vl, vu, vs] } } := I4.kept (t' := s4.toks) fun b ob q => Heap.get?_push_of_some _ q
  show wpAny (model X.prog X.w) X.A (subscriptTail e (.Slice none none (some (.UnaryOp .USub (.Constant (.int 1) k p1) p2)) p3) (.ref a) (.ref s4.heap.objs.size)) (EP X pins σ Q) X.xe { s4 with heap := s4.heap.push { cls := .type "slice", data := .fields #[vl, vu, vs] } }
  rcases hx with ⟨hx, q⟩ | ⟨hx, q⟩
  · obtain ⟨its, r, ht, hz⟩ := I5.list hx
    have hlen := r.length
    refine tail_any (ops := [.ref a, .ref s4.heap.objs.size]) ht.isList.typeIs (PySem.slot_list_getitem.lookup) ?_ (by with_unfolding_all rfl)
    refine wpAny_getItem_list_slice ht.isList (Heap.IsSliceOf.new _ vl vu vs) pl pu ps (by decide) ?_ (by rw [List.size_toArray]; omega)
    rw [PySem.W.krv_pick]
    have J := I5.laid (t' := s4.toks) (a := (s4.heap.push { cls := .type "slice", data := .fields #[vl, vu, vs] }).objs.size) (o := .lst xs.reverse) (h' := (s4.heap.push { cls := .type "slice", data := .fields #[vl, vu, vs] }).push (seqObj "list" its.toArray.toList.reverse.toArray 0)) (fun b ob q => Heap.get?_push_of_some _ q) (Nat.le_refl _)
      ⟨by rw [List.length_reverse]; exact hz, _, 0, r.reverse, Heap.get?_push_size _ rfl⟩
    exact ⟨.ref _, _, J, rfl, q _ (I5.hok.fresh (Nat.le_refl _))⟩
  · cases pl
    cases pu
    obtain ⟨its, r, ht, hz⟩ := I5.tuple hx
    have hlen := r.length
    refine tail_any (ops := [.ref a, .ref s4.heap.objs.size]) ht.typeIs (PyProof.Rows.slot_tuple_getitem.lookup) ?_ (by with_unfolding_all rfl)
    refine tuple_back ht (Heap.IsSliceOf.new _ .none .none vs) ps ?_ (by rw [List.size_toArray]; omega)
    have J := I5.laid (t' := s4.toks) (a := (s4.heap.push { cls := .type "slice", data := .fields #[.none, .none, vs] }).objs.size) (o := .tup xs.reverse) (h' := (s4.heap.push { cls := .type "slice", data := .fields #[.none, .none, vs] }).push { cls := .type "tuple", data := .seq its.toArray.toList.reverse.toArray }) (fun b ob q => Heap.get?_push_of_some _ q) (Nat.le_refl _)
      ⟨by rw [List.length_reverse]; exact hz, _, r.reverse, IsTup.new _ _⟩
    exact ⟨.ref _, _, J, rfl, q _ (I5.hok.fresh (Nat.le_refl _))⟩
theorem pe_revAK {e : Expr} {te : TE} {k : Nat} {p1 p2 p3 pos : Pos} (K : PySem.W.Frag) (h : X.K = K) (he : PE X e te) : PE X (.Subscript e (.Slice none none (some (.UnaryOp .USub (.Constant (.int 1) k p1) p2)) p3) pos) (tRevA K te) := by subst h; exact pe_revA he
end
def xRevA (f : DTE) : DTX := fun ρ q => f ρ fun d => match d with
  | .list ds => q (.own ds.reverse)
  | .tuple ds => q (.dat (.tuple ds.reverse))
  | _ => False
theorem pu_revA {B : Bx} {te : TE} {fe : DTE} (he : PuP B te fe) : PuX B (tRevA B.K te) (xRevA fe) := fun σ H F ρ Q q e hf k => he σ H F ρ _ _ e hf fun d v H1 F1 h1 s1 r1 => by
  have b1 := e.base.step s1
  cases d with
  | list ds =>
    obtain ⟨p, vs, rfl, hp, l, r⟩ := r1.list b1.fh
    exact ⟨p, vs, rfl, .inl ⟨SqL.of hp, fun n hn => k _ _ _ F1 h1 (s1.trans e.base (Step.loose b1 hn)) ⟨n, _, rfl, s1.free e.base hn, b1.fh.free hn, upd_same, by rw [List.length_reverse]; exact l, r.reverse⟩⟩⟩
  | tuple ds =>
    obtain ⟨p, vs, rfl, hp, l, r⟩ := r1.tuple
    refine ⟨p, vs, rfl, .inr ⟨Same.sqt b1.fh hp, fun n hn => ?_⟩⟩
    have s2 : Step B.w H1 F1 (upd H1 n (.tup vs.reverse)) (upd F1 n (.tup vs.reverse)) := Step.laid b1 hn
    exact k (.dat (.tuple ds.reverse)) _ _ _ h1 (s1.trans e.base s2) (.tup (SqT.of upd_same) (by rw [List.length_reverse]; exact l) (r.reverse.mono s2.ff))
  | _ => exact h1.elim
/-! ### a list of the frame's own that is changed no more -/
theorem Env.freeze {B : Bx} {σ : L2.St} {H F : Hp} {ρ : List SV} (e : Env B σ H F ρ) {i : Nat} {xs : List D} (hx : ρ[i]? = some (.own xs)) : ∃ F', Same F F' ∧ Env B σ H F' (ρ.set i (.dat (.list xs))) := by
  obtain ⟨b0, st, hl, ad, h1, h2⟩ := id e
  obtain ⟨a1, ⟨a2, a3, a4⟩, vs, a5, a6, a7⟩ := h1 i _ hx
  have ff : Same F (upd F (ad i) (.lst vs)) := fun c o z => by rw [upd_ne (ne_of_none z a2)]; exact z
  refine ⟨_, ff, b0, Step.keep b0 st a3 a5 a2, by simpa using hl, ad, fun j s q => ?_, fun j k s u q1 q2 m1 m2 ne => ?_⟩
  · by_cases hj : i = j
    · subst hj
      have hlt : i < ρ.length := (List.getElem?_eq_some_iff.mp hx).1
      rw [List.getElem?_set_self hlt] at q
      cases q
      exact ⟨_, a1, .lst upd_same a6 (a7.mono ff)⟩
    · rw [List.getElem?_set_ne hj] at q
      have z := h1 j s q
      have n : s.mu = true → ad j ≠ ad i := fun m => h2 j i s _ q hx m rfl (Ne.symm hj)
      cases s with
      | un => trivial
      | dat d => exact let ⟨v, z1, z2⟩ := z; ⟨v, z1, z2.mono ff⟩
      | own ys =>
        obtain ⟨z1, ⟨z2, z3, z4⟩, ws, z5, z6, z7⟩ := z
        exact ⟨z1, ⟨by rw [upd_ne (n rfl)]; exact z2, z3, z4⟩, ws, z5, z6, z7.mono ff⟩
      | dK kvs =>
        obtain ⟨z1, ⟨z2, z3, z4⟩, us, z5, z6⟩ := z
        exact ⟨z1, ⟨by rw [upd_ne (n rfl)]; exact z2, z3, z4⟩, us, z5, z6.1, z6.2.mono ff⟩
      | dT kvs =>
        obtain ⟨z1, ⟨z2, z3, z4⟩, us, z5, z6⟩ := z
        exact ⟨z1, ⟨by rw [upd_ne (n rfl)]; exact z2, z3, z4⟩, us, z5, z6.1, z6.2.mono ff⟩
      | wel => exact z
      | scr ns => exact let ⟨a, z1, z2⟩ := z; ⟨a, z1, ff.seq z2⟩
      | exn a c d x => exact ⟨z.1, z.2.1, fun y w => let ⟨dd, v, g1, g2, g3⟩ := z.2.2 y w; ⟨dd, v, g1, ff _ _ g2, g3.mono ff⟩⟩
  · have get : ∀ (j : Nat) (s : SV), (ρ.set i (.dat (.list xs)))[j]? = some s → s.mu = true → ρ[j]? = some s := fun j s q m => by
      by_cases hj : i = j
      · subst hj
        have hlt : i < ρ.length := (List.getElem?_eq_some_iff.mp hx).1
        rw [List.getElem?_set_self hlt] at q
        cases q
        cases m
      · rwa [List.getElem?_set_ne hj] at q
    exact h2 j k s u (get j s q1 m1) (get k u q2 m2) m1 m2 ne
def gFrz (i : Nat) (g : DTS) : DTS := fun E ρ => match ρ[i]? with
  | some (.own xs) => g E (ρ.set i (.dat (.list xs)))
  | _ => g E ρ
theorem pu_frz {B : Bx} (i : Nat) {t : TS} {g : DTS} (h : PuS B t g) : PuS B t (gFrz i g) := fun σ H F ρ De E e hg n r b c => by
  unfold gFrz at hg
  split at hg
  · rename_i xs hx
    obtain ⟨F', ff, e'⟩ := e.freeze hx
    exact h σ H F' _ De E e' hg (fun σ' H' F2 ρ' q s e2 => n σ' H' F2 ρ' q (ff.trans s) e2) r (fun σ' H' F2 ρ' q s e2 => b σ' H' F2 ρ' q (ff.trans s) e2) fun σ' H' F2 ρ' q s e2 => c σ' H' F2 ρ' q (ff.trans s) e2
  · exact h σ H F ρ De E e hg n r b c
def q_gFrz_1 := @gFrz.eq_1
def q_xRevA_1 := @xRevA.eq_1
end DL

/-! DX: exceptions by data. -/
namespace DL
open PySem PySem.Spec PyProof.Rows L2
/-- an exception by data: its class's name; its field place, where it has one -/
abbrev Xn := Str × Option D
structure XR (K : PySem.W.Frag) (mg : Str → Option Value) (F : Hp) (cls : Value) (d : Option Addr) (x : Xn) : Prop where
  cl : ∃ C : Addr, mg x.1 = some (.ref C) ∧ cls = .ref C
  no : x.2 = none → d = none
  at_ : ∀ y, x.2 = some y → ∃ dd v, d = some dd ∧ F dd = some (.xd [("place", v)]) ∧ RD K F v y
abbrev SpecX := List SV → (SV → Prop) → (Xn → Prop) → Prop
def spX (K : PySem.W.Frag) (mg : Str → Option Value) (spec : SpecX) : Sp := fun vs H Q E => ∃ (w : Option Addr) (F : Hp) (ds : List SV) (q : SV → Prop) (ex : Xn → Prop), Base w H F ∧ RCs K w F vs ds ∧ spec ds q ex ∧
  (∀ x v H' F', q x → Step w H F H' F' → NewV K H H' F' v x → Q v H') ∧ ∀ x cls d H' F', ex x → Step w H F H' F' → XR K mg F' cls d x → E cls d H'
structure FnX (P : Program) (w : World) (K : PySem.W.Frag) (mg : Str → Option Value) (base : Heap) (k : Nat) (x : Str) (ps : List Str) (spec : SpecX) (f : Addr) (fd : FuncData) : Prop where
  mgf : mg x = some (.ref f)
  kp : PySem.W.keepIn K (.ref f) = true
  bd : Binds K fd ps []
  ok : FnOk P w K mg base (L2N.CX P w) k f fd ps (spX K mg spec)
structure FnXK (P : Program) (w : World) (K : PySem.W.Frag) (mg : Str → Option Value) (base : Heap) (k : Nat) (x : Str) (ps : List Str) (n : Nat) (ks : List Str) (spec : SpecX) (f : Addr) (fd : FuncData) : Prop where
  mgf : mg x = some (.ref f)
  kp : PySem.W.keepIn K (.ref f) = true
  kb : KBn K fd ps n ks (fun us ws => us ++ ws) (fun vs zs => vs ++ zs)
  ok : FnOk P w K mg base (L2N.CX P w) k f fd ps (spX K mg spec)

/-! ### what is wished of exceptions -/
def WxOk (B : Bx) (mg : Str → Option Value) (W : WX) (ex : List SV → Xn → Prop) : Prop := ∀ x σ H' F' ρ cls d, ex ρ x → Env B σ H' F' ρ → XR B.K mg F' cls d x → W cls d σ H'
/-- a statement of a def's own block, not of a loop -/
def PuS0 (B : Bx) (t : TS) (g : DTS) : Prop := ∀ (σ : St) (H F : Hp) (ρ : List SV) (De : Ends) (E : DEnds), Env B σ H F ρ → g E ρ → (∀ ρ, ¬ E.bk ρ) → (∀ ρ, ¬ E.ct ρ) →
  (∀ σ' H' F' ρ', E.nx ρ' → Env B σ' H' F' ρ' → De.nx σ' H') →
  (∀ x v H' F', E.rt x → Step B.w B.H0 B.F0 H' F' → NewV B.K B.H0 H' F' v x → De.rt v H') → t De σ H
section
variable {B : Bx} {t u : TS} {g h : DTS}
theorem PuS.top (h1 : PuS B t g) : PuS0 B t g := fun σ H F ρ De E e hg nb nc n r =>
  h1 σ H F ρ De E e hg (fun σ' H' F' ρ' q _ e' => n σ' H' F' ρ' q e') r (fun σ' H' F' ρ' q _ _ => (nb ρ' q).elim) fun σ' H' F' ρ' q _ _ => (nc ρ' q).elim
theorem pu_seq0 (h1 : PuS0 B t g) (h2 : PuS0 B u h) : PuS0 B (tSeq t u) (gSeq g h) := fun σ H F ρ De E e hg nb nc n r =>
  h1 σ H F ρ _ _ e hg nb nc (fun σ' H' F' ρ' q e' => h2 σ' H' F' ρ' De E e' q nb nc n r) r
theorem pu_if0 {tc : TT} {fc : DTT} (hc : PuT B tc fc) (h1 : PuS0 B t g) (h2 : PuS0 B u h) : PuS0 B (tIfS tc t u) (gIf fc g h) := fun σ H F ρ De E e hg nb nc n r =>
  hc σ H F ρ _ _ e hg fun k H1 F1 hk s1 => by
    cases k with
    | true => exact iteT (h1 σ H1 F1 ρ De E (e.step s1) hk nb nc n r)
    | false => exact iteF (h2 σ H1 F1 ρ De E (e.step s1) hk nb nc n r)
variable {mg : Str → Option Value} {W : WX} {ex : List SV → Xn → Prop}
/-- a call that may raise -/
def xCallX (spec : SpecX) (ex : List SV → Xn → Prop) (fa : DTC) : DTX := fun ρ q => fa ρ fun ds => spec ds q (ex ρ)
theorem pu_callX {spec : SpecX} {ta : TA} {fa : DTC} (hW : WxOk B mg W ex) (ha : PuC B ta fa) : PuX B (tCallS (spX B.K mg spec) (WE W) ta) (xCallX spec ex fa) := fun σ H F ρ Q q e hf k =>
  ha σ H F ρ _ _ e hf fun ds vs H1 F1 h1 s1 r1 => ⟨B.w, F1, ds, q, ex ρ, e.base.step s1, r1, h1, fun x v H' F' hx st nv => k x v H' F' hx (s1.trans e.base st) (nv.older e.base s1),
    fun x cls d H' F' hx st xr => hW x σ H' F' ρ cls d hx ((e.step s1).step st) xr⟩
def tCallNS (n m : Nat) (sp : Sp) (gV : List V → List V → List V) (E : St → XK) (t tk : TA) : TE := fun σ H Q => t σ H fun vs H1 => tk σ H1 fun zs H2 => vs.length = n ∧ zs.length = m ∧ sp (gV vs zs) H2 Q (E σ)
def xCallNX (n m : Nat) (spec : SpecX) (ex : List SV → Xn → Prop) (fa fb : DTC) : DTX := fun ρ q => fa ρ fun ds => fb ρ fun es => (ds.length = n ∧ es.length = m) ∧ spec (ds ++ es) q (ex ρ)
theorem pu_callNX {n m : Nat} {spec : SpecX} {ta tb : TA} {fa fb : DTC} (hW : WxOk B mg W ex) (ha : PuC B ta fa) (hb : PuC B tb fb) : PuX B (tCallNS n m (spX B.K mg spec) (fun vs zs => vs ++ zs) (WE W) ta tb) (xCallNX n m spec ex fa fb) := fun σ H F ρ Q q e hf k =>
  ha σ H F ρ _ _ e hf fun ds vs H1 F1 h1 s1 r1 => hb σ H1 F1 ρ _ _ (e.step s1) h1 fun es us H2 F2 h2 s2 r2 => by
    have s12 := s1.trans e.base s2
    refine ⟨by rw [r1.length]; exact h2.1.1, by rw [r2.length]; exact h2.1.2, B.w, F2, ds ++ es, q, ex ρ, (e.step s1).base.step s2, RCs.append (r1.mono s2.ff) r2, h2.2, fun x v H' F' hx st nv => ?_, fun x cls d H' F' hx st xr => ?_⟩
    · exact k x v H' F' hx (s12.trans e.base st) (nv.older e.base s12)
    · exact hW x σ H' F' ρ cls d hx ((e.step s12).step st) xr
/-- raise X("..") -/
def gRaise (n : Str) (ex : List SV → Xn → Prop) : DTS := fun _ ρ => ex ρ (n, none)
theorem pu_raise {n : Str} {C : Addr} (hm : mg n = some (.ref C)) (hW : WxOk B mg W ex) : PuS B (fun _ σ H => W (.ref C) none σ H) (gRaise n ex) := fun σ H F ρ De E e hg _ _ _ _ =>
  hW (n, none) σ H F ρ (.ref C) none hg e ⟨⟨C, hm, rfl⟩, fun _ => rfl, fun y z => by cases z⟩
/-- raise NoTime(e), its __init__ by hand -/
def gRaiseP (n : Str) (fe : DTE) (ex : List SV → Xn → Prop) : DTS := fun _ ρ => fe ρ fun d => ex ρ (n, some d)
/-- what a clause says of classes, by name -/
def MatchOk (K : PySem.W.Frag) (mg : Str → Option Value) (c : Value) (pm : Str → Option Bool) : Prop := ∀ n b, pm n = some b → ∀ C : Addr, mg n = some (.ref C) → PySem.W.exmOne K (.ref C) c = some b
/-- try: body, except X: suite -/
def gTry (pm : Str → Option Bool) (gb : (List SV → Xn → Prop) → DTS) (gs : DTS) (ex : List SV → Xn → Prop) : DTS := fun E ρ => gb (fun ρ' x => ∃ b, pm x.1 = some b ∧ if b = true then gs E ρ' else ex ρ' x) E ρ
theorem pu_try {c : Value} {pm : Str → Option Bool} {tb : WX → TS} {gb : (List SV → Xn → Prop) → DTS} {ts : Addr → Value → Option Addr → TS} {gs : DTS} (hm : MatchOk B.K mg c pm) (hW : WxOk B mg W ex) (hb : ∀ W' ex', WxOk B mg W' ex' → PuS0 B (tb W') (gb ex')) (hs : ∀ a cls d, PuS0 B (ts a cls d) gs) :
    PuS0 B (fun De σ H => tb (wMany B.K W De [(c, ts)]) De σ H) (gTry pm gb gs ex) := fun σ H F ρ De E e hg nb nc n r => by
  refine hb (wMany B.K W De [(c, ts)]) _ (fun x σ' H' F' ρ' cls d hx e' xr => ?_) σ H F ρ De E e hg nb nc n r
  obtain ⟨b, h1, h2⟩ := hx
  obtain ⟨C, hC, rfl⟩ := xr.cl
  refine ⟨b, hm _ _ h1 _ hC, fun hb2 a ha => ?_, fun hb2 => ?_⟩
  · rw [if_pos hb2] at h2
    exact hs a _ d σ' H' F' ρ' De E e' h2 nb nc n r
  · rw [if_neg (by rw [hb2]; decide)] at h2
    exact hW x σ' H' F' ρ' _ d h2 e' xr
/-- try: body, except X as n: suite; n's slot i -/
def gTryAs (mg : Str → Option Value) (pm : Str → Option Bool) (i : Nat) (gb : (List SV → Xn → Prop) → DTS) (gs : Addr → Value → Option Addr → DTS) (ex : List SV → Xn → Prop) : DTS := fun E ρ =>
  gb (fun ρ' x => ∃ b, pm x.1 = some b ∧ if b = true then ∀ (a C : Addr) (d : Option Addr), mg x.1 = some (.ref C) → gs a (.ref C) d { nx := fun ρ2 => E.nx (ρ2.set i .un), rt := E.rt } (ρ'.set i (.exn a (.ref C) d x)) else ex ρ' x) E ρ
theorem Env.exn {σ : St} {H F : Hp} {ρ : List SV} (e : Env B σ H F ρ) (i : Nat) {a : Addr} {cls : Value} {d : Option Addr} {x : Xn} (h0 : x.2 = none → d = none) (hx : ∀ y, x.2 = some y → ∃ dd v, d = some dd ∧ F dd = some (.xd [("place", v)]) ∧ RD B.K F v y) : Env B (σ.set i (some (.ref a))) H F (ρ.set i (.exn a cls d x)) := by
  have e1 := e.drop1 i (some (.ref a))
  obtain ⟨b0, st, hl, ad, h1, h2⟩ := id e1
  have key : ∀ (j : Nat) (s : SV), (ρ.set i (.exn a cls d x))[j]? = some s → (j = i ∧ s = .exn a cls d x ∧ i < ρ.length) ∨ (j ≠ i ∧ (ρ.set i .un)[j]? = some s) := fun j s q => by
    by_cases hj : i = j
    · subst hj
      left
      have hlt : i < ρ.length := by
        rcases Nat.lt_or_ge i ρ.length with z | z
        · exact z
        · rw [List.getElem?_eq_none (by simpa using z)] at q; cases q
      rw [List.getElem?_set_self hlt] at q
      exact ⟨rfl, (Option.some.inj q).symm, hlt⟩
    · rw [List.getElem?_set_ne hj] at q ⊢
      exact .inr ⟨fun z => hj z.symm, q⟩
  refine ⟨b0, st, by simpa using hl, ad, fun j s q => ?_, fun j k s u q1 q2 m1 m2 ne => ?_⟩
  · rcases key j s q with ⟨rfl, rfl, hlt⟩ | ⟨_, q⟩
    · exact ⟨List.getElem?_set_self (by rw [← e.hl]; exact hlt), h0, hx⟩
    · exact h1 j s q
  · rcases key j s q1 with ⟨_, rfl, _⟩ | ⟨_, q1⟩
    · cases m1
    · rcases key k u q2 with ⟨_, rfl, _⟩ | ⟨_, q2⟩
      · cases m2
      · exact h2 j k s u q1 q2 m1 m2 ne
theorem pu_tryAs {c : Value} {i : Nat} {pm : Str → Option Bool} {tb : WX → TS} {gb : (List SV → Xn → Prop) → DTS} {ts : Addr → Value → Option Addr → TS} {gs : Addr → Value → Option Addr → DTS} (hm : MatchOk B.K mg c pm) (hW : WxOk B mg W ex)
    (hb : ∀ W' ex', WxOk B mg W' ex' → PuS0 B (tb W') (gb ex')) (hs : ∀ a cls d, PuS0 B (ts a cls d) (gs a cls d)) :
    PuS0 B (fun De σ H => tb (wAs B.K c i ts W De) De σ H) (gTryAs mg pm i gb gs ex) := fun σ H F ρ De E e hg nb nc n r => by
  refine hb (wAs B.K c i ts W De) _ (fun x σ' H' F' ρ' cls d hx e' xr => ?_) σ H F ρ De E e hg nb nc n r
  obtain ⟨b, h1, h2⟩ := hx
  obtain ⟨C, hC, rfl⟩ := xr.cl
  refine ⟨b, hm _ _ h1 _ hC, fun hb2 a ha => ?_, fun hb2 => ?_⟩
  · rw [if_pos hb2] at h2
    exact hs a _ d _ H' F' _ _ _ (e'.exn i xr.no xr.at_) (h2 a C d hC) (fun _ z => z) (fun _ z => z) (fun σ2 H2 F2 ρ2 q e2 => n _ H2 F2 _ q (e2.drop1 i none)) r
  · rw [if_neg (by rw [hb2]; decide)] at h2
    exact hW x σ' H' F' ρ' _ d h2 e' xr
/-- e.place in the suite -/
def dPlace (a : Addr) (cls : Value) (d : Option Addr) (C : Addr) (i : Nat) : DTE := fun ρ q => match ρ[i]? with
  | some (.exn a' cls' d' (_, some y)) => (a' = a ∧ d' = d ∧ cls = .ref C) ∧ q y
  | _ => False
theorem pu_place (a : Addr) (cls : Value) (d : Option Addr) (C : Addr) (i : Nat) : PuE B (tXf a cls d C "place" (tVar i)) (dPlace a cls d C i) := fun σ H F ρ Q q e hf k => by
  unfold dPlace at hf
  obtain ⟨ad, h1, _⟩ := e.sl
  split at hf
  · rename_i a' cls' d' n y hx
    obtain ⟨⟨rfl, rfl, hc⟩, hq⟩ := hf
    obtain ⟨hs, _, hy⟩ := h1 i _ hx
    obtain ⟨dd, v, h2, h3, h4⟩ := hy y rfl
    refine ⟨_, hs, rfl, hc, dd, [("place", v)], v, h2, e.st.fh _ _ h3, ?_, k y v H F hq (Step.refl e.base) h4⟩
    simp [List.lookup]
  · exact hf.elim
/-- the exception handed on -/
def cExn (i : Nat) (g : DTC) : DTC := fun ρ q => match ρ[i]? with
  | some (.exn a c d x) => g ρ fun ds => q (.exn a c d x :: ds)
  | _ => False
theorem puc_exn (i : Nat) {tr : TA} {fr : DTC} (hr : PuC B tr fr) : PuC B (tCons (tVar i) tr) (cExn i fr) := fun σ H F ρ Q q e hf k => by
  unfold cExn at hf
  obtain ⟨ad, h1, _⟩ := e.sl
  split at hf
  · rename_i a c d x hd
    obtain ⟨hv, h0, hs⟩ := h1 i _ hd
    exact ⟨_, hv, hr σ H F ρ _ _ e hf fun ds vs H2 F2 h2 s2 r2 => k _ _ H2 F2 h2 s2 (.cons (d := .exn a c d x) ⟨rfl, h0, fun y z => let ⟨dd, v, q1, q2, q3⟩ := hs y z; ⟨dd, v, q1, s2.ff _ _ q2, q3.mono s2.ff⟩⟩ r2)⟩
  · exact hf.elim
end
/-- an exception class without its own __init__ -/
structure OwnX (K : PySem.W.Frag) (mg : Str → Option Value) (n : Str) (C : Addr) : Prop where
  gC : mg n = some (.ref C)
  xC : PySem.W.excIn K C [.type "ValueError", .type "Exception", .type "BaseException", .type "object"] "ValueError.__new__" = true
  kC : PySem.W.keepIn K (.ref C) = true
  bC : PySem.W.subIn K (.ref C) (.type "BaseException") = some true
  tC : PySem.W.typeIn K (.ref C) = some (.type "type")
def pm_NoTime (n : Str) : Option Bool := if n = "NoTime" then some true else none
/-! ### calls by keywords that may raise -/
section
variable {X : Cx} {CX : CXT} {k n : Nat} {f : Addr} {fd : FuncData} {ps ks : List Str} {sp : Sp} {E : St → XK} {x : Str} {p pos : Pos} {e : Expr} {es : List Expr} {kws : List Keyword} {t tk : TA} {g : List Value → List Value → List Value} {gV : List V → List V → List V}
theorem pe_callNS (F : FnOk X.prog X.w X.K X.mg X.base CX k f fd ps sp) (hr : Room k X.A) (hg : Gl X x) (hm : X.mg x = some (.ref f)) (hk : PySem.W.keepIn X.K (.ref f) = true) (hb : KBn X.K fd ps n ks g gV) (hx : ∀ σ, PassesAt CX X σ (E σ))
    (ha : PA X (e :: es) t) (hkw : PK X kws tk) (hall : (backToKw pos (keywordEach kws X.env)).all (·.1.isSome) = true := by rfl) (hks : (backToKw pos (keywordEach kws X.env)).filterMap (·.1) = ks := by rfl)
    (hdb : (x == ("__debug__" : Str)) = false := by decide) (he : starEach (e :: es) X.env = (false, eval e X.env) :: starEach es X.env := by rfl)
    (hpl : ((backTo pos (starEach (e :: es) X.env)).any (·.1) || (backToKw pos (keywordEach kws X.env)).any (·.1.isNone)) = false := by rfl) :
    PE X (.Call (.Name x p) (e :: es) kws pos) (tCallNS n ks.length sp gV E t tk) := by
  refine ⟨fun pins s σ H Q I h => ?_⟩
  refine wpAny_Call_Name_kw (ld_glob I hg hm ?_ hdb)
  refine PySem.W.callWith_KW (h₀ := X.base) I.ok.mod.kin hk hall (thn (ha.run pos pins s σ H _ I h) fun us s1 hh => ?_) hpl he
  obtain ⟨vs, H1, I1, r, q⟩ := hh
  refine thn (hkw.run pos pins s1 σ H1 _ I1 q) fun ws s2 hh => ?_
  obtain ⟨zs, H2, I2, rz, l1, l2, q2⟩ := hh
  refine ⟨I2.kIn, ?_⟩
  rw [hks]
  have r2 := hb.rel r rz
  refine wpAny_call (codeAny_mono (F.run X.A X.stack s2 H2 ⟨us, ks.zip ws⟩ (g us ws) (gV vs zs) Q (E σ) hr I2.env0 (hb.to s2 us ws I2.kIn (r.length.symm.trans l1) (rz.length.symm.trans l2)) r2 q2) fun r3 s' hq => ?_)
  cases r3 with
  | error er => exact hx σ pins H2 s2 er s' I2 hq
  | ok fl =>
    cases fl with
    | ret u => exact I2.after hq
    | next => exact False.elim hq
    | brk => exact False.elim hq
    | cont => exact False.elim hq
end
theorem takes0N {X : Cx} : L2N.Takes X (fun _ _ _ _ => False) := fun _ _ x => by
  obtain ⟨_, _, _, _, _, _, _, _, _, _, _, _, _, _, _, _, z⟩ := x
  exact z.elim
theorem wx0 {B : Bx} {mg : Str → Option Value} : WxOk B mg (fun _ _ _ _ => False) (fun _ _ => False) := fun _ _ _ _ _ _ _ h => h.elim
/-! ### defs that may raise -/
section
variable {P : Program} {w : World} {K : PySem.W.Frag} {mg : Str → Option Value} {base : Heap}
theorem fnX_core {x : Str} {st : Stmt} {N ps : List Str} {k : Nat} {spec : SpecX} {g : (List SV → Xn → Prop) → DTS} {f : Addr} {fd : FuncData} (T : Fun K x x st f fd) (S : FnScope N ps (defScope st))
    (body : ∀ (cdv : Value) (A : Around) (outer : List PySem.Env) (s : Shared) (H : Hp) (E : XK), Room k (A.deeper (envOfC x (defScope st) s.heap.objs.size f cdv)) →
      ∃ t, PSs (cxOf (L2N.CX P w) P w K mg base N x (defScope st) f cdv A outer s H E) (defBody st) t ∧ ∀ (w' : Option Addr) (H0 F0 : Hp) (ex : List SV → Xn → Prop), WxOk ⟨K, w', H0, F0⟩ mg (fun cls d _ H => E cls d H) ex → PuS0 ⟨K, w', H0, F0⟩ t (g ex))
    (len : ∀ ds q ex, spec ds q ex → ds.length = ps.length)
    (sem : ∀ ds q ex, spec ds q ex → g (fun _ => ex) { nx := fun _ => q (.dat .none), rt := q } (startD N ds)) : FnOk P w K mg base (L2N.CX P w) (k + 1) f fd ps (spX K mg spec) := by
  obtain ⟨oc, od, kV, doc, pm, an, cdv, ct, osl, rfl, lk, hcd⟩ := T.ex
  refine fn_of lk hcd S (fun vs H Q E h => ?_) fun A outer s H vs Q E hr h => ?_
  · obtain ⟨w', F, ds, q, ex, b, r, hs, _⟩ := h
    rw [r.length]
    exact len _ _ _ hs
  · obtain ⟨w', F, ds, q, ex, b, r, hs, hk, hx⟩ := h
    obtain ⟨t, h1, h2⟩ := body cdv A outer s H E hr
    refine ⟨t, h1, ?_⟩
    have hN : ds.length ≤ N.length := by
      rw [len _ _ _ hs]
      have := congrArg List.length S.pre
      rw [List.length_take] at this
      omega
    have e := env_start (N := N) b r hN
    exact h2 w' H F (fun _ => ex) (fun x σ H' F' ρ cls d hq e' xr => hx x cls d H' F' hq e'.st xr) (L2.start N vs) H F (startD N ds) _ _ e (sem ds q ex hs) (fun _ z => z) (fun _ z => z) (fun σ' H' F' ρ' hq e' => hk (.dat .none) .non H' F' hq e'.st .non) fun x v H' F' hx st nv => hk x v H' F' hx st nv
theorem fnX_ok {x : Str} {st : Stmt} {N ps : List Str} {k : Nat} {spec : SpecX} {g : (List SV → Xn → Prop) → DTS} {f : Addr} {fd : FuncData} (mgf : mg x = some (.ref f)) (T : Fun K x x st f fd) (S : FnScope N ps (defScope st))
    (bd : ∀ (kV doc pm : Value) (an : Option Addr) (cdv ct : Value) (us : List Value), us.length = ps.length → bindArgs (PySem.W.fnOf x x (defArgs st) (defBody st) (defScope st) .none kV doc pm an cdv ct) ⟨us, []⟩ = pure (ps.zip us))
    (body : ∀ (cdv : Value) (A : Around) (outer : List PySem.Env) (s : Shared) (H : Hp) (E : XK), Room k (A.deeper (envOfC x (defScope st) s.heap.objs.size f cdv)) →
      ∃ t, PSs (cxOf (L2N.CX P w) P w K mg base N x (defScope st) f cdv A outer s H E) (defBody st) t ∧ ∀ (w' : Option Addr) (H0 F0 : Hp) (ex : List SV → Xn → Prop), WxOk ⟨K, w', H0, F0⟩ mg (fun cls d _ H => E cls d H) ex → PuS0 ⟨K, w', H0, F0⟩ t (g ex))
    (len : ∀ ds q ex, spec ds q ex → ds.length = ps.length)
    (sem : ∀ ds q ex, spec ds q ex → g (fun _ => ex) { nx := fun _ => q (.dat .none), rt := q } (startD N ds)) : FnX P w K mg base (k + 1) x ps spec f fd :=
  ⟨mgf, T.kp, T.binds bd, fnX_core T S body len sem⟩
theorem fnXK_ok {x : Str} {st : Stmt} {N ps ks : List Str} {n k : Nat} {spec : SpecX} {g : (List SV → Xn → Prop) → DTS} {f : Addr} {fd : FuncData} (mgf : mg x = some (.ref f)) (T : Fun K x x st f fd) (S : FnScope N ps (defScope st))
    (bd : ∀ (kV doc pm : Value) (an : Option Addr) (cdv ct : Value) (us ws : List Value), us.length = n → ws.length = ks.length → bindArgs (PySem.W.fnOf x x (defArgs st) (defBody st) (defScope st) .none kV doc pm an cdv ct) ⟨us, ks.zip ws⟩ = pure (ps.zip (us ++ ws)))
    (body : ∀ (cdv : Value) (A : Around) (outer : List PySem.Env) (s : Shared) (H : Hp) (E : XK), Room k (A.deeper (envOfC x (defScope st) s.heap.objs.size f cdv)) →
      ∃ t, PSs (cxOf (L2N.CX P w) P w K mg base N x (defScope st) f cdv A outer s H E) (defBody st) t ∧ ∀ (w' : Option Addr) (H0 F0 : Hp) (ex : List SV → Xn → Prop), WxOk ⟨K, w', H0, F0⟩ mg (fun cls d _ H => E cls d H) ex → PuS0 ⟨K, w', H0, F0⟩ t (g ex))
    (len : ∀ ds q ex, spec ds q ex → ds.length = ps.length)
    (sem : ∀ ds q ex, spec ds q ex → g (fun _ => ex) { nx := fun _ => q (.dat .none), rt := q } (startD N ds)) : FnXK P w K mg base (k + 1) x ps n ks spec f fd := by
  refine ⟨mgf, T.kp, ⟨fun s us ws _ l1 l2 => ?_, fun r1 r2 => r1.append r2⟩, fnX_core T S body len sem⟩
  obtain ⟨oc, od, kV, doc, pm, an, cdv, ct, osl, rfl, lk, hcd⟩ := T.ex
  exact .of_eq (bd kV doc pm an cdv ct us ws l1 l2)
/-- .. a def by data whose body has a try in its own block (nothing leaves it) -/
theorem fnD_ok0 {x : Str} {st : Stmt} {N ps : List Str} {k : Nat} {spec : Spec} {g : DTS} {f : Addr} {fd : FuncData} (mgf : mg x = some (.ref f)) (T : Fun K x x st f fd) (S : FnScope N ps (defScope st))
    (bd : ∀ (kV doc pm : Value) (an : Option Addr) (cdv ct : Value) (us : List Value), us.length = ps.length → bindArgs (PySem.W.fnOf x x (defArgs st) (defBody st) (defScope st) .none kV doc pm an cdv ct) ⟨us, []⟩ = pure (ps.zip us))
    (body : ∀ (cdv : Value) (A : Around) (outer : List PySem.Env) (s : Shared) (H : Hp) (E : XK), Room k (A.deeper (envOfC x (defScope st) s.heap.objs.size f cdv)) →
      ∃ t, PSs (cxOf CX0 P w K mg base N x (defScope st) f cdv A outer s H E) (defBody st) t ∧ ∀ (w' : Option Addr) (H0 F0 : Hp), PuS0 ⟨K, w', H0, F0⟩ t g)
    (len : ∀ ds q, spec ds q → ds.length = ps.length)
    (sem : ∀ ds q, spec ds q → g { nx := fun _ => q (.dat .none), rt := q } (startD N ds)) : FnD P w K mg base (k + 1) x ps spec f fd := by
  obtain ⟨oc, od, kV, doc, pm, an, cdv, ct, osl, hfd, lk, hcd⟩ := id T.ex
  refine ⟨mgf, T.kp, T.binds bd, ?_⟩
  subst hfd
  refine fn_of lk hcd S (fun vs H Q E h => ?_) fun A outer s H vs Q E hr h => ?_
  · obtain ⟨w', F, ds, q, b, r, hs, _⟩ := h
    rw [r.length]
    exact len _ _ hs
  · obtain ⟨w', F, ds, q, b, r, hs, hk⟩ := h
    obtain ⟨t, h1, h2⟩ := body cdv A outer s H E hr
    refine ⟨t, h1, ?_⟩
    have hN : ds.length ≤ N.length := by
      rw [len _ _ hs]
      have := congrArg List.length S.pre
      rw [List.length_take] at this
      omega
    have e := env_start (N := N) b r hN
    exact h2 w' H F (L2.start N vs) H F (startD N ds) _ _ e (sem ds q hs) (fun _ z => z) (fun _ z => z) (fun σ' H' F' ρ' hq e' => hk (.dat .none) .non H' F' hq e'.st .non) fun x v H' F' hx st nv => hk x v H' F' hx st nv
end
def q_xCallX_1 := @xCallX.eq_1
def q_xCallNX_1 := @xCallNX.eq_1
def q_gRaise_1 := @gRaise.eq_1
def q_gRaiseP_1 := @gRaiseP.eq_1
def q_gTry_1 := @gTry.eq_1
def q_gTryAs_1 := @gTryAs.eq_1
def q_dPlace_1 := @dPlace.eq_1
def q_cExn_1 := @cExn.eq_1
end DL

/-! DY: an exception class with a field, made by its own __init__ that asks the base's. -/
namespace DL
open PySem PySem.Spec PyProof.Rows L2
section
variable {X : Cx} {o e : Expr} {es : List Expr} {to te : TE} {ta : TA} {f : Str} {p p' p1 p2 pos : Pos}
/-- B.__init__(self, ..), B a class of one's own over ValueError -/
theorem pe_clsinit {pl : Sem Bool} {x : Str} {Cb : Addr} {mc : Value} (hg : Gl X x) (hm : X.mg x = some (.ref Cb)) (hr : PySem.W.readsIn X.K Cb mc = true) (ga : PySem.W.specialIn X.K (.ref Cb) "__getattribute__" = some (some (.builtin "type.__getattribute__")))
    (vB : PySem.W.findCls X.K (.ref Cb) mc "__init__" = some (.val (.builtin "ValueError.__init__"))) (ha : PA X (e :: es) ta) (hdb : (x == ("__debug__" : Str)) = false := by decide)
    (hc : eval (.Call (.Attribute (.Name x p1) "__init__" p2) (e :: es) [] pos) X.env = (do
      let ov ← eval (.Name x p1) X.env
      standAt p2.atName
      let (f, first) ← holding [ov] (getMethod ov "__init__" pl)
      callWith pos f first (backTo pos (starEach (e :: es) X.env)) (backToKw pos (keywordEach [] X.env))) := by rfl)
    (he : starEach (e :: es) X.env = (false, eval e X.env) :: starEach es X.env := by rfl) (hpl : (backTo pos (starEach es X.env)).any (·.1) = false := by rfl) :
    PE X (.Call (.Attribute (.Name x p1) "__init__" p2) (e :: es) [] pos) (tVeI X.K ta) := by
  refine ⟨fun pins s σ H Q I h => ?_⟩
  refine PySem.W.methodCall_KW (ld_glob I hg hm ?_ hdb) hc
  refine PySem.W.method_cls I.kIn ga (PySem.W.cls_value I.kIn hr vB (by decide +kernel) ?_)
  show wpAny _ _ (callWith pos (Value.builtin "ValueError.__init__") [] (backTo pos (starEach (e :: es) X.env)) []) _ _ _
  refine PyProof.Rows.callWith_method1 (thn (ha.run pos pins _ σ H _ (I.tok _) h) fun us s1 hh => ?_) he hpl
  obtain ⟨vs, H1, I1, r1, a, C, ws, ev, hl, T, ea, q⟩ := hh
  subst ev
  cases r1 with
  | @cons _ u0 _ ur ra rw' =>
    obtain rfl : u0 = Value.ref a := ra
    have hlen : ur.length ≤ sizeLine := by
      have z := Paired.length rw'
      rw [sizeLine_eq]
      omega
    exact oinit_ok T I1 ea hlen fun s' J => ⟨.non, H1, J, rfl, q⟩
/-- C(e, ..) for a raise: the object's context is told to be None -/
theorem pmk_oexN {CX : CXT} {x : Str} {C fI : Addr} {k : Nat} {fd : FuncData} {ps : List Str} {sp : Sp} {ds : List Value} {dvs : List V} (T : OexC X.K C) (iC : PySem.W.findIn X.K (.ref C) "__init__" = some (some (.ref fI))) (tI : PySem.W.typeIn X.K (.ref fI) = some (.type "function"))
    (F1 : FnOk X.prog X.w X.K X.mg X.base CX k fI fd ps sp) (hr : Room (k + 1) X.A) (hb : Binds X.K fd ps ds) (hd : Vals dvs ds) (hx : Passes CX X (fun _ _ _ => False)) (hg : Gl X x) (hm : X.mg x = some (.ref C)) (ha : PA X (e :: es) ta)
    (hdb : (x == ("__debug__" : Str)) = false := by decide) (he : starEach (e :: es) X.env = (false, eval e X.env) :: starEach es X.env := by rfl) (hpl : (backTo pos (starEach es X.env)).any (·.1) = false := by rfl) :
    L2N.PMk X (.Call (.Name x p) (e :: es) [] pos) (tMkO C sp dvs ta) := by
  intro pins s σ H Q I h
  obtain ⟨nm, q, N, bs, bm, sn, sub, ab, col, dd, k0, k1, k2, k3, k5, hC, hbm⟩ := T.cls
  refine wpAny_Call_Name_kw (ld_glob I hg hm ?_ hdb)
  refine PySem.W.callWith_K (h₀ := X.base) I.ok.mod.kin T.kC (thn (ha.run pos pins s σ H _ I h) fun us s1 hh => ?_) he hpl
  obtain ⟨vs, H1, I1, r1, hz, q1⟩ := hh
  refine ⟨I1.kIn, ?_⟩
  show wpAny _ _ (call (.ref C) us) _ _ _
  obtain ⟨hp, g, dr, tk, os⟩ := s1
  have hsz := Nat.le_succ hp.objs.size
  have hn : H1 (hp.objs.size + 1) = none := I1.hok.fresh hsz
  have hq := q1 (hp.objs.size + 1) hn
  have kk : ∀ b o, hp.get? b = some o → ((hp.push (PySem.W.kdv_tup us)).push (PySem.HandSPX.excO C hp.objs.size)).get? b = some o := fun b o z => Heap.get?_push_of_some _ (Heap.get?_push_of_some _ z)
  have hget : ((hp.push (PySem.W.kdv_tup us)).push (PySem.HandSPX.excO C hp.objs.size)).get? (hp.objs.size + 1) = some (PySem.HandSPX.excO C hp.objs.size) := by
    heap_get
  have I2 := I1.laid (t' := tk) (a := hp.objs.size + 1) (o := exo (hp.objs.size + 1) C none) (h' := (hp.push (PySem.W.kdv_tup us)).push (PySem.HandSPX.excO C hp.objs.size)) kk hsz (exo_ok hget)
  have r2 : Vals (V.ref (hp.objs.size + 1) :: (vs ++ dvs)) (Value.ref (hp.objs.size + 1) :: (us ++ ds)) := .cons rfl (r1.append hd)
  have hl : (Value.ref (hp.objs.size + 1) :: us ++ ds).length = ps.length := by
    have z := r2.length
    rw [F1.len _ _ _ _ hq] at z
    exact z.symm
  have hus : us.length ≤ sizeLine := by
    have z := Paired.length r1
    rw [sizeLine_eq]
    omega
  refine wpAny_call (PySem.HandSPX.call_own F.excBase_ValueError (fun Y => PySem.HandSPX.refsVE_contains Y bm hbm) (I1.kIn _ _ hC) (PySem.W.looks_findIn I1.kIn iC) (fun self => PySem.W.bind_fn I1.kIn self tI) hus ?_)
  refine codeAny_mono (F1.run _ X.stack _ _ ⟨Value.ref (hp.objs.size + 1) :: us, []⟩ (Value.ref (hp.objs.size + 1) :: (us ++ ds)) _ _ (fun _ _ _ => False) (hr.make C us []) (I2.env0.make C us []) (hb _ (Value.ref (hp.objs.size + 1) :: us) I2.kIn hl) r2 hq) fun r s' hq' => ?_
  cases r with
  | error er => exact hx pins σ _ _ er s' I2 hq'
  | ok fl =>
    cases fl with
    | ret u =>
      obtain ⟨v, H2, os2, bare2, un2, hok2, rv, ev, d, fs, ea, ed, hd1, q2⟩ := hq'
      subst ev
      obtain ⟨h2, g2, d2, t2, os'⟩ := s'
      obtain ⟨t0, G, J, kG, ge, hoe, na⟩ := mk_end0 (d2 := d2) (t2 := t2) I1 hsz kk un2 hok2 os2 bare2 ea ed hd1
      exact ⟨rv, _, _, _, ⟨G, g2, d2, t2, os'⟩, _, .ref C, some d, rfl, J, kG, ge, hoe, ⟨rfl, rfl, fun vs z => by cases z; rfl⟩, rfl, rfl, na, rfl, bare2, raises_own T.exC T.tyC, q2⟩
    | next => exact False.elim hq'
    | brk => exact False.elim hq'
    | cont => exact False.elim hq'
end
/-- what the top says of the class with the field place -/
structure PlaceC (K : PySem.W.Frag) (mg : Str → Option Value) (C Cb fI : Addr) (mc : Value) : Prop where
  gC : mg "NoTime" = some (.ref C)
  ox : OexC K C
  iC : PySem.W.findIn K (.ref C) "__init__" = some (some (.ref fI))
  tI : PySem.W.typeIn K (.ref fI) = some (.type "function")
  np : PySem.W.findIn K (.ref C) "place" = some none
  gB : mg "BellError" = some (.ref Cb)
  rB : PySem.W.readsIn K Cb mc = true
  aB : PySem.W.specialIn K (.ref Cb) "__getattribute__" = some (some (.builtin "type.__getattribute__"))
  vB : PySem.W.findCls K (.ref Cb) mc "__init__" = some (.val (.builtin "ValueError.__init__"))
/-- the promise of its __init__ -/
def spPlace (K : PySem.W.Frag) (C : Addr) : Sp := fun vs H Q _ => ∃ (a : Addr) (v : V), vs = [.ref a, v] ∧ H a = some (exo a C none) ∧ ∀ dx, H dx = none → dx ≠ a → Q .non (upd (upd H dx (exd dx [("place", v)])) a (exo a C (some dx)))
/-- the class as a whole -/
structure NoT (P : Program) (w : World) (K : PySem.W.Frag) (mg : Str → Option Value) (base : Heap) (C : Addr) : Prop where
  ex : ∃ (Cb fI : Addr) (mc : Value) (fd : FuncData), PlaceC K mg C Cb fI mc ∧ FnOk P w K mg base CX0 1 fI fd ["self", "place"] (spPlace K C) ∧ Binds K fd ["self", "place"] []
  gC : mg "NoTime" = some (.ref C)
  xf : XfC K C
  np : PySem.W.findIn K (.ref C) "place" = some none
theorem ps_raiseNT {X : Cx} {C : Addr} {W : WX} {e : Expr} {te : TE} {p pos pos2 : Pos} (N : NoT X.prog X.w X.K X.mg X.base C) (hc : X.calm = true) (hr : Room 2 X.A) (tk : L2N.Takes X W) (he : PA X [e] (tCons te tNil)) (hg : Gl X "NoTime") (hst : starEach [e] X.env = (false, eval e X.env) :: starEach [] X.env := by rfl) :
    PS X (.Raise (some (.Call (.Name "NoTime" p) [e] [] pos)) none pos2) (fun _ σ H => tMkO C (spPlace X.K C) [] (tCons te tNil) σ H fun cls d H' => W cls d σ H') := by
  obtain ⟨Cb, fI, mc, fd, T, G, b⟩ := N.ex
  exact L2N.ps_raise hc tk (pmk_oexN T.ox T.iC T.tI G hr b .nil pass0 hg T.gC he (by decide) hst rfl)
theorem pu_raiseNT {B : Bx} {mg : Str → Option Value} {W : WX} {ex : List SV → Xn → Prop} {C : Addr} {te : TE} {fe : DTE} (gC : mg "NoTime" = some (.ref C)) (hW : WxOk B mg W ex) (he : PuE B te fe) :
    PuS B (fun _ σ H => tMkO C (spPlace B.K C) [] (tCons te tNil) σ H fun cls d H' => W cls d σ H') (gRaiseP "NoTime" fe ex) := fun σ H F ρ De E e hg _ _ _ _ =>
  he σ H F ρ _ _ e hg fun d v H1 F1 h1 s1 r1 => by
    refine ⟨by show 1 ≤ 1000; decide, fun a ha => ⟨a, v, rfl, upd_same, fun dx h2 h3 => ⟨rfl, dx, [("place", v)], upd_same, by rw [upd_ne h3, upd_same], ?_, ?_⟩⟩⟩
    · rw [upd_ne h3] at h2
      exact h2
    · rw [upd_ne h3] at h2
      have eH : upd (del (upd (upd (upd H1 a (exo a C none)) dx (exd dx [("place", v)])) a (exo a C (some dx))) a) dx (.xd [("place", v)]) = upd H1 dx (.xd [("place", v)]) := by
        funext b
        by_cases hb : b = dx
        · subst hb
          rw [upd_same, upd_same]
        · rw [upd_ne hb, upd_ne hb]
          by_cases hba : b = a
          · subst hba
            rw [del_same, ha]
          · rw [del_ne hba, upd_ne hba, upd_ne hb, upd_ne hba]
      rw [eH]
      have e1 := e.step s1
      have s2 : Step B.w H1 F1 (upd H1 dx (.xd [("place", v)])) (upd F1 dx (.xd [("place", v)])) := Step.laid e1.base h2
      exact hW ("NoTime", some d) σ _ _ ρ _ _ h1 (e1.step s2) ⟨⟨C, gC, rfl⟩, (fun z => by cases z), fun y z => by cases z; exact ⟨dx, v, rfl, upd_same, r1.mono s2.ff⟩⟩
end DL

/-! DZ: tuple(range(n)), list(range(n)). -/
namespace DL
open PySem PySem.Spec PyProof.Rows L2
theorem rg_rds0 {K : PySem.W.Frag} {F : Hp} : ∀ (m : Nat) (a : Int), RDs K F ((List.range m).map fun i : Nat => V.int (a + (i : Nat))) (rangeD a m)
  | 0, _ => .nil
  | m + 1, a => by
    rw [List.range_succ_eq_map, List.map_cons, List.map_map]
    refine .cons (by rw [Int.natCast_zero, Int.add_zero]; exact .int _) ?_
    have e : ((fun i : Nat => V.int (a + (i : Nat))) ∘ Nat.succ) = fun i : Nat => V.int (a + 1 + (i : Nat)) := by
      funext i
      show V.int (a + ((i + 1 : Nat) : Int)) = _
      rw [show a + ((i + 1 : Nat) : Int) = a + 1 + (i : Nat) by omega]
    rw [e]
    exact rg_rds0 m (a + 1)
theorem rg_rds {K : PySem.W.Frag} {F : Hp} (n : Int) : RDs K F (rgV 0 n) (rangeD 0 n.toNat) := by
  have := rg_rds0 (K := K) (F := F) (n - 0).toNat 0
  unfold rgV
  rw [show (n - 0).toNat = n.toNat by rw [Int.sub_zero]] at this ⊢
  exact this
def xTupRg (f : DTE) : DTX := fun ρ q => f ρ fun d => match d with
  | .int n => (0 ≤ n ∧ n ≤ 16777216) ∧ q (.dat (.tuple (rangeD 0 n.toNat)))
  | _ => False
def xLstRg (f : DTE) : DTX := fun ρ q => f ρ fun d => match d with
  | .int n => (0 ≤ n ∧ n ≤ 16777216) ∧ q (.own (rangeD 0 n.toNat))
  | _ => False
theorem rg_len {n : Int} (h : 0 ≤ n ∧ n ≤ 16777216) : (rgV 0 n).length ≤ sizeLine := by
  rw [rgV_length, sizeLine_eq]
  omega
theorem pu_tupRg {B : Bx} {te : TE} {fe : DTE} (he : PuE B te fe) : PuX B (tTupRg (tRg1 te)) (xTupRg fe) := fun σ H F ρ Q q e hf k => he σ H F ρ _ _ e hf fun d v H1 F1 h1 s1 r1 => by
  have b1 := e.base.step s1
  cases d with
  | int n =>
    cases r1
    obtain ⟨hn, h1⟩ := h1
    refine ⟨n, rfl, RgOk.of_le (by omega) (by omega) (by omega) (by omega), fun p hp => ?_⟩
    have s2 : Step B.w H1 F1 (upd H1 p (.tup (rgV 0 n))) (upd F1 p (.tup (rgV 0 n))) := Step.laid b1 hp
    exact k (.dat (.tuple _)) _ _ _ h1 (s1.trans e.base s2) (.tup (SqT.of upd_same) (rg_len hn) (rg_rds n))
  | _ => exact h1.elim
theorem pu_lstRg {B : Bx} {te : TE} {fe : DTE} (he : PuE B te fe) : PuX B (tLstRg (tRg1 te)) (xLstRg fe) := fun σ H F ρ Q q e hf k => he σ H F ρ _ _ e hf fun d v H1 F1 h1 s1 r1 => by
  have b1 := e.base.step s1
  cases d with
  | int n =>
    cases r1
    obtain ⟨hn, h1⟩ := h1
    refine ⟨n, rfl, RgOk.of_le (by omega) (by omega) (by omega) (by omega), fun p hp => ?_⟩
    exact k _ _ _ F1 h1 (s1.trans e.base (Step.loose b1 hp)) ⟨p, _, rfl, s1.free e.base hp, b1.fh.free hp, upd_same, rg_len hn, rg_rds n⟩
  | _ => exact h1.elim
def q_xTupRg_1 := @xTupRg.eq_1
def q_xLstRg_1 := @xLstRg.eq_1
end DL

/-! DW: sorted of a list of data of one form (tuples within tuples). -/
namespace DL
open PySem PySem.Spec PyProof.Rows L2 PySem.W
theorem each_vals : ∀ {zs : List (V × D)} {us : List Value}, Vals (zs.map (·.1)) us → EachIs (fun u z => RelV z.1 u) us zs
  | [], _, r => by cases r; exact .nil
  | z :: zs, _, r => by
    rw [List.map_cons] at r
    cases r with
    | cons h t => exact .cons h (each_vals t)
theorem vals_each : ∀ {us : List Value} {zs : List (V × D)}, EachIs (fun u z => RelV z.1 u) us zs → Vals (zs.map (·.1)) us
  | _, _, .nil => .nil
  | _, _, .cons h t => .cons h (vals_each t)
section
variable {X : Cx}
def rSortD (K : PySem.W.Frag) : List V → Hp → VK → Prop := fun vs H Q => ∃ (a : Addr) (zs : List (V × D)), vs = [V.ref a] ∧ SqL K H a (zs.map (·.1)) ∧ (∀ z ∈ zs, Dp K H z.1 z.2) ∧ PySem.W.AllAlike (zs.map (·.2)) ∧ PySem.W.Sortable (zs.map (·.2)) ∧ (∀ z ∈ zs, z.2.depth ≤ 16) ∧
  ∀ (ws : List (V × D)) p, ws.Perm zs → ws.Pairwise (fun x y => PySem.W.dataLt y.2 x.2 = false) → H p = none → Q (.ref p) (upd H p (.lst (ws.map (·.1))))
theorem cr_sortD (hu : X.A.units + 64 < cLine) : CallR X (.builtin "sorted") (rSortD X.K) := by
  intro pins s σ H vs us Q I r h
  obtain ⟨a, zs, rfl, hs, hz, hal, hk, hd, q⟩ := h
  obtain ⟨its, rv, hl, hsz⟩ := I.list hs
  rw [Vals.ref1 r]
  have len : its.length = zs.length := by rw [← rv.length, List.length_map]
  have er : ∀ {us : List Value} {zs : List (V × D)}, (∀ z ∈ zs, Dp X.K H z.1 z.2) → Vals (zs.map (·.1)) us → EachIs (fun v b => ∃ as, Reads s.heap v b.2 as) us zs := fun {us zs} => by
    induction zs generalizing us with
    | nil =>
      intro _ r
      cases r
      exact .nil
    | cons z zs ih =>
      intro hz r
      rw [List.map_cons] at r
      cases r with
      | cons h t => exact .cons (Dp.reads I z.2 z.1 _ (hz z List.mem_cons_self) h) (ih (fun y hy => hz y (List.mem_cons_of_mem _ hy)) t)
  refine PySem.W.sorted_data (bs := zs) (enc := (·.2)) (R := fun u z => RelV z.1 u) hl.isList (each_vals rv) (er hz rv) hal hk (by rw [List.length_map] at hsz; exact hsz) (fun b hb => by have := hd b hb; omega) fun out ho he => ?_
  obtain ⟨e, hat⟩ := sortedAll_at s.heap its out.toArray
  have hp : (zs.mergeSort (PySem.W.dataLe false (·.2))).Perm zs := List.mergeSort_perm _ _
  have hsrt := sort_pairwise (sortLe_total (listOrd itemOrd) false fun b : V × D => PySem.W.keyToks b.2) zs
  refine ⟨.ref (s.heap.objs.size + 1), upd H (s.heap.objs.size + 1) (.lst ((zs.mergeSort (PySem.W.dataLe false (·.2))).map (·.1))), I.laid (t' := s.toks) (fun b o z => sortedAll_old z) (Nat.le_succ _) ⟨?_, out, e, vals_each he, hat⟩, rfl, q _ _ hp ?_ (I.hok.fresh (Nat.le_succ _))⟩
  · rw [List.length_map, hp.length_eq]
    rw [List.length_map] at hsz
    exact hsz
  · exact hsrt.imp fun {x y} z => by
      have z2 : (!PySem.W.dataLt y.2 x.2) = true := z
      simpa using z2
end
end DL

/-! DSz: sorted(zip(xs, ys)) of two lists of one length, by data. -/
namespace DSz
open PySem PySem.Spec PyProof.Rows L2
theorem zip_nolen : typeLookup (.type "zip") "__len__" = pure none := by
  first
  | (rw [typeLookup_type, builtinLookup_eq_fast]; kernel_rfl)
  | kernel_rfl
theorem zip_nohint : typeLookup (.type "zip") "__length_hint__" = pure none := by
  first
  | (rw [typeLookup_type, builtinLookup_eq_fast]; kernel_rfl)
  | kernel_rfl
/-- a zip of the lists l1, l2 ahead of its i-th pair; the list S that collects is none of its objects -/
structure ZS (h : Heap) (S z TI TO i1 i2 l1 l2 : Addr) (xs ys : Array Value) (i : Nat) : Prop where
  zz : PySem.IsZip h z TI TO .none ∨ ∃ T f oT, PySem.IsZipHeld h z TI TO T f ∧ h.get? T = some oT ∧ T ≠ S ∧ T ≠ z ∧ T ≠ i1 ∧ T ≠ i2
  ti : IsPair h TI (.ref i1) (.ref i2)
  tt : ∃ a b, IsPair h TO a b
  a1 : h.IsListIter i1 l1 i
  a2 : h.IsListIter i2 l2 i
  b1 : h.IsList l1 xs
  b2 : h.IsList l2 ys
structure Off (S z TI TO i1 i2 l1 l2 : Addr) : Prop where
  z : z ≠ S
  ti : TI ≠ S
  tt : TO ≠ S
  i1 : i1 ≠ S
  i2 : i2 ≠ S
  l1 : l1 ≠ S
  l2 : l2 ≠ S
section
variable {prog : Program} {w : World} {A : Around} {E : Value → Shared → Prop} {s : Shared} {S z TI TO i1 i2 l1 l2 : Addr} {xs ys : Array Value} {i : Nat}
theorem ZS.keep {h h' : Heap} (O : Off S z TI TO i1 i2 l1 l2) (st : ZS h S z TI TO i1 i2 l1 l2 xs ys i) (k : ∀ b o, b ≠ S → h.get? b = some o → h'.get? b = some o) : ZS h' S z TI TO i1 i2 l1 l2 xs ys i := by
  refine ⟨?_, k _ _ O.ti st.ti, ?_, st.a1.at fun o e => k _ o O.i1 e, st.a2.at fun o e => k _ o O.i2 e, st.b1.at fun o e => k _ o O.l1 e, st.b2.at fun o e => k _ o O.l2 e⟩
  · rcases st.zz with q | ⟨T, f, oT, q1, q2, q3, q4⟩
    · exact .inl (k _ _ O.z q)
    · exact .inr ⟨T, f, oT, k _ _ O.z q1, k _ _ q3 q2, q3, q4⟩
  · obtain ⟨a, b, q⟩ := st.tt
    exact ⟨a, b, k _ _ O.tt q⟩
theorem nx {x y : Value} {Q : Option Value → Shared → Prop} (D : ZipApart z TI TO i1 i2 l1 l2) (hS : S < s.heap.objs.size) (st : ZS s.heap S z TI TO i1 i2 l1 l2 xs ys i) (hx : xs[i]? = some x) (hy : ys[i]? = some y)
    (hQ : ∀ h', ZS h' S z TI TO i1 i2 l1 l2 xs ys (i + 1) → IsPair h' s.heap.objs.size x y → (∀ c o, c ≠ z → c ≠ TO → c ≠ i1 → c ≠ i2 → s.heap.get? c = some o → h'.get? c = some o) → Q (some (.ref s.heap.objs.size)) { s with heap := h' }) :
    wpAny (model prog w) A (pyNext (.ref z)) Q E s := by
  obtain ⟨a, b, tO⟩ := st.tt
  have old : ∀ {c : Addr} {o : Obj}, s.heap.get? c = some o → s.heap.objs.size ≠ c := fun e => Nat.ne_of_gt (Heap.lt_size e)
  have o1 : s.heap.objs.size ≠ i1 := by obtain ⟨_, e, _⟩ := st.a1; exact old e
  have o2 : s.heap.objs.size ≠ i2 := by obtain ⟨_, e, _⟩ := st.a2; exact old e
  rcases st.zz with hz | ⟨T, f, oT, hz, hT, n1, n2, n3, n4⟩
  · refine wpAny_pyNext_zip_item D hz st.ti tO st.a1 st.a2 st.b1 st.b2 hx hy fun h' c1 c2 c3 c4 c5 c6 c7 => hQ h' ⟨.inr ⟨_, _, _, c1, c5, Nat.ne_of_gt hS, old hz, o1, o2⟩, c7 _ _ D.TIz D.TITO D.TIi1 D.TIi2 st.ti, ⟨_, _, c2⟩, c3, c4, ?_, ?_⟩ c5 c7
    · exact st.b1.at fun o e => c7 _ o D.l1z D.l1TO D.l1i1 D.l1i2 e
    · exact st.b2.at fun o e => c7 _ o D.l2z D.l2TO D.l2i1 D.l2i2 e
  · refine wpAny_pyNext_zip_item_held D hz hT st.ti st.a1 st.a2 st.b1 st.b2 hx hy fun h' c1 c3 c4 c5 c6 c7 => hQ h' ⟨.inr ⟨_, _, _, c1, c7 _ _ n2 n3 n4 hT, n1, n2, n3, n4⟩, c7 _ _ D.TIz D.TIi1 D.TIi2 st.ti, ⟨_, _, c7 _ _ D.TOz D.TOi1 D.TOi2 tO⟩, c3, c4, ?_, ?_⟩ c5 fun c o q1 _ q3 q4 e => c7 c o q1 q3 q4 e
    · exact st.b1.at fun o e => c7 _ o D.l1z D.l1i1 D.l1i2 e
    · exact st.b2.at fun o e => c7 _ o D.l2z D.l2i1 D.l2i2 e
theorem fin {Q : Option Value → Shared → Prop} (hh : A.handled = none) (D : ZipApart z TI TO i1 i2 l1 l2) (st : ZS s.heap S z TI TO i1 i2 l1 l2 xs ys i) (hend : xs[i]? = none ∨ ys[i]? = none)
    (hQ : ∀ h', (∀ c o, c ≠ z → c ≠ TO → c ≠ i1 → c ≠ i2 → s.heap.get? c = some o → h'.get? c = some o) → Q none { s with heap := h' }) : wpAny (model prog w) A (pyNext (.ref z)) Q E s := by
  obtain ⟨a, b, tO⟩ := st.tt
  rcases st.zz with hz | ⟨T, f, oT, hz, hT, n1, n2, n3, n4⟩
  · exact wpAny_pyNext_zip_end hh D hz st.ti tO st.a1 st.a2 st.b1 st.b2 hend hQ
  · exact wpAny_pyNext_zip_end_held hh D hz hT st.ti st.a1 st.a2 st.b1 st.b2 hend fun h' c7 => hQ h' fun c o q1 _ q3 q4 e => c7 c o q1 q3 q4 e
/-- the pairs that were made -/
structure Prs (xs ys : Array Value) (S : Addr) (h : Heap) (as : List Addr) : Prop where
  rise : as.Pairwise (· < ·)
  above : ∀ a ∈ as, S < a
  at_ : ∀ (j : Nat) (a : Addr), as[j]? = some a → ∃ x y, xs[j]? = some x ∧ ys[j]? = some y ∧ IsPair h a x y
theorem Prs.keep {h h' : Heap} {as : List Addr} (g : Prs xs ys S h as) (k : ∀ b o, S < b → h.get? b = some o → h'.get? b = some o) : Prs xs ys S h' as :=
  ⟨g.rise, g.above, fun j a e => let ⟨x, y, h1, h2, h3⟩ := g.at_ j a e; ⟨x, y, h1, h2, k _ _ (g.above a (List.mem_of_getElem? e)) h3⟩⟩
theorem Prs.lt {h : Heap} {as : List Addr} (g : Prs xs ys S h as) {a : Addr} (m : a ∈ as) : a < h.objs.size := by
  obtain ⟨j, e⟩ := List.mem_iff_getElem?.mp m
  obtain ⟨_, _, _, _, q⟩ := g.at_ j a e
  exact Heap.lt_size q
theorem Prs.snoc {h : Heap} {as : List Addr} {a : Addr} {x y : Value} (g : Prs xs ys S h as) (hx : xs[as.length]? = some x) (hy : ys[as.length]? = some y) (p : IsPair h a x y) (hS : S < a) (up : ∀ b ∈ as, b < a) : Prs xs ys S h (as ++ [a]) := by
  refine ⟨List.pairwise_append.mpr ⟨g.rise, List.pairwise_singleton _ _, fun b hb c hc => ?_⟩, fun b hb => ?_, fun j b e => ?_⟩
  · rw [List.mem_singleton.mp hc]
    exact up b hb
  · rcases List.mem_append.mp hb with q | q
    · exact g.above b q
    · rw [List.mem_singleton.mp q]
      exact hS
  · rcases Nat.lt_or_ge j as.length with c | c
    · rw [List.getElem?_append_left c] at e
      exact g.at_ j b e
    · rw [List.getElem?_append_right c] at e
      have hj : j = as.length := by
        have := (List.getElem?_eq_some_iff.mp e).1
        rw [List.length_cons, List.length_nil] at this
        omega
      subst hj
      rw [Nat.sub_self] at e
      cases e
      exact ⟨x, y, hx, hy, p⟩
abbrev lstO (acc : Array Value) (c : Nat) : Obj := { cls := .type "list", dict := none, data := .seq acc c, slots := #[] }
theorem turns (hh : A.handled = none) (D : ZipApart z TI TO i1 i2 l1 l2) (O : Off S z TI TO i1 i2 l1 l2) (lt : z < S ∧ TO < S ∧ i1 < S ∧ i2 < S) (n : Nat) (hn : n ≤ sizeLine) (hx : xs.size = n) (hy : ys.size = n) (res : Value) {R : Result → Shared → Prop} {h₀ : Heap}
    (hR : ∀ h' acc c as, (∀ b o, b ≠ S → b ≠ z → b ≠ TO → b ≠ i1 → b ≠ i2 → h₀.get? b = some o → h'.get? b = some o) → h'.get? S = some (lstO acc c) → as.length = n → Prs xs ys S h' as → acc.toList = as.map Value.ref → R (.ok (.ret res)) { s with heap := h' }) :
    ∀ (k i : Nat) (h : Heap) (c : Nat) (acc : Array Value) (as : List Addr), n - i = k → i ≤ n → ZS h S z TI TO i1 i2 l1 l2 xs ys i → (∀ b o, b ≠ S → b ≠ z → b ≠ TO → b ≠ i1 → b ≠ i2 → h₀.get? b = some o → h.get? b = some o) →
      h.get? S = some (lstO acc c) → acc.toList = as.map Value.ref → as.length = i → Prs xs ys S h as → codeAny (model prog w) A (.builtin "list.extend.loop" ⟨[.ref S, .ref z, res], []⟩) R { s with heap := h } := by
  have far : ∀ b, S < b → b ≠ z ∧ b ≠ TO ∧ b ≠ i1 ∧ b ≠ i2 := fun b hb => ⟨Nat.ne_of_gt (Nat.lt_trans lt.1 hb), Nat.ne_of_gt (Nat.lt_trans lt.2.1 hb), Nat.ne_of_gt (Nat.lt_trans lt.2.2.1 hb), Nat.ne_of_gt (Nat.lt_trans lt.2.2.2 hb)⟩
  intro k
  induction k with
  | zero =>
    intro i h c acc as hk hi st hkeep hS hacc hal hG
    refine codeAny_builtin PySem.F.entry_extend_loop ?_
    rw [(Around.under_plainId PySem.F.plain_extend_loop _ : _ = A.in1)]
    show wpAny _ A.in1 ((pyNext (.ref z)) >>= _) _ _ _
    have e : i = n := by omega
    refine wpAny_bind (fin (s := { s with heap := h }) (A := A.in1) hh D st (.inl (by rw [Array.getElem?_eq_none_iff]; omega)) fun h' kp => wpAny_pure (hR h' acc c as (fun b o n1 n2 n3 n4 n5 q => kp b o n2 n3 n4 n5 (hkeep b o n1 n2 n3 n4 n5 q)) (kp S _ O.z.symm O.tt.symm O.i1.symm O.i2.symm hS) (by omega) (hG.keep fun b o hb q => kp b o (far b hb).1 (far b hb).2.1 (far b hb).2.2.1 (far b hb).2.2.2 q) hacc))
  | succ k ih =>
    intro i h c acc as hk hi st hkeep hS hacc hal hG
    have hlt : i < n := by omega
    have asz : acc.size = i := by rw [← Array.length_toList, hacc, List.length_map, hal]
    have ex : xs[i]? = some (xs[i]'(by omega)) := Array.getElem?_eq_getElem _
    have ey : ys[i]? = some (ys[i]'(by omega)) := Array.getElem?_eq_getElem _
    refine codeAny_builtin PySem.F.entry_extend_loop ?_
    rw [(Around.under_plainId PySem.F.plain_extend_loop _ : _ = A.in1)]
    show wpAny _ A.in1 ((pyNext (.ref z)) >>= _) _ _ _
    have Slt : S < h.objs.size := Heap.lt_size hS
    refine wpAny_bind (nx (s := { s with heap := h }) D Slt st ex ey fun h' st' pr kp => ?_)
    dsimp only at pr kp ⊢
    have hS' := kp S _ O.z.symm O.tt.symm O.i1.symm O.i2.symm hS
    have up : ∀ b o, b ≠ S → h'.get? b = some o → (h'.update S (Obj.mapSeq (·.push (Value.ref h.objs.size)))).get? b = some o := fun b o hb e => (Heap.get?_update_other _ _ (Ne.symm hb)).trans e
    have kS : ∀ b o, S < b → h.get? b = some o → h'.get? b = some o := fun b o hb q => kp b o (far b hb).1 (far b hb).2.1 (far b hb).2.2.1 (far b hb).2.2.2 q
    have hG' : Prs xs ys S (h'.update S (Obj.mapSeq (·.push (Value.ref h.objs.size)))) as := hG.keep fun b o hb q => up b o (Nat.ne_of_gt hb) (kS b o hb q)
    show wpAny _ A.in1 (updateSeq S (·.push (Value.ref h.objs.size)) >>= _) _ _ _
    refine wpAny_bind ?_
    refine wpAny_updateSeq hS' rfl (wpAny_pure ⟨plainId_quiet PySem.F.plain_extend_loop _, ih (i + 1) _ _ (acc.push (Value.ref h.objs.size)) (as ++ [h.objs.size]) (by omega) hlt (st'.keep O up)
      (fun b o n1 n2 n3 n4 n5 q => up b o n1 (kp b o n2 n3 n4 n5 (hkeep b o n1 n2 n3 n4 n5 q))) (Heap.get?_update_self _ hS' rfl) (by rw [Array.toList_push, hacc, List.map_append]; rfl) (by rw [List.length_append, hal]; rfl)
      (hG'.snoc (by rw [hal]; exact ex) (by rw [hal]; exact ey) (up _ _ (Nat.ne_of_gt Slt) pr) Slt fun b hb => hG.lt hb)⟩) (by rw [asz]; omega) (by show (acc.push (Value.ref h.objs.size)).size ≤ sizeLine + 1; rw [Array.size_push, asz]; omega)
theorem collect_zip {R : List Value → Shared → Prop} (hh : A.handled = none) (D : ZipApart z TI TO i1 i2 l1 l2) (hz : PySem.IsZip s.heap z TI TO .none) (hTI : IsPair s.heap TI (.ref i1) (.ref i2)) (hTO : ∃ a b, IsPair s.heap TO a b)
    (h1 : s.heap.IsListIter i1 l1 0) (h2 : s.heap.IsListIter i2 l2 0) (b1 : s.heap.IsList l1 xs) (b2 : s.heap.IsList l2 ys) {n : Nat} (hn : n ≤ sizeLine) (hx : xs.size = n) (hy : ys.size = n)
    (h : ∀ (h' : Heap) (as : List Addr), (∀ b o, b ≠ z → b ≠ TO → b ≠ i1 → b ≠ i2 → s.heap.get? b = some o → h'.get? b = some o) → s.heap.objs.size < h'.objs.size → as.length = n → Prs xs ys s.heap.objs.size h' as → R (as.map Value.ref) { s with heap := h' }) :
    wpAny (model prog w) A (collect (.ref z)) R E s := by
  obtain ⟨ta, tb, tO⟩ := hTO
  have ltz : z < s.heap.objs.size := Heap.lt_size hz
  have ltO : TO < s.heap.objs.size := Heap.lt_size tO
  have ltI : TI < s.heap.objs.size := Heap.lt_size hTI
  have lt1 : i1 < s.heap.objs.size := by obtain ⟨_, e, _⟩ := h1; exact Heap.lt_size e
  have lt2 : i2 < s.heap.objs.size := by obtain ⟨_, e, _⟩ := h2; exact Heap.lt_size e
  have ll1 : l1 < s.heap.objs.size := by obtain ⟨_, e, _⟩ := b1; exact Heap.lt_size e
  have ll2 : l2 < s.heap.objs.size := by obtain ⟨_, e, _⟩ := b2; exact Heap.lt_size e
  have O : Off s.heap.objs.size z TI TO i1 i2 l1 l2 := ⟨Nat.ne_of_lt ltz, Nat.ne_of_lt ltI, Nat.ne_of_lt ltO, Nat.ne_of_lt lt1, Nat.ne_of_lt lt2, Nat.ne_of_lt ll1, Nat.ne_of_lt ll2⟩
  have st0 : ZS s.heap s.heap.objs.size z TI TO i1 i2 l1 l2 xs ys 0 := ⟨.inl hz, hTI, ⟨_, _, tO⟩, h1, h2, b1, b2⟩
  unfold collect
  refine wpAny_bind (wpAny_runValue (codeAny_builtin PyProof.Rows.entry_proto_collect' ?_))
  rw [(Around.under_plainId PySem.F.plain_proto_collect _ : _ = A.in1)]
  show wpAny _ A.in1 (newList [] >>= fun l => again (.builtin "list.__iadd__" ⟨[l, .ref z], []⟩)) _ _ s
  refine wpAny_bind (wpAny_newObj_type ?_)
  refine wpAny_pure ⟨plainId_quiet PySem.F.plain_list_iadd _, codeAny_builtin PyProof.Rows.entry_list_iadd' ?_⟩
  rw [(Around.under_plainId PySem.F.plain_list_iadd _ : _ = A.in1)]
  generalize hp1 : s.heap.push { cls := .type "list", data := .seq ([] : List Value).toArray } = hp
  have kp1 : ∀ b o, s.heap.get? b = some o → hp.get? b = some o := fun b o e => by rw [← hp1]; exact Heap.get?_push_of_some _ e
  have hS₁ : hp.get? s.heap.objs.size = some (lstO #[] 0) := by rw [← hp1]; exact Heap.get?_push_size _ rfl
  have hT1 : ({ s with heap := hp } : Shared).TypeIs (.ref z) "zip" := ⟨_, kp1 _ _ hz, rfl⟩
  show wpAny _ A.in1 (Builtin.List.listExtendWith (.ref s.heap.objs.size) (.ref z) (.ref s.heap.objs.size)) _ _ { s with heap := hp }
  unfold Builtin.List.listExtendWith
  refine wpAny_bind (wpAny_typeOf hT1 ?_)
  have e1 : Builtin.List.listSameRef (.ref s.heap.objs.size) (.ref z) = false := by simp [Builtin.List.listSameRef, O.z.symm]
  have e2 : (Value.type "zip" == Value.type "list") = false := by decide
  have e3 : (Value.type "zip" == Value.type "tuple") = false := by decide
  simp only [e1, e2, e3, Bool.or_false, Bool.false_eq_true, if_false]
  refine wpAny_bind (wpAny_pyIter_zip (kp1 _ _ hz) ?_)
  refine wpAny_bind (wpAny_holding ?_)
  unfold Builtin.List.listLengthHint
  refine wpAny_bind (wpAny_specialOf hT1 zip_nolen ?_)
  show wpAny _ A.in1 (specialOf (Value.ref z) (Str.ofString "__length_hint__") >>= _) _ _ _
  refine wpAny_bind (wpAny_specialOf hT1 zip_nohint ?_)
  refine wpAny_pure ?_
  show wpAny _ A.in1 (rule "list.extend.makes-room" >>= fun _ => Builtin.List.listTouch (.ref s.heap.objs.size) >>= fun _ => again (.builtin "list.extend.loop" ⟨[.ref s.heap.objs.size, .ref z, .ref s.heap.objs.size], []⟩)) _ _ _
  refine wpAny_bind (wpAny_rule (wpAny_bind ?_))
  show wpAny _ A.in1 (updateSeq s.heap.objs.size (·.push .none) >>= fun _ => updateSeq s.heap.objs.size (·.pop)) _ _ _
  refine wpAny_bind (wpAny_updateSeq hS₁ rfl ?_)
  have hS₂ := Heap.get?_update_self (Obj.mapSeq (·.push Value.none)) hS₁ rfl
  refine wpAny_updateSeq (hz := by seq_fits) hS₂ rfl ?_
  have hS₃ := Heap.get?_update_self (Obj.mapSeq (·.pop)) hS₂ rfl
  have oth : ∀ b o, b ≠ s.heap.objs.size → hp.get? b = some o → ((hp.update s.heap.objs.size (Obj.mapSeq (·.push Value.none))).update s.heap.objs.size (Obj.mapSeq (·.pop))).get? b = some o := fun b o hb e =>
    (Heap.get?_update_other _ _ (Ne.symm hb)).trans ((Heap.get?_update_other _ _ (Ne.symm hb)).trans e)
  have oth0 : ∀ b o, b ≠ s.heap.objs.size → s.heap.get? b = some o → _ := fun b o hb e => oth b o hb (kp1 b o e)
  refine wpAny_pure ⟨plainId_quiet PySem.F.plain_extend_loop _, turns (s := s) (h₀ := s.heap) hh D O ⟨ltz, ltO, lt1, lt2⟩ n hn hx hy (.ref s.heap.objs.size) (fun h' acc c as kp hS' hl hG hacc => ?_) n 0 _ _ #[] [] (Nat.sub_zero _) (Nat.zero_le _) (st0.keep O oth0) (fun b o n1 _ _ _ _ e => oth0 b o n1 e) hS₃ rfl rfl ⟨.nil, (fun _ ha => nomatch ha), fun j a e => by simp at e⟩⟩
  show wpAny _ A (load s.heap.objs.size >>= _) _ _ _
  refine wpAny_bind (wpAny_load hS' (wpAny_pure ?_))
  show R acc.toList _
  rw [hacc]
  exact h h' as (fun b o n2 n3 n4 n5 e => kp b o (Nat.ne_of_lt (Heap.lt_size e)) n2 n3 n4 n5 e) (Heap.lt_size hS') hl hG
end
end DSz

/-! DSy: sorted(zip(xs, ys)): the rule and its reading by data. -/
namespace DL
open PySem PySem.Spec PyProof.Rows L2 PySem.W
/-- tuples laid one behind the other -/
def updT (H : Hp) : List (Addr × List V) → Hp
  | [] => H
  | e :: l => updT (upd H e.1 (.tup e.2)) l
theorem updT_other : ∀ (L : List (Addr × List V)) (H : Hp) (b : Addr), b ∉ L.map (·.1) → updT H L b = H b
  | [], _, _, _ => rfl
  | e :: l, H, b, h => by
    rw [List.map_cons, List.mem_cons, not_or] at h
    rw [updT, updT_other l _ b h.2, upd_ne h.1]
theorem updT_at : ∀ (L : List (Addr × List V)) (H : Hp), (L.map (·.1)).Nodup → ∀ e ∈ L, updT H L e.1 = some (.tup e.2)
  | [], _, _, _, h => nomatch h
  | x :: l, H, nd, e, h => by
    rw [List.map_cons, List.nodup_cons] at nd
    rcases List.mem_cons.mp h with rfl | h
    · rw [updT, updT_other l _ _ nd.1, upd_same]
    · exact updT_at l _ nd.2 e h
theorem takeU {X : Cx} {pins : List (Addr × Obj)} {σ : L2.St} {H0 : Hp} {s : Shared} {h' : Heap} {tk : Nat} (I0 : Inv X pins σ H0 s) : ∀ (L : List (Addr × List V)) (H1 : Hp), Inv X pins σ H1 { s with heap := h', toks := tk } → (L.map (·.1)).Nodup →
    (∀ e ∈ L, s.heap.objs.size ≤ e.1 ∧ H1 e.1 = none ∧ ∀ H2, ObjOk X.prog X.w H2 h' e.1 (.tup e.2)) → Inv X pins σ (updT H1 L) { s with heap := h', toks := tk }
  | [], _, I1, _, _ => I1
  | e :: L, H1, I1, nd, h => by
    rw [List.map_cons, List.nodup_cons] at nd
    obtain ⟨h1, h2, h3⟩ := h e (List.mem_cons_self ..)
    refine takeU I0 L _ (I1.take (h' := h') (t' := tk) (fun _ _ _ q => q) (I0.fpOk h1 h2) (h3 _)) nd.2 fun f hf => ?_
    obtain ⟨g1, g2, g3⟩ := h f (List.mem_cons_of_mem _ hf)
    refine ⟨g1, ?_, g3⟩
    rw [upd_ne fun z => nd.1 (by rw [← z]; exact List.mem_map.mpr ⟨f, hf, rfl⟩)]
    exact g2
mutual
theorem dp_mono {K : PySem.W.Frag} {H H' : Hp} (s : Same H H') : ∀ {v : V} {d : D}, Dp K H v d → Dp K H' v d
  | _, _, .non => .non
  | _, _, .bl b => .bl b
  | _, _, .int i => .int i
  | _, _, .str x => .str x
  | _, _, .lst h r => .lst (s.seq h) (dps_mono s r)
  | _, _, .tup h r => .tup (Same.sqt s h) (dps_mono s r)
theorem dps_mono {K : PySem.W.Frag} {H H' : Hp} (s : Same H H') : ∀ {vs : List V} {ds : List D}, DpAll K H vs ds → DpAll K H' vs ds
  | _, _, .nil => .nil
  | _, _, .cons h r => .cons (dp_mono s h) (dps_mono s r)
end
abbrev ZI := V × V × D × D
abbrev pD (z : ZI) : D := .tuple [z.2.2.1, z.2.2.2]
def rSortZip (K : PySem.W.Frag) : List V → Hp → VK → Prop := fun us H Q => ∃ (a b : Addr) (zs : List ZI), us = [.ref a, .ref b] ∧ SqL K H a (zs.map (·.1)) ∧ SqL K H b (zs.map (·.2.1)) ∧ (∀ z ∈ zs, Dp K H z.1 z.2.2.1 ∧ Dp K H z.2.1 z.2.2.2) ∧
  PySem.W.AllAlike (zs.map pD) ∧ (∀ z ∈ zs, (pD z).depth ≤ 16) ∧ zs.length ≤ 1000 ∧
  ∀ (ws : List (Addr × ZI)) p, (ws.map (·.2)).Perm zs → ws.Pairwise (fun x y => PySem.W.dataLt (pD y.2) (pD x.2) = false) → (ws.map (·.1)).Nodup → (∀ w ∈ ws, H w.1 = none ∧ w.1 ≠ p) → H p = none →
    Q (.ref p) (upd (updT H (ws.map fun w => (w.1, [w.2.1, w.2.2.1]))) p (.lst (ws.map fun w => V.ref w.1)))
def tSortZip (K : PySem.W.Frag) (t : TA) : TE := fun σ H Q => t σ H fun us H1 => rSortZip K us H1 Q
theorem each_zip {β γ : Type} {R : Value → β × γ → Prop} (f : β → Value) (h : ∀ b c, R (f b) (b, c)) : ∀ (as : List β) (cs : List γ), as.length = cs.length → EachIs R (as.map f) (as.zip cs)
  | [], _, _ => .nil
  | a :: as, [], e => by cases e
  | a :: as, c :: cs, e => .cons (h a c) (each_zip f h as cs (Nat.succ.inj e))
theorem each_of {β : Type} {R : Value → β → Prop} (f : β → Value) : ∀ (bs : List β), (∀ b ∈ bs, R (f b) b) → EachIs R (bs.map f) bs
  | [], _ => .nil
  | b :: bs, h => .cons (h b (List.mem_cons_self ..)) (each_of f bs fun c hc => h c (List.mem_cons_of_mem _ hc))
theorem each_eq {β : Type} (f : β → Value) : ∀ {us : List Value} {bs : List β}, EachIs (fun u b => u = f b) us bs → us = bs.map f
  | _, _, .nil => rfl
  | _, _, .cons h t => by rw [h, each_eq f t]; rfl
section
variable {X : Cx}
theorem pe_sortZip {e e2 : Expr} {ta : TA} {p p2 pos pos2 : Pos} (hc : X.calm = true) (hu : X.A.units + 64 < cLine) (hg : Gl X "sorted") (hm : X.mg "sorted" = none) (hg2 : Gl X "zip") (hm2 : X.mg "zip" = none) (ha : PA X [e, e2] ta)
    (hs : starEach [e, e2] X.env = (false, eval e X.env) :: starEach [e2] X.env := by rfl) (hpl : (backTo pos2 (starEach [e2] X.env)).any (·.1) = false := by rfl)
    (hs2 : starEach [.Call (.Name "zip" p2) [e, e2] [] pos2] X.env = (false, eval (.Call (.Name "zip" p2) [e, e2] [] pos2) X.env) :: starEach [] X.env := by rfl) :
    PE X (.Call (.Name "sorted" p) [.Call (.Name "zip" p2) [e, e2] [] pos2] [] pos) (tSortZip X.K ta) := by
  refine ⟨fun pins s σ H Q I h => ?_⟩
  refine Call_ (ld_blt (u := .builtin "sorted") I hg hm (by decide +kernel) (PyProof.Rows.callWith_builtin1 (args_cons (Call_ (ld_blt I hg2 hm2 PyProof.Rows.boot_zip (PyProof.Rows.callWith_type1 (thn (ha.run pos2 pins s σ H _ I h) fun us s1 ⟨vs, H1, I1, r1, q1⟩ => ?_) hs hpl))) hs2) hs2 rfl))
  obtain ⟨a, b, zs, rfl, hqa, hqb, hdp, hal, hdep, hlen, q⟩ := q1
  cases r1 with
  | cons ra rr =>
  cases rr with
  | cons rb rr =>
  cases rr
  cases ra
  cases rb
  obtain ⟨its, rva, pa, _⟩ := I1.list hqa
  obtain ⟨its2, rvb, pb, _⟩ := I1.list hqb
  have la : its.length = zs.length := by rw [← rva.length, List.length_map]
  have lb : its2.length = zs.length := by rw [← rvb.length, List.length_map]
  have hz0 := sizeLine_eq
  have hn : zs.length ≤ sizeLine := by omega
  refine call_zip_2 pa.isList pb.isList fun h2 hz hTI hTO hi1 hi2 hsz hk => args_nil ?_
  refine Calls.call_function_entry kind_sorted plain_sorted entry_sorted (args_sorted1 _) ?_
  unfold Builtin.«sorted»
  refine wpAny_bind (m := checkCount "sorted" 1 1 _) (wpAny_pure ?_)
  have b1 : h2.IsList a its.toArray := pa.isList.at fun o e => hk _ o e
  have b2 : h2.IsList b its2.toArray := pb.isList.at fun o e => hk _ o e
  refine wpAny_bind (DSz.collect_zip (s := { s1 with heap := h2 }) (A := X.A.in1) (I1.ok.hd hc) (PySem.W.ktu_apart s1.heap.objs.size a b pa.lt pb.lt) hz hTI ⟨_, _, hTO⟩ hi1 hi2 b1 b2 hn (by rw [List.size_toArray]; exact la) (by rw [List.size_toArray]; exact lb) fun h3 as kp hlt hl hG => ?_)
  dsimp only at kp hlt hG ⊢
  have kp3 : ∀ b o, s1.heap.get? b = some o → h3.get? b = some o := fun b o e => by
    have hlt := Heap.lt_size e
    exact kp b o (Nat.ne_of_lt (Nat.lt_add_right 4 hlt)) (Nat.ne_of_lt (Nat.lt_add_right 3 hlt)) (Nat.ne_of_lt hlt) (Nat.ne_of_lt (Nat.lt_add_right 1 hlt)) (hk b o e)
  refine wpAny_bind (wpAny_newList ?_ (by rw [List.length_map, hl]; exact hn))
  have ho : (h3.push (seqObj "list" (as.map Value.ref).toArray 0)).get? h3.objs.size = some (seqObj "list" (as.map Value.ref).toArray 0) := Heap.get?_push_size _ rfl
  show wpAny _ _ _ _ _ { s1 with heap := h3.push (seqObj "list" (as.map Value.ref).toArray 0) }
  have k4 : ∀ b o, h3.get? b = some o → (h3.push (seqObj "list" (as.map Value.ref).toArray 0)).get? b = some o := fun b o e => Heap.get?_push_of_some _ e
  generalize h3.push (seqObj "list" (as.map Value.ref).toArray 0) = h4 at ho k4 ⊢
  have ne3 : ∀ b o, h3.get? b = some o → b ≠ h3.objs.size := fun b o e => Nat.ne_of_lt (Heap.lt_size e)
  generalize hbs : as.zip zs = bs
  have lbs : bs.length = zs.length := by rw [← hbs, List.length_zip, hl, Nat.min_self]
  have bs1 : bs.map (·.1) = as := by rw [← hbs, List.map_fst_zip (by omega)]
  have bs2 : bs.map (·.2) = zs := by rw [← hbs, List.map_snd_zip (by omega)]
  have nd : as.Nodup := hG.rise.imp fun h => Nat.ne_of_lt h
  have pr : ∀ w ∈ bs, ∃ u1 u2, IsPair h3 w.1 u1 u2 ∧ RelV w.2.1 u1 ∧ RelV w.2.2.1 u2 ∧ w.2 ∈ zs ∧ h2.objs.size < w.1 := fun w hw => by
    rw [← hbs] at hw
    obtain ⟨j, ej⟩ := List.mem_iff_getElem?.mp hw
    obtain ⟨j1, j2⟩ := List.getElem?_zip_eq_some.mp ej
    obtain ⟨u1, u2, g1, g2, g3⟩ := hG.at_ j w.1 j1
    obtain ⟨t1, x1, x2⟩ := rva.get (i := j) (x := w.2.1) (by rw [List.getElem?_map, j2]; rfl)
    obtain ⟨t2, y1, y2⟩ := rvb.get (i := j) (x := w.2.2.1) (by rw [List.getElem?_map, j2]; rfl)
    have e1 : t1 = u1 := by simpa [x1] using g1
    have e2 : t2 = u2 := by simpa [y1] using g2
    subst e1 e2
    exact ⟨t1, t2, g3, x2, y2, List.mem_of_getElem? j2, hG.above _ (List.mem_of_getElem? j1)⟩
  have tk : ∀ (hF : Heap) (ws : List (Addr × ZI)), (∀ b o, h3.get? b = some o → hF.get? b = some o) → ws.Perm bs → Inv X pins σ (updT H1 (ws.map fun w => (w.1, [w.2.1, w.2.2.1]))) { s1 with heap := hF, toks := s1.toks } := fun hF ws kF hp => by
    refine takeU I1 _ _ (I1.kept (t' := s1.toks) fun b o e => kF b o (kp3 b o e)) ?_ fun e he => ?_
    · rw [List.map_map]
      exact ((hp.map (·.1)).nodup_iff.mpr (by rw [bs1]; exact nd))
    · obtain ⟨w, hw, rfl⟩ := List.mem_map.mp he
      obtain ⟨u1, u2, g1, g2, g3, _, g4⟩ := pr w (hp.mem_iff.mp hw)
      have hge : s1.heap.objs.size ≤ w.1 := by omega
      refine ⟨hge, I1.hok.fresh hge, fun H2 => ⟨?_, [u1, u2], .cons g2 (.cons g3 .nil), ⟨_, kF _ _ g1, rfl, 0, rfl⟩⟩⟩
      show 2 ≤ sizeLine
      omega
  have oldS : ∀ b o, h3.get? b = some o → (sortingHeap h4 h3.objs.size (as.map Value.ref)).get? b = some o := fun b o e => sortingHeap_old (ne3 b o e) (k4 b o e)
  have IS := tk _ bs oldS (.refl _)
  have ndb : (bs.map (·.1)).Nodup := by rw [bs1]; exact nd
  have fr : ∀ w ∈ bs, s1.heap.objs.size ≤ w.1 := fun w hw => by
    obtain ⟨_, _, _, _, _, _, g4⟩ := pr w hw
    omega
  have ea : (bs.map fun w => Value.ref w.1) = as.map Value.ref := by rw [← bs1, List.map_map]; rfl
  have er0 : EachIs (fun u w => ∃ rs, Reads (sortingHeap h4 h3.objs.size (as.map Value.ref)) u (pD w.2) rs) (bs.map fun w => Value.ref w.1) bs := by
    refine each_of _ bs fun w hw => ?_
    obtain ⟨d1, d2⟩ := hdp w.2 (pr w hw).choose_spec.choose_spec.2.2.2.1
    have sm : Same H1 (updT H1 (bs.map fun w => (w.1, [w.2.1, w.2.2.1]))) := fun c u e => by
      rw [updT_other _ _ _ fun hm => ?_]
      · exact e
      · obtain ⟨x, hx, rfl⟩ := List.mem_map.mp hm
        obtain ⟨v, hv, rfl⟩ := List.mem_map.mp hx
        rw [I1.hok.fresh (fr v hv)] at e
        cases e
    have dd : Dp X.K (updT H1 (bs.map fun w => (w.1, [w.2.1, w.2.2.1]))) (.ref w.1) (pD w.2) := .tup (SqT.of (updT_at _ H1 (by rw [List.map_map]; exact ndb) (w.1, [w.2.1, w.2.2.1]) (List.mem_map.mpr ⟨w, hw, rfl⟩))) (.cons (dp_mono sm d1) (.cons (dp_mono sm d2) .nil))
    exact Dp.reads IS _ _ _ dd rfl
  have er : EachIs (fun u w => ∃ rs, Reads (sortingHeap h4 h3.objs.size (as.map Value.ref)) u (pD w.2) rs) (as.map Value.ref) bs := by
    have z := er0
    rw [ea] at z
    exact z
  have ev : EachIs (fun u w => u = Value.ref w.1) (as.map Value.ref) bs := by
    rw [← hbs]
    exact each_zip (R := fun u w => u = Value.ref w.1) Value.ref (fun _ _ => rfl) as zs hl
  have hal2 : PySem.W.AllAlike (bs.map fun w => pD w.2) := by
    have : (bs.map fun w => pD w.2) = zs.map pD := by rw [← bs2, List.map_map]; rfl
    rw [this]
    exact hal
  have hkk : PySem.W.Sortable (bs.map fun w => pD w.2) := Sortable.tuples fun w => ⟨_, _, rfl⟩
  refine wpAny_bind (wpAny_holding (wpAny_call_entry slot_list_sort ⟨_, ho, rfl⟩ entry_list_sort
    (list_sort_vals (s := { s1 with heap := h4 }) (κ := dataKind (sortingHeap h4 h3.objs.size (as.map Value.ref)) (bs.map fun w => pD w.2)) ho
      (SortsAt.data (s := { s1 with heap := sortingHeap h4 h3.objs.size (as.map Value.ref) }) (each_map (R := fun v d => ∃ as', Reads (sortingHeap h4 h3.objs.size (as.map Value.ref)) v d as') (fun w : Addr × ZI => pD w.2) er) hal2 hkk (bound_map fun w hw => ?_)) (by rw [List.length_map, hl]; exact hn) ⟨.none, rfl, ?_⟩) (args_list_sort _)))
  · have := hdep w.2 (pr w hw).choose_spec.choose_spec.2.2.2.1
    show X.A.units + 1 + 1 + _ < cLine
    omega
  have eo := sortVals_data (h' := sortingHeap h4 h3.objs.size (as.map Value.ref)) (R := fun u w => u = Value.ref w.1) (enc := fun w : Addr × ZI => pD w.2) false ev er hal2
  have hp : (bs.mergeSort (PySem.W.dataLe false fun w : Addr × ZI => pD w.2)).Perm bs := List.mergeSort_perm _ _
  have hsrt := sort_pairwise (sortLe_total (listOrd itemOrd) false fun w : Addr × ZI => PySem.W.keyToks (pD w.2)) bs
  generalize hws : bs.mergeSort (PySem.W.dataLe false fun w : Addr × ZI => pD w.2) = ws at eo hp
  have hsrt2 : ws.Pairwise (fun x y => PySem.W.dataLt (pD y.2) (pD x.2) = false) := by
    rw [← hws]
    refine hsrt.imp fun {x y} z => ?_
    have z2 : (!PySem.W.dataLt (pD y.2) (pD x.2)) = true := z
    simpa using z2
  have hout := each_eq (fun w : Addr × ZI => Value.ref w.1) eo
  rw [hout]
  refine wpAny_pure ⟨_, rfl, ?_⟩
  obtain ⟨eF, heF⟩ := PyProof.Rows.sortedHeap_at (vs := as.map Value.ref) (out := (ws.map fun w => Value.ref w.1).toArray) ho
  have kF : ∀ b o, h3.get? b = some o → (sortedHeap h4 h3.objs.size (as.map Value.ref) (ws.map fun w => Value.ref w.1).toArray).get? b = some o := fun b o e =>
    (PyProof.Rows.sortedHeap_old (ne3 b o e) (Heap.lt_size (k4 b o e))).trans (k4 b o e)
  generalize sortedHeap h4 h3.objs.size (as.map Value.ref) (ws.map fun w => Value.ref w.1).toArray = hF at heF kF ⊢
  have IF := tk hF ws kF hp
  have lws : ws.length = zs.length := hp.length_eq.trans lbs
  have frn : ∀ w ∈ ws, H1 w.1 = none ∧ w.1 ≠ h3.objs.size := fun w hw => by
    obtain ⟨u1, u2, g1, _⟩ := pr w (hp.mem_iff.mp hw)
    exact ⟨I1.hok.fresh (fr w (hp.mem_iff.mp hw)), ne3 _ _ g1⟩
  have hge : s1.heap.objs.size ≤ h3.objs.size := by omega
  have nL : H1 h3.objs.size = none := I1.hok.fresh hge
  have nL2 : updT H1 (ws.map fun w => (w.1, [w.2.1, w.2.2.1])) h3.objs.size = none := by
    rw [updT_other _ _ _ fun hm => ?_]
    · exact nL
    · obtain ⟨x, hx, e⟩ := List.mem_map.mp hm
      obtain ⟨v, hv, rfl⟩ := List.mem_map.mp hx
      exact (frn v hv).2 e
  have rv : Vals (ws.map fun w => V.ref w.1) (ws.map fun w => Value.ref w.1) := vals_maps _ _ ws fun _ _ => rfl
  have hlw : (ws.map fun w => V.ref w.1).length ≤ sizeLine := by rw [List.length_map]; omega
  have ob : ObjOk X.prog X.w (upd (updT H1 (ws.map fun w => (w.1, [w.2.1, w.2.2.1]))) h3.objs.size (.lst (ws.map fun w => V.ref w.1))) hF h3.objs.size (.lst (ws.map fun w => V.ref w.1)) := ⟨hlw, (ws.map fun w => Value.ref w.1), eF, rv, heF⟩
  have fp := I1.fpOk (H' := updT H1 (ws.map fun w => (w.1, [w.2.1, w.2.2.1]))) hge nL2
  have IL := IF.take (h' := hF) (t' := s1.toks) (it := h3.objs.size) (o := .lst (ws.map fun w => V.ref w.1)) (fun _ _ _ e => e) fp ob
  have pm : (ws.map (·.2)).Perm zs := by
    have := hp.map (·.2)
    rwa [bs2] at this
  have nw : (ws.map (·.1)).Nodup := (hp.map (·.1)).nodup_iff.mpr ndb
  have qq := q ws h3.objs.size pm hsrt2 nw frn nL
  exact ⟨.ref h3.objs.size, _, IL, rfl, qq⟩
end
/-! ### its reading -/
def xSortZip (f : DTA) : DTX := fun ρ q => f ρ fun us => match us with
  | [.list ds, .list es] => (ds.length = es.length ∧ ds.length ≤ 1000 ∧ PySem.W.AllAlike (zipD ds es) ∧ ∀ z ∈ zipD ds es, z.depth ≤ 16) ∧ ∀ zs, zs.Perm (zipD ds es) → zs.Pairwise (fun x y => PySem.W.dataLt y x = false) → q (.own zs)
  | _ => False
def q_xSortZip_1 := @xSortZip.eq_1
theorem stepT {w : Option Addr} : ∀ (L : List (Addr × List V)) {H F : Hp}, Base w H F → (L.map (·.1)).Nodup → (∀ e ∈ L, H e.1 = none) → Step w H F (updT H L) (updT F L)
  | [], _, _, b, _, _ => Step.refl b
  | e :: L, H, F, b, nd, h => by
    rw [List.map_cons, List.nodup_cons] at nd
    have s1 : Step w H F (upd H e.1 (.tup e.2)) (upd F e.1 (.tup e.2)) := Step.laid b (h e (List.mem_cons_self ..))
    refine s1.trans b (stepT L (b.step s1) nd.2 fun f hf => ?_)
    rw [upd_ne fun z => nd.1 (by rw [← z]; exact List.mem_map.mpr ⟨f, hf, rfl⟩)]
    exact h f (List.mem_cons_of_mem _ hf)
theorem zipped {K : PySem.W.Frag} {F : Hp} : ∀ {vs us : List V} {ds es : List D}, RDs K F vs ds → RDs K F us es → ds.length = es.length → ∃ zs : List ZI, zs.map (·.1) = vs ∧ zs.map (·.2.1) = us ∧ zs.map pD = zipD ds es ∧ ∀ z ∈ zs, RD K F z.1 z.2.2.1 ∧ RD K F z.2.1 z.2.2.2
  | _, _, _, _, .nil, .nil, _ => ⟨[], rfl, rfl, rfl, fun z h => nomatch h⟩
  | _, _, _, _, .nil, .cons _ _, e => by cases e
  | _, _, _, _, .cons _ _, .nil, e => by cases e
  | v :: _, u :: _, d :: _, e :: _, .cons a r, .cons b t, l => by
    obtain ⟨zs, h1, h2, h3, h4⟩ := zipped r t (Nat.succ.inj l)
    refine ⟨(v, u, d, e) :: zs, by rw [List.map_cons, h1], by rw [List.map_cons, h2], by rw [List.map_cons, h3]; rfl, fun z hz => ?_⟩
    rcases List.mem_cons.mp hz with rfl | hz
    · exact ⟨a, b⟩
    · exact h4 z hz
theorem pu_sortZip {B : Bx} {ta : TA} {fa : DTA} (ha : PuA B ta fa) : PuX B (tSortZip B.K ta) (xSortZip fa) := fun σ H F ρ Q q e hf k => ha σ H F ρ _ _ e hf fun us vs H1 F1 h1 s1 r1 => by
  split at h1
  · rename_i ds es
    obtain ⟨⟨hl, hl2, hal, hdep⟩, hq⟩ := h1
    cases r1 with
    | cons ra rr =>
    cases rr with
    | cons rb rr =>
    cases rr
    cases ra with
    | lst pa la rra =>
    cases rb with
    | lst pb lb rrb =>
    obtain ⟨zs, z1, z2, z3, z4⟩ := zipped rra rrb hl
    have lz : zs.length ≤ 1000 := by
      have := congrArg List.length z1
      rw [List.length_map, rra.length] at this
      omega
    have hz0 := sizeLine_eq
    refine ⟨_, _, zs, rfl, by rw [z1]; exact SqL.of (s1.fh _ _ pa), by rw [z2]; exact SqL.of (s1.fh _ _ pb), fun z hz => ⟨((z4 z hz).1.mono s1.fh).dp, ((z4 z hz).2.mono s1.fh).dp⟩, by rw [z3]; exact hal, fun z hz => hdep _ (by rw [← z3]; exact List.mem_map.mpr ⟨z, hz, rfl⟩), lz, fun ws p hp hs nd hn np => ?_⟩
    have b1 := e.base.step s1
    have nd2 : ((ws.map fun w : Addr × ZI => (w.1, [w.2.1, w.2.2.1])).map (·.1)).Nodup := by rw [List.map_map]; exact nd
    have s2 : Step B.w H1 F1 (updT H1 (ws.map fun w => (w.1, [w.2.1, w.2.2.1]))) (updT F1 (ws.map fun w => (w.1, [w.2.1, w.2.2.1]))) := stepT _ b1 nd2 fun e he => by
      obtain ⟨w, hw, rfl⟩ := List.mem_map.mp he
      exact (hn w hw).1
    have np2 : updT H1 (ws.map fun w => (w.1, [w.2.1, w.2.2.1])) p = none := by
      rw [updT_other _ _ _ fun hm => ?_]
      · exact np
      · obtain ⟨x, hx, e⟩ := List.mem_map.mp hm
        obtain ⟨v, hv, rfl⟩ := List.mem_map.mp hx
        exact (hn v hv).2 e
    have s3 : Step B.w (updT H1 (ws.map fun w => (w.1, [w.2.1, w.2.2.1]))) (updT F1 (ws.map fun w => (w.1, [w.2.1, w.2.2.1]))) (upd (updT H1 (ws.map fun w => (w.1, [w.2.1, w.2.2.1]))) p (.lst (ws.map fun w => V.ref w.1))) (updT F1 (ws.map fun w => (w.1, [w.2.1, w.2.2.1]))) := Step.loose (b1.step s2) np2
    have s23 := s2.trans b1 s3
    have st := s1.trans e.base s23
    have rd : ∀ ws' : List (Addr × ZI), (∀ w ∈ ws', w ∈ ws) → RDs B.K (updT F1 (ws.map fun w => (w.1, [w.2.1, w.2.2.1]))) (ws'.map fun w => V.ref w.1) (ws'.map fun w => pD w.2) := fun ws' => by
      induction ws' with
      | nil => exact fun _ => .nil
      | cons w ws' ih =>
        intro hm
        have hw := hm w (List.mem_cons_self ..)
        have hwz : w.2 ∈ zs := hp.mem_iff.mp (List.mem_map.mpr ⟨w, hw, rfl⟩)
        obtain ⟨y1, y2⟩ := z4 _ hwz
        refine .cons (.tup (SqT.of (updT_at _ F1 nd2 (w.1, [w.2.1, w.2.2.1]) (List.mem_map.mpr ⟨w, hw, rfl⟩))) (by show 2 ≤ sizeLine; omega) (.cons (y1.mono s2.ff) (.cons (y2.mono s2.ff) .nil))) (ih fun v hv => hm v (List.mem_cons_of_mem _ hv))
    have lw : ws.length = zs.length := by
      have := hp.length_eq
      rwa [List.length_map] at this
    refine k (.own (ws.map fun w => pD w.2)) _ _ _ (hq _ ?_ ?_) st ⟨p, _, rfl, s1.free e.base np, (b1.step s2).fh.free np2, upd_same, by rw [List.length_map]; omega, rd ws fun _ h => h⟩
    · have := (hp.map pD)
      rw [List.map_map, z3] at this
      exact this
    · exact List.pairwise_map.mpr hs
  · exact h1.elim
end DL

/-! DU: is not True; calls in which a keyword-only parameter is left out. -/
namespace DL
open PySem PySem.Spec PyProof.Rows L2
section
variable {B : Bx}
def dIsB (neg : Bool) : D → D → (D → Prop) → Prop := fun d e q => match d, e with
  | .bool a, .bool b => q (.bool (if neg = true then !decide (a = b) else decide (a = b)))
  | _, _ => False
theorem v_isB : R2ok B rIsB (dIsB false) := fun H F x y d e Q q b vx vy hg k => by
  unfold dIsB at hg
  split at hg
  · rename_i i j
    exact ⟨i, j, vx.bool, vy.bool, k _ _ H F hg (Step.refl b) (.bl _)⟩
  · exact hg.elim
theorem v_isnotB : R2ok B rNotB (dIsB true) := fun H F x y d e Q q b vx vy hg k => by
  unfold dIsB at hg
  split at hg
  · rename_i i j
    exact ⟨i, j, vx.bool, vy.bool, k _ _ H F hg (Step.refl b) (.bl _)⟩
  · exact hg.elim
def q_dIsB_1 := @dIsB.eq_1
/-- the one keyword-only parameter left out: () stands for it -/
structure DfT (K : PySem.W.Frag) (fd : FuncData) (ps : List Str) (T : Addr) (ds : List Value) : Prop where
  vals : Vals [V.ref T] ds
  bd : Binds K fd ps ds
  sq : ∀ H, SqT K H T []
theorem df_mk {K : PySem.W.Frag} {x : Str} {st : Stmt} {f : Addr} {fd : FuncData} {ps : List Str} {D T : Addr} {n : Nat} {k : Str} {oc : Value} {od an : Option Addr} {osl : Array (Option Value)} {doc pm cdv ct : Value} {od2 : Option Addr} {sl2 : Array (Option Value)} {ne : Nat}
    (hfd : fd = PySem.W.fnOf x x (defArgs st) (defBody st) (defScope st) .none (.ref D) doc pm an cdv ct) (l : K.lookup f = some ⟨oc, od, .func fd, osl⟩) (c : PySem.W.codeIn K cdv x = true) (kp : PySem.W.keepIn K (.ref f) = true)
    (hn : PySem.W.nsIn K D k = some (some (.ref T))) (ht : K.lookup T = some ⟨.type "tuple", od2, .seq #[] ne, sl2⟩) (hl : n + 1 = ps.length)
    (h : ∀ (D : Addr) (doc pm : Value) (an : Option Addr) (cdv ct : Value) (us : List Value) (u : Value), us.length = n → KwChain D [(k, u)] (bindArgs (PySem.W.fnOf x x (defArgs st) (defBody st) (defScope st) .none (.ref D) doc pm an cdv ct) ⟨us, []⟩) (ps.zip (us ++ [u]))) :
    ∃ ds, DfT K fd ps T ds := by
  have FD : FunD K x x (defArgs st) (defBody st) (defScope st) [] [(k, V.ref T)] f fd := ⟨⟨oc, od, .none, .ref D, doc, pm, an, cdv, ct, osl, hfd, l, c, .inl ⟨rfl, rfl⟩, .inr ⟨D, rfl, fun q hq => by
    rw [List.mem_singleton.mp hq]
    exact ⟨_, hn, rfl⟩⟩⟩, kp⟩
  obtain ⟨ds, h1, h2⟩ := FD.binds0 (ps := ps) n (by simp) (by simpa using hl) fun D doc pm an cdv ct us ks lu lk => by
    match ks, lk with
    | [u], _ => exact h D doc pm an cdv ct us u lu
  exact ⟨ds, h1, h2, fun H => .inr ⟨_, #[], ne, ht, rfl, rfl, Nat.zero_le _, .nil⟩⟩
def xCallDf (spec : Spec) (fa : DTC) : DTX := fun ρ q => fa ρ fun ds => spec (ds ++ [.dat (.tuple [])]) q
theorem pu_callDf {spec : Spec} {E : XK} {ta : TA} {fa : DTC} {fd : FuncData} {ps : List Str} {T : Addr} {us : List Value} (df : DfT B.K fd ps T us) (ha : PuC B ta fa) : PuX B (tCall (spA B.K spec) [V.ref T] E ta) (xCallDf spec fa) := fun σ H F ρ Q q e hf k =>
  ha σ H F ρ _ _ e hf fun ds vs H1 F1 h1 s1 r1 => ⟨B.w, F1, ds ++ [.dat (.tuple [])], q, e.base.step s1, RCs.append r1 (.cons (d := .dat (.tuple [])) (.tup (df.sq F1) (Nat.zero_le _) .nil) .nil), h1, fun x v H' F' hx st nv => k x v H' F' hx (s1.trans e.base st) (nv.older e.base s1)⟩
def q_xCallDf_1 := @xCallDf.eq_1
end
end DL

/-! DHa: ends of walks while an exception is handled. -/
namespace DHa
open PySem PySem.Spec PyProof.Rows L2 HotX
section
variable {prog : Program} {w : World} {A : Around} {E : Value → Shared → Prop} {s : Shared}
/-- what stands stays, but at the addresses ch -/
abbrev Old (ch : List Addr) (h h' : Heap) : Prop := ∀ b o, b ∉ ch → h.get? b = some o → h'.get? b = some o
theorem HotAt.old {x1 : Addr} {h h' : Heap} {ch : List Addr} (t : HotAt A x1 h) (n : x1 ∉ ch) (k : Old ch h h') : HotAt A x1 h' := by
  obtain ⟨t1, o, vs, t2, t3⟩ := t
  exact ⟨t1, o, vs, k _ _ n t2, t3⟩
/-- a StopIteration is made and thrown -/
theorem stop_hot {α : Type} {x1 : Addr} {Q : α → Shared → Prop} (t : HotAt A x1 s.heap) (hE : ∀ h' e, Old [] s.heap h' → (∃ o, h'.get? e = some o ∧ o.cls = .type "StopIteration") → E (.ref e) { s with heap := h' }) :
    wpAny (model prog w) A (newExc (.type "StopIteration") [] >>= fun v => (raiseNew v : Sem α)) Q E s := by
  obtain ⟨a1, o1, v1, a2, a3, a4⟩ := t
  refine wpAny_bind ?_
  simp only [newExc, newTuple]
  refine wpAny_bind (wpAny_newObj_type (wpAny_bind (m := firstArgMember _ _) (wpAny_of_eq (a := Value.none) (by first | rfl | (simp only [firstArgMember]; rfl)) (wpAny_newObj_type ?_ (by size_fits)))) (by size_fits))
  have up : ∀ (p q : Obj) (b : Addr) (o : Obj), s.heap.get? b = some o → ((s.heap.push p).push q).get? b = some o := fun p q b o z => Heap.get?_push_of_some _ (Heap.get?_push_of_some _ z)
  refine raiseNew_hot (x1 := x1) ⟨a1, o1, v1, up _ _ _ _ a2, a3, a4⟩ (Nat.ne_of_lt (Heap.lt_size (Heap.get?_push_of_some _ a2))) (Heap.get?_push_size _ rfl) rfl (by first | (simp; done) | (simp; omega) | (simp only [Array.size_append]; simp; omega)) (hE _ _ (fun b o _ z => ?_) ⟨_, Heap.get?_update_self _ (Heap.get?_push_size _ rfl) rfl, rfl⟩)
  rw [Heap.get?_update_other _ _ (Nat.ne_of_gt (Heap.lt_size (Heap.get?_push_of_some _ z)))]
  exact up _ _ _ _ z
/-- next(it), it at the end of its list -/
theorem list_over {it l x1 : Addr} {i : Nat} {items : Array Value} {Q : Value → Shared → Prop} (t : HotAt A x1 s.heap) (n : x1 ≠ it) (hit : s.heap.IsListIter it l i) (hl : s.heap.IsList l items) (hx : items[i]? = none)
    (hE : ∀ h' e, Old [it] s.heap h' → (∃ o, h'.get? e = some o ∧ o.cls = .type "StopIteration") → E (.ref e) { s with heap := h' }) : wpAny (model prog w) A (Builtin.SmallTypes.nextOf (.ref it)) Q E s := by
  obtain ⟨oi, g1, g2, g3⟩ := id hit
  obtain ⟨ol, g4, _, nl, g5⟩ := hl
  unfold Builtin.SmallTypes.nextOf
  refine wpAny_bind (wpAny_callSpecial?_slot (name := Str.ofString "__next__") hit.typeIs PySem.slot_listiter_next (wpAny_call_entry PySem.slot_listiter_next hit.typeIs PySem.entry_listiter_next ?_ (PySem.args_listiter_next _)))
  show wpAny _ _ (field (.ref it) 0 >>= _) _ _ _
  refine wpAny_bind (wpAny_field g1 g3 (x := .ref l) rfl ?_)
  show wpAny _ _ (if (Value.ref l == Value.none) = true then _ else _) _ _ _
  rw [if_neg (show ¬ ((Value.ref l == Value.none) = true) by exact Bool.false_ne_true)]
  show wpAny _ _ (field (.ref it) 1 >>= _) _ _ _
  refine wpAny_bind (wpAny_field g1 g3 (x := .int i 0) rfl ?_)
  show wpAny _ _ (seqItems? (.ref l) >>= _) _ _ _
  refine wpAny_bind (wpAny_seqItems g4 g5 ?_)
  simp only [hx, Int.toNat_natCast]
  refine wpAny_bind (wpAny_rule (wpAny_bind (wpAny_setField g1 g3 (by simp) ?_)))
  have k : Old [it] s.heap (s.heap.update it (Obj.mapFields (·.setIfInBounds 0 Value.none))) := fun b o m z => by
    rw [Heap.get?_update_other _ _ fun y => m (by simp [y])]
    exact z
  exact stop_hot (s := { s with heap := s.heap.update it (Obj.mapFields (·.setIfInBounds 0 Value.none)) }) (HotAt.old t (by simpa using n) k) fun h' e k2 c => hE h' e (fun b o m z => k2 b o (by simp) (k b o m z)) c
/-- next(it), it at the end of its tuple -/
theorem tup_over {it t x1 : Addr} {i : Nat} {items : Array Value} {Q : Option Value → Shared → Prop} (ht : HotAt A x1 s.heap) (n : x1 ≠ it) (hit : IsTupIter s.heap it t i) (hl : IsTup s.heap t items) (hx : items[i]? = none)
    (hQ : ∀ h', Old [it] s.heap h' → Q none { s with heap := h' }) : wpAny (model prog w) A (pyNext (.ref it)) Q E s := by
  obtain ⟨oi, g1, g2, g3⟩ := id hit
  obtain ⟨ol, g4, _, nl, g5⟩ := hl
  unfold pyNext
  refine wpAny_bind (wpAny_attempt (wpAny_callSpecial?_slot (name := Str.ofString "__next__") hit.typeIs slot_tupleiter_next (wpAny_call_entry slot_tupleiter_next hit.typeIs entry_tupleiter_next ?_ (args_tupleiter_next _))))
  show wpAny _ _ (field (.ref it) 0 >>= _) _ _ _
  refine wpAny_bind (wpAny_field g1 g3 (x := .ref t) rfl ?_)
  show wpAny _ _ (if (Value.ref t == Value.none) = true then _ else _) _ _ _
  rw [if_neg (show ¬ ((Value.ref t == Value.none) = true) by exact Bool.false_ne_true)]
  show wpAny _ _ (field (.ref it) 1 >>= _) _ _ _
  refine wpAny_bind (wpAny_field g1 g3 (x := .int i 0) rfl ?_)
  show wpAny _ _ (seqItems? (.ref t) >>= _) _ _ _
  refine wpAny_bind (wpAny_seqItems g4 g5 ?_)
  simp only [hx, Int.toNat_natCast]
  refine wpAny_bind (wpAny_rule (wpAny_bind (wpAny_setField g1 g3 (by simp) ?_)))
  have k : Old [it] s.heap (s.heap.update it (Obj.mapFields (·.setIfInBounds 0 Value.none))) := fun b o m z => by
    rw [Heap.get?_update_other _ _ fun y => m (by simp [y])]
    exact z
  refine stop_hot (s := { s with heap := s.heap.update it (Obj.mapFields (·.setIfInBounds 0 Value.none)) }) (HotAt.old ht (by simpa using n) k) fun h' e k2 ⟨o, c1, c2⟩ => ?_
  refine wpAny_bind (wpAny_isInstance (T := "StopIteration") (b := true) ⟨o, c1, c2⟩ isSubtype_stop ?_)
  exact wpAny_pure (hQ h' fun b o m z => k2 b o (by simp) (k b o m z))
/-- the end of a zip of two lists -/
theorem zip_over {z TI TO i1 i2 l1 l2 x1 : Addr} {k1 k2 : Nat} {xs ys : Array Value} {a b : Value} {Q : Option Value → Shared → Prop} (t : HotAt A x1 s.heap) (n : x1 ∉ [z, TI, TO, i1, i2]) (D : ZipApart z TI TO i1 i2 l1 l2)
    (hz : IsZip s.heap z TI TO .none) (hTI : IsPair s.heap TI (.ref i1) (.ref i2)) (hTO : IsPair s.heap TO a b) (h1 : s.heap.IsListIter i1 l1 k1) (h2 : s.heap.IsListIter i2 l2 k2) (b1 : s.heap.IsList l1 xs) (b2 : s.heap.IsList l2 ys) (hend : xs[k1]? = none ∨ ys[k2]? = none)
    (hQ : ∀ h', Old [z, TI, TO, i1, i2] s.heap h' → Q none { s with heap := h' }) : wpAny (model prog w) A (pyNext (.ref z)) Q E s := by
  simp only [List.mem_cons, List.not_mem_nil, or_false, not_or] at n
  obtain ⟨nz, _, nT, n1, n2⟩ := n
  have ty : s.TypeIs (.ref z) "zip" := ⟨_, hz, rfl⟩
  have fin : ∀ (h' : Heap) (e : Addr), Old [z, TI, TO, i1, i2] s.heap h' → (∃ o, h'.get? e = some o ∧ o.cls = .type "StopIteration") → ∀ {F : Value → Shared → Prop}, wpAny (model prog w) A (do if ← isInstance (.ref e) (.type "StopIteration") then pure none else throw (.ref e)) Q F { s with heap := h' } := fun h' e k ⟨o, c1, c2⟩ F =>
    wpAny_bind (wpAny_isInstance (T := "StopIteration") (b := true) ⟨o, c1, c2⟩ isSubtype_stop (wpAny_pure (hQ h' k)))
  unfold pyNext
  refine wpAny_bind (wpAny_attempt (wpAny_callSpecial?_slot (name := Str.ofString "__next__") ty PySem.F.slot_zip_next (wpAny_call_entry PySem.F.slot_zip_next ty PySem.F.entry_zip_next ?_ (PySem.F.args_zip_next_1 _))))
  show wpAny _ _ (field (.ref z) 2 >>= _) _ _ s
  refine wpAny_bind (wpAny_field hz rfl (x := .bool false) rfl ?_)
  show wpAny _ _ (field (.ref z) 3 >>= _) _ _ s
  refine wpAny_bind (wpAny_field hz rfl (x := .ref TI) rfl (wpAny_bind (wpAny_seqItems hTI rfl ?_)))
  show wpAny _ _ (Builtin.SmallTypes.ownedTupleIsFree (.ref z) >>= _) _ _ s
  refine wpAny_bind ?_
  unfold Builtin.SmallTypes.ownedTupleIsFree
  refine wpAny_bind (wpAny_field hz rfl (x := .none) rfl (wpAny_pure ?_))
  simp only [if_true]
  refine wpAny_bind (wpAny_rule (wpAny_bind (wpAny_field hz rfl (x := .ref TO) rfl (wpAny_bind (wpAny_setField_rec hz (by simp) fun p1 z1 s1 => ?_)))))
  replace z1 : IsZip p1 z TI TO .ellipsis := z1
  refine wpAny_bind ?_
  simp only [List.zipIdx_cons, List.zipIdx_nil, List.forIn_cons, List.forIn_nil]
  refine wpAny_bind (wpAny_bind (wpAny_onRaise ?_))
  show wpAny _ _ (Builtin.SmallTypes.nextOf (.ref i1) >>= _) _ _ _
  have t1 : HotAt A x1 p1 := HotAt.old (ch := [z]) t (by simpa using nz) fun b o m q => s1.extBut _ _ (by simpa using m) q
  cases hx : xs[k1]? with
  | none =>
    refine wpAny_bind (list_over (s := { s with heap := p1 }) (A := A.in1) t1 n1 (h1.extBut s1.extBut D.i1z) (b1.extBut s1.extBut D.l1z) hx fun p2 e k2 c => ?_)
    obtain ⟨oe, c1, c2⟩ := c
    have z2 : IsZip p2 z TI TO .ellipsis := k2 _ _ (by simpa using D.i1z.symm) z1
    have ez : e ≠ z := fun y => by
      subst y
      rw [z2] at c1
      cases c1
      simp at c2
    refine wpAny_setField_rec z2 (by simp) fun p3 _ s3 => fin p3 e (fun c o m q => ?_) ⟨oe, s3.extBut _ _ ez c1, c2⟩
    simp only [List.mem_cons, List.not_mem_nil, or_false, not_or] at m
    exact s3.extBut _ _ m.1 (k2 _ _ (by simpa using m.2.2.2.1) (s1.extBut _ _ m.1 q))
  | some x =>
    have hy : ys[k2]? = none := by
      rcases hend with q | q
      · rw [hx] at q
        cases q
      · exact q
    refine wpAny_bind (wpAny_nextOf_list_item (s := { s with heap := p1 }) (h1.extBut s1.extBut D.i1z) (b1.extBut s1.extBut D.l1z) hx fun p2 _ s2 => wpAny_pure ?_)
    have tO2 : IsPair p2 TO a b := s2.extBut _ _ D.TOi1 (s1.extBut _ _ D.TOz hTO)
    refine wpAny_bind (wpAny_seqItems tO2 rfl (wpAny_bind (wpAny_updateSeq_pair tO2 fun p3 _ s3 => wpAny_bind (wpAny_letGo (wpAny_pure ?_)))))
    refine wpAny_bind (wpAny_bind (wpAny_onRaise ?_))
    show wpAny _ _ (Builtin.SmallTypes.nextOf (.ref i2) >>= _) _ _ _
    have t3 : HotAt A x1 p3 := HotAt.old (ch := [i1, TO]) t1 (by simp [n1, nT]) fun b o m q => by
      simp only [List.mem_cons, List.not_mem_nil, or_false, not_or] at m
      exact s3.extBut _ _ m.2 (s2.extBut _ _ m.1 q)
    refine wpAny_bind (list_over (s := { s with heap := p3 }) (A := A.in1) t3 n2 (((h2.extBut s1.extBut D.i2z).extBut s2.extBut D.i12.symm).extBut s3.extBut D.TOi2.symm) (((b2.extBut s1.extBut D.l2z).extBut s2.extBut D.l2i1).extBut s3.extBut D.l2TO) hy fun p4 e k4 c => ?_)
    obtain ⟨oe, c1, c2⟩ := c
    have z4 : IsZip p4 z TI TO .ellipsis := k4 _ _ (by simpa using D.i2z.symm) (s3.extBut _ _ D.TOz.symm (s2.extBut _ _ D.i1z.symm z1))
    have ez : e ≠ z := fun y => by
      subst y
      rw [z4] at c1
      cases c1
      simp at c2
    refine wpAny_setField_rec z4 (by simp) fun p5 _ s5 => fin p5 e (fun c o m q => ?_) ⟨oe, s5.extBut _ _ ez c1, c2⟩
    simp only [List.mem_cons, List.not_mem_nil, or_false, not_or] at m
    exact s5.extBut _ _ m.1 (k4 _ _ (by simpa using m.2.2.2.2) (s3.extBut _ _ m.2.2.1 (s2.extBut _ _ m.2.2.2.1 (s1.extBut _ _ m.1 q))))
/-- (a, b, ..) = a tuple of that length -/
theorem unpack_hot {env : Env} {elts : List Expr} {k} {pos : Pos} {t x1 : Addr} {items : Array Value} {Q : Unit → Shared → Prop} (ht : HotAt A x1 s.heap) (hl : IsTup s.heap t items) (hn : (assignEach elts env).length = items.size) (hst : (assignEach elts env).findIdx? (·.1) = none)
    (h : ∀ h', Old [] s.heap h' → wpAny (model prog w) A (assignInOrder ((assignEach elts env).map (·.2)) items.toList) Q E { s with heap := h' }) : wpAny (model prog w) A (assign (.Tuple elts k pos) env (.ref t)) Q E s := by
  have nt : t ≠ s.heap.objs.size := by
    obtain ⟨o, q, _⟩ := hl
    exact Nat.ne_of_lt (Heap.lt_size q)
  have nx : x1 ≠ s.heap.objs.size := by
    obtain ⟨_, o, _, q, _⟩ := ht
    exact Nat.ne_of_lt (Heap.lt_size q)
  rw [assign_Tuple]
  refine wpAny_bind (wpAny_standAt ?_)
  unfold unpack unpackItems
  rw [hn, hst]
  refine wpAny_bind (wpAny_holding (wpAny_bind ?_))
  unfold notIterableAtAll
  refine wpAny_bind (wpAny_specialOf hl.typeIs slot_tuple_iter.lookup (wpAny_pure ?_))
  simp only [Bool.false_eq_true, if_false]
  refine wpAny_bind (wpAny_holding (iter_tuple hl ?_))
  refine wpAny_bind (wpAny_holding (draw_tuple nt items.size 0 _ _ ⟨_, Heap.get?_push_size _ rfl, rfl, rfl⟩ (hl.push _) (by omega) fun p1 hi1 s1 => ?_))
  rw [(by rw [List.drop_zero]; exact List.take_of_length_le (by simp) : List.take items.size (List.drop 0 items.toList) = items.toList), if_neg (by simp)]
  have old1 : ∀ b o, s.heap.get? b = some o → p1.get? b = some o := fun b o q => s1.extBut b o (Nat.ne_of_lt (Heap.lt_size q)) (Heap.get?_push_of_some _ q)
  have t1 : HotAt A x1 p1 := HotAt.old (ch := []) ht (by simp) fun b o _ q => old1 b o q
  refine wpAny_bind (wpAny_holding (tup_over (s := { s with heap := p1 }) t1 nx hi1 ((hl.push _).extBut s1.extBut nt) (by simp) fun p2 k2 => ?_))
  simp only [Option.isSome_none, Bool.false_eq_true, if_false]
  exact wpAny_pure (h p2 fun b o _ q => k2 b o (by simpa using Nat.ne_of_lt (Heap.lt_size q)) (old1 b o q))
end
end DHa

/-! DHb: [.. for a, b in zip(xs, ys) if ..] while an exception is handled. -/
namespace DHa
open PySem PySem.Spec PyProof.Rows L2 HotX L2H
/-- x1 is the exception that is handled, wherever the context's invariant stands -/
def Warm (X : Cx) (x1 : Addr) : Prop := ∀ (pins : List (Addr × Obj)) (σ : L2.St) (H : Hp) (s : Shared), Inv X pins σ H s → HotAt X.A x1 s.heap
theorem warm_of {X : Cx} (c : HotC X) : ∃ p : Addr × Obj, p ∈ X.pn ∧ Warm X p.1 := by
  obtain ⟨p, ⟨h1, v, h2, h3⟩, hp⟩ := c
  exact ⟨p, hp, fun pins σ H s I => ⟨h1, p.2, v, (I.pin p (List.mem_append_left _ hp)).1, h2, h3⟩⟩
theorem pg_tupW {X : Cx} {x1 : Addr} {es : List Expr} {k : Nat} {t : TGs} {n : Nat} {pos : Pos} (wm : Warm X x1) (h : PGs X es t) (hn : (assignEach es X.env).length = n := by rfl) (hst : (assignEach es X.env).findIdx? (·.1) = none := by rfl) : PG X (.Tuple es k pos) (gTup X.K n t) :=
  ⟨fun pins s σ H v u Q I r hw => by
    obtain ⟨a, xs, rfl, hq, hl, hw⟩ := hw
    cases r
    obtain ⟨its, rv, ht, hz⟩ := I.tuple hq
    refine unpack_hot (wm pins σ H s I) ht (by rw [hn, ← hl, rv.length, List.size_toArray]) hst fun h' kp => ?_
    exact h.run pins _ σ H xs _ Q (I.kept (t' := s.toks) fun b o e => kp b o (by simp) e) (by simpa using rv) hw⟩
/-- a zip of two lists ahead of its i-th pair -/
structure Zp (h : Heap) (z TI TO i1 i2 a b : Addr) (i : Nat) : Prop where
  zz : IsZip h z TI TO .none
  ti : IsPair h TI (.ref i1) (.ref i2)
  tt : ∃ x y, IsPair h TO x y
  a1 : h.IsListIter i1 a i
  a2 : h.IsListIter i2 b i
section
variable {X : Cx} {z TI TO i1 i2 a b : Addr}
theorem Zp.keep {h h' : Heap} {i : Nat} (t : Zp h z TI TO i1 i2 a b i) (k : ∀ c ∈ [z, TI, TO, i1, i2], ∀ o, h.get? c = some o → h'.get? c = some o) : Zp h' z TI TO i1 i2 a b i := by
  obtain ⟨x, y, q⟩ := t.tt
  exact ⟨k _ (by simp) _ t.zz, k _ (by simp) _ t.ti, ⟨x, y, k _ (by simp) _ q⟩, t.a1.at fun o e => k _ (by simp) o e, t.a2.at fun o e => k _ (by simp) o e⟩
theorem Zp.there {h : Heap} {i : Nat} (t : Zp h z TI TO i1 i2 a b i) : ∀ c ∈ [z, TI, TO, i1, i2], ∃ o, h.get? c = some o ∧ ∀ v, o.data ≠ .cell v := by
  obtain ⟨x, y, q⟩ := t.tt
  obtain ⟨o1, e1, _, d1⟩ := t.a1
  obtain ⟨o2, e2, _, d2⟩ := t.a2
  intro c hc
  simp only [List.mem_cons, List.not_mem_nil, or_false] at hc
  rcases hc with rfl | rfl | rfl | rfl | rfl
  · exact ⟨_, t.zz, fun v y => nomatch y⟩
  · exact ⟨_, t.ti, fun v y => nomatch y⟩
  · exact ⟨_, q, fun v y => nomatch y⟩
  · exact ⟨o1, e1, fun v y => by rw [d1] at y; cases y⟩
  · exact ⟨o2, e2, fun v y => by rw [d2] at y; cases y⟩
/-- the next pair -/
theorem Zp.next {elts : List Expr} {kk : Nat} {tpos : Pos} {i : Nat} {pins : List (Addr × Obj)} {s : Shared} {σ : L2.St} {H : Hp} {E : Value → Shared → Prop} (D : ZipApart z TI TO i1 i2 a b) (I : Inv X pins σ H s) (hf : ∀ c ∈ [z, TI, TO, i1, i2], FpOk X pins H c)
    (t : Zp s.heap z TI TO i1 i2 a b i) (hg : (Itz X.K a b).go i H) : wpAny (model X.prog X.w) X.A (pyNext (.ref z)) (fun r s1 => ∃ u, r = some u ∧
      wpAny (model X.prog X.w) X.A (letOwnedTupleGo (.Tuple elts kk tpos) (.ref z) u) (fun _ s2 => ∃ x H', Inv X pins σ H' s2 ∧ RelV x u ∧ (Itz X.K a b).yld i H x H' ∧ Zp s2.heap z TI TO i1 i2 a b (i + 1) ∧ ∀ c ∈ [z, TI, TO, i1, i2], H' c = none) E s1) E s := by
  obtain ⟨xs, ys, x, y, qx, qy, ex, ey⟩ := hg
  obtain ⟨us, rx, px, _⟩ := I.list qx
  obtain ⟨ws, ry, py, _⟩ := I.list qy
  obtain ⟨u, hu, ru⟩ := rx.get ex
  obtain ⟨v, hv, rv⟩ := ry.get ey
  obtain ⟨c0, d0, tO⟩ := t.tt
  have lt : ∀ c ∈ [z, TI, TO, i1, i2], c < s.heap.objs.size := fun c hc => by
    obtain ⟨o, e, _⟩ := t.there c hc
    exact Heap.lt_size e
  refine wpAny_pyNext_zip_item D t.zz t.ti tO t.a1 t.a2 px.isList py.isList (x := u) (y := v) (by simpa using hu) (by simpa using hv) fun p1 z1 t1 l1 l2 pr _ k1 => ⟨_, rfl, wpAny_letOwnedTupleGo_zip (s := { s with heap := p1 }) z1 fun p2 z2 s2 => ?_⟩
  have pr2 : IsPair p2 s.heap.objs.size u v := s2.extBut _ _ (Nat.ne_of_gt (lt z (by simp))) pr
  have kk2 : ∀ c o, c ∉ [z, TI, TO, i1, i2] → s.heap.get? c = some o → p2.get? c = some o := fun c o m e => by
    simp only [List.mem_cons, List.not_mem_nil, or_false, not_or] at m
    exact s2.extBut _ _ m.1 (k1 c o m.1 m.2.2.1 m.2.2.2.1 m.2.2.2.2 e)
  have ob : ObjOk X.prog X.w (upd H s.heap.objs.size (.tup [x, y])) p2 s.heap.objs.size (.tup [x, y]) := ⟨(by decide : 2 ≤ sizeLine), [u, v], .cons ru (.cons rv .nil), ⟨_, pr2, rfl, _, rfl⟩⟩
  have J := I.turnedNew (t' := s.toks) (ch := [z, TI, TO, i1, i2]) (h' := p2) kk2 hf (Nat.le_refl _) ob
  refine ⟨.ref s.heap.objs.size, _, J, rfl, ⟨_, x, y, rfl, I.hok.fresh (Nat.le_refl _), rfl, fun l hl => ?_, fun l hl => ?_⟩, ⟨z2, ?_, ⟨u, v, s2.extBut _ _ D.TOz t1⟩, l1.at fun o e => s2.extBut _ _ D.i1z e, l2.at fun o e => s2.extBut _ _ D.i2z e⟩, fun c hc => ?_⟩
  · rw [I.list_inj hl qx]
    exact ex
  · rw [I.list_inj hl qy]
    exact ey
  · exact s2.extBut _ _ D.TIz (k1 _ _ D.TIz D.TITO D.TIi1 D.TIi2 t.ti)
  · rw [upd_ne (Nat.ne_of_lt (lt c hc))]
    exact (hf c hc).1
/-- its end -/
theorem Zp.over {i : Nat} {x1 : Addr} {pins : List (Addr × Obj)} {s : Shared} {σ : L2.St} {H : Hp} {E : Value → Shared → Prop} (D : ZipApart z TI TO i1 i2 a b) (I : Inv X pins σ H s) (hf : ∀ c ∈ [z, TI, TO, i1, i2], FpOk X pins H c) (ht : HotAt X.A x1 s.heap) (nx : x1 ∉ [z, TI, TO, i1, i2])
    (t : Zp s.heap z TI TO i1 i2 a b i) (hg : (Itz X.K a b).stop i H) : wpAny (model X.prog X.w) X.A (pyNext (.ref z)) (fun r s1 => r = none ∧ Inv X pins σ H s1) E s := by
  obtain ⟨xs, ys, qx, qy, hend⟩ := hg
  obtain ⟨us, rx, px, _⟩ := I.list qx
  obtain ⟨ws, ry, py, _⟩ := I.list qy
  obtain ⟨c0, d0, tO⟩ := t.tt
  have e1 := rx.length
  have e2 := ry.length
  refine zip_over ht nx D t.zz t.ti tO t.a1 t.a2 px.isList py.isList ?_ fun h' k => ⟨rfl, I.turnedL (t' := s.toks) (ch := [z, TI, TO, i1, i2]) k hf⟩
  rcases hend with q | q
  · exact .inl (by simp; omega)
  · exact .inr (by simp; omega)
/-- a new zip -/
theorem Zp.made {e e2 : Expr} {ta : TA} {p zpos : Pos} {pins : List (Addr × Obj)} {s : Shared} {σ : L2.St} {H : Hp} {R : It → Hp → Prop} (hg : Gl X "zip") (hm : X.mg "zip" = none) (ha : PA X [e, e2] ta) (hs : starEach [e, e2] X.env = (false, eval e X.env) :: starEach [e2] X.env)
    (hpl : (backTo zpos (starEach [e2] X.env)).any (·.1) = false) (I : Inv X pins σ H s) (h : iZip X.K ta σ H R) :
    wpAny (model X.prog X.w) X.A (eval (.Call (.Name "zip" p) [e, e2] [] zpos) X.env) (fun v s1 => wpAny (model X.prog X.w) X.A (pyIter v) (fun itv s2 => ∃ z TI TO i1 i2 a b H1, itv = .ref z ∧ Inv X pins σ H1 s2 ∧ ZipApart z TI TO i1 i2 a b ∧ Zp s2.heap z TI TO i1 i2 a b 0 ∧ (∀ c ∈ [z, TI, TO, i1, i2], FpOk X pins H1 c) ∧ R (Itz X.K a b) H1) X.xe s1) X.xe s := by
  refine Call_ (ld_blt I hg hm PyProof.Rows.boot_zip (PyProof.Rows.callWith_type1 (thn (ha.run zpos pins s σ H _ I h) fun us s1 ⟨vs, H1, I1, r1, q1⟩ => ?_) hs hpl))
  obtain ⟨a, b, xs, ys, rfl, qx, qy, q⟩ := q1
  cases r1 with
  | cons ra rr =>
  cases rr with
  | cons rb rr =>
  cases rr
  cases ra
  cases rb
  obtain ⟨us, rx, px, _⟩ := I1.list qx
  obtain ⟨ws, ry, py, _⟩ := I1.list qy
  refine call_zip_2 px.isList py.isList fun h' g1 g2 g3 g4 g5 g6 k => wpAny_pyIter_zip g1 ⟨_, _, _, _, _, a, b, H1, rfl, I1.kept (t' := s1.toks) k, PySem.W.ktu_apart s1.heap.objs.size a b px.lt py.lt, ⟨g1, g2, ⟨_, _, g3⟩, g4, g5⟩, fun c hc => ?_, q⟩
  have le : s1.heap.objs.size ≤ c := by
    simp only [List.mem_cons, List.not_mem_nil, or_false] at hc
    rcases hc with rfl | rfl | rfl | rfl | rfl <;> first | exact Nat.le_refl _ | exact Nat.le_add_right _ _
  exact I1.fpOk le (I1.hok.fresh le)
end
end DHa

/-! DHc: the comprehension itself. -/
namespace DHa
open PySem PySem.Spec PyProof.Rows L2 HotX L2H
section
variable {X : Cx}
theorem blk_warm {pins : List (Addr × Obj)} {s : Shared} {σ : L2.St} {H : Hp} {scope : Scope} {ce : Env} {fp : List Addr} {p : Addr × Obj} (I : Inv X pins σ H s) (hp : p ∈ X.pn) (hw : Warm X p.1) (f : ∀ b ∈ fp, FpOk X pins H b) : Warm (X.blk s H scope ce fp) p.1 := fun pins' σ' H' s' J =>
  hw pins σ H' s' (I.call' (ch := fp) J.os J.base J.hok J.bare fun b hb => ⟨(f b hb).2.2.2.1, (f b hb).2.1, (f b hb).2.2.2.2.1, (f b hb).2.2.2.2.2⟩)
theorem pe_lcZ {elt e e2 : Expr} {elts ifs : List Expr} {kk : Nat} {tpos p0 zpos pos : Pos} {scope : Scope} {own : List (Str × Nat)} {ta : TA} {g : TG} {tt : TT} {te : TE} (c : HotC X) (hN : X.N.Nodup) (hz : Gl X "zip") (hzm : X.mg "zip" = none) (ha : PA X [e, e2] ta) (ok : BlkOk X.N X.env.scope scope own)
    (hg : ∀ (s : Shared) (H : Hp) (C : Addr) (cl : List (Str × Addr)) (fp : List Addr) (x1 : Addr), Warm (X.blk s H scope (compEnvC scope cl C X.env) fp) x1 → PG (X.blk s H scope (compEnvC scope cl C X.env) fp) (.Tuple elts kk tpos) g)
    (ht : ∀ (s : Shared) (H : Hp) (C : Addr) (cl : List (Str × Addr)) (fp : List Addr), PTs (X.blk s H scope (compEnvC scope cl C X.env) fp) ifs tt)
    (he : ∀ (s : Shared) (H : Hp) (C : Addr) (cl : List (Str × Addr)) (fp : List Addr), PE (X.blk s H scope (compEnvC scope cl C X.env) fp) elt te)
    (hs : ∀ x, foldedSetIterable (.Call (.Name "zip" p0) [e, e2] [] zpos) X.env x = pure x := by intro _; rfl) (hst : starEach [e, e2] X.env = (false, eval e X.env) :: starEach [e2] X.env := by rfl) (hpl : (backTo zpos (starEach [e2] X.env)).any (·.1) = false := by rfl) :
    PE X (.ListComp elt [⟨.Tuple elts kk tpos, .Call (.Name "zip" p0) [e, e2] [] zpos, ifs, 0⟩] scope pos) (tLc (iZip X.K ta) g tt te (own.map (·.2))) := by
  refine ⟨fun pins s σ H Q I h => ?_⟩
  obtain ⟨pn, hpn, hw⟩ := warm_of c
  have free : ∀ y ∈ scope.names, y.2 = .free → ∃ c, X.env.cells.lookup y.1 = some c := fun y hy q => (ok.free y hy q).elim (fun k => I.ok.has _ (.inl k)) fun k => I.ok.has _ (.inr k)
  rw [eval_ListComp]
  refine wpAny_comprehension_free (use := none) rfl hs (closure_ok free) ok.kind (fun y hy q => by rw [ok.uniq y hy, q]) (thn (Zp.made hz hzm ha hst hpl I h) fun xv s1 hx => thn hx fun itv s2 h2 => ?_)
  obtain ⟨z, TI, TO, i1, i2, a, b, H2, rfl, I2, D, t2, f2, q⟩ := h2
  refine wpAny_newObj_type (newEnv_comp ?_) (by show 0 ≤ sizeLine; decide)
  have nL : H2 s2.heap.objs.size = none := I2.hok.fresh (Nat.le_refl _)
  obtain ⟨W, ⟨m0, w0⟩, turn⟩ := q s2.heap.objs.size nL
  -- the new list
  have hL0 : (s2.heap.push { cls := .type "list", data := .seq ([] : List Value).toArray }).get? s2.heap.objs.size = some { cls := .type "list", data := .seq ([] : List Value).toArray } := Heap.get?_push_size _ rfl
  have up3 : ∀ b o, s2.heap.get? b = some o → (s2.heap.push { cls := .type "list", data := .seq ([] : List Value).toArray }).get? b = some o := fun b o e => Heap.get?_push_of_some _ e
  have I3 := I2.laid (t' := s2.toks) (a := s2.heap.objs.size) (o := .lst []) up3 (Nat.le_refl _) ⟨Nat.zero_le _, [], 0, .nil, hL0⟩
  have sz3 : (s2.heap.push { cls := .type "list", data := .seq ([] : List Value).toArray }).objs.size = s2.heap.objs.size + 1 := Heap.size_push ..
  generalize hD : s2.heap.objs.size = L at *
  generalize s2.heap.push { cls := .type "list", data := .seq ([] : List Value).toArray } = h3 at hL0 up3 I3 sz3 ⊢
  have lt2 : ∀ b ∈ [z, TI, TO, i1, i2], b < L := fun b hb => by
    obtain ⟨o, e, _⟩ := t2.there b hb
    rw [← hD]
    exact Heap.lt_size e
  have f3 : ∀ b ∈ [z, TI, TO, i1, i2], FpOk X pins (upd H2 L (.lst [])) b := fun b hb => ⟨by rw [upd_ne (Nat.ne_of_lt (lt2 b hb))]; exact (f2 b hb).1, (f2 b hb).2⟩
  have t3 : Zp h3 z TI TO i1 i2 a b 0 := t2.keep fun b _ o e => up3 b o e
  generalize hs3 : ({ s2 with heap := h3 } : Shared) = s3 at *
  have e3 : s3.heap = h3 := by rw [← hs3]
  have I4 := block_start (fp := [z, TI, TO, i1, i2]) I3 ok hN fun b hb => ⟨f3 b hb, by rw [e3, sz3]; exact Nat.lt_succ_of_lt (lt2 b hb)⟩
  have I3' : Inv X pins σ (upd H2 L (.lst [])) s3 := I3
  have wb := blk_warm (scope := scope) (ce := compEnvC scope (cellsFrom (s3.heap.objs.size + 1) scope.names (cloFrom X.env.cells scope.names [])) s3.heap.objs.size X.env) (fp := [z, TI, TO, i1, i2]) I3' hpn hw f3
  have pg := hg s3 (upd H2 L (.lst [])) s3.heap.objs.size (cellsFrom (s3.heap.objs.size + 1) scope.names (cloFrom X.env.cells scope.names [])) [z, TI, TO, i1, i2] _ wb
  have pt := ht s3 (upd H2 L (.lst [])) s3.heap.objs.size (cellsFrom (s3.heap.objs.size + 1) scope.names (cloFrom X.env.cells scope.names [])) [z, TI, TO, i1, i2]
  have pe := he s3 (upd H2 L (.lst [])) s3.heap.objs.size (cellsFrom (s3.heap.objs.size + 1) scope.names (cloFrom X.env.cells scope.names [])) [z, TI, TO, i1, i2]
  show codeAny _ _ (.compStart (.ListComp elt [⟨.Tuple elts kk tpos, .Call (.Name "zip" p0) [e, e2] [] zpos, ifs, 0⟩] scope pos) 0 (.ref z) (.ref L) (compEnvC scope (cellsFrom (s3.heap.objs.size + 1) scope.names (cloFrom X.env.cells scope.names [])) s3.heap.objs.size X.env)) (compPost (model X.prog X.w) X.A X.xe none _ (.ref L) s3.heap.objs.size) { s3 with heap := pushCells (s3.heap.push { cls := .type "dict", data := .dict #[] }) scope.names }
  have t4 : Zp (pushCells (s3.heap.push { cls := .type "dict", data := .dict #[] }) scope.names) z TI TO i1 i2 a b 0 := t3.keep fun b _ o e => pushCells_keeps _ _ _ _ (Heap.get?_push_of_some _ (by rw [e3]; exact e))
  generalize hce : compEnvC scope (cellsFrom (s3.heap.objs.size + 1) scope.names (cloFrom X.env.cells scope.names [])) s3.heap.objs.size X.env = ce at I4 pg pt pe wb ⊢
  have cL : ce.locals = s3.heap.objs.size := by rw [← hce]; rfl
  generalize hs4 : ({ s3 with heap := pushCells (s3.heap.push { cls := .type "dict", data := .dict #[] }) scope.names } : Shared) = s4 at I4 ⊢
  have t4' : Zp s4.heap z TI TO i1 i2 a b 0 := by
    rw [← hs4]
    exact t4
  generalize upd H2 L (.lst []) = H3 at I3' I4 pg pt pe wb w0 f3
  clear I3 hs3 hs4 t3 t4
  have notx : pn.1 ∉ [z, TI, TO, i1, i2] := fun hm => (f3 _ hm).2.2.2.2.2 pn (List.mem_append_left _ hpn) rfl
  have fpB : ∀ {σ' : L2.St} {H' : Hp} {s' : Shared}, Inv (X.blk s3 H3 scope ce [z, TI, TO, i1, i2]) [] σ' H' s' → (∀ b ∈ [z, TI, TO, i1, i2], H' b = none) → ∀ b ∈ [z, TI, TO, i1, i2], FpOk (X.blk s3 H3 scope ce [z, TI, TO, i1, i2]) [] H' b := fun {σ' H' s'} J hn b hb =>
    ⟨hn b hb, (J.ok.exf b hb).1, J.ok.exfs b hb, .inl hb, fun x c e => (J.ok.exf b hb).2 x c e, fun p hp => nomatch (show p ∈ ([] : List (Addr × Obj)) ++ [] from hp)⟩
  have again : ∀ {n : Nat} {i : Nat} {Nx : Hp → Prop} {s5 s' : Shared} {σ8 : L2.St} {H' : Hp}, (∀ H', Nx H' → ∃ m', m' < n ∧ W (i + 1) m' H') → wipe σ8 (own.map (·.2)) = wipe σ (own.map (·.2)) → Zp s5.heap z TI TO i1 i2 a b (i + 1) →
      Inv (X.blk s3 H3 scope ce [z, TI, TO, i1, i2]) ([] ++ pinsAt [z, TI, TO, i1, i2] s5.heap) σ8 H' s' → Nx H' →
      ∃ m, m < n ∧ ∃ j H', Inv (X.blk s3 H3 scope ce [z, TI, TO, i1, i2]) [] (wipe σ (own.map (·.2))) H' s' ∧ Zp s'.heap z TI TO i1 i2 a b j ∧ (∀ b ∈ [z, TI, TO, i1, i2], H' b = none) ∧ W j m H' := fun {n i Nx s5 s' σ8 H'} hNx w8 t5 J nx => by
    obtain ⟨m', lt, w'⟩ := hNx H' nx
    have pinned : ∀ b ∈ [z, TI, TO, i1, i2], ∀ o, s5.heap.get? b = some o → s'.heap.get? b = some o ∧ H' b = none := fun b hb o e =>
      have y := J.pin (b, o) (List.mem_append_right _ (List.mem_append_right _ (mem_pinsAt hb e)))
      ⟨y.1, y.2.1⟩
    have len : (wipe σ (own.map (·.2))).length = σ8.length := by rw [← w8, wipe_length]
    refine ⟨m', lt, i + 1, H', (J.unpinned (pins := [])).weak len fun j v e => ?_, t5.keep fun b hb o e => (pinned b hb o e).1, fun b hb => ?_, w'⟩
    · rw [← w8] at e
      exact (wipe_some e).1
    · obtain ⟨o, e, _⟩ := t5.there b hb
      exact (pinned b hb o e).2
  have loop : codeAny (model X.prog X.w) X.A (.compLoop (.ListComp elt [⟨.Tuple elts kk tpos, .Call (.Name "zip" p0) [e, e2] [] zpos, ifs, 0⟩] scope pos) 0 (.ref z) (.ref L) ce) (compPost (model X.prog X.w) X.A X.xe none (EP X pins σ Q) (.ref L) s3.heap.objs.size) s4 := by
    refine compLoop_any (fun n s' => ∃ i H', Inv (X.blk s3 H3 scope ce [z, TI, TO, i1, i2]) [] (wipe σ (own.map (·.2))) H' s' ∧ Zp s'.heap z TI TO i1 i2 a b i ∧ (∀ b ∈ [z, TI, TO, i1, i2], H' b = none) ∧ W i n H') (fun n s5 hI => ?_) m0 ⟨0, H3, I4, t4', fun b hb => (f3 b hb).1, w0⟩
    obtain ⟨i, H5, I5, t5, n5, w5⟩ := hI
    rcases turn i n H5 w5 with ⟨stop, fin⟩ | ⟨go, Nx, hNx, step⟩
    · refine thnF (Zp.over (X := X.blk s3 H3 scope ce [z, TI, TO, i1, i2]) (E := fun _ _ => False) D I5 (fpB I5 n5) (wb _ _ _ _ I5) notx t5 stop) fun r s6 ⟨hr, I6⟩ => ?_
      subst hr
      have I7 : Inv X pins σ H5 s6 := I3'.call' (ch := [z, TI, TO, i1, i2]) I6.os I6.base I6.hok I6.bare fun b hb => ⟨(f3 b hb).2.2.2.1, (f3 b hb).2.1, (f3 b hb).2.2.2.2.1, (f3 b hb).2.2.2.2.2⟩
      have nC : H5 s3.heap.objs.size = none := by
        rw [← cL]
        exact I6.free
      obtain ⟨mm, hm6, _⟩ := I6.loc
      have hm7 : s6.heap.Ns s3.heap.objs.size mm := by
        rw [← cL]
        exact hm6
      obtain ⟨g0, g1, g2, g3, g4, g5⟩ := I3'.fpOk (b := s3.heap.objs.size) (Nat.le_refl _) nC
      exact ⟨mm, hm7, fun h'' sb => ⟨.ref L, H5, I7.turned (t' := s6.toks) (fun b o n q => (sb.2 b n).trans q) g0 g1 g3 g4 g5, rfl, fin⟩⟩
    · refine thnF (Zp.next (X := X.blk s3 H3 scope ce [z, TI, TO, i1, i2]) (elts := elts) (kk := kk) (tpos := tpos) (E := fun _ _ => False) D I5 (fpB I5 n5) t5 go) fun r s6 ⟨u, hr, h6⟩ => ?_
      subst hr
      refine thnF h6 fun _ s7 ⟨x, H7, I7, r7, y7, t7, n7⟩ => ?_
      refine thnF (pg.run _ s7 _ H7 x u _ (I7.pinned (fpB I7 n7) t7.there) r7 (step x H7 y7)) fun _ s8 ⟨σ8, H8, I8, w8, q8⟩ => ?_
      refine thnF (pt.run _ s8 σ8 H8 _ I8 q8) fun good s9 ⟨H9, I9, q9⟩ => ?_
      cases good with
      | true =>
        rw [if_pos rfl] at q9 ⊢
        refine thnF (pe.run _ s9 σ8 H9 _ I9 q9) fun vv s10 ⟨yv, H10, I10, r10, acc, eD, lD, nx⟩ => ?_
        exact app_ok (X := X.blk s3 H3 scope ce [z, TI, TO, i1, i2]) I10 eD lD r10 fun s11 I11 => again hNx w8 t7 I11 nx
      | false =>
        rw [if_neg Bool.false_ne_true] at q9 ⊢
        exact again hNx w8 t7 I9 q9
  exact codeAny_compStart_list loop (wpAny_pyIter_zip t4'.zz loop)
end
end DHa

/-! DHd: defs that are handed the exception that is handled. -/
namespace DHa
open PySem PySem.Spec PySem.Calls PyProof.Rows L2 HotX L2H DL
section
variable {prog : Program} {w : World} {A : Around} {E : Value → Shared → Prop} {s : Shared} {K : PySem.W.Frag} {x D : Addr} {ox : Obj} {od : Option Obj}
/-- the class of an exception of a class of one's own, with or without a dict of its own -/
theorem cls_attr {Q : Option Value → Shared → Prop} (T : ExcC K D) (X : K.In s.heap) (I : PySem.W.InstAt s.heap x ox D od) (h : Q (some (.ref D)) { s with toks := s.toks + 1 }) : wpAny (model prog w) A (getAttr? (.ref x) "__class__") Q E s := by
  have hf : PySem.W.findObj K D od "__class__" = some (.bind (.builtin "getset_descriptor.__get__") (.builtin "object.__class__")) := by
    obtain ⟨cd, hc, _⟩ := PySem.W.any_some T.hd
    unfold PySem.W.findObj
    rw [hc, Option.bind_some, T.ha, Option.bind_some]
    simp [T.hn, T.ht]
  obtain ⟨hp, gg, dd, tt, os⟩ := s
  have lt := I.type (M := model prog w)
  have lg := PySem.W.looks_findIn (M := model prog w) X T.hg
  have lk := PySem.W.looks_findIn (M := model prog w) X T.hk
  have lf := PySem.W.looks_find (M := model prog w) X I hf
  have lsub : PySem.W.Looks (model prog w) hp (isInstance (.ref x) (.type "BaseException")) true := lt.andThen (PySem.W.looks_subIn X T.hs)
  have ne : (Value.builtin "BaseException.__getattribute__" == Value.builtin "object.__getattribute__") = false := by decide +kernel
  unfold getAttr? getAttrBy? getAttrBy
  refine wpAny_bind (wpAny_mkText (wpAny_bind (wpAny_attempt (wpAny_holding (wpAny_bind (lt.at (wpAny_bind (lg.at ?_))))))))
  show wpAny _ _ (if (onTheHeap (Value.ref D) && Value.builtin "BaseException.__getattribute__" == Value.builtin "object.__getattribute__") = true then _ else _) _ _ _
  rw [ne, Bool.and_false, if_neg (by decide)]
  unfold getAttrByItsOwn hookBefore
  refine wpAny_bind ?_
  rw [if_pos (show onTheHeap (Value.ref D) = true from rfl)]
  refine lk.at (wpAny_bind (wpAny_attempt (wpAny_holding ?_)))
  unfold callGetattribute
  rw [if_neg (by rw [show (false && onTheHeap (Value.builtin "BaseException.__getattribute__")) = false from rfl]; decide)]
  unfold boundAndCalled
  rw [PySem.F.excAttr_ValueError.ga.bind (.ref x)]
  refine wpAny_bind (wpAny_pure ?_)
  show wpAny _ _ (call (.builtin "BaseException.__getattribute__") [.ref x, .str "__class__" tt]) _ _ _
  refine wpAny_call (codeAny_call_builtin PySem.F.excAttr_ValueError.ga.plain PySem.F.entry_bexc_ga ?_)
  refine @PySem.W.check_slot (model prog w) _ _ ⟨hp, gg, dd, tt + 1, os⟩ "BaseException.__getattribute__" "BaseException" "__getattribute__" (.ref x) [.str "__class__" tt] [] _ (by decide +kernel) (by decide +kernel) lsub (PySem.F.args_bexc_ga (.ref x) (.str "__class__" tt)) ?_
  unfold Builtin.«object.__getattribute__»
  refine wpAny_bind (wpAny_of_eq (a := ((Value.ref x : Value), [Value.str "__class__" tt])) (by first | rfl | (simp only [slotArgs]; rfl)) (wpAny_bind (wpAny_pure (wpAny_bind (lt.at (wpAny_bind (lf.at ?_)))))))
  show wpAny _ _ (holding [Value.builtin "object.__class__"] (call (.builtin "getset_descriptor.__get__") [.builtin "object.__class__", .ref x, .ref D]) >>= ret) _ _ _
  refine wpAny_bind (wpAny_holding (wpAny_call (PySem.W.class_get (s := ⟨hp, gg, dd, tt + 1, os⟩) (ox := ox) (od := od) X I T.hm (wpAny_pure ?_))))
  show wpAny _ _ (handedOut (.ref D)) _ _ _
  rw [PySem.W.handedOut_of (v := .ref D) rfl]
  first
    | exact wpAny_pure (wpAny_pure h)
    | exact wpAny_pure h
    | exact wpAny_pure (wpAny_bind (wpAny_pure (wpAny_pure h)))
theorem kitE (T : ExcC K D) : PySem.W.KitX K (.ref x) (.ref D) (fun h => ∃ ox od, PySem.W.InstAt h x ox D od) where
  ty := fun _ _ _ ⟨_, _, I⟩ => I.type
  it := fun _ _ X _ => by
    obtain ⟨cd, hc, _⟩ := PySem.W.any_some T.hd
    unfold PySem.W.clsIn at hc
    split at hc
    · rename_i c' d' cd' sl' ho
      intro A' Q' E' s' k q
      unfold isType loadHead
      exact wpAny_bind (wpAny_loadPart (k _ _ (X _ _ ho)) (wpAny_pure q))
    · cases hc
  ne := fun h tp dd its n sl X htp => by
    obtain ⟨cd, hc, _⟩ := PySem.W.any_some T.hd
    cases q : (Value.ref D == Value.ref tp) with
    | false => rfl
    | true =>
      obtain rfl : D = tp := Value.ref.inj (beq_iff_eq.mp q)
      unfold PySem.W.clsIn at hc
      split at hc
      · rename_i ho
        have y := (X _ _ ho).symm.trans htp
        cases y
      · cases hc
  ca := fun X ⟨_, _, I⟩ k => cls_attr T X I k
end
/-- isinstance(e, c), e the exception that p pins -/
def rIsP (K : PySem.W.Frag) (D a : Addr) (d : Option Addr) : List V → Hp → VK → Prop := fun xs H Q => ∃ (c : V) (cv : Value) (b : Bool), xs = [.ref a, c] ∧ (∀ u, RelV c u → u = cv) ∧ PySem.W.kitOne K (.ref D) cv = some b ∧ (d = none ∨ ∃ dd fs, d = some dd ∧ H dd = some (.xd fs)) ∧ Q (.bl b) H
theorem call_isP {X : Cx} {p : Addr × Obj} {D : Addr} {cls : Value} {d : Option Addr} (hp : p ∈ X.pn) (T : ExcC X.K D) (hz : Zc cls d p.2) (hc : cls = .ref D) (hf : ∃ vs, p.2.data = .fields vs) : CallR X (.builtin "isinstance") (rIsP X.K D p.1 d) := by
  intro pins s σ H xs us Q I r h
  obtain ⟨c, cv, b, rfl, hcv, e, hd, q⟩ := h
  cases r with
  | cons rx rr =>
  cases rr with
  | cons rt rr =>
  cases rr
  cases rx
  obtain rfl := hcv _ rt
  have hg := (I.pin p (List.mem_append_left _ hp)).1
  subst hc
  have J : ∃ od, PySem.W.InstAt s.heap p.1 p.2 D od := by
    obtain ⟨a, oc, od, oda, osl⟩ := p
    obtain ⟨vs, hv⟩ := hf
    obtain ⟨h1, h2⟩ := hz
    dsimp only at h1 h2 hv
    subst h1 h2 hv
    rcases hd with rfl | ⟨dd, fs, rfl, hx⟩
    · exact ⟨none, hg, rfl, rfl, trivial⟩
    · obtain ⟨_, ⟨_, _, _, q, _⟩, _⟩ := I.hok dd _ hx
      exact ⟨some _, hg, rfl, rfl, q⟩
  exact PySem.W.kia_one (kitE T) I.kIn ⟨_, J⟩ e (fun y => nomatch y) fun tk => ⟨.bl b, H, I.kept (t' := tk) fun _ _ y => y, rfl, q⟩

/-! ### defs -/
/-- what a def promises that is called while the exception (a, cls, d) is handled -/
structure FnE (P : Program) (w : World) (K : PySem.W.Frag) (mg : Str → Option Value) (base : Heap) (CX : CXT) (k : Nat) (f : Addr) (fd : FuncData) (ps : List Str) (sp : Addr → Value → Option Addr → Sp) : Prop where
  len : ∀ a cls d vs H Q E, sp a cls d vs H Q E → vs.length = ps.length
  run : ∀ (A : Around) (outer : List PySem.Env) (s : Shared) (H : Hp) (args : Args) (us : List Value) (vs : List V) (Q : VK) (E : XK) (p : Addr × Obj) (cls : Value) (d : Option Addr), RoomH k A → Hot1 A p → Zc cls d p.2 → PinOk outer H s p → Env0 P w K mg base A outer s H → BindsTo s fd args (ps.zip us) → Vals vs us →
    sp p.1 cls d vs H Q E → codeAny (model P w) A (.call (.ref f) args) (CR CX outer P w H s Q E) s
theorem fnE_of {CX : CXT} {P : Program} {w : World} {K : PySem.W.Frag} {mg : Str → Option Value} {base : Heap} {k : Nat} {f : Addr} {name qual : Str} {params : Arguments} {body : List Stmt} {scope : Scope} {dV kV doc pm cdv ct oc : Value} {an od : Option Addr}
    {osl : Array (Option Value)} {N ps : List Str} {sp : Addr → Value → Option Addr → Sp} (lk : K.lookup f = some ⟨oc, od, .func (PySem.W.fnOf name qual params body scope dV kV doc pm an cdv ct), osl⟩) (hcd : PySem.W.codeIn K cdv qual = true) (S : FnScope N ps scope)
    (len : ∀ a cls d vs H Q E, sp a cls d vs H Q E → vs.length = ps.length)
    (hbody : ∀ (A : Around) (outer : List PySem.Env) (s : Shared) (H : Hp) (vs : List V) (Q : VK) (E : XK) (p : Addr × Obj) (cls : Value) (d : Option Addr), Hot1 (A.deeper (envOfC qual scope s.heap.objs.size f cdv)) p → Zc cls d p.2 → RoomH k (A.deeper (envOfC qual scope s.heap.objs.size f cdv)) → sp p.1 cls d vs H Q E →
      ∃ t, PSs (cxH CX P w K mg base N qual scope f cdv A outer s H E p) body t ∧ t { nx := fun _ H' => Q .non H', rt := Q } (L2.start N vs) H) :
    FnE P w K mg base CX (k + 1) f (PySem.W.fnOf name qual params body scope dV kV doc pm an cdv ct) ps sp := by
  refine ⟨len, fun A outer s H args us vs Q E p cls d hr hot hz hpin e0 hb r hsp => ?_⟩
  have l0 := len _ _ _ _ _ _ _ hsp
  have keep := fun b o e => (e0.bs b o e).1
  have inK : K.In s.heap := e0.mod.kin.keeps keep
  have nolim : s.heap.NoLimit := e0.mod.nolimit.keeps keep
  have kinds : ∀ y ∈ ps.zip us, scope.names.lookup y.1 = some .local ∨ (scope.names.lookup y.1 = some .cell ∧ ((cellsFrom (s.heap.objs.size + 1) scope.names []).lookup y.1).isSome = true) := fun ⟨n, v⟩ hy =>
    (S.par n (List.of_mem_zip hy).1).imp id fun q => ⟨q, PySem.W.cellsFrom_some _ _ _ (.inl q)⟩
  refine codeAny_call_function hr.depth (inK _ _ lk) rfl S.co S.gen rfl (PySem.W.codeRec_of inK hcd) (hb _ _ _ _ (wpAny_newFunctionEnv_cells S.kind kinds fun env he s1 made => ?_))
  subst he
  obtain ⟨t, ht, hq⟩ := hbody A outer s H vs Q E p cls d hot hz (hr.deeper _) hsp
  have I := inv_startH (CX := CX) (E := E) S hpin e0 l0 r made
  refine ⟨nolim.keeps made.toInCall.keep, codeAny_func (wpAny_mono (ht.run [] s1 (L2.start N vs) H _ I hq) (fun fl s' hs => ?_) fun e s' hs => hs)⟩
  cases fl with
  | next =>
    obtain ⟨σ', H', J, q⟩ := hs
    exact ⟨V.non, H', J.os, J.bare, J.base, J.hok, rfl, q⟩
  | ret u =>
    obtain ⟨v, σ', H', J, rv, q⟩ := hs
    exact ⟨v, H', J.os, J.bare, J.base, J.hok, rv, q⟩
  | brk =>
    obtain ⟨_, _, _, q⟩ := hs
    exact q.elim
  | cont =>
    obtain ⟨_, _, _, q⟩ := hs
    exact q.elim
/-- its call, p the pin -/
theorem pe_callE {X : Cx} {CX : CXT} {k : Nat} {f : Addr} {fd : FuncData} {ps : List Str} {sp : Addr → Value → Option Addr → Sp} {E : L2.St → XK} {x : Str} {q pos : Pos} {e : Expr} {es : List Expr} {t : TA} {p : Addr × Obj} {cls : Value} {d : Option Addr} (F : FnE X.prog X.w X.K X.mg X.base CX k f fd ps sp) (hr : RoomH k X.A) (hot : Hot1 X.A p) (hp : p ∈ X.pn) (hz : Zc cls d p.2)
    (hg : Gl X x) (hm : X.mg x = some (.ref f)) (hk : PySem.W.keepIn X.K (.ref f) = true) (hb : Binds X.K fd ps []) (hx : ∀ σ, PassesAt CX X σ (E σ)) (ha : PA X (e :: es) t) (hdb : (x == ("__debug__" : Str)) = false := by decide)
    (he : starEach (e :: es) X.env = (false, eval e X.env) :: starEach es X.env := by rfl) (hpl : (backTo pos (starEach es X.env)).any (·.1) = false := by rfl) : PE X (.Call (.Name x q) (e :: es) [] pos) (tCallS (sp p.1 cls d) E t) := by
  refine ⟨fun pins s σ H Q I h => ?_⟩
  refine wpAny_Call_Name_kw (ld_glob I hg hm (PySem.W.callWith_K (h₀ := X.base) I.ok.mod.kin hk (thn (ha.run pos pins s σ H _ I h) fun us s1 ⟨vs, H1, I1, r, q⟩ => ⟨I1.kIn, ?_⟩) he hpl) hdb)
  have l0 : us.length = ps.length := by
    rw [← r.length]
    exact F.len _ _ _ _ _ _ _ q
  have b := hb s1 us I1.kIn (by rw [List.append_nil]; exact l0)
  rw [List.append_nil] at b
  obtain ⟨p1, p2, p3, p4, p5⟩ := I1.pin p (List.mem_append_left _ hp)
  have pk : PinOk X.stack H1 s1 p := ⟨p1, p2, fun hm => (List.mem_cons.mp (I1.stkSub p.1 hm)).elim p3 p4, p5⟩
  refine wpAny_call (codeAny_mono (F.run X.A X.stack s1 H1 ⟨us, []⟩ us vs Q (E σ) p cls d hr hot hz pk I1.env0 b r q) fun r s' hq => ?_)
  cases r with
  | error er => exact hx σ pins H1 s1 er s' I1 hq
  | ok fl =>
    cases fl with
    | ret u => exact I1.after hq
    | next => exact hq.elim
    | brk => exact hq.elim
    | cont => exact hq.elim
theorem pe_callEa {X : Cx} {CX : CXT} {k : Nat} {f : Addr} {fd : FuncData} {ps : List Str} {sp : Addr → Value → Option Addr → Sp} {E : L2.St → XK} {x : Str} {q pos : Pos} {e : Expr} {es : List Expr} {t : TA} {a : Addr} {oe : Obj} {cls : Value} {d : Option Addr} (F : FnE X.prog X.w X.K X.mg X.base CX k f fd ps sp) (hr : RoomH k X.A) (hot : Hot1 X.A (a, oe)) (hp : (a, oe) ∈ X.pn) (hz : Zc cls d oe)
    (hg : Gl X x) (hm : X.mg x = some (.ref f)) (hk : PySem.W.keepIn X.K (.ref f) = true) (hb : Binds X.K fd ps []) (hx : ∀ σ, PassesAt CX X σ (E σ)) (ha : PA X (e :: es) t) (hdb : (x == ("__debug__" : Str)) = false := by decide)
    (he : starEach (e :: es) X.env = (false, eval e X.env) :: starEach es X.env := by rfl) (hpl : (backTo pos (starEach es X.env)).any (·.1) = false := by rfl) : PE X (.Call (.Name x q) (e :: es) [] pos) (tCallS (sp a cls d) E t) := pe_callE (p := (a, oe)) F hr hot hp hz hg hm hk hb hx ha hdb he hpl
end DHa

/-! DHe: defs that are handed the handled exception, by data. -/
namespace DL
open PySem PySem.Spec PyProof.Rows L2 HotX L2H DHa
theorem _root_.L2H.RoomH.units {k : Nat} {A : Around} (r : RoomH k A) : A.units + 64 < cLine := by
  have := r.un
  omega
theorem roomH_mark {k : Nat} {A : Around} {v : Option Value} (r : Room k A) : RoomH k (A.mark v) := ⟨r.dp, r.un⟩
theorem hot_suite {A : Around} {a : Addr} {oe : Obj} {cls : Value} {d : Option Addr} (hz : L2N.Zn cls d oe) (hf : ∃ vs, oe.data = .fields vs) : Hot1 (A.mark (some (.ref a))) (a, oe) := by
  obtain ⟨vs, hv⟩ := hf
  exact ⟨rfl, vs, hv, hz.2.2 vs hv⟩
theorem pg_tupWK {X : Cx} (K : PySem.W.Frag) (e : X.K = K) {x1 : Addr} {es : List Expr} {k : Nat} {t : TGs} {n : Nat} {pos : Pos} (wm : Warm X x1) (h : PGs X es t) (hn : (assignEach es X.env).length = n := by rfl) (hst : (assignEach es X.env).findIdx? (·.1) = none := by rfl) : PG X (.Tuple es k pos) (gTup K n t) := by
  subst e
  exact pg_tupW wm h hn hst
theorem pAt0 {X : Cx} {E : L2.St → XK} (σ : L2.St) : PassesAt CX0 X σ (E σ) := fun _ _ _ _ _ _ h => h.elim
abbrev SpecE := Str → (SV → Prop) → Prop
def spE (K : PySem.W.Frag) (mg : Str → Option Value) (spec : SpecE) : Addr → Value → Option Addr → Sp := fun a cls d vs H Q _ => ∃ (w : Option Addr) (F : Hp) (C : Addr) (x : Xn) (q : SV → Prop), vs = [.ref a] ∧ (cls = .ref C ∧ mg x.1 = some (.ref C)) ∧ Base w H F ∧ RC K w F (.ref a) (.exn a cls d x) ∧ spec x.1 q ∧
  ∀ x v H' F', q x → Step w H F H' F' → NewV K H H' F' v x → Q v H'
structure FnED (P : Program) (w : World) (K : PySem.W.Frag) (mg : Str → Option Value) (base : Heap) (k : Nat) (x : Str) (ps : List Str) (spec : SpecE) (f : Addr) (fd : FuncData) : Prop where
  mgf : mg x = some (.ref f)
  kp : PySem.W.keepIn K (.ref f) = true
  bd : Binds K fd ps []
  ok : FnE P w K mg base CX0 k f fd ps (spE K mg spec)
theorem fnED_ok {P : Program} {w : World} {K : PySem.W.Frag} {mg : Str → Option Value} {base : Heap} {x : Str} {st : Stmt} {N : List Str} {e0 : Str} {k : Nat} {spec : SpecE} {ok : Str → Prop} {g : Addr → Value → Option Addr → Str → DTS} {f : Addr} {fd : FuncData} (mgf : mg x = some (.ref f)) (T : Fun K x x st f fd) (S : FnScope N [e0] (defScope st))
    (bd : ∀ (kV doc pm : Value) (an : Option Addr) (cdv ct : Value) (us : List Value), us.length = [e0].length → bindArgs (PySem.W.fnOf x x (defArgs st) (defBody st) (defScope st) .none kV doc pm an cdv ct) ⟨us, []⟩ = pure ([e0].zip us))
    (body : ∀ (cdv : Value) (A : Around) (outer : List PySem.Env) (s : Shared) (H : Hp) (E : XK) (a : Addr) (oe : Obj) (cls : Value) (d : Option Addr) (nm : Str) (D : Addr), Hot1 (A.deeper (envOfC x (defScope st) s.heap.objs.size f cdv)) (a, oe) → Zc cls d oe → (∃ vs, oe.data = .fields vs) → RoomH k (A.deeper (envOfC x (defScope st) s.heap.objs.size f cdv)) →
      cls = .ref D → mg nm = some (.ref D) → ok nm → ∃ t, PSs (cxH CX0 P w K mg base N x (defScope st) f cdv A outer s H E (a, oe)) (defBody st) t ∧ ∀ (w' : Option Addr) (H0 F0 : Hp), PuS ⟨K, w', H0, F0⟩ t (g a cls d nm))
    (hok : ∀ nm q, spec nm q → ok nm)
    (sem : ∀ a cls d (x : Xn) q C, cls = .ref C → mg x.1 = some (.ref C) → spec x.1 q → g a cls d x.1 { nx := fun _ => q (.dat .none), rt := q } (startD N [.exn a cls d x])) : FnED P w K mg base (k + 1) x [e0] spec f fd := by
  obtain ⟨oc, od, kV, doc, pm, an, cdv, ct, osl, hfd, lk, hcd⟩ := id T.ex
  refine ⟨mgf, T.kp, T.binds bd, ?_⟩
  subst hfd
  refine fnE_of lk hcd S (fun a cls d vs H Q E h => ?_) fun A outer s H vs Q E p cls d hot hz hr h => ?_
  · obtain ⟨_, _, _, _, _, rfl, _⟩ := h
    rfl
  · obtain ⟨w', F, C, x, q, rfl, ⟨hc, hm⟩, b, rc, hs, hk⟩ := h
    obtain ⟨t, h1, h2⟩ := body cdv A outer s H E p.1 p.2 cls d x.1 C hot hz (by obtain ⟨_, vs, hv, _⟩ := hot; exact ⟨vs, hv⟩) hr hc hm (hok _ _ hs)
    refine ⟨t, h1, ?_⟩
    have hN : [SV.exn p.1 cls d x].length ≤ N.length := by
      have := congrArg List.length S.pre
      rw [List.length_take] at this
      show 1 ≤ N.length
      have e : [e0].length = 1 := rfl
      omega
    have e := env_start (N := N) (vs := [V.ref p.1]) (xs := [.exn p.1 cls d x]) b (.cons rc .nil) hN
    exact h2 w' H F (L2.start N [.ref p.1]) H F _ _ _ e (sem p.1 cls d x q C hc hm hs) (fun σ' H' F' ρ' hq _ e' => hk (.dat .none) .non H' F' hq e'.st .non) (fun x v H' F' hx st nv => hk x v H' F' hx st nv) (fun σ' H' F' ρ' hq _ _ => hq.elim) fun σ' H' F' ρ' hq _ _ => hq.elim
section
variable {B : Bx} {mg : Str → Option Value} {a : Addr} {cls : Value} {d : Option Addr}
def xCallE (mg : Str → Option Value) (a : Addr) (cls : Value) (d : Option Addr) (spec : SpecE) (i : Nat) : DTX := fun ρ q => match ρ[i]? with
  | some (.exn a' cls' d' x) => ((a' = a ∧ cls' = cls ∧ d' = d) ∧ ∃ C, cls = .ref C ∧ mg x.1 = some (.ref C)) ∧ spec x.1 q
  | _ => False
theorem pu_callE {spec : SpecE} {E : L2.St → XK} (i : Nat) : PuX B (tCallS (spE B.K mg spec a cls d) E (tCons (tVar i) tNil)) (xCallE mg a cls d spec i) := fun σ H F ρ Q q e hf k => by
  unfold xCallE at hf
  obtain ⟨ad, h1, _⟩ := e.sl
  split at hf
  · rename_i a' cls' d' x hx
    obtain ⟨⟨⟨rfl, rfl, rfl⟩, C, hc, hm⟩, hs⟩ := hf
    obtain ⟨hv, h0, hy⟩ := h1 i _ hx
    exact ⟨_, hv, B.w, F, C, x, q, rfl, ⟨hc, hm⟩, e.base, ⟨rfl, h0, hy⟩, hs, fun x v H' F' hx st nv => k x v H' F' hx st nv⟩
  · exact hf.elim
/-- what isinstance says of the law's classes -/
def isaB (nm c : Str) : Bool := decide (nm = c) || (decide (c = "BellError") || decide (c = "ValueError"))
structure KindT (K : PySem.W.Frag) (mg : Str → Option Value) (ok : Str → Prop) (cs : List (Str × Value)) : Prop where
  exc : ∀ nm D, ok nm → mg nm = some (.ref D) → ExcC K D
  kit : ∀ nm D, ok nm → mg nm = some (.ref D) → ∀ c ∈ cs, PySem.W.kitOne K (.ref D) c.2 = some (isaB nm c.1)
def dIsE (a : Addr) (d : Option Addr) (b : Bool) (i : Nat) : DTE := fun ρ q => match ρ[i]? with
  | some (.exn a' _ d' _) => (a' = a ∧ d' = d) ∧ q (.bool b)
  | _ => False
theorem pu_isE {D : Addr} {cV : V} {cv : Value} {b : Bool} (i : Nat) (hcv : ∀ u, RelV cV u → u = cv) (hk : PySem.W.kitOne B.K (.ref D) cv = some b) : PuE B (tCB (rIsP B.K D a d) (tCons (tVar i) (tCons (tC cV) tNil))) (dIsE a d b i) := fun σ H F ρ Q q e hf k => by
  unfold dIsE at hf
  obtain ⟨ad, h1, _⟩ := e.sl
  split at hf
  · rename_i a' cls' d' x hx
    obtain ⟨⟨rfl, rfl⟩, hq⟩ := hf
    obtain ⟨hv, h0, hy⟩ := h1 i _ hx
    refine ⟨_, hv, cV, cv, b, rfl, hcv, hk, ?_, k _ _ H F hq (Step.refl e.base) (.bl b)⟩
    cases ex : x.2 with
    | none => exact .inl (h0 ex)
    | some y =>
      obtain ⟨dd, v, h2, h3, _⟩ := hy y ex
      exact .inr ⟨dd, _, h2, e.st.fh _ _ h3⟩
  · exact hf.elim
end
/-! ### text.split -/
def xSplit (fe : DTE) (sep : Str) : DTX := fun ρ q => fe ρ fun d => match d with
  | .str x => ((sep.length == 0) = false ∧ x.length + 2 ≤ sizeLine ∧ (Txt.split x sep).length ≤ sizeLine ∧ ∀ y ∈ Txt.split x sep, y.length ≤ sizeLine ∧ strOk y = true) ∧ q (.own ((Txt.split x sep).map .str))
  | _ => False
def rSplit1 : V → List V → Hp → VK → Prop := fun x xs H Q => ∃ a b, x = .str a ∧ xs = [.str b] ∧ (b.length == 0) = false ∧ a.length + 2 ≤ sizeLine ∧ rNewStrs (Txt.split a b) H Q
theorem mt_split1 {X : Cx} : MtR X "str.split" rSplit1 := mt_split
theorem rds_strs {K : PySem.W.Frag} {F : Hp} : ∀ {ys : List Str}, (∀ y ∈ ys, y.length ≤ sizeLine ∧ strOk y = true) → RDs K F (ys.map V.str) (ys.map PyData.str)
  | [], _ => .nil
  | y :: ys, h => .cons (.str y (h y List.mem_cons_self).1 (h y List.mem_cons_self).2) (rds_strs fun z hz => h z (List.mem_cons_of_mem _ hz))
theorem pu_split {B : Bx} {te : TE} {fe : DTE} {sep : Str} (he : PuE B te fe) : PuX B (tBM B.K "str" rSplit1 te (tCons (tC (.str sep)) tNil)) (xSplit fe sep) := fun σ H F ρ Q q e hf k => he σ H F ρ _ _ e hf fun d v H1 F1 h1 s1 r1 => by
  cases d with
  | str x =>
    cases r1
    obtain ⟨⟨a1, a2, a3, a4⟩, hq⟩ := h1
    refine ⟨rfl, x, sep, rfl, rfl, a1, a2, fun p hp => ?_⟩
    have b1 := e.base.step s1
    exact k (.own _) _ _ F1 hq (s1.trans e.base (Step.loose b1 hp)) ⟨p, _, rfl, s1.free e.base hp, b1.fh.free hp, upd_same, by rw [List.length_map]; exact a3, rds_strs a4⟩
  | _ => exact h1.elim
def q_xCallE_1 := @xCallE.eq_1
def q_dIsE_1 := @dIsE.eq_1
def q_xSplit_1 := @xSplit.eq_1
end DL

/-! DL: a list of lists of two ints that are changed where they stand. -/
namespace DL
open PySem PySem.Spec PyProof.Rows L2
/-- p: a list of lists as, each of two ints; all of them new since H0, none of them in the part F that stays -/
structure Nest (H0 H F : Hp) (p : Addr) (as : List Addr) (xss : List (Int × Int)) : Prop where
  pl : H p = some (.lst (as.map V.ref))
  len : as.length = xss.length
  nd : (p :: as).Nodup
  ow : ∀ a ∈ p :: as, H0 a = none ∧ F a = none
  row : ∀ (j : Nat) (a : Addr) (x : Int × Int), as[j]? = some a → xss[j]? = some x → H a = some (.lst [.int x.1, .int x.2])
  sz : as.length ≤ 1000
section
variable {w : Option Addr} {K : PySem.W.Frag} {H0 F0 H F H' F' : Hp} {p : Addr} {as : List Addr} {xss : List (Int × Int)}
theorem Nest.ex (h : Nest H0 H F p as xss) : ∀ a ∈ p :: as, ∃ o, H a = some o := fun a ha => by
  rcases List.mem_cons.mp ha with rfl | ha
  · exact ⟨_, h.pl⟩
  · obtain ⟨j, hj, e⟩ := List.mem_iff_getElem.mp ha
    have hx : j < xss.length := by rw [← h.len]; exact hj
    exact ⟨_, h.row j a _ (by rw [List.getElem?_eq_getElem hj, e]) (List.getElem?_eq_getElem hx)⟩
theorem Nest.step (b : Base w H0 F0) (h : Nest H0 H F p as xss) (t : Step w H F H' F') : Nest H0 H' F' p as xss := by
  have ne : ∀ a ∈ p :: as, w ≠ some a := fun a ha => b.new_ne (h.ow a ha).1
  refine ⟨t.ex _ _ h.pl (ne _ (by simp)), h.len, h.nd, fun a ha => ⟨(h.ow a ha).1, ?_⟩, fun j a x e1 e2 => t.ex _ _ (h.row j a x e1 e2) (ne a (List.mem_cons_of_mem _ (List.mem_of_getElem? e1))), h.sz⟩
  obtain ⟨o, e⟩ := h.ex a ha
  rw [t.fr a o e]
  exact (h.ow a ha).2
/-- what is new since H0 and outside F may change -/
theorem Step.change (b : Base w H0 F0) (t : Step w H0 F0 H F) {a : Addr} {o : HO} (h0 : H0 a = none) (hF : F a = none) (ho : ∀ xs, o ≠ .tup xs := by intro _ z; cases z) : Step w H0 F0 (L2.upd H a o) F := by
  refine ⟨t.ff, fun c u q => ?_, t.fr, fun c u q z => ?_, fun c ec wc => ?_, fun c xs q => ?_⟩
  · rw [upd_ne (ne_of_none q hF)]; exact t.fh _ _ q
  · rw [upd_ne (ne_of_none q h0)]; exact t.ex _ _ q z
  · obtain ⟨x, y, z, hh, r⟩ := t.wl c ec wc
    exact ⟨x, y, z, by rw [upd_ne (fun e => b.new_ne h0 (by rw [← e]; exact ec))]; exact hh, r⟩
  · by_cases hc : c = a
    · subst hc; rw [upd_same] at q; exact absurd (Option.some.inj q) (ho xs)
    · rw [upd_ne hc] at q; exact t.tp _ _ q
/-- a row changed -/
theorem Nest.set (h : Nest H0 H F p as xss) {j : Nat} {a : Addr} {x : Int × Int} (ha : as[j]? = some a) : Nest H0 (upd H a (.lst [.int x.1, .int x.2])) F p as (xss.set j x) := by
  have hm := List.mem_of_getElem? ha
  have hpa : p ≠ a := fun z => (List.nodup_cons.mp h.nd).1 (by rw [z]; exact hm)
  refine ⟨by rw [upd_ne hpa]; exact h.pl, by rw [List.length_set]; exact h.len, h.nd, h.ow, fun i c y e1 e2 => ?_, h.sz⟩
  have hi : i < as.length := (List.getElem?_eq_some_iff.mp e1).1
  have hj : j < as.length := (List.getElem?_eq_some_iff.mp ha).1
  by_cases hij : j = i
  · subst hij
    rw [ha] at e1
    cases e1
    rw [List.getElem?_set_self (by rw [← h.len]; exact hj)] at e2
    cases e2
    exact upd_same
  · have hca : c ≠ a := fun z => by
      subst z
      exact hij ((List.getElem?_inj hj (List.nodup_cons.mp h.nd).2).mp (by rw [ha, e1]))
    rw [List.getElem?_set_ne hij] at e2
    rw [upd_ne hca]
    exact h.row i c y e1 e2
theorem wipe6 {σ : L2.St} {x : Option V} {i : Nat} : wipe ((wipe σ [i]).set i x) [i] = wipe σ [i] := by
  rw [wipe_set (by simp)]
  apply List.ext_getElem?
  intro j
  rw [wipe_get, wipe_get, wipe_length]
  by_cases hj : j ∈ [i] ∧ j < σ.length
  · rw [if_pos hj, if_pos hj]
  · rw [if_neg hj]
/-- [list(x) for x in xs] of pairs of ints -/
theorem nest_make (b : Base w H F) {T : List (Int × Int)} {vt : V} (hT : T.length ≤ 1000) (hv : RD K F vt (.list (T.map fun p => .tuple [.int p.1, .int p.2]))) {σ : L2.St} {n i : Nat} (h0 : σ[n]? = some (some vt)) (hσ : i < σ.length) {Q : VK}
    (k : ∀ p as H' F', Step w H F H' F' → Nest H H' F' p as T → Q (.ref p) H') : tLc (iSeq K (tVar n)) (gName i) tYes (tCB (rListX K) (tCons (tVar i) tNil)) [i] σ H Q := by
  refine ⟨vt, h0, ?_⟩
  cases hv with
  | lst hF l rr =>
    rename_i a vs
    have hH := b.fh _ _ hF
    have hlen : vs.length = T.length := by rw [rr.length, List.length_map]
    refine .inl ⟨a, rfl, ⟨_, SqL.of hH⟩, fun L hL => ?_⟩
    have fL : F L = none := b.fh.free hL
    refine ⟨fun m' m H' => m = vs.length - m' ∧ m' ≤ vs.length ∧ ∃ F' as, Step w H F H' F' ∧ H' L = some (.lst (as.map V.ref)) ∧ (L :: as).Nodup ∧ (∀ c ∈ L :: as, H c = none ∧ F' c = none) ∧ as.length = m' ∧
      ∀ (j : Nat) (c : Addr) (x : Int × Int), as[j]? = some c → T[j]? = some x → H' c = some (.lst [.int x.1, .int x.2]), ⟨vs.length, rfl, Nat.zero_le _, F, [], Step.loose b hL, upd_same, by simp, fun c hc => ?_, rfl, fun j c x e => by simp at e⟩, ?_⟩
    · rw [List.mem_singleton] at hc
      subst hc
      exact ⟨hL, fL⟩
    · rintro m' m H' ⟨rfl, hle, F', as, st, eL, nd, ow, la, rows⟩
      have hHa := st.ff _ _ hF
      have hHa' := st.fh _ _ hHa
      by_cases hlt : m' < vs.length
      · refine .inr ⟨⟨vs, vs[m'], SqL.of hHa', List.getElem?_eq_getElem hlt⟩, fun H2 => ∃ F2 as2, Step w H F H2 F2 ∧ H2 L = some (.lst (as2.map V.ref)) ∧ (L :: as2).Nodup ∧ (∀ c ∈ L :: as2, H c = none ∧ F2 c = none) ∧ as2.length = m' + 1 ∧
          ∀ (j : Nat) (c : Addr) (x : Int × Int), as2[j]? = some c → T[j]? = some x → H2 c = some (.lst [.int x.1, .int x.2]), fun H2 ⟨F2, as2, r⟩ => ⟨vs.length - (m' + 1), by omega, rfl, hlt, F2, as2, r⟩, fun x H2 hy => ?_⟩
        obtain ⟨e2, hy⟩ := hy
        subst e2
        have hx := hy vs (SqL.of hHa')
        obtain ⟨d, hd, rd⟩ := rr.getV hx
        rw [List.getElem?_map] at hd
        have hm : m' < T.length := by rw [← hlen]; exact hlt
        rw [List.getElem?_eq_getElem hm] at hd
        cases hd
        refine ⟨wipe6, ?_⟩
        dsimp only [tYes]
        rw [if_pos rfl]
        refine ⟨x, by rw [List.getElem?_set_self (by rw [wipe_length]; exact hσ)], ?_⟩
        cases rd with
        | tup hs l2 r2 =>
          rename_i q us
          obtain ⟨u1, u2, rfl, ru1, ru2⟩ := RDs.two r2
          cases ru1
          cases ru2
          refine ⟨q, _, rfl, .inr (Same.sqt st.fh (Same.sqt st.ff hs)), fun c hc => ?_⟩
          have neLc : L ≠ c := fun z => by rw [z, hc] at eL; cases eL
          have b' := b.step st
          have fc : F' c = none := st.fh.free hc
          refine ⟨as.map V.ref, by rw [upd_ne neLc]; exact eL, by rw [List.length_map, la, sizeLine_eq]; omega, F', as ++ [c], ?_, ?_, ?_, ?_, ?_, ?_⟩
          · have s1 : Step w H F (upd H2 c (.lst [.int T[m'].1, .int T[m'].2])) F' := st.trans b (Step.loose b' hc)
            exact Step.change b s1 hL (ow L (by simp)).2
          · rw [upd_same, List.map_append]
            rfl
          · have hcas : c ∉ L :: as := fun hm => by
              rcases List.mem_cons.mp hm with z | hm
              · exact neLc z.symm
              · obtain ⟨j, hj, e⟩ := List.mem_iff_getElem.mp hm
                have := rows j c T[j] (by rw [List.getElem?_eq_getElem hj, e]) (List.getElem?_eq_getElem (by omega))
                rw [hc] at this
                cases this
            have : (L :: (as ++ [c])) = (L :: as) ++ [c] := rfl
            rw [this]
            exact List.nodup_append.mpr ⟨nd, by simp, fun y hy z hz => by
              rw [List.mem_singleton] at hz
              subst hz
              intro e
              subst e
              exact hcas hy⟩
          · intro y hy
            have : y ∈ L :: as ∨ y = c := by
              rcases List.mem_cons.mp hy with z | hy
              · exact .inl (by rw [z]; simp)
              · rcases List.mem_append.mp hy with hy | hy
                · exact .inl (List.mem_cons_of_mem _ hy)
                · exact .inr (List.mem_singleton.mp hy)
            rcases this with hy | rfl
            · exact ow y hy
            · exact ⟨st.free b hc, fc⟩
          · rw [List.length_append, la]
            rfl
          · intro j y x e1 e2
            rcases Nat.lt_or_ge j as.length with c1 | c1
            · rw [List.getElem?_append_left c1] at e1
              have hy := rows j y x e1 e2
              have n1 : y ≠ L := fun z => (List.nodup_cons.mp nd).1 (by rw [← z]; exact List.mem_of_getElem? e1)
              rw [upd_ne n1, upd_ne (ne_of_none hy hc)]
              exact hy
            · rw [List.getElem?_append_right c1] at e1
              have ej : j = m' := by
                have := (List.getElem?_eq_some_iff.mp e1).1
                rw [List.length_cons, List.length_nil] at this
                omega
              subst ej
              rw [la, Nat.sub_self] at e1
              cases e1
              rw [List.getElem?_eq_getElem hm] at e2
              cases e2
              rw [upd_ne (fun z => neLc z.symm), upd_same]
      · refine .inl ⟨⟨vs, SqL.of hHa', by omega⟩, ?_⟩
        have em : m' = vs.length := by omega
        exact k L as H' F' st ⟨eL, by omega, nd, ow, rows, by omega⟩
/-- [tuple(x) for x in xs] -/
theorem nest_read (b : Base w H0 F0) (st0 : Step w H0 F0 H F) (N0 : Nest H0 H F p as xss) {σ : L2.St} {n i : Nat} (h0 : σ[n]? = some (some (.ref p))) (hσ : i < σ.length) {Q : VK}
    (k : ∀ L vs H' F', Step w H0 F0 H' F' → H0 L = none → F' L = none → H' L = some (.lst vs) → RDs K F' vs (xss.map fun p => .tuple [.int p.1, .int p.2]) → Q (.ref L) H') : tLc (iSeq K (tVar n)) (gName i) tYes (tCB (rTupX K) (tCons (tVar i) tNil)) [i] σ H Q := by
  refine ⟨_, h0, .inl ⟨p, rfl, ⟨_, SqL.of N0.pl⟩, fun L hL => ?_⟩⟩
  have h0L : H0 L = none := st0.free b hL
  have fL : F L = none := (st0.fh).free hL
  have nL : L ∉ p :: as := fun hm => by
    obtain ⟨o, e⟩ := N0.ex L hm
    rw [hL] at e
    cases e
  have b1 := b.step st0
  refine ⟨fun m' m H' => m = as.length - m' ∧ m' ≤ as.length ∧ ∃ F' acc, Step w H0 F0 H' F' ∧ Nest H0 H' F' p as xss ∧ H' L = some (.lst acc) ∧ F' L = none ∧ acc.length = m' ∧ RDs K F' acc ((xss.take m').map fun p => .tuple [.int p.1, .int p.2]),
    ⟨as.length, rfl, Nat.zero_le _, F, [], st0.trans b (Step.loose b1 hL), N0.step b (Step.loose b1 hL), upd_same, fL, rfl, .nil⟩, ?_⟩
  rintro m' m H' ⟨rfl, hle, F', acc, st, N, eL, fL', la, ra⟩
  by_cases hlt : m' < as.length
  · refine .inr ⟨⟨_, .ref as[m'], SqL.of N.pl, by rw [List.getElem?_map, List.getElem?_eq_getElem hlt]; rfl⟩, fun H2 => ∃ F2 acc2, Step w H0 F0 H2 F2 ∧ Nest H0 H2 F2 p as xss ∧ H2 L = some (.lst acc2) ∧ F2 L = none ∧ acc2.length = m' + 1 ∧ RDs K F2 acc2 ((xss.take (m' + 1)).map fun p => .tuple [.int p.1, .int p.2]),
      fun H2 ⟨F2, acc2, r⟩ => ⟨as.length - (m' + 1), by omega, rfl, hlt, F2, acc2, r⟩, fun x H2 hy => ?_⟩
    obtain ⟨e2, hy⟩ := hy
    subst e2
    have hx := hy _ (SqL.of N.pl)
    rw [List.getElem?_map, List.getElem?_eq_getElem hlt] at hx
    cases hx
    have hm : m' < xss.length := by rw [← N.len]; exact hlt
    have row := N.row m' as[m'] xss[m'] (List.getElem?_eq_getElem hlt) (List.getElem?_eq_getElem hm)
    refine ⟨wipe6, ?_⟩
    dsimp only [tYes]
    rw [if_pos rfl]
    refine ⟨.ref as[m'], by rw [List.getElem?_set_self (by rw [wipe_length]; exact hσ)], as[m'], _, rfl, .inl ⟨SqL.of row, fun c hc => ?_⟩⟩
    have b' := b.step st
    have s1 : Step w H2 F' (upd H2 c (.tup [.int xss[m'].1, .int xss[m'].2])) (upd F' c (.tup [.int xss[m'].1, .int xss[m'].2])) := Step.laid b' hc
    have neLc : L ≠ c := fun z => by rw [z, hc] at eL; cases eL
    have st2 := st.trans b s1
    have N2 := N.step b s1
    have fL2 : (upd F' c (.tup [.int xss[m'].1, .int xss[m'].2])) L = none := by rw [upd_ne neLc]; exact fL'
    have hsz := N.sz
    refine ⟨acc, by rw [upd_ne neLc]; exact eL, by rw [la, sizeLine_eq]; omega, _, acc ++ [.ref c], Step.change b st2 h0L fL2, ?_, upd_same, fL2, by rw [List.length_append, la]; rfl, ?_⟩
    · have np : p ≠ L := fun z => nL (by rw [← z]; simp)
      refine ⟨by rw [upd_ne np]; exact N2.pl, N2.len, N2.nd, N2.ow, fun j a x e1 e2 => ?_, N2.sz⟩
      rw [upd_ne (fun z => nL (by rw [← z]; exact List.mem_cons_of_mem _ (List.mem_of_getElem? e1)))]
      exact N2.row j a x e1 e2
    · rw [List.take_succ_eq_append_getElem hm, List.map_append]
      exact (ra.mono s1.ff).append (.cons (.tup (SqT.of upd_same) (by show 2 ≤ sizeLine; rw [sizeLine_eq]; omega) (.cons (.int _) (.cons (.int _) .nil))) .nil)
  · refine .inl ⟨⟨_, SqL.of N.pl, by rw [List.length_map]; omega⟩, ?_⟩
    rw [List.take_of_length_le (by rw [← N.len]; omega)] at ra
    exact k L acc H' F' st h0L fL' eL ra
/-- a loop by what holds behind each turn -/
theorem for_ghost {J : It} {ds : List D} {F1 H1 : Hp} {σ : L2.St} {tg : TG} {tb : TS} {De : Ends} (y : YL K F1 J ds) (I : Nat → L2.St → Hp → Hp → Prop) (hI : ∀ i σ H F, I i σ H F → Same F1 F ∧ Base none H F)
    (hs : ∀ i d, ds[i]? = some d → ∀ σ H F, I i σ H F → ∀ x H' F', Step none H F H' F' → RD K F' x d → tg x σ H' (fun σ2 H2 => tb { De with nx := fun σ3 H3 => ∃ F3, I (i + 1) σ3 H3 F3, ct := fun σ3 H3 => ∃ F3, I (i + 1) σ3 H3 F3, bk := De.nx } σ2 H2))
    (he : ∀ σ H F, I ds.length σ H F → De.nx σ H) (h0 : I 0 σ H1 F1) :
    ∃ W : Nat → Nat → L2.St → Hp → Prop, (∃ m, W 0 m σ H1) ∧ ∀ i m σ H, W i m σ H →
      (J.stop i H ∧ De.nx σ H) ∨ (J.go i H ∧ ∃ N : L2.St → Hp → Prop, (∀ σ' H', N σ' H' → ∃ m', m' < m ∧ W (i + 1) m' σ' H') ∧ ∀ x H', J.yld i H x H' → tg x σ H' fun σ2 H2 => tb { De with nx := N, ct := N, bk := De.nx } σ2 H2) := by
  refine ⟨fun i m σ H => m = ds.length - i ∧ i ≤ ds.length ∧ ∃ F, I i σ H F, ⟨ds.length, rfl, Nat.zero_le _, F1, h0⟩, ?_⟩
  rintro i m σ H ⟨rfl, hle, F, h⟩
  obtain ⟨sm, bn⟩ := hI i σ H F h
  by_cases hlt : i < ds.length
  · refine .inr ⟨y.go i H F sm bn.fh hlt, fun σ3 H3 => ∃ F3, I (i + 1) σ3 H3 F3, fun σ' H' ⟨F3, h3⟩ => ⟨ds.length - (i + 1), by omega, rfl, hlt, F3, h3⟩, fun x H2 hy => ?_⟩
    obtain ⟨F2, d, hd, st, rd⟩ := y.yld i H F x H2 sm bn.fh hlt hy
    exact hs i d hd σ H F h x H2 F2 (st bn) rd
  · refine .inl ⟨y.stop i H F sm bn.fh (by omega), he σ H F ?_⟩
    have : i = ds.length := by omega
    rwa [this] at h
end
end DL

/-! Mathematics of orders: what is ahead of what, narrow spans. -/
namespace Lw
open PySem PySem.Spec PyProof.Rows L2 DL
/-- a path of one order or more -/
inductive Anc (E : List (Int × Int)) : Int → Int → Prop
  | one {u v : Int} : (u, v) ∈ E → Anc E u v
  | step {u x v : Int} : (u, x) ∈ E → Anc E x v → Anc E u v
theorem Anc.snoc {E : List (Int × Int)} {u x v : Int} (h : Anc E u x) (e : (x, v) ∈ E) : Anc E u v := by
  induction h with
  | one h => exact .step h (.one e)
  | step h _ ih => exact .step h (ih e)
theorem Anc.trans {E : List (Int × Int)} {u x v : Int} (h : Anc E u x) (g : Anc E x v) : Anc E u v := by
  induction h with
  | one h => exact .step h g
  | step h _ ih => exact .step h (ih g)
theorem Anc.mono {E E' : List (Int × Int)} (s : ∀ e ∈ E, e ∈ E') {u v : Int} (h : Anc E u v) : Anc E' u v := by
  induction h with
  | one h => exact .one (s _ h)
  | step h _ ih => exact .step (s _ h) ih
/-- by its last order -/
theorem Anc.last {E : List (Int × Int)} {u v : Int} (h : Anc E u v) : (u, v) ∈ E ∨ ∃ x, Anc E u x ∧ (x, v) ∈ E := by
  induction h with
  | one h => exact .inl h
  | step h _ ih =>
    rcases ih with ih | ⟨x, h1, h2⟩
    · exact .inr ⟨_, .one h, ih⟩
    · exact .inr ⟨x, .step h h1, h2⟩
def turned (E : List (Int × Int)) : List (Int × Int) := E.map fun e => (e.2, e.1)
theorem turned_mem {E : List (Int × Int)} {u v : Int} : (u, v) ∈ turned E ↔ (v, u) ∈ E := by
  unfold turned
  constructor
  · intro h
    obtain ⟨⟨a, b⟩, h1, h2⟩ := List.mem_map.mp h
    cases h2
    exact h1
  · intro h
    exact List.mem_map.mpr ⟨_, h, rfl⟩
theorem Anc.turn {E : List (Int × Int)} {u v : Int} (h : Anc E u v) : Anc (turned E) v u := by
  induction h with
  | one h => exact .one (turned_mem.mpr h)
  | step h _ ih => exact ih.snoc (turned_mem.mpr h)
theorem turned_turned (E : List (Int × Int)) : turned (turned E) = E := by
  unfold turned
  rw [List.map_map]
  have : ((fun e : Int × Int => (e.2, e.1)) ∘ fun e : Int × Int => (e.2, e.1)) = id := by
    funext e
    rfl
  rw [this, List.map_id]
theorem Anc.unturn {E : List (Int × Int)} {u v : Int} (h : Anc (turned E) v u) : Anc E u v := by
  have := h.turn
  rw [turned_turned] at this
  exact this
theorem nodup_len {α : Type} [DecidableEq α] : ∀ {l m : List α}, l.Nodup → (∀ x ∈ l, x ∈ m) → l.length ≤ m.length
  | [], m, _, _ => Nat.zero_le _
  | x :: l, m, h, s => by
    have hx := s x (by simp)
    have h1 := List.nodup_cons.mp h
    have ih := nodup_len (l := l) (m := m.erase x) h1.2 fun y hy => (List.mem_erase_of_ne (fun z => by subst z; exact h1.1 hy)).mpr (s y (List.mem_cons_of_mem _ hy))
    rw [List.length_erase_of_mem hx] at ih
    have : 0 < m.length := List.length_pos_of_mem hx
    rw [List.length_cons]
    omega
/-- what runs along a counting is no circle -/
theorem no_circle {E : List (Int × Int)} (f : Int → Int) (h : ∀ e ∈ E, f e.1 < f e.2) : ∀ {u v : Int}, Anc E u v → f u < f v := by
  intro u v a
  induction a with
  | one e => exact h _ e
  | step e _ ih => exact Int.lt_trans (h _ e) ih
structure GoodE (E : List (Int × Int)) (n : Int) : Prop where
  len : E.length ≤ 40
  rng : ∀ e ∈ E, (0 ≤ e.1 ∧ e.1 < n) ∧ (0 ≤ e.2 ∧ e.2 < n) ∧ e.1 ≠ e.2
  ris : E.Pairwise fun x y => SrtO.lexB x y = true
  acy : ∀ p, ¬ Anc E p p
def GoodT (T : List (Int × Int)) : Prop := T.length ≤ 40 ∧ ∀ t ∈ T, 0 ≤ t.1 ∧ t.1 ≤ t.2 ∧ t.2 ≤ 20000
/-- the greatest since of all ahead, the least until of all behind -/
structure NarrowAt (T E : List (Int × Int)) (i : Nat) (r : Int × Int) : Prop where
  s1 : ∃ (j : Nat) (t : Int × Int), (j = i ∨ Anc E j i) ∧ T[j]? = some t ∧ t.1 = r.1
  s2 : ∀ (j : Nat) (t : Int × Int), (j = i ∨ Anc E j i) → T[j]? = some t → t.1 ≤ r.1
  u1 : ∃ (j : Nat) (t : Int × Int), (j = i ∨ Anc E i j) ∧ T[j]? = some t ∧ t.2 = r.2
  u2 : ∀ (j : Nat) (t : Int × Int), (j = i ∨ Anc E i j) → T[j]? = some t → r.2 ≤ t.2
def IsNarrow (T E R : List (Int × Int)) : Prop := R.length = T.length ∧ ∀ (i : Nat) (r : Int × Int), R[i]? = some r → NarrowAt T E i r
theorem NarrowAt.uniq {T E : List (Int × Int)} {i : Nat} {r q : Int × Int} (h : NarrowAt T E i r) (g : NarrowAt T E i q) : r = q := by
  obtain ⟨j, t, h1, h2, h3⟩ := h.s1
  obtain ⟨j', t', g1, g2, g3⟩ := g.s1
  have a1 := g.s2 j t h1 h2
  have a2 := h.s2 j' t' g1 g2
  obtain ⟨k, w, h4, h5, h6⟩ := h.u1
  obtain ⟨k', w', g4, g5, g6⟩ := g.u1
  have b1 := g.u2 k w h4 h5
  have b2 := h.u2 k' w' g4 g5
  have e1 : r.1 = q.1 := by omega
  have e2 : r.2 = q.2 := by omega
  cases r
  cases q
  simp_all
theorem IsNarrow.uniq {T E R Q : List (Int × Int)} (h : IsNarrow T E R) (g : IsNarrow T E Q) : R = Q := by
  apply List.ext_getElem?
  intro i
  by_cases hi : i < T.length
  · have h1 : i < R.length := by rw [h.1]; exact hi
    have h2 : i < Q.length := by rw [g.1]; exact hi
    rw [List.getElem?_eq_getElem h1, List.getElem?_eq_getElem h2]
    rw [(h.2 i _ (List.getElem?_eq_getElem h1)).uniq (g.2 i _ (List.getElem?_eq_getElem h2))]
  · rw [List.getElem?_eq_none (by rw [h.1]; omega), List.getElem?_eq_none (by rw [g.1]; omega)]
theorem narrow_none {T R : List (Int × Int)} (h : IsNarrow T [] R) : R = T := by
  refine h.uniq ⟨rfl, fun i r e => ?_⟩
  have no : ∀ {u v : Int}, ¬ Anc [] u v := fun a => by cases a <;> simp_all
  refine ⟨⟨i, r, .inl rfl, e, rfl⟩, fun j t hj ht => ?_, ⟨i, r, .inl rfl, e, rfl⟩, fun j t hj ht => ?_⟩
  · rcases hj with rfl | hj
    · rw [e] at ht; cases ht; exact Int.le_refl _
    · exact (no hj).elim
  · rcases hj with rfl | hj
    · rw [e] at ht; cases ht; exact Int.le_refl _
    · exact (no hj).elim
/-- along an order the spans rise -/
theorem narrow_rises {T E R : List (Int × Int)} (h : IsNarrow T E R) {a b : Nat} (e : ((a : Int), (b : Int)) ∈ E) {r q : Int × Int} (hr : R[a]? = some r) (hq : R[b]? = some q) : r.1 ≤ q.1 ∧ r.2 ≤ q.2 := by
  have h1 := h.2 a r hr
  have h2 := h.2 b q hq
  obtain ⟨j, t, g1, g2, g3⟩ := h1.s1
  obtain ⟨k, w, g4, g5, g6⟩ := h2.u1
  constructor
  · rw [← g3]
    refine h2.s2 j t (.inr ?_) g2
    rcases g1 with rfl | g1
    · exact .one e
    · exact g1.snoc e
  · rw [← g6]
    refine h1.u2 k w (.inr ?_) g5
    rcases g4 with rfl | g4
    · exact .one e
    · exact .step e g4
theorem mxI_spec : ∀ (ns : List Int), ns ≠ [] → mxI ns ∈ ns ∧ ∀ x ∈ ns, x ≤ mxI ns
  | [], h => absurd rfl h
  | [x], _ => by simp [mxI]
  | x :: y :: r, _ => by
    obtain ⟨h1, h2⟩ := mxI_spec (y :: r) (by simp)
    have e : mxI (x :: y :: r) = max x (mxI (y :: r)) := rfl
    rw [e]
    refine ⟨?_, fun z hz => ?_⟩
    · rcases Int.le_total x (mxI (y :: r)) with c | c
      · rw [Int.max_eq_right c]; exact List.mem_cons_of_mem _ h1
      · rw [Int.max_eq_left c]; simp
    · rcases List.mem_cons.mp hz with rfl | hz
      · exact Int.le_max_left _ _
      · exact Int.le_trans (h2 z hz) (Int.le_max_right _ _)
theorem mnI_spec : ∀ (ns : List Int), ns ≠ [] → mnI ns ∈ ns ∧ ∀ x ∈ ns, mnI ns ≤ x
  | [], h => absurd rfl h
  | [x], _ => by simp [mnI]
  | x :: y :: r, _ => by
    obtain ⟨h1, h2⟩ := mnI_spec (y :: r) (by simp)
    have e : mnI (x :: y :: r) = min x (mnI (y :: r)) := rfl
    rw [e]
    refine ⟨?_, fun z hz => ?_⟩
    · rcases Int.le_total x (mnI (y :: r)) with c | c
      · rw [Int.min_eq_left c]; simp
      · rw [Int.min_eq_right c]; exact List.mem_cons_of_mem _ h1
    · rcases List.mem_cons.mp hz with rfl | hz
      · exact Int.min_le_left _ _
      · exact Int.le_trans (Int.min_le_right _ _) (h2 z hz)
theorem lexB_total {x y : Int × Int} (h : SrtO.lexB y x = false) (n : x ≠ y) : SrtO.lexB x y = true := by
  rw [SrtO.lexB_iff]
  have z := SrtO.lexB_no.mp h
  have : x.1 ≠ y.1 ∨ x.2 ≠ y.2 := by
    rcases Int.lt_trichotomy x.1 y.1 with c | c | c
    · exact .inl (by omega)
    · refine .inr fun e => n ?_
      cases x; cases y; simp_all
    · exact .inl (by omega)
  omega
/-- orders along a row without doubles -/
theorem good_row {rows : List Int} {n : Int} {qs : List (Int × Int)} (hn : rows.Nodup) (hr : ∀ x ∈ rows, 0 ≤ x ∧ x < n) (hl : qs.length ≤ 40) (hq : qs.Nodup) (hs : qs.Pairwise fun x y => SrtO.lexB y x = false)
    (he : ∀ e ∈ qs, ∃ i j : Nat, i < j ∧ rows[i]? = some e.1 ∧ rows[j]? = some e.2) : GoodE qs n := by
  refine ⟨hl, fun e h => ?_, ?_, ?_⟩
  · obtain ⟨i, j, h1, h2, h3⟩ := he e h
    refine ⟨hr _ (List.mem_of_getElem? h2), hr _ (List.mem_of_getElem? h3), fun z => ?_⟩
    have hi : i < rows.length := (List.getElem?_eq_some_iff.mp h2).1
    have := (List.getElem?_inj hi hn (j := j)).mp (by rw [h2, h3, z])
    omega
  · have := List.Pairwise.and hs hq
    exact this.imp fun ⟨a, b⟩ => lexB_total a b
  · intro p hp
    have key : ∃ f : Int → Int, ∀ e ∈ qs, f e.1 < f e.2 := by
      classical
      refine ⟨fun u => if h : ∃ i : Nat, rows[i]? = some u then ((Classical.choose h : Nat) : Int) else 0, fun e h => ?_⟩
      obtain ⟨i, j, h1, h2, h3⟩ := he e h
      have g1 : ∃ i : Nat, rows[i]? = some e.1 := ⟨i, h2⟩
      have g2 : ∃ i : Nat, rows[i]? = some e.2 := ⟨j, h3⟩
      have c1 := Classical.choose_spec g1
      have c2 := Classical.choose_spec g2
      have i1 : i < rows.length := (List.getElem?_eq_some_iff.mp h2).1
      have i2 : j < rows.length := (List.getElem?_eq_some_iff.mp h3).1
      have d1 := (List.getElem?_inj i1 hn (j := Classical.choose g1)).mp (by rw [h2, c1])
      have d2 := (List.getElem?_inj i2 hn (j := Classical.choose g2)).mp (by rw [h3, c2])
      show (if h : ∃ i : Nat, rows[i]? = some e.1 then ((Classical.choose h : Nat) : Int) else 0) < (if h : ∃ i : Nat, rows[i]? = some e.2 then ((Classical.choose h : Nat) : Int) else 0)
      rw [dif_pos g1, dif_pos g2]
      omega
    obtain ⟨f, hf⟩ := key
    have := no_circle f hf hp
    omega
theorem anc_rng {E : List (Int × Int)} {n : Int} (h : ∀ e ∈ E, (0 ≤ e.1 ∧ e.1 < n) ∧ (0 ≤ e.2 ∧ e.2 < n) ∧ e.1 ≠ e.2) {u v : Int} (a : Anc E u v) : (0 ≤ u ∧ u < n) ∧ (0 ≤ v ∧ v < n) := by
  induction a with
  | one e => exact ⟨(h _ e).1, (h _ e).2.1⟩
  | step e _ ih => exact ⟨(h _ e).1, ih.2⟩
end Lw

/-! Mathematics: rounds of one order after the other end at the narrow spans. -/
namespace Lw
open PySem PySem.Spec PyProof.Rows L2 DL
def gt (xs : List (Int × Int)) (i : Nat) : Int × Int := xs.getD i (0, 0)
theorem gt_eq {xs : List (Int × Int)} {i : Nat} {x : Int × Int} (h : xs[i]? = some x) : gt xs i = x := by
  unfold gt
  rw [List.getD_eq_getElem?_getD, h]
  rfl
theorem gt_get {xs : List (Int × Int)} {i : Nat} (h : i < xs.length) : xs[i]? = some (gt xs i) := by
  rw [List.getElem?_eq_getElem h, gt_eq (List.getElem?_eq_getElem h)]
theorem gt_set {xs : List (Int × Int)} {i j : Nat} {x : Int × Int} (h : i < xs.length) : gt (xs.set i x) j = if i = j then x else gt xs j := by
  unfold gt
  rw [List.getD_eq_getElem?_getD, List.getD_eq_getElem?_getD]
  by_cases c : i = j
  · subst c
    rw [if_pos rfl, List.getElem?_set_self h]
    rfl
  · rw [if_neg c, List.getElem?_set_ne c]
def relax1 (xs : List (Int × Int)) (e : Int × Int) : List (Int × Int) := xs.set e.2.toNat (max (gt xs e.2.toNat).1 (gt xs e.1.toNat).1, (gt xs e.2.toNat).2)
def relax2 (xs : List (Int × Int)) (e : Int × Int) : List (Int × Int) := xs.set e.1.toNat ((gt xs e.1.toNat).1, min (gt xs e.1.toNat).2 (gt xs e.2.toNat).2)
def relax (xs : List (Int × Int)) (e : Int × Int) : List (Int × Int) := relax2 (relax1 xs e) e
def rounds (T E : List (Int × Int)) : Nat → List (Int × Int)
  | 0 => T
  | k + 1 => E.foldl relax (rounds T E k)
theorem relax_len (xs : List (Int × Int)) (e : Int × Int) : (relax xs e).length = xs.length := by
  unfold relax relax2 relax1
  rw [List.length_set, List.length_set]
theorem fold_len : ∀ (E xs : List (Int × Int)), (E.foldl relax xs).length = xs.length
  | [], _ => rfl
  | e :: E, xs => by rw [List.foldl_cons, fold_len E, relax_len]
theorem rounds_len (T E : List (Int × Int)) : ∀ k, (rounds T E k).length = T.length
  | 0 => rfl
  | k + 1 => by rw [rounds, fold_len, rounds_len T E k]
/-- what one order does -/
theorem relax_at {xs : List (Int × Int)} {a b : Nat} (ha : a < xs.length) (hb : b < xs.length) (ne : a ≠ b) (j : Nat) :
    gt (relax xs ((a : Int), (b : Int))) j = if j = a then ((gt xs a).1, min (gt xs a).2 (gt xs b).2) else if j = b then (max (gt xs b).1 (gt xs a).1, (gt xs b).2) else gt xs j := by
  unfold relax relax2 relax1
  simp only [Int.toNat_natCast]
  rw [gt_set (by rw [List.length_set]; exact ha), gt_set hb, gt_set hb, gt_set hb]
  by_cases c1 : j = a
  · subst c1
    rw [if_pos rfl, if_pos rfl, if_neg (Ne.symm ne), if_pos rfl]
  · rw [if_neg (Ne.symm c1), if_neg c1]
    by_cases c2 : j = b
    · subst c2
      rw [if_pos rfl]
      try rw [if_pos rfl]
    · rw [if_neg (Ne.symm c2), if_neg c2]
section
variable {T E : List (Int × Int)}
/-- what stands there comes from what is ahead, behind -/
def Lo (T E xs : List (Int × Int)) : Prop := ∀ i : Nat, i < T.length → (∃ (j : Nat), j < T.length ∧ ((j : Int) = i ∨ Anc E j i) ∧ (gt T j).1 = (gt xs i).1) ∧ ∃ (j : Nat), j < T.length ∧ ((j : Int) = i ∨ Anc E i j) ∧ (gt T j).2 = (gt xs i).2
def Mono (n : Nat) (xs ys : List (Int × Int)) : Prop := ∀ i : Nat, i < n → (gt xs i).1 ≤ (gt ys i).1 ∧ (gt ys i).2 ≤ (gt xs i).2
theorem Mono.refl {n : Nat} (xs : List (Int × Int)) : Mono n xs xs := fun _ _ => ⟨Int.le_refl _, Int.le_refl _⟩
theorem Mono.trans {n : Nat} {xs ys zs : List (Int × Int)} (h : Mono n xs ys) (g : Mono n ys zs) : Mono n xs zs := fun i hi => ⟨Int.le_trans (h i hi).1 (g i hi).1, Int.le_trans (g i hi).2 (h i hi).2⟩
theorem relax_mono {xs : List (Int × Int)} {a b : Nat} (ha : a < xs.length) (hb : b < xs.length) (ne : a ≠ b) : Mono xs.length xs (relax xs ((a : Int), (b : Int))) ∧ (gt xs a).1 ≤ (gt (relax xs ((a : Int), (b : Int))) b).1 ∧ (gt (relax xs ((a : Int), (b : Int))) a).2 ≤ (gt xs b).2 := by
  refine ⟨fun j hj => ?_, ?_, ?_⟩
  · rw [relax_at ha hb ne]
    by_cases c1 : j = a
    · subst c1
      rw [if_pos rfl]
      exact ⟨Int.le_refl _, Int.min_le_left _ _⟩
    · rw [if_neg c1]
      by_cases c2 : j = b
      · subst c2
        rw [if_pos rfl]
        exact ⟨Int.le_max_left _ _, Int.le_refl _⟩
      · rw [if_neg c2]
        exact ⟨Int.le_refl _, Int.le_refl _⟩
  · rw [relax_at ha hb ne, if_neg (Ne.symm ne), if_pos rfl]
    exact Int.le_max_right _ _
  · rw [relax_at ha hb ne, if_pos rfl]
    exact Int.min_le_right _ _
theorem edge {n : Nat} (h : GoodE E n) {e : Int × Int} (he : e ∈ E) : ∃ a b : Nat, e = ((a : Int), (b : Int)) ∧ a < n ∧ b < n ∧ a ≠ b := by
  obtain ⟨⟨h1, h2⟩, ⟨h3, h4⟩, h5⟩ := h.rng e he
  refine ⟨e.1.toNat, e.2.toNat, ?_, by omega, by omega, by omega⟩
  cases e
  simp only [Prod.mk.injEq] at *
  omega
theorem fold_mono {n : Nat} (h : GoodE E n) : ∀ (es xs : List (Int × Int)), (∀ e ∈ es, e ∈ E) → xs.length = n → Mono n xs (es.foldl relax xs) ∧ ∀ a b : Nat, ((a : Int), (b : Int)) ∈ es → (gt xs a).1 ≤ (gt (es.foldl relax xs) b).1 ∧ (gt (es.foldl relax xs) a).2 ≤ (gt xs b).2
  | [], xs, _, _ => ⟨Mono.refl _, fun a b hab => by cases hab⟩
  | e :: es, xs, hs, hl => by
    obtain ⟨a, b, rfl, ha, hb, ne⟩ := edge h (hs e (by simp))
    obtain ⟨m1, m2, m3⟩ := relax_mono (xs := xs) (by omega) (by omega) ne
    rw [hl] at m1
    obtain ⟨g1, g2⟩ := fold_mono h es (relax xs ((a : Int), (b : Int))) (fun e he => hs e (List.mem_cons_of_mem _ he)) (by rw [relax_len, hl])
    rw [List.foldl_cons]
    refine ⟨m1.trans g1, fun c d hcd => ?_⟩
    have key : ∀ c d : Nat, c < n → d < n → ((c : Int), (d : Int)) ∈ es → (gt xs c).1 ≤ (gt (es.foldl relax (relax xs ((a : Int), (b : Int)))) d).1 ∧ (gt (es.foldl relax (relax xs ((a : Int), (b : Int)))) c).2 ≤ (gt xs d).2 := fun c d hc hd hm =>
      ⟨Int.le_trans (m1 c hc).1 (g2 c d hm).1, Int.le_trans (g2 c d hm).2 (m1 d hd).2⟩
    rcases List.mem_cons.mp hcd with z | hm
    · simp only [Prod.mk.injEq, Int.natCast_inj] at z
      obtain ⟨rfl, rfl⟩ := z
      exact ⟨Int.le_trans m2 (g1 d hb).1, Int.le_trans (g1 c ha).2 m3⟩
    · obtain ⟨c', d', e2, hc, hd, _⟩ := edge h (hs _ (List.mem_cons_of_mem _ hm))
      simp only [Prod.mk.injEq, Int.natCast_inj] at e2
      obtain ⟨rfl, rfl⟩ := e2
      exact key c d hc hd hm
theorem relax_lo {xs : List (Int × Int)} (hl : xs.length = T.length) (h : GoodE E T.length) (lo : Lo T E xs) {e : Int × Int} (he : e ∈ E) : Lo T E (relax xs e) := by
  obtain ⟨a, b, rfl, ha, hb, ne⟩ := edge h he
  intro i hi
  rw [relax_at (by omega) (by omega) ne]
  have li := lo i hi
  by_cases c1 : i = a
  · subst c1
    rw [if_pos rfl]
    refine ⟨li.1, ?_⟩
    show ∃ j : Nat, j < T.length ∧ ((j : Int) = i ∨ Anc E i j) ∧ (gt T j).2 = min (gt xs i).2 (gt xs b).2
    rcases Int.le_total (gt xs i).2 (gt xs b).2 with c | c
    · rw [Int.min_eq_left c]
      exact li.2
    · rw [Int.min_eq_right c]
      obtain ⟨j, hj, p, e⟩ := (lo b hb).2
      refine ⟨j, hj, .inr ?_, e⟩
      rcases p with p | p
      · rw [p]; exact .one he
      · exact .step he p
  · rw [if_neg c1]
    by_cases c2 : i = b
    · subst c2
      rw [if_pos rfl]
      refine ⟨?_, li.2⟩
      show ∃ j : Nat, j < T.length ∧ ((j : Int) = i ∨ Anc E j i) ∧ (gt T j).1 = max (gt xs i).1 (gt xs a).1
      rcases Int.le_total (gt xs i).1 (gt xs a).1 with c | c
      · rw [Int.max_eq_right c]
        obtain ⟨j, hj, p, e⟩ := (lo a ha).1
        refine ⟨j, hj, .inr ?_, e⟩
        rcases p with p | p
        · rw [p]; exact .one he
        · exact p.snoc he
      · rw [Int.max_eq_left c]
        exact li.1
    · rw [if_neg c2]
      exact li
theorem fold_lo (h : GoodE E T.length) : ∀ (es xs : List (Int × Int)), (∀ e ∈ es, e ∈ E) → xs.length = T.length → Lo T E xs → Lo T E (es.foldl relax xs)
  | [], _, _, _, lo => lo
  | e :: es, xs, hs, hl, lo => fold_lo h es _ (fun e he => hs e (List.mem_cons_of_mem _ he)) (by rw [relax_len, hl]) (relax_lo hl h lo (hs e (by simp)))
theorem rounds_lo (h : GoodE E T.length) : ∀ k, Lo T E (rounds T E k)
  | 0 => fun i hi => ⟨⟨i, hi, .inl rfl, rfl⟩, ⟨i, hi, .inl rfl, rfl⟩⟩
  | k + 1 => fold_lo h E _ (fun _ h => h) (rounds_len T E k) (rounds_lo h k)
/-- a path of m orders -/
inductive PathN (E : List (Int × Int)) : Nat → Int → Int → Prop
  | nil (u : Int) : PathN E 0 u u
  | cons {m : Nat} {u x v : Int} : (u, x) ∈ E → PathN E m x v → PathN E (m + 1) u v
theorem PathN.snoc {m : Nat} {u x v : Int} (h : PathN E m u x) (e : (x, v) ∈ E) : PathN E (m + 1) u v := by
  induction h with
  | nil => exact .cons e (.nil _)
  | cons h _ ih => exact .cons h (ih e)
theorem PathN.last {m : Nat} {u v : Int} (h : PathN E (m + 1) u v) : ∃ x, PathN E m u x ∧ (x, v) ∈ E := by
  induction m generalizing u with
  | zero =>
    cases h with
    | cons e r => cases r; exact ⟨u, .nil _, e⟩
  | succ m ih =>
    cases h with
    | cons e r =>
      obtain ⟨x, h1, h2⟩ := ih r
      exact ⟨x, .cons e h1, h2⟩
theorem rounds_hi (h : GoodE E T.length) : ∀ k, (∀ (m i j : Nat), m ≤ k → i < T.length → j < T.length → PathN E m j i → (gt T j).1 ≤ (gt (rounds T E k) i).1) ∧ ∀ (m i j : Nat), m ≤ k → i < T.length → j < T.length → PathN E m i j → (gt (rounds T E k) i).2 ≤ (gt T j).2
  | 0 => by
    refine ⟨fun m i j hm hi hj p => ?_, fun m i j hm hi hj p => ?_⟩
    · have : m = 0 := by omega
      subst this
      have e : (j : Int) = i := by cases p; rfl
      have : j = i := by omega
      subst this
      exact Int.le_refl _
    · have : m = 0 := by omega
      subst this
      have e : (i : Int) = j := by cases p; rfl
      have : i = j := by omega
      subst this
      exact Int.le_refl _
  | k + 1 => by
    obtain ⟨h1, h2⟩ := rounds_hi h k
    obtain ⟨m1, m2⟩ := fold_mono h E (rounds T E k) (fun _ h => h) (rounds_len T E k)
    refine ⟨fun m i j hm hi hj p => ?_, fun m i j hm hi hj p => ?_⟩
    · rcases Nat.lt_or_ge k m with c | c
      · have : m = k + 1 := by omega
        subst this
        obtain ⟨x, p1, e⟩ := p.last
        obtain ⟨a, b, e2, ha, hb, _⟩ := edge h e
        simp only [Prod.mk.injEq, Int.natCast_inj] at e2
        obtain ⟨rfl, rfl⟩ := e2
        exact Int.le_trans (h1 k a j (Nat.le_refl _) ha hj p1) (m2 a i e).1
      · exact Int.le_trans (h1 m i j c hi hj p) (m1 i hi).1
    · rcases Nat.lt_or_ge k m with c | c
      · have : m = k + 1 := by omega
        subst this
        cases p with
        | cons e p1 =>
          obtain ⟨a, b, e2, ha, hb, _⟩ := edge h e
          simp only [Prod.mk.injEq, Int.natCast_inj] at e2
          obtain ⟨rfl, rfl⟩ := e2
          exact Int.le_trans (m2 i b e).2 (h2 k b j (Nat.le_refl _) hb hj p1)
      · exact Int.le_trans (m1 i hi).2 (h2 m i j c hi hj p)
/-- a path has fewer orders than there are places -/
theorem path_of {u v : Int} (acy : ∀ p, ¬ Anc E p p) (a : Anc E u v) : ∃ (m : Nat) (l : List Int), PathN E m u v ∧ l.length = m ∧ (u :: l).Nodup ∧ ∀ y ∈ l, Anc E u y := by
  induction a with
  | @one u v e => exact ⟨1, [v], .cons e (.nil _), rfl, by
      refine List.nodup_cons.mpr ⟨fun z => ?_, by simp⟩
      rw [List.mem_singleton] at z
      subst z
      exact acy _ (.one e), fun y hy => by rw [List.mem_singleton] at hy; subst hy; exact .one e⟩
  | @step u x v e r ih =>
    obtain ⟨m, l, p, hl, nd, hy⟩ := ih
    have all : ∀ y ∈ x :: l, Anc E u y := fun y hm => by
      rcases List.mem_cons.mp hm with rfl | hm
      · exact .one e
      · exact .step e (hy y hm)
    exact ⟨m + 1, x :: l, .cons e p, by rw [List.length_cons, hl], List.nodup_cons.mpr ⟨fun z => acy _ (all _ z), nd⟩, all⟩
theorem path_len {n : Nat} (h : GoodE E n) {u v : Int} (a : Anc E u v) : ∃ m, m ≤ n ∧ PathN E m u v := by
  obtain ⟨m, l, p, hl, nd, hy⟩ := path_of h.acy a
  refine ⟨m, ?_, p⟩
  have hn := nodup_len (m := (List.range n).map fun i : Nat => (i : Int)) (List.nodup_cons.mp nd).2 fun y hm => by
    obtain ⟨_, h1, h2⟩ := anc_rng h.rng (hy y hm)
    exact List.mem_map.mpr ⟨y.toNat, List.mem_range.mpr (by omega), by omega⟩
  rw [List.length_map, List.length_range, hl] at hn
  exact hn
theorem rounds_narrow (h : GoodE E T.length) : IsNarrow T E (rounds T E T.length) := by
  refine ⟨rounds_len T E _, fun i r e => ?_⟩
  have hi : i < T.length := by
    have := (List.getElem?_eq_some_iff.mp e).1
    rwa [rounds_len] at this
  have er := gt_eq e
  obtain ⟨l1, l2⟩ := rounds_lo h T.length i hi
  obtain ⟨h1, h2⟩ := rounds_hi h T.length
  refine ⟨?_, fun j t hj ht => ?_, ?_, fun j t hj ht => ?_⟩
  · obtain ⟨j, hj, p, e2⟩ := l1
    refine ⟨j, gt T j, ?_, gt_get hj, by rw [e2, er]⟩
    rcases p with p | p
    · exact .inl (by omega)
    · exact .inr p
  · have hj2 : j < T.length := (List.getElem?_eq_some_iff.mp ht).1
    rw [← er, ← gt_eq ht]
    rcases hj with rfl | a
    · exact h1 0 j j (Nat.zero_le _) hi hi (.nil _)
    · obtain ⟨m, hm, p⟩ := path_len h a
      exact h1 m i j hm hi hj2 p
  · obtain ⟨j, hj, p, e2⟩ := l2
    refine ⟨j, gt T j, ?_, gt_get hj, by rw [e2, er]⟩
    rcases p with p | p
    · exact .inl (by omega)
    · exact .inr p
  · have hj2 : j < T.length := (List.getElem?_eq_some_iff.mp ht).1
    rw [← er, ← gt_eq ht]
    rcases hj with rfl | a
    · exact h2 0 j j (Nat.zero_le _) hi hi (.nil _)
    · obtain ⟨m, hm, p⟩ := path_len h a
      exact h2 m i j hm hi hj2 p
end
end Lw

/-! Rounds of one order after the other, as a list of lists is changed. -/
namespace Lw
open PySem PySem.Spec PyProof.Rows L2 DL
section
variable {B : Bx} {σ : L2.St} {H F : Hp} {ρ ρ0 : List SV}
theorem env_weak (e : Env B σ H F ρ) (hl : ρ0.length = ρ.length) (h : ∀ (i : Nat) (s : SV), ρ0[i]? = some s → s = SV.un ∨ ρ[i]? = some s) : Env B σ H F ρ0 := by
  obtain ⟨b0, st, l, ad, h1, h2⟩ := e
  refine ⟨b0, st, hl.trans l, ad, fun i s q => ?_, fun i j s u q1 q2 m1 m2 ne => ?_⟩
  · rcases h i s q with rfl | q
    · trivial
    · exact h1 i s q
  · rcases h i s q1 with rfl | q1
    · cases m1
    · rcases h j u q2 with rfl | q2
      · cases m2
      · exact h2 i j s u q1 q2 m1 m2 ne
theorem env_chg (e : Env B σ H F ρ) (nm : ∀ s ∈ ρ, s.mu = false) {a : Addr} {o : HO} (h0 : B.H0 a = none) (hF : F a = none) (ho : ∀ xs, o ≠ .tup xs := by intro _ z; cases z) : Env B σ (L2.upd H a o) F ρ := by
  obtain ⟨b0, st, l, ad, h1, h2⟩ := e
  refine ⟨b0, Step.change b0 st h0 hF ho, l, ad, fun i s q => ?_, fun i j s u q1 q2 m1 m2 ne => ?_⟩
  · have z := h1 i s q
    have m := nm s (List.mem_of_getElem? q)
    cases s with
    | own xs => cases m
    | dK xs => cases m
    | dT xs => cases m
    | _ => exact z
  · rw [nm s (List.mem_of_getElem? q1)] at m1
    cases m1
variable {K : PySem.W.Frag} {H0 : Hp} {p : Addr} {as : List Addr} {xss : List (Int × Int)} {n s : Nat} {Q : VK}
theorem cell_ref (N : Nest H0 H F p as xss) {j : Nat} (h2 : σ[n]? = some (some (V.ref p))) (hs : σ[s]? = some (some (V.int (j : Nat)))) (hj : j < xss.length) (q : ∀ a, as[j]? = some a → Q (.ref a) H) : tOp (rIx K) (tVar n) (tVar s) σ H Q := by
  have ha : j < as.length := by rw [N.len]; exact hj
  refine ⟨_, h2, _, hs, .inl ⟨p, _, _, .ref as[j], rfl, rfl, SqL.of N.pl, atI_nat (j := j) (by rw [List.getElem?_map, List.getElem?_eq_getElem ha]; rfl), q _ (List.getElem?_eq_getElem ha)⟩⟩
theorem cell_0 (N : Nest H0 H F p as xss) {j : Nat} (h2 : σ[n]? = some (some (V.ref p))) (hs : σ[s]? = some (some (V.int (j : Nat)))) (hj : j < xss.length) (q : Q (.int (gt xss j).1) H) : tOp (rIx K) (tOp (rIx K) (tVar n) (tVar s)) (tC (.int 0)) σ H Q :=
  cell_ref N h2 hs hj fun a ha => .inl ⟨a, _, 0, _, rfl, rfl, SqL.of (N.row j a _ ha (gt_get hj)), at0 _ _, q⟩
theorem cell_1 (N : Nest H0 H F p as xss) {j : Nat} (h2 : σ[n]? = some (some (V.ref p))) (hs : σ[s]? = some (some (V.int (j : Nat)))) (hj : j < xss.length) (q : Q (.int (gt xss j).2) H) : tOp (rIx K) (tOp (rIx K) (tVar n) (tVar s)) (tC (.int 1)) σ H Q :=
  cell_ref N h2 hs hj fun a ha => .inl ⟨a, _, 1, _, rfl, rfl, SqL.of (N.row j a _ ha (gt_get hj)), at1 _ _ _, q⟩
theorem max_if (i j : Int) : (if j > i then j else i) = max i j := by split <;> omega
theorem min_if (i j : Int) : (if j < i then j else i) = min i j := by split <;> omega
def rMx2 : List V → Hp → VK → Prop := fun xs H Q => ∃ i j, xs = [.int i, .int j] ∧ Q (.int (if j > i then j else i)) H
def rMn2 : List V → Hp → VK → Prop := fun xs H Q => ∃ i j, xs = [.int i, .int j] ∧ Q (.int (if j < i then j else i)) H
/-- spans[other][0] = max(spans[other][0], spans[one][0]); spans[one][1] = min(spans[one][1], spans[other][1]) -/
theorem relax_body {De : Ends} (e : Env B σ H F ρ) (nm : ∀ s ∈ ρ, s.mu = false) (N : Nest B.H0 H F p as xss) {a b : Nat} (h2 : σ[2]? = some (some (V.ref p))) (h4 : σ[4]? = some (some (V.int (a : Nat)))) (h5 : σ[5]? = some (some (V.int (b : Nat)))) (ha : a < xss.length) (hb : b < xss.length)
    (k : ∀ H', Env B σ H' F ρ → Nest B.H0 H' F p as (relax xss ((a : Int), (b : Int))) → De.nx σ H') :
    tSeq (tAsg (tCB rMx2 (tCons (tOp (rIx K) (tOp (rIx K) (tVar 2) (tVar 5)) (tC (.int 0))) (tCons (tOp (rIx K) (tOp (rIx K) (tVar 2) (tVar 4)) (tC (.int 0))) tNil))) (gSub (tOp (rIx K) (tVar 2) (tVar 5)) (tC (.int 0)) rSetL))
      (tAsg (tCB rMn2 (tCons (tOp (rIx K) (tOp (rIx K) (tVar 2) (tVar 4)) (tC (.int 1))) (tCons (tOp (rIx K) (tOp (rIx K) (tVar 2) (tVar 5)) (tC (.int 1))) tNil))) (gSub (tOp (rIx K) (tVar 2) (tVar 4)) (tC (.int 1)) rSetL)) De σ H := by
  refine cell_0 N h2 h5 hb (cell_0 N h2 h4 ha ⟨_, _, rfl, ?_⟩)
  refine cell_ref N h2 h5 hb fun c hc => ⟨c, _, 0, 0, rfl, rfl, N.row b c _ hc (gt_get hb), rfl, ?_⟩
  have N1 : Nest B.H0 (L2.upd H c (.lst [.int (max (gt xss b).1 (gt xss a).1), .int (gt xss b).2])) F p as (relax1 xss ((a : Int), (b : Int))) := by
    have := N.set (x := (max (gt xss b).1 (gt xss a).1, (gt xss b).2)) hc
    unfold relax1
    simp only [Int.toNat_natCast]
    exact this
  have ow := N.ow c (List.mem_cons_of_mem _ (List.mem_of_getElem? hc))
  have e1 : Env B σ (L2.upd H c (.lst [.int (max (gt xss b).1 (gt xss a).1), .int (gt xss b).2])) F ρ := env_chg e nm ow.1 ow.2
  have l1 : (relax1 xss ((a : Int), (b : Int))).length = xss.length := by unfold relax1; rw [List.length_set]
  rw [max_if]
  refine cell_1 N1 h2 h4 (by rw [l1]; exact ha) (cell_1 N1 h2 h5 (by rw [l1]; exact hb) ⟨_, _, rfl, ?_⟩)
  refine cell_ref N1 h2 h4 (by rw [l1]; exact ha) fun d hd => ⟨d, _, 1, 1, rfl, rfl, N1.row a d _ hd (gt_get (by rw [l1]; exact ha)), rfl, ?_⟩
  have ow2 := N1.ow d (List.mem_cons_of_mem _ (List.mem_of_getElem? hd))
  rw [min_if]
  refine k _ (env_chg e1 nm ow2.1 ow2.2) ?_
  have := N1.set (x := ((gt (relax1 xss ((a : Int), (b : Int))) a).1, min (gt (relax1 xss ((a : Int), (b : Int))) a).2 (gt (relax1 xss ((a : Int), (b : Int))) b).2)) hd
  unfold relax relax2
  simp only [Int.toNat_natCast]
  exact this
theorem seq_of {t u : TS} {D : Ends} (h : t { D with nx := u D } σ H) : tSeq t u D σ H := h
theorem asg_of {te : TE} {g : TG} {D : Ends} (h : te σ H fun x H1 => g x σ H1 D.nx) : tAsg te g D σ H := h
theorem name_of {i : Nat} {v : V} {R : L2.St → Hp → Prop} (h : R (σ.set i (some v)) H) : gName i v σ H R := h
theorem ret_of {te : TE} {D : Ends} (h : te σ H D.rt) : tRet te D σ H := h
theorem for_of {wi : TI} {g : TG} {tb : TS} {D : Ends} (h : wi σ H fun J H1 => ∃ W : Nat → Nat → L2.St → Hp → Prop, (∃ m, W 0 m σ H1) ∧ ∀ i m σ H, W i m σ H →
    (J.stop i H ∧ D.nx σ H) ∨ (J.go i H ∧ ∃ N : L2.St → Hp → Prop, (∀ σ' H', N σ' H' → ∃ m', m' < m ∧ W (i + 1) m' σ' H') ∧ ∀ x H', J.yld i H x H' → g x σ H' fun σ2 H2 => tb { D with nx := N, ct := N, bk := D.nx } σ2 H2)) : tFor wi g tb D σ H := h
theorem wipe_at {σ σ' : L2.St} {vs : List Nat} {j : Nat} (h : wipe σ' vs = wipe σ vs) (hj : j ∉ vs) : σ'[j]? = σ[j]? := by
  have a := congrArg (fun l => l[j]?) h
  simp only [wipe_get] at a
  rw [if_neg (fun c => hj c.1), if_neg (fun c => hj c.1)] at a
  exact a
end
end Lw

/-! Mathematics of hours and of the fewest bells. -/
namespace Lw
open PySem PySem.Spec PyProof.Rows L2 DL
/-! ### the last open tick between two -/
def LastO (op : Int → Bool) (lo hi : Int) : Option Int → Prop
  | some t => op t = true ∧ lo ≤ t ∧ t ≤ hi ∧ ∀ u, t < u → u ≤ hi → op u = false
  | none => ∀ u, lo ≤ u → u ≤ hi → op u = false
theorem LastO.uniq {op : Int → Bool} {lo hi : Int} : ∀ {r s : Option Int}, LastO op lo hi r → LastO op lo hi s → r = s
  | none, none, _, _ => rfl
  | some t, none, h, g => by
    obtain ⟨h1, h2, h3, _⟩ := h
    rw [g t h2 h3] at h1
    cases h1
  | none, some t, h, g => by
    obtain ⟨h1, h2, h3, _⟩ := g
    rw [h t h2 h3] at h1
    cases h1
  | some t, some u, h, g => by
    obtain ⟨h1, h2, h3, h4⟩ := h
    obtain ⟨g1, g2, g3, g4⟩ := g
    rcases Int.lt_trichotomy t u with c | c | c
    · rw [h4 u c g3] at g1; cases g1
    · rw [c]
    · rw [g4 t c h3] at h1; cases h1
def lastN (op : Int → Bool) (lo : Int) : Nat → Option Int
  | 0 => none
  | n + 1 => if op (lo + n) = true then some (lo + n) else lastN op lo n
theorem lastN_spec (op : Int → Bool) (lo : Int) : ∀ n : Nat, LastO op lo (lo + n - 1) (lastN op lo n)
  | 0 => fun u h1 h2 => by omega
  | n + 1 => by
    unfold lastN
    by_cases c : op (lo + n) = true
    · rw [if_pos c]
      exact ⟨c, by omega, by omega, fun u h1 h2 => by omega⟩
    · rw [if_neg c]
      have ih := lastN_spec op lo n
      have c' : op (lo + n) = false := by simpa using c
      cases e : lastN op lo n with
      | none =>
        rw [e] at ih
        intro u h1 h2
        by_cases h3 : u = lo + n
        · rw [h3]; exact c'
        · exact ih u h1 (by omega)
      | some t =>
        rw [e] at ih
        obtain ⟨h1, h2, h3, h4⟩ := ih
        refine ⟨h1, h2, by omega, fun u h5 h6 => ?_⟩
        by_cases h7 : u = lo + n
        · rw [h7]; exact c'
        · exact h4 u h5 (by omega)
def lastO (op : Int → Bool) (lo hi : Int) : Option Int := lastN op lo (hi - lo + 1).toNat
theorem lastO_spec (op : Int → Bool) (lo hi : Int) : LastO op lo hi (lastO op lo hi) := by
  unfold lastO
  have h := lastN_spec op lo (hi - lo + 1).toNat
  by_cases c : lo ≤ hi + 1
  · have e : lo + ((hi - lo + 1).toNat : Int) - 1 = hi := by omega
    rwa [e] at h
  · have e : (hi - lo + 1).toNat = 0 := by omega
    rw [e]
    intro u h1 h2
    omega
theorem lastO_of {op : Int → Bool} {lo hi : Int} {r : Option Int} (h : LastO op lo hi r) : lastO op lo hi = r := (lastO_spec op lo hi).uniq h
theorem lastO_some {op : Int → Bool} {lo hi t : Int} (h : lastO op lo hi = some t) : op t = true ∧ lo ≤ t ∧ t ≤ hi ∧ ∀ u, t < u → u ≤ hi → op u = false := by
  have := lastO_spec op lo hi
  rw [h] at this
  exact this
theorem lastO_none {op : Int → Bool} {lo hi : Int} (h : lastO op lo hi = none) : ∀ u, lo ≤ u → u ≤ hi → op u = false := by
  have := lastO_spec op lo hi
  rw [h] at this
  exact this
theorem lastO_congr {op op' : Int → Bool} (h : ∀ t, op t = op' t) (lo hi : Int) : lastO op lo hi = lastO op' lo hi := by
  have : op = op' := funext h
  rw [this]
theorem lastO_has {op : Int → Bool} {lo hi u : Int} (h1 : lo ≤ u) (h2 : u ≤ hi) (h3 : op u = true) : ∃ t, lastO op lo hi = some t ∧ u ≤ t := by
  cases e : lastO op lo hi with
  | none =>
    have := lastO_none e u h1 h2
    rw [h3] at this
    cases this
  | some t =>
    refine ⟨t, rfl, ?_⟩
    obtain ⟨g1, g2, g3, g4⟩ := lastO_some e
    rcases Int.lt_trichotomy t u with c | c | c
    · rw [g4 u c h2] at h3; cases h3
    · omega
    · omega
/-- the same by days -/
theorem lastO_window {op : Int → Bool} (per : ∀ u v : Int, u % 96 = v % 96 → op u = op v) (lo hi : Int) : lastO op lo hi = lastO op (max lo (hi - 95)) hi := by
  refine lastO_of ?_
  cases e : lastO op (max lo (hi - 95)) hi with
  | some t =>
    obtain ⟨h1, h2, h3, h4⟩ := lastO_some e
    exact ⟨h1, by omega, h3, h4⟩
  | none =>
    have h := lastO_none e
    intro u h1 h2
    by_cases c : hi - 95 ≤ u
    · exact h u (by omega) h2
    · have z := h (hi - (hi - u) % 96) (by omega) (by omega)
      rw [per u (hi - (hi - u) % 96) (by omega)]
      exact z
theorem lastO_shift {op : Int → Bool} {d : Int} (hd : ∀ t, op (t + d) = op t) (lo hi : Int) : lastO op (lo + d) (hi + d) = (lastO op lo hi).map (· + d) := by
  refine lastO_of ?_
  cases e : lastO op lo hi with
  | some t =>
    obtain ⟨h1, h2, h3, h4⟩ := lastO_some e
    show LastO op (lo + d) (hi + d) (some (t + d))
    refine ⟨by rw [hd]; exact h1, by omega, by omega, fun u h5 h6 => ?_⟩
    have := h4 (u - d) (by omega) (by omega)
    rwa [← hd, Int.sub_add_cancel] at this
  | none =>
    intro u h5 h6
    have := lastO_none e (u - d) (by omega) (by omega)
    rwa [← hd, Int.sub_add_cancel] at this
/-! ### the fewest bells, each as late as can be -/
/-- the first span without an open tick -/
def NoAt (op : Int → Bool) (R : List (Int × Int)) (i : Nat) : Prop := (∃ s, R[i]? = some s ∧ lastO op s.1 s.2 = none) ∧ ∀ j s, j < i → R[j]? = some s → lastO op s.1 s.2 ≠ none
def AllHave (op : Int → Bool) (R : List (Int × Int)) : Prop := ∀ s ∈ R, ∃ t, lastO op s.1 s.2 = some t
def GB (op : Int → Bool) (R : List (Int × Int)) : Int → List Int → Prop
  | b, [] => ∀ s ∈ R, s.1 ≤ b
  | b, m :: r => (∃ s ∈ R, b < s.1 ∧ lastO op s.1 s.2 = some m) ∧ (∀ s ∈ R, b < s.1 → ∀ t, lastO op s.1 s.2 = some t → m ≤ t) ∧ GB op R m r
def Out (op : Int → Bool) (R : List (Int × Int)) : Option (List Int) → Prop
  | none => ∃ i, NoAt op R i
  | some B => AllHave op R ∧ GB op R (-1) B
def oL : Option (List Int) → D
  | none => .none
  | some B => .list (B.map .int)
section
variable {op op' : Int → Bool} {R R' : List (Int × Int)}
theorem NoAt.not {i : Nat} (h : NoAt op R i) : ¬ AllHave op R := fun a => by
  obtain ⟨⟨s, h1, h2⟩, _⟩ := h
  obtain ⟨t, h3⟩ := a s (List.mem_of_getElem? h1)
  rw [h2] at h3
  cases h3
theorem noAt_uniq {i j : Nat} (h : NoAt op R i) (g : NoAt op R j) : i = j := by
  obtain ⟨⟨s, h1, h2⟩, h3⟩ := h
  obtain ⟨⟨u, g1, g2⟩, g3⟩ := g
  rcases Nat.lt_trichotomy i j with c | c | c
  · exact absurd h2 (g3 i s c h1)
  · exact c
  · exact absurd g2 (h3 j u c g1)
theorem GB.uniq : ∀ {x y : List Int} {b : Int}, GB op R b x → GB op R b y → x = y
  | [], [], _, _, _ => rfl
  | [], m :: r, b, h, g => by
    obtain ⟨⟨s, h1, h2, _⟩, _⟩ := g
    have := h s h1
    omega
  | m :: r, [], b, h, g => by
    obtain ⟨⟨s, h1, h2, _⟩, _⟩ := h
    have := g s h1
    omega
  | m :: r, n :: q, b, h, g => by
    obtain ⟨⟨s, h1, h2, h3⟩, h4, h5⟩ := h
    obtain ⟨⟨u, g1, g2, g3⟩, g4, g5⟩ := g
    have e1 := h4 u g1 g2 n g3
    have e2 := g4 s h1 h2 m h3
    have e : m = n := by omega
    subst e
    rw [GB.uniq h5 g5]
theorem Out.uniq : ∀ {x y : Option (List Int)}, Out op R x → Out op R y → x = y
  | none, none, _, _ => rfl
  | none, some B, ⟨i, h⟩, g => absurd g.1 h.not
  | some B, none, h, ⟨i, g⟩ => absurd h.1 g.not
  | some B, some C, h, g => by rw [GB.uniq h.2 g.2]
theorem GB.congr (hm : ∀ s, s ∈ R ↔ s ∈ R') (ho : ∀ t, op t = op' t) : ∀ {B : List Int} {b : Int}, GB op R b B → GB op' R' b B
  | [], b, h => fun s hs => h s ((hm s).mpr hs)
  | m :: r, b, ⟨⟨s, h1, h2, h3⟩, h4, h5⟩ => by
    refine ⟨⟨s, (hm s).mp h1, h2, by rw [← lastO_congr ho]; exact h3⟩, fun u hu hb t ht => h4 u ((hm u).mpr hu) hb t (by rw [lastO_congr ho]; exact ht), GB.congr hm ho h5⟩
theorem AllHave.congr (hm : ∀ s, s ∈ R ↔ s ∈ R') (ho : ∀ t, op t = op' t) (h : AllHave op R) : AllHave op' R' := fun s hs => by
  obtain ⟨t, ht⟩ := h s ((hm s).mpr hs)
  exact ⟨t, by rw [← lastO_congr ho]; exact ht⟩
theorem all_or (op : Int → Bool) : ∀ R : List (Int × Int), AllHave op R ∨ ∃ i, NoAt op R i
  | [] => .inl fun s hs => by cases hs
  | s :: R => by
    cases e : lastO op s.1 s.2 with
    | none => exact .inr ⟨0, ⟨s, rfl, e⟩, fun j u hj => absurd hj (Nat.not_lt_zero _)⟩
    | some t =>
      rcases all_or op R with h | ⟨i, ⟨u, h1, h2⟩, h3⟩
      · refine .inl fun u hu => ?_
        rcases List.mem_cons.mp hu with rfl | hu
        · exact ⟨t, e⟩
        · exact h u hu
      · refine .inr ⟨i + 1, ⟨u, by simpa using h1, h2⟩, fun j v hj hv => ?_⟩
        cases j with
        | zero =>
          simp at hv
          subst hv
          rw [e]
          intro z
          cases z
        | succ j => exact h3 j v (by omega) (by simpa using hv)
theorem Out.congr (hm : ∀ s, s ∈ R ↔ s ∈ R') (ho : ∀ t, op t = op' t) : ∀ {x : Option (List Int)}, Out op R x → Out op' R' x
  | some B, h => ⟨h.1.congr hm ho, h.2.congr hm ho⟩
  | none, ⟨i, h⟩ => by
    rcases all_or op' R' with a | a
    · exact absurd (a.congr (fun s => (hm s).symm) fun t => (ho t).symm) h.not
    · exact a
theorem GB.hits (a : AllHave op R) : ∀ {B : List Int} {b : Int}, GB op R b B → ∀ s ∈ R, b < s.1 → ∃ m ∈ B, s.1 ≤ m ∧ m ≤ s.2
  | [], b, h, s, hs, hb => by
    have := h s hs
    omega
  | m :: r, b, ⟨_, h4, h5⟩, s, hs, hb => by
    obtain ⟨t, ht⟩ := a s hs
    obtain ⟨_, t1, t2, _⟩ := lastO_some ht
    have := h4 s hs hb t ht
    by_cases c : s.1 ≤ m
    · exact ⟨m, by simp, c, by omega⟩
    · obtain ⟨n, h6, h7⟩ := GB.hits a h5 s hs (by omega)
      exact ⟨n, List.mem_cons_of_mem _ h6, h7⟩
theorem GB.above : ∀ {B : List Int} {b : Int}, GB op R b B → ∀ m ∈ B, b < m
  | [], _, _, m, hm => by cases hm
  | n :: r, b, ⟨⟨s, h1, h2, h3⟩, h4, h5⟩, m, hm => by
    obtain ⟨_, t1, _⟩ := lastO_some h3
    rcases List.mem_cons.mp hm with rfl | hm
    · omega
    · have := GB.above h5 m hm
      omega
theorem GB.rising : ∀ {B : List Int} {b : Int}, GB op R b B → B.Pairwise (· < ·)
  | [], _, _ => List.Pairwise.nil
  | m :: r, b, ⟨_, _, h5⟩ => List.pairwise_cons.mpr ⟨GB.above h5, GB.rising h5⟩
theorem GB.opens : ∀ {B : List Int} {b : Int}, GB op R b B → ∀ m ∈ B, op m = true
  | [], _, _, m, hm => by cases hm
  | n :: r, b, ⟨⟨s, h1, h2, h3⟩, h4, h5⟩, m, hm => by
    obtain ⟨t0, _⟩ := lastO_some h3
    rcases List.mem_cons.mp hm with rfl | hm
    · exact t0
    · exact GB.opens h5 m hm
theorem GB.some_span : ∀ {B : List Int} {b : Int}, GB op R b B → ∀ m ∈ B, ∃ s ∈ R, s.1 ≤ m ∧ m ≤ s.2
  | [], _, _, m, hm => by cases hm
  | n :: r, b, ⟨⟨s, h1, h2, h3⟩, h4, h5⟩, m, hm => by
    obtain ⟨t0, t1, t2, _⟩ := lastO_some h3
    rcases List.mem_cons.mp hm with rfl | hm
    · exact ⟨s, h1, t1, t2⟩
    · exact GB.some_span h5 m hm
/-- no fewer ticks tell all -/
theorem GB.fewest : ∀ {B T : List Int} {b : Int}, GB op R b B → (∀ s ∈ R, b < s.1 → ∃ t ∈ T, op t = true ∧ s.1 ≤ t ∧ t ≤ s.2) → B.length ≤ T.length
  | [], T, _, _, _ => Nat.zero_le _
  | m :: r, T, b, ⟨⟨s, h1, h2, h3⟩, h4, h5⟩, hT => by
    obtain ⟨t, g1, g2, g3, g4⟩ := hT s h1 h2
    obtain ⟨t', e1, e2⟩ := lastO_has g3 g4 g2
    rw [h3] at e1
    cases e1
    have ih := GB.fewest (T := T.erase t) h5 fun u hu hb => by
      obtain ⟨v, k1, k2, k3, k4⟩ := hT u hu (by
        obtain ⟨_, t1, _⟩ := lastO_some h3
        omega)
      exact ⟨v, (List.mem_erase_of_ne (by omega)).mpr k1, k2, k3, k4⟩
    rw [List.length_erase_of_mem g1] at ih
    have : 0 < T.length := List.length_pos_of_mem g1
    rw [List.length_cons]
    omega
theorem GB.from {b b' : Int} (h1 : ∀ s ∈ R, b < s.1) (h2 : ∀ s ∈ R, b' < s.1) {B : List Int} (h : GB op R b B) : GB op R b' B := by
  cases B with
  | nil =>
    intro s hs
    have := h s hs
    have := h1 s hs
    omega
  | cons m r =>
    obtain ⟨⟨s, g1, g2, g3⟩, g4, g5⟩ := h
    exact ⟨⟨s, g1, h2 s g1, g3⟩, fun u hu _ => g4 u hu (h1 u hu), g5⟩
theorem GB.shift {d : Int} (hd : ∀ t, op (t + d) = op t) : ∀ {B : List Int} {b : Int}, GB op R b B → GB op (R.map fun s => (s.1 + d, s.2 + d)) (b + d) (B.map (· + d))
  | [], b, h => fun s hs => by
    obtain ⟨u, hu, rfl⟩ := List.mem_map.mp hs
    have := h u hu
    show u.1 + d ≤ b + d
    omega
  | m :: r, b, ⟨⟨s, h1, h2, h3⟩, h4, h5⟩ => by
    refine ⟨⟨_, List.mem_map.mpr ⟨s, h1, rfl⟩, by show b + d < s.1 + d; omega, by show lastO op (s.1 + d) (s.2 + d) = some (m + d); rw [lastO_shift hd, h3]; rfl⟩, fun u hu hb t ht => ?_, GB.shift hd h5⟩
    obtain ⟨v, hv, rfl⟩ := List.mem_map.mp hu
    have ht2 : lastO op (v.1 + d) (v.2 + d) = some t := ht
    rw [lastO_shift hd] at ht2
    cases e : lastO op v.1 v.2 with
    | none => rw [e] at ht2; cases ht2
    | some t' =>
      rw [e] at ht2
      cases ht2
      have := h4 v hv (by have hb' : b + d < v.1 + d := hb; omega) t' e
      show m + d ≤ t' + d
      omega
theorem AllHave.shift {d : Int} (hd : ∀ t, op (t + d) = op t) (h : AllHave op R) : AllHave op (R.map fun s => (s.1 + d, s.2 + d)) := fun s hs => by
  obtain ⟨u, hu, rfl⟩ := List.mem_map.mp hs
  obtain ⟨t, ht⟩ := h u hu
  exact ⟨t + d, by show lastO op (u.1 + d) (u.2 + d) = _; rw [lastO_shift hd, ht]; rfl⟩
/-- what has more open ticks, wider spans, fewer of them -/
theorem Out.kinder (ho : ∀ t, op t = true → op' t = true) (hr : ∀ r' ∈ R', ∃ r ∈ R, r'.1 ≤ r.1 ∧ r.2 ≤ r'.2) (h0 : ∀ r ∈ R, -1 < r.1) {B : List Int} (h : Out op R (some B)) {x : Option (List Int)} (g : Out op' R' x) : ∃ C, x = some C ∧ C.length ≤ B.length := by
  have hit : ∀ r' ∈ R', ∃ m ∈ B, op' m = true ∧ r'.1 ≤ m ∧ m ≤ r'.2 := fun r' hr' => by
    obtain ⟨r, h1, h2, h3⟩ := hr r' hr'
    obtain ⟨m, h4, h5, h6⟩ := h.2.hits h.1 r h1 (h0 r h1)
    exact ⟨m, h4, ho m (h.2.opens m h4), by omega, by omega⟩
  cases x with
  | none =>
    obtain ⟨i, ⟨s, h1, h2⟩, _⟩ := g
    obtain ⟨m, h3, h4, h5, h6⟩ := hit s (List.mem_of_getElem? h1)
    have := lastO_none h2 m h5 h6
    rw [h4] at this
    cases this
  | some C => exact ⟨C, rfl, g.2.fewest fun s hs _ => hit s hs⟩
end
/-! ### the loop: spans in the order of their last open ticks -/
def tickOf (op : Int → Bool) (R : List (Int × Int)) (p : Int) : Option Int := lastO op (gt R p.toNat).1 (gt R p.toNat).2
/-- bells and the places for which they ring -/
def GBP (op : Int → Bool) (R : List (Int × Int)) : Int → List (Int × Int) → Prop
  | b, [] => ∀ s ∈ R, s.1 ≤ b
  | b, m :: r => ((0 ≤ m.2 ∧ m.2 < R.length) ∧ b < (gt R m.2.toNat).1 ∧ tickOf op R m.2 = some m.1) ∧ (∀ s ∈ R, b < s.1 → ∀ t, lastO op s.1 s.2 = some t → m.1 ≤ t) ∧ GBP op R m.1 r
theorem GBP.gb {op : Int → Bool} {R : List (Int × Int)} : ∀ {L : List (Int × Int)} {b : Int}, GBP op R b L → GB op R b (L.map (·.1))
  | [], _, h => h
  | m :: r, b, ⟨⟨⟨h0, h1⟩, h2, h3⟩, h4, h5⟩ => by
    have hl : m.2.toNat < R.length := by omega
    exact ⟨⟨gt R m.2.toNat, List.mem_of_getElem? (gt_get hl), h2, h3⟩, h4, h5.gb⟩
/-- the paper: no two of the places have an open tick in common -/
theorem GBP.apart {op : Int → Bool} {R : List (Int × Int)} : ∀ {L : List (Int × Int)} {b : Int}, GBP op R b L → (∀ m ∈ L, b < (gt R m.2.toNat).1) ∧ L.Pairwise fun x y => x.1 < (gt R y.2.toNat).1 ∧ tickOf op R x.2 = some x.1
  | [], _, _ => ⟨fun m hm => (by cases hm), List.Pairwise.nil⟩
  | m :: r, b, ⟨⟨h0, h2, h3⟩, h4, h5⟩ => by
    obtain ⟨g1, g2⟩ := h5.apart
    obtain ⟨_, t1, _⟩ := lastO_some h3
    refine ⟨fun n hn => ?_, List.pairwise_cons.mpr ⟨fun n hn => ⟨g1 n hn, h3⟩, g2⟩⟩
    rcases List.mem_cons.mp hn with rfl | hn
    · exact h2
    · have := g1 n hn
      omega
/-- what the loop gives -/
def loopG (R : List (Int × Int)) : Int → List (Int × Int) → List (Int × Int)
  | _, [] => []
  | b, e :: es => if b < (gt R e.2.toNat).1 then e :: loopG R e.1 es else loopG R b es
theorem loopG_sub (R : List (Int × Int)) : ∀ (es : List (Int × Int)) (b : Int), (loopG R b es).Sublist es
  | [], _ => List.Sublist.slnil
  | e :: es, b => by
    unfold loopG
    split
    · exact (loopG_sub R es _).cons₂ _
    · exact (loopG_sub R es _).cons _
theorem loopG_ok {op : Int → Bool} {R : List (Int × Int)} {L : List (Int × Int)} (hL : ∀ e ∈ L, (0 ≤ e.2 ∧ e.2 < R.length) ∧ tickOf op R e.2 = some e.1) (hall : ∀ (i : Nat), i < R.length → ∃ e ∈ L, e.2 = i) :
    ∀ (done es : List (Int × Int)) (b : Int), L = done ++ es → (done ++ es).Pairwise (fun x y => x.1 ≤ y.1) → (∀ e ∈ done, (gt R e.2.toNat).1 ≤ b) → (∀ e ∈ es, b ≤ e.1) → GBP op R b (loopG R b es)
  | done, [], b, e, _, hd, _ => fun s hs => by
    obtain ⟨i, hi, rfl⟩ := List.mem_iff_getElem.mp hs
    obtain ⟨x, hx, hx2⟩ := hall i hi
    rw [e, List.append_nil] at hx
    have := hd x hx
    rw [hx2, Int.toNat_natCast] at this
    have z := gt_eq (List.getElem?_eq_getElem hi)
    rw [z] at this
    exact this
  | done, x :: es, b, e, pw, hd, hb => by
    have hx := hL x (by rw [e]; simp)
    obtain ⟨hx0, hx1⟩ := hx
    have tx := lastO_some hx1
    have bx := hb x (by simp)
    have pes : ∀ y ∈ es, x.1 ≤ y.1 := fun y hy => (List.pairwise_cons.mp (List.pairwise_append.mp pw).2.1).1 y hy
    have e2 : L = (done ++ [x]) ++ es := by rw [e, List.append_assoc]; rfl
    have pw2 : ((done ++ [x]) ++ es).Pairwise (fun x y => x.1 ≤ y.1) := by rw [← e2, e]; exact pw
    unfold loopG
    by_cases c : b < (gt R x.2.toNat).1
    · rw [if_pos c]
      refine ⟨⟨hx0, c, hx1⟩, fun s hs hbs t ht => ?_, loopG_ok hL hall (done ++ [x]) es x.1 e2 pw2 (fun y hy => ?_) pes⟩
      · obtain ⟨i, hi, rfl⟩ := List.mem_iff_getElem.mp hs
        obtain ⟨y, hy, hy2⟩ := hall i hi
        have z := gt_eq (List.getElem?_eq_getElem hi)
        obtain ⟨_, hy3⟩ := hL y hy
        unfold tickOf at hy3
        rw [hy2, Int.toNat_natCast, z, ht] at hy3
        cases hy3
        rw [e] at hy
        rcases List.mem_append.mp hy with hy | hy
        · have := hd y hy
          rw [hy2, Int.toNat_natCast, z] at this
          omega
        · rcases List.mem_cons.mp hy with rfl | hy
          · exact Int.le_refl _
          · exact pes y hy
      · rcases List.mem_append.mp hy with hy | hy
        · have := hd y hy
          omega
        · rw [List.mem_singleton] at hy
          subst hy
          exact tx.2.1
    · rw [if_neg c]
      refine loopG_ok hL hall (done ++ [x]) es b e2 pw2 (fun y hy => ?_) fun y hy => hb y (List.mem_cons_of_mem _ hy)
      rcases List.mem_append.mp hy with hy | hy
      · exact hd y hy
      · rw [List.mem_singleton] at hy
        subst hy
        omega
end Lw

namespace Lw
open PySem PySem.Spec PyProof.Rows L2 DL
local macro_rules | `(tactic| walk_at "dl") => `(tactic| simp only [q_startD_1, q_gNext_1, q_gSeq_1, q_gBreak_1, q_gCont_1, q_gNever_1, q_gDrop_1, q_gRet_1, q_gRetN_1, q_gRetV_1, q_gIf_1, q_gSet_1, q_gPar_1, q_gAsg_1, q_gnm_1, q_gnil_1, q_gcons_1, q_gtup_1, q_gFor_1, q_iL_1, q_iT_1, q_iR1_1, q_iR2_1, q_iR3_1, q_iSeqD_1, q_iStrD_1, q_iEnumD_1, q_iZipD_1, q_xComp_1, q_xOf_1, q_eOf_1, q_dVar_1, q_dSee_1, q_dC_1, q_dNil_1, q_dCons_1, q_cNil_1, q_cCons_1, q_cWel_1, q_cScr_1, q_dOp_1, q_dUn_1, q_xB_1, q_dBool_1, q_bAnd_1, q_bOr_1, q_bNot_1, q_dAndV_1, q_dOrV_1, q_dNotV_1, q_dIf_1, q_dChain_1, q_dTup_1, q_xLst_1, q_xDict_1, q_dIsi_1, q_xSl_1, q_oNo_1, q_oSome_1, q_xRev_1, q_gAppend_1, q_gPop_1, q_gPopAt_1, q_gInsert_1, q_gSetIx_1, q_gSetSl_1, q_xCall_1, q_dLenSet_1, q_xLenScr_1, q_dIxScr_1, q_gWell_1, q_dAdd_1, q_dAdd_2, q_dAdd_3, q_dAdd_4, q_dSub_1, q_dMul_1, q_dMul_2, q_dMod_1, q_dFdiv_1, q_dPow_1, q_dNeg_1, q_dLt_1, q_dLt_2, q_dCmp_1, q_dEq_1, q_dNe_1, q_dIs_1, q_dIsNot_1, q_dIn_1, q_dIn_2, q_dIn_3, q_dNotIn_1, q_dIx_1, q_dIx_2, q_dIx_3, q_gLen_1, q_gLen_2, q_gLen_3, q_gAll_1, q_gAny_1, q_gMax_1, q_gMin_1, q_gMax2_1, q_gMin2_1, q_gTuple_1, q_gTuple_2, q_gList_1, q_gList_2, q_gInt_1, q_gInt_2, q_wipeD_1, q_wipeD_2, q_unwel_1, q_unwel_2, q_uw1_1, q_uw1_2, q_intsD_1, q_intsD_2, q_boolsD_1, q_boolsD_2, q_strsD_1, q_strsD_2, q_xCallE_1, q_dIsE_1, q_xSplit_1, q_xSortZip_1, q_dIsB_1, q_xCallDf_1, q_xTupRg_1, q_xLstRg_1, q_gFrz_1, q_xRevA_1, q_gRetT2_1, q_xSortSet_1, q_dIdx_1, q_xCallX_1, q_xCallNX_1, q_gRaise_1, q_gRaiseP_1, q_gTry_1, q_gTryAs_1, q_dPlace_1, q_cExn_1, q_xDictT_1, q_xSortedT_1, q_xCallN_1, q_gDPut_1, q_gDPutT_1, q_dInK_1, q_xListK_1, q_keyD_1, q_keyD_2, q_keysD_1, q_keysD_2, isIntD_none, isIntD_bool, isIntD_int, isIntD_str, isIntD_list, isIntD_tuple, isIntD_dict, isBoolD_none, isBoolD_bool, isBoolD_int, isBoolD_str, isBoolD_list, isBoolD_tuple, isBoolD_dict, isStrD_none, isStrD_bool, isStrD_int, isStrD_str, isStrD_list, isStrD_tuple, isStrD_dict, isTupD_none, isTupD_bool, isTupD_int, isTupD_str, isTupD_list, isTupD_tuple, isTupD_dict, isListD_none, isListD_bool, isListD_int, isListD_str, isListD_list, isListD_tuple, isListD_dict, isNoneD_none, isNoneD_bool, isNoneD_int, isNoneD_str, isNoneD_list, isNoneD_tuple, isNoneD_dict, flatD_none, flatD_bool, flatD_int, flatD_str, flatD_list, flatD_tuple, flatD_dict, Option.map_some, sizeLine_eq, Int.cast_ofNat_Int, eq_self, dpI, dpB, dpS, dpN, evII, evBB, evSS, Nat.zero_le, Int.reduceSub, Int.reduceAdd, Int.reduceMul, Int.reduceNeg, Int.reduceLT, Int.reduceLE, Int.reduceMod, Int.reduceDiv, Int.reduceEq, Int.reduceToNat, Int.reducePow, Nat.reduceLT, Nat.reduceLeDiff, Nat.reduceMul, Nat.reducePow, decide_true, decide_false, ite_true, ite_false, not_true_eq_false, not_false_eq_true, reduceIte, reduceCtorEq, Bool.true_eq_false, Bool.and_self, and_self, false_and, and_false, at0, at1, at2, at3, decide_eq_true_eq, decide_eq_false_iff_not, Bool.false_eq_true, if_true, if_false, Bool.not_true, Bool.not_false, true_and, and_true, Bool.true_and, Bool.and_true, Bool.false_and, Bool.and_false, decide_not, Bool.not_eq_eq_eq_not, List.map_cons, List.map_nil, List.length_cons, List.length_nil, Nat.sub_self, List.replicate_zero, List.replicate_succ, List.append_nil, List.nil_append, List.cons_append, List.getElem?_cons_zero, List.getElem?_cons_succ, List.set_cons_zero, List.set_cons_succ, Nat.add_one_sub_one, Nat.reduceAdd, Nat.reduceSub, Nat.reduceLeDiff])
local macro_rules | `(tactic| walk_at "dn") => `(tactic| simp only [q_startD_1, q_gNext_1, q_gBreak_1, q_gCont_1, q_gNever_1, q_gDrop_1, q_gRet_1, q_gRetN_1, q_gRetV_1, q_gIf_1, q_gSet_1, q_gPar_1, q_gAsg_1, q_gnm_1, q_gnil_1, q_gcons_1, q_gtup_1, q_gFor_1, q_iL_1, q_iT_1, q_iR1_1, q_iR2_1, q_iR3_1, q_iSeqD_1, q_iStrD_1, q_iEnumD_1, q_iZipD_1, q_xComp_1, q_xOf_1, q_eOf_1, q_dVar_1, q_dSee_1, q_dC_1, q_dNil_1, q_dCons_1, q_cNil_1, q_cCons_1, q_cWel_1, q_cScr_1, q_dOp_1, q_dUn_1, q_xB_1, q_dBool_1, q_bAnd_1, q_bOr_1, q_bNot_1, q_dAndV_1, q_dOrV_1, q_dNotV_1, q_dIf_1, q_dChain_1, q_dTup_1, q_xLst_1, q_xDict_1, q_dIsi_1, q_xSl_1, q_oNo_1, q_oSome_1, q_xRev_1, q_gAppend_1, q_gPop_1, q_gPopAt_1, q_gInsert_1, q_gSetIx_1, q_gSetSl_1, q_xCall_1, q_dLenSet_1, q_xLenScr_1, q_dIxScr_1, q_gWell_1, q_dAdd_1, q_dAdd_2, q_dAdd_3, q_dAdd_4, q_dSub_1, q_dMul_1, q_dMul_2, q_dMod_1, q_dFdiv_1, q_dPow_1, q_dNeg_1, q_dLt_1, q_dLt_2, q_dCmp_1, q_dEq_1, q_dNe_1, q_dIs_1, q_dIsNot_1, q_dIn_1, q_dIn_2, q_dIn_3, q_dNotIn_1, q_dIx_1, q_dIx_2, q_dIx_3, q_gLen_1, q_gLen_2, q_gLen_3, q_gAll_1, q_gAny_1, q_gMax_1, q_gMin_1, q_gMax2_1, q_gMin2_1, q_gTuple_1, q_gTuple_2, q_gList_1, q_gList_2, q_gInt_1, q_gInt_2, q_wipeD_1, q_wipeD_2, q_unwel_1, q_unwel_2, q_uw1_1, q_uw1_2, q_intsD_1, q_intsD_2, q_boolsD_1, q_boolsD_2, q_strsD_1, q_strsD_2, q_xCallE_1, q_dIsE_1, q_xSplit_1, q_xSortZip_1, q_dIsB_1, q_xCallDf_1, q_xTupRg_1, q_xLstRg_1, q_gFrz_1, q_xRevA_1, q_gRetT2_1, q_xSortSet_1, q_dIdx_1, q_xCallX_1, q_xCallNX_1, q_gRaise_1, q_gRaiseP_1, q_gTry_1, q_gTryAs_1, q_dPlace_1, q_cExn_1, q_xDictT_1, q_xSortedT_1, q_xCallN_1, q_gDPut_1, q_gDPutT_1, q_dInK_1, q_xListK_1, q_keyD_1, q_keyD_2, q_keysD_1, q_keysD_2, isIntD_none, isIntD_bool, isIntD_int, isIntD_str, isIntD_list, isIntD_tuple, isIntD_dict, isBoolD_none, isBoolD_bool, isBoolD_int, isBoolD_str, isBoolD_list, isBoolD_tuple, isBoolD_dict, isStrD_none, isStrD_bool, isStrD_int, isStrD_str, isStrD_list, isStrD_tuple, isStrD_dict, isTupD_none, isTupD_bool, isTupD_int, isTupD_str, isTupD_list, isTupD_tuple, isTupD_dict, isListD_none, isListD_bool, isListD_int, isListD_str, isListD_list, isListD_tuple, isListD_dict, isNoneD_none, isNoneD_bool, isNoneD_int, isNoneD_str, isNoneD_list, isNoneD_tuple, isNoneD_dict, flatD_none, flatD_bool, flatD_int, flatD_str, flatD_list, flatD_tuple, flatD_dict, Option.map_some, sizeLine_eq, Int.cast_ofNat_Int, eq_self, dpI, dpB, dpS, dpN, evII, evBB, evSS, Nat.zero_le, Int.reduceSub, Int.reduceAdd, Int.reduceMul, Int.reduceNeg, Int.reduceLT, Int.reduceLE, Int.reduceMod, Int.reduceDiv, Int.reduceEq, Int.reduceToNat, Int.reducePow, Nat.reduceLT, Nat.reduceLeDiff, Nat.reduceMul, Nat.reducePow, decide_true, decide_false, ite_true, ite_false, not_true_eq_false, not_false_eq_true, reduceIte, reduceCtorEq, Bool.true_eq_false, Bool.and_self, and_self, false_and, and_false, at0, at1, at2, at3, decide_eq_true_eq, decide_eq_false_iff_not, Bool.false_eq_true, if_true, if_false, Bool.not_true, Bool.not_false, true_and, and_true, Bool.true_and, Bool.and_true, Bool.false_and, Bool.and_false, decide_not, Bool.not_eq_eq_eq_not, List.map_cons, List.map_nil, List.length_cons, List.length_nil, Nat.sub_self, List.replicate_zero, List.replicate_succ, List.append_nil, List.nil_append, List.cons_append, List.getElem?_cons_zero, List.getElem?_cons_succ, List.set_cons_zero, List.set_cons_succ, Nat.add_one_sub_one, Nat.reduceAdd, Nat.reduceSub, Nat.reduceLeDiff])
local macro_rules | `(tactic| walk_at "sq") => `(tactic| simp only [q_gSeq_1])
def topS (i : Nat) : Stmt := PySem.Challenge.pw_hushbell_k02_hours_by_hand.main.body.getD i (.Pass ⟨0, 0, 0, 0⟩)
abbrev s_is_whole : Stmt := topS 16
abbrev s_is_pair : Stmt := topS 18
abbrev s_is_name : Stmt := topS 17
abbrev s_is_hush : Stmt := topS 19
abbrev s_are_wishes : Stmt := topS 20
abbrev s__law_take : Stmt := topS 29
abbrev s__law_well : Stmt := topS 28
abbrev s__law_hush : Stmt := topS 32
abbrev s__law_wishes : Stmt := topS 33
abbrev s_is_open : Stmt := topS 21
abbrev s_ways_open : Stmt := topS 23
abbrev s__law_opens : Stmt := topS 34
abbrev s__law_last : Stmt := topS 35
abbrev s_need_wishes : Stmt := topS 22
abbrev s_open_ways : Stmt := topS 24
abbrev s_next_open : Stmt := topS 25
abbrev s_last_open : Stmt := topS 26
abbrev s__law_next : Stmt := topS 36
abbrev s__law_kinds : Stmt := topS 30
abbrev s__law_refusal : Stmt := topS 31
abbrev s__law_refused : Stmt := topS 37
abbrev s_law : Stmt := topS 38
abbrev s_NoTimeInit : Stmt := inClass (topS 10) 0
theorem sc_is_whole : FnScope ["thing", "low", "high"] ["thing", "low", "high"] (defScope s_is_whole) := ⟨rfl, rfl, rfl, by decide +kernel, rfl, by decide +kernel, by decide +kernel⟩
theorem sc_is_pair : FnScope ["thing"] ["thing"] (defScope s_is_pair) := ⟨rfl, rfl, rfl, by decide +kernel, rfl, by decide +kernel, by decide +kernel⟩
theorem sc_is_name : FnScope ["thing", "sign"] ["thing"] (defScope s_is_name) := ⟨rfl, rfl, rfl, by decide +kernel, rfl, by decide +kernel, by decide +kernel⟩
theorem sc_is_hush : FnScope ["thing", "last", "pair"] ["thing"] (defScope s_is_hush) := ⟨rfl, rfl, rfl, by decide +kernel, rfl, by decide +kernel, by decide +kernel⟩
theorem sc_are_wishes : FnScope ["thing", "row"] ["thing"] (defScope s_are_wishes) := ⟨rfl, rfl, rfl, by decide +kernel, rfl, by decide +kernel, by decide +kernel⟩
theorem sc__law_take : FnScope ["well", "many", "drew"] ["well", "many"] (defScope s__law_take) := ⟨rfl, rfl, rfl, by decide +kernel, rfl, by decide +kernel, by decide +kernel⟩
theorem sc__law_well : FnScope ["script", "k", "cell", "primes", "seed"] ["script", "k"] (defScope s__law_well) := ⟨rfl, rfl, rfl, by decide +kernel, rfl, by decide +kernel, by decide +kernel⟩
theorem sc__law_hush : FnScope ["well", "found", "at", "turn", "end"] ["well"] (defScope s__law_hush) := ⟨rfl, rfl, rfl, by decide +kernel, rfl, by decide +kernel, by decide +kernel⟩
theorem sc__law_wishes : FnScope ["well", "names", "many", "name"] ["well"] (defScope s__law_wishes) := ⟨rfl, rfl, rfl, by decide +kernel, rfl, by decide +kernel, by decide +kernel⟩
theorem sc_is_open : FnScope ["hush", "tick", "begin", "end"] ["hush", "tick"] (defScope s_is_open) := ⟨rfl, rfl, rfl, by decide +kernel, rfl, by decide +kernel, by decide +kernel⟩
theorem sc_ways_open : FnScope ["wishes", "tick", "way", "hush"] ["wishes", "tick"] (defScope s_ways_open) := ⟨rfl, rfl, rfl, by decide +kernel, rfl, by decide +kernel, by decide +kernel⟩
theorem sc__law_opens : FnScope ["wishes", "tick", "found", "way", "hush", "pair"] ["wishes", "tick"] (defScope s__law_opens) := ⟨rfl, rfl, rfl, by decide +kernel, rfl, by decide +kernel, by decide +kernel⟩
theorem sc__law_last : FnScope ["wishes", "low", "high", "back"] ["wishes", "low", "high"] (defScope s__law_last) := ⟨rfl, rfl, rfl, by decide +kernel, rfl, by decide +kernel, by decide +kernel⟩
theorem sc_need_wishes : FnScope ["thing"] ["thing"] (defScope s_need_wishes) := ⟨rfl, rfl, rfl, by decide +kernel, rfl, by decide +kernel, by decide +kernel⟩
theorem sc_open_ways : FnScope ["wishes", "tick"] ["wishes", "tick"] (defScope s_open_ways) := ⟨rfl, rfl, rfl, by decide +kernel, rfl, by decide +kernel, by decide +kernel⟩
theorem sc_next_open : FnScope ["wishes", "tick", "later"] ["wishes", "tick"] (defScope s_next_open) := ⟨rfl, rfl, rfl, by decide +kernel, rfl, by decide +kernel, by decide +kernel⟩
theorem sc_last_open : FnScope ["wishes", "low", "high", "tick"] ["wishes", "low", "high"] (defScope s_last_open) := ⟨rfl, rfl, rfl, by decide +kernel, rfl, by decide +kernel, by decide +kernel⟩
theorem sc__law_next : FnScope ["wishes", "tick", "more"] ["wishes", "tick"] (defScope s__law_next) := ⟨rfl, rfl, rfl, by decide +kernel, rfl, by decide +kernel, by decide +kernel⟩
theorem sc__law_kinds : FnScope ["e", "some", "words", "word", "good"] ["e"] (defScope s__law_kinds) := ⟨rfl, rfl, rfl, by decide +kernel, rfl, by decide +kernel, by decide +kernel⟩
theorem sc__law_refusal : FnScope ["e", "kinds"] ["e"] (defScope s__law_refusal) := ⟨rfl, rfl, rfl, by decide +kernel, rfl, by decide +kernel, by decide +kernel⟩
theorem sc__law_refused : FnScope ["ask", "thing", "e"] ["ask", "thing"] (defScope s__law_refused) := ⟨rfl, rfl, rfl, by decide +kernel, rfl, by decide +kernel, by decide +kernel⟩
theorem sc_law : FnScope ["script", "k", "well", "wishes", "turn", "tick", "told", "high", "bad", "ask"] ["script"] (defScope s_law) := ⟨rfl, rfl, rfl, by decide +kernel, rfl, by decide +kernel, by decide +kernel⟩
structure Tp (K : PySem.W.Frag) (mg : Str → Option Value) : Prop where
  b_ValueError : mg "ValueError" = none
  b_all : mg "all" = none
  b_any : mg "any" = none
  b_bool : mg "bool" = none
  b_int : mg "int" = none
  b_isinstance : mg "isinstance" = none
  b_len : mg "len" = none
  b_list : mg "list" = none
  b_max : mg "max" = none
  b_min : mg "min" = none
  b_range : mg "range" = none
  b_set : mg "set" = none
  b_str : mg "str" = none
  b_tuple : mg "tuple" = none
  b_zip : mg "zip" = none
  c_DAY : ∃ t, mg "DAY" = some (.int 96 t)
  c_LETTERS : ∃ t, mg "LETTERS" = some (.str "abcdefghijklmnopqrstuvwxyz" t)
  c_MOST_PAIRS : ∃ t, mg "MOST_PAIRS" = some (.int 6 t)
  c_MOST_WAYS : ∃ t, mg "MOST_WAYS" = some (.int 4 t)
section
variable {P : Program} {w : World} {K : PySem.W.Frag} {mg : Str → Option Value} {base : Heap}
/-! ### what the defs reckon -/
def isWhole (d : D) (lo hi : Int) : Bool := match d with
  | .int i => decide (lo ≤ i) && decide (i ≤ hi)
  | _ => false
def letters : List Nat := ("abcdefghijklmnopqrstuvwxyz" : Str).cps.toList
def isName (d : D) : Bool := match d with
  | .str x => (decide (1 ≤ x.length) && decide (x.length ≤ 8)) && x.cps.toList.all fun c => decide (c ∈ letters)
  | _ => false
def isPair (d : D) : Bool := match d with
  | .tuple ds => decide (ds.length = 2)
  | _ => false
def inLetters (d : D) : Bool := match d with
  | .str s => (match s.cps.toList with
    | [c] => decide (c ∈ letters)
    | _ => false)
  | _ => false
theorem isPair_of {d : D} (h : isPair d = true) : ∃ a b, d = .tuple [a, b] := by
  unfold isPair at h
  split at h
  · rename_i ds
    have e := of_decide_eq_true h
    match ds, e with
    | [a, b], _ => exact ⟨a, b, rfl⟩
  · cases h
def intOf (d : D) : Int := match d with
  | .int i => i
  | _ => 0
def hushFrom : Int → List D → Bool
  | _, [] => true
  | last, p :: ps => match p with
    | .tuple [a, b] => isWhole a (last + 1) 95 && isWhole b (intOf a + 1) 96 && hushFrom (intOf b) ps
    | _ => false
def isHush (d : D) : Bool := match d with
  | .tuple ds => decide (ds.length ≤ 6) && hushFrom (-1) ds
  | _ => false
def sp_is_whole : DL.Spec
  | [.dat d, .dat (.int lo), .dat (.int hi)], q => q (.dat (.bool (isWhole d lo hi)))
  | _, _ => False
def sp_is_pair : DL.Spec
  | [.dat d], q => q (.dat (.bool (isPair d)))
  | _, _ => False
def sp_is_name : DL.Spec
  | [.dat d], q => q (.dat (.bool (isName d)))
  | _, _ => False
def sp_is_hush : DL.Spec
  | [.dat d], q => q (.dat (.bool (isHush d)))
  | _, _ => False
def q_sp_is_whole := @sp_is_whole.eq_1
def q_sp_is_pair := @sp_is_pair.eq_1
def q_sp_is_name := @sp_is_name.eq_1
def q_sp_is_hush := @sp_is_hush.eq_1
local macro_rules | `(tactic| walk_at "dl") => `(tactic| simp only [q_startD_1, q_gNext_1, q_gSeq_1, q_gBreak_1, q_gCont_1, q_gNever_1, q_gDrop_1, q_gRet_1, q_gRetN_1, q_gRetV_1, q_gIf_1, q_gSet_1, q_gPar_1, q_gAsg_1, q_gnm_1, q_gnil_1, q_gcons_1, q_gtup_1, q_gFor_1, q_iL_1, q_iT_1, q_iR1_1, q_iR2_1, q_iR3_1, q_iSeqD_1, q_iStrD_1, q_iEnumD_1, q_iZipD_1, q_xComp_1, q_xOf_1, q_eOf_1, q_dVar_1, q_dSee_1, q_dC_1, q_dNil_1, q_dCons_1, q_cNil_1, q_cCons_1, q_cWel_1, q_cScr_1, q_dOp_1, q_dUn_1, q_xB_1, q_dBool_1, q_bAnd_1, q_bOr_1, q_bNot_1, q_dAndV_1, q_dOrV_1, q_dNotV_1, q_dIf_1, q_dChain_1, q_dTup_1, q_xLst_1, q_xDict_1, q_dIsi_1, q_xSl_1, q_oNo_1, q_oSome_1, q_xRev_1, q_gAppend_1, q_gPop_1, q_gPopAt_1, q_gInsert_1, q_gSetIx_1, q_gSetSl_1, q_xCall_1, q_dLenSet_1, q_xLenScr_1, q_dIxScr_1, q_gWell_1, q_dAdd_1, q_dAdd_2, q_dAdd_3, q_dAdd_4, q_dSub_1, q_dMul_1, q_dMul_2, q_dMod_1, q_dFdiv_1, q_dPow_1, q_dNeg_1, q_dLt_1, q_dLt_2, q_dCmp_1, q_dEq_1, q_dNe_1, q_dIs_1, q_dIsNot_1, q_dIn_1, q_dIn_2, q_dIn_3, q_dNotIn_1, q_dIx_1, q_dIx_2, q_dIx_3, q_gLen_1, q_gLen_2, q_gLen_3, q_gAll_1, q_gAny_1, q_gMax_1, q_gMin_1, q_gMax2_1, q_gMin2_1, q_gTuple_1, q_gTuple_2, q_gList_1, q_gList_2, q_gInt_1, q_gInt_2, q_wipeD_1, q_wipeD_2, q_unwel_1, q_unwel_2, q_uw1_1, q_uw1_2, q_intsD_1, q_intsD_2, q_boolsD_1, q_boolsD_2, q_strsD_1, q_strsD_2, q_xCallE_1, q_dIsE_1, q_xSplit_1, q_xSortZip_1, q_dIsB_1, q_xCallDf_1, q_xTupRg_1, q_xLstRg_1, q_gFrz_1, q_xRevA_1, q_gRetT2_1, q_xSortSet_1, q_dIdx_1, q_xCallX_1, q_xCallNX_1, q_gRaise_1, q_gRaiseP_1, q_gTry_1, q_gTryAs_1, q_dPlace_1, q_cExn_1, q_xDictT_1, q_xSortedT_1, q_xCallN_1, q_gDPut_1, q_gDPutT_1, q_dInK_1, q_xListK_1, q_keyD_1, q_keyD_2, q_keysD_1, q_keysD_2, isIntD_none, isIntD_bool, isIntD_int, isIntD_str, isIntD_list, isIntD_tuple, isIntD_dict, isBoolD_none, isBoolD_bool, isBoolD_int, isBoolD_str, isBoolD_list, isBoolD_tuple, isBoolD_dict, isStrD_none, isStrD_bool, isStrD_int, isStrD_str, isStrD_list, isStrD_tuple, isStrD_dict, isTupD_none, isTupD_bool, isTupD_int, isTupD_str, isTupD_list, isTupD_tuple, isTupD_dict, isListD_none, isListD_bool, isListD_int, isListD_str, isListD_list, isListD_tuple, isListD_dict, isNoneD_none, isNoneD_bool, isNoneD_int, isNoneD_str, isNoneD_list, isNoneD_tuple, isNoneD_dict, flatD_none, flatD_bool, flatD_int, flatD_str, flatD_list, flatD_tuple, flatD_dict, Option.map_some, sizeLine_eq, Int.cast_ofNat_Int, eq_self, dpI, dpB, dpS, dpN, evII, evBB, evSS, Nat.zero_le, Int.reduceSub, Int.reduceAdd, Int.reduceMul, Int.reduceNeg, Int.reduceLT, Int.reduceLE, Int.reduceMod, Int.reduceDiv, Int.reduceEq, Int.reduceToNat, Int.reducePow, Nat.reduceLT, Nat.reduceLeDiff, Nat.reduceMul, Nat.reducePow, decide_true, decide_false, ite_true, ite_false, not_true_eq_false, not_false_eq_true, reduceIte, reduceCtorEq, Bool.true_eq_false, Bool.and_self, and_self, false_and, and_false, at0, at1, at2, at3, decide_eq_true_eq, decide_eq_false_iff_not, Bool.false_eq_true, if_true, if_false, Bool.not_true, Bool.not_false, true_and, and_true, Bool.true_and, Bool.and_true, Bool.false_and, Bool.and_false, decide_not, Bool.not_eq_eq_eq_not, List.map_cons, List.map_nil, List.length_cons, List.length_nil, Nat.sub_self, List.replicate_zero, List.replicate_succ, List.append_nil, List.nil_append, List.cons_append, List.getElem?_cons_zero, List.getElem?_cons_succ, List.set_cons_zero, List.set_cons_succ, Nat.add_one_sub_one, Nat.reduceAdd, Nat.reduceSub, Nat.reduceLeDiff, q_sp_take_1, q_sp_is_whole, q_sp_is_pair, q_sp_is_name, q_sp_is_hush])
local macro_rules | `(tactic| walk_at "dn") => `(tactic| simp only [q_startD_1, q_gNext_1, q_gBreak_1, q_gCont_1, q_gNever_1, q_gDrop_1, q_gRet_1, q_gRetN_1, q_gRetV_1, q_gIf_1, q_gSet_1, q_gPar_1, q_gAsg_1, q_gnm_1, q_gnil_1, q_gcons_1, q_gtup_1, q_gFor_1, q_iL_1, q_iT_1, q_iR1_1, q_iR2_1, q_iR3_1, q_iSeqD_1, q_iStrD_1, q_iEnumD_1, q_iZipD_1, q_xComp_1, q_xOf_1, q_eOf_1, q_dVar_1, q_dSee_1, q_dC_1, q_dNil_1, q_dCons_1, q_cNil_1, q_cCons_1, q_cWel_1, q_cScr_1, q_dOp_1, q_dUn_1, q_xB_1, q_dBool_1, q_bAnd_1, q_bOr_1, q_bNot_1, q_dAndV_1, q_dOrV_1, q_dNotV_1, q_dIf_1, q_dChain_1, q_dTup_1, q_xLst_1, q_xDict_1, q_dIsi_1, q_xSl_1, q_oNo_1, q_oSome_1, q_xRev_1, q_gAppend_1, q_gPop_1, q_gPopAt_1, q_gInsert_1, q_gSetIx_1, q_gSetSl_1, q_xCall_1, q_dLenSet_1, q_xLenScr_1, q_dIxScr_1, q_gWell_1, q_dAdd_1, q_dAdd_2, q_dAdd_3, q_dAdd_4, q_dSub_1, q_dMul_1, q_dMul_2, q_dMod_1, q_dFdiv_1, q_dPow_1, q_dNeg_1, q_dLt_1, q_dLt_2, q_dCmp_1, q_dEq_1, q_dNe_1, q_dIs_1, q_dIsNot_1, q_dIn_1, q_dIn_2, q_dIn_3, q_dNotIn_1, q_dIx_1, q_dIx_2, q_dIx_3, q_gLen_1, q_gLen_2, q_gLen_3, q_gAll_1, q_gAny_1, q_gMax_1, q_gMin_1, q_gMax2_1, q_gMin2_1, q_gTuple_1, q_gTuple_2, q_gList_1, q_gList_2, q_gInt_1, q_gInt_2, q_wipeD_1, q_wipeD_2, q_unwel_1, q_unwel_2, q_uw1_1, q_uw1_2, q_intsD_1, q_intsD_2, q_boolsD_1, q_boolsD_2, q_strsD_1, q_strsD_2, q_xCallE_1, q_dIsE_1, q_xSplit_1, q_xSortZip_1, q_dIsB_1, q_xCallDf_1, q_xTupRg_1, q_xLstRg_1, q_gFrz_1, q_xRevA_1, q_gRetT2_1, q_xSortSet_1, q_dIdx_1, q_xCallX_1, q_xCallNX_1, q_gRaise_1, q_gRaiseP_1, q_gTry_1, q_gTryAs_1, q_dPlace_1, q_cExn_1, q_xDictT_1, q_xSortedT_1, q_xCallN_1, q_gDPut_1, q_gDPutT_1, q_dInK_1, q_xListK_1, q_keyD_1, q_keyD_2, q_keysD_1, q_keysD_2, isIntD_none, isIntD_bool, isIntD_int, isIntD_str, isIntD_list, isIntD_tuple, isIntD_dict, isBoolD_none, isBoolD_bool, isBoolD_int, isBoolD_str, isBoolD_list, isBoolD_tuple, isBoolD_dict, isStrD_none, isStrD_bool, isStrD_int, isStrD_str, isStrD_list, isStrD_tuple, isStrD_dict, isTupD_none, isTupD_bool, isTupD_int, isTupD_str, isTupD_list, isTupD_tuple, isTupD_dict, isListD_none, isListD_bool, isListD_int, isListD_str, isListD_list, isListD_tuple, isListD_dict, isNoneD_none, isNoneD_bool, isNoneD_int, isNoneD_str, isNoneD_list, isNoneD_tuple, isNoneD_dict, flatD_none, flatD_bool, flatD_int, flatD_str, flatD_list, flatD_tuple, flatD_dict, Option.map_some, sizeLine_eq, Int.cast_ofNat_Int, eq_self, dpI, dpB, dpS, dpN, evII, evBB, evSS, Nat.zero_le, Int.reduceSub, Int.reduceAdd, Int.reduceMul, Int.reduceNeg, Int.reduceLT, Int.reduceLE, Int.reduceMod, Int.reduceDiv, Int.reduceEq, Int.reduceToNat, Int.reducePow, Nat.reduceLT, Nat.reduceLeDiff, Nat.reduceMul, Nat.reducePow, decide_true, decide_false, ite_true, ite_false, not_true_eq_false, not_false_eq_true, reduceIte, reduceCtorEq, Bool.true_eq_false, Bool.and_self, and_self, false_and, and_false, at0, at1, at2, at3, decide_eq_true_eq, decide_eq_false_iff_not, Bool.false_eq_true, if_true, if_false, Bool.not_true, Bool.not_false, true_and, and_true, Bool.true_and, Bool.and_true, Bool.false_and, Bool.and_false, decide_not, Bool.not_eq_eq_eq_not, List.map_cons, List.map_nil, List.length_cons, List.length_nil, Nat.sub_self, List.replicate_zero, List.replicate_succ, List.append_nil, List.nil_append, List.cons_append, List.getElem?_cons_zero, List.getElem?_cons_succ, List.set_cons_zero, List.set_cons_succ, Nat.add_one_sub_one, Nat.reduceAdd, Nat.reduceSub, Nat.reduceLeDiff, q_sp_take_1, q_sp_is_whole, q_sp_is_pair, q_sp_is_name, q_sp_is_hush])
local macro_rules | `(tactic| walk_at "sq") => `(tactic| simp only [q_gSeq_1])
theorem ok_is_whole (T : Tp K mg) {f : Addr} {fd : FuncData} (m : mg "is_whole" = some (.ref f)) (F : Fun K "is_whole" "is_whole" s_is_whole f fd) : FnD P w K mg base 1 "is_whole" ["thing", "low", "high"] sp_is_whole f fd := by
  refine fnD_ok m F sc_is_whole (fun _ _ _ _ _ _ us hl => match us, hl with | [_, _, _], _ => rfl) (fun cdv A outer s H E hr => ⟨_, (pss_one (ps_ret (pe_and (pe_callB (call_isiN K rfl) (by rfl) T.b_isinstance (by decide +kernel) (pa_cons (pv 0) (pa_cons (pe_bty "int" (by rfl) T.b_int (by decide +kernel)) pa_nil))) (pe_and (pe_not (pe_callB (call_isiN K rfl) (by rfl) T.b_isinstance (by decide +kernel) (pa_cons (pv 0) (pa_cons (pe_bty "bool" (by rfl) T.b_bool (by decide +kernel)) pa_nil)))) (pe_one (pe_chain op_le op_le (pv 1) (pv 0) (pv 2))))))),
    fun w1 H0 F0 => (pu_ret (PuE.x (pu_andV (pu_isi kit_int (pu_see 0)) (pu_andV (pu_notV (pu_isi kit_bool (pu_see 0))) (pu_chain v_cmp v_cmp (pu_see 1) (pu_see 0) (pu_see 2))))))⟩) ?_ ?_
  · intro ds q h
    unfold sp_is_whole at h
    split at h <;> first | rfl | exact h.elim
  · intro ds q h
    unfold sp_is_whole at h
    split at h
    case h_2 => exact h.elim
    rename_i d lo hi
    cases d with
    | int i =>
      walk_at "dl"
      simp only [isWhole] at h
      by_cases e : lo ≤ i
      · rw [if_pos e]
        rw [decide_eq_true e, Bool.true_and] at h
        exact h
      · rw [if_neg e]
        rw [decide_eq_false e, Bool.false_and] at h
        exact h
    | _ =>
      walk_at "dl"
      exact h

theorem ok_is_pair (T : Tp K mg) {f : Addr} {fd : FuncData} (m : mg "is_pair" = some (.ref f)) (F : Fun K "is_pair" "is_pair" s_is_pair f fd) : FnD P w K mg base 1 "is_pair" ["thing"] sp_is_pair f fd := by
  refine fnD_ok m F sc_is_pair (fun _ _ _ _ _ _ us hl => match us, hl with | [_], _ => rfl) (fun cdv A outer s H E hr => ⟨_, (pss_one (ps_ret (pe_and (pe_callB (call_isiN K rfl) (by rfl) T.b_isinstance (by decide +kernel) (pa_cons (pv 0) (pa_cons (pe_bty "tuple" (by rfl) T.b_tuple (by decide +kernel)) pa_nil))) (pe_one (pe_cmpR (op_eqK K rfl hr.units) (pe_callB (call_lenK K rfl) (by rfl) T.b_len (by decide +kernel) (pa_cons (pv 0) pa_nil)) pe_int (nomark _)))))),
    fun w1 H0 F0 => (pu_ret (PuE.x (pu_andV (pu_isi kit_tup (pu_see 0)) (pu_op v_eq (PuE.p (PuX.e (pu_cb l_len (puv_cons (pu_see 0) puv_nil)))) (PuE.p pu_int)))))⟩) ?_ ?_
  · intro ds q h
    unfold sp_is_pair at h
    split at h <;> first | rfl | exact h.elim
  · intro ds q h
    unfold sp_is_pair at h
    split at h
    case h_2 => exact h.elim
    rename_i d
    cases d with
    | tuple ds =>
      walk_at "dl"
      simp only [isPair] at h
      have e : decide ((ds.length : Int) = 2) = decide (ds.length = 2) := by
        rw [Bool.eq_iff_iff]
        simp
        omega
      rw [e]
      exact h
    | _ =>
      walk_at "dl"
      exact h

theorem ok_is_name (T : Tp K mg) {f : Addr} {fd : FuncData} (m : mg "is_name" = some (.ref f)) (F : Fun K "is_name" "is_name" s_is_name f fd) : FnD P w K mg base 1 "is_name" ["thing"] sp_is_name f fd := by
  refine fnD_ok m F sc_is_name (fun _ _ _ _ _ _ us hl => match us, hl with | [_], _ => rfl) (fun cdv A outer s H E hr => ⟨_, (pss_one (ps_ret (pe_and (pe_callB (call_isiN K rfl) (by rfl) T.b_isinstance (by decide +kernel) (pa_cons (pv 0) (pa_cons (pe_bty "str" (by rfl) T.b_str (by decide +kernel)) pa_nil))) (pe_and (pe_chain op_le op_le pe_int (pe_callB (call_lenK K rfl) (by rfl) T.b_len (by decide +kernel) (pa_cons (pv 0) pa_nil)) pe_int) (pe_one (pe_callB (cr_allK K rfl rfl) (by rfl) T.b_all (by decide +kernel) (pa_cons (pe_lc (own := [("sign", 1)]) rfl sc_is_name.nd (pi_seqK K rfl (pv 0)) (blkOk_by (own := [("sign", 1)]) (N := ["thing", "sign"]) (sc := defScope s_is_name) (by decide +kernel)) (fun _ _ _ _ _ => (pg_name (i := 1) sc_is_name.nd rfl (by first | exact Or.inl rfl | exact Or.inr rfl))) (fun _ _ _ _ _ => pts_nil) (fun _ _ _ _ _ => (pe_cmpR (op_inK K rfl) (pv 1) (pe_gstr rfl T.c_LETTERS) (by rfl)))) pa_nil))))))),
    fun w1 H0 F0 => (pu_ret (PuE.x (pu_andV (pu_isi kit_str (pu_see 0)) (pu_andV (pu_chain v_cmp v_cmp (PuE.p pu_int) (PuE.p (PuX.e (pu_cb l_len (puv_cons (pu_see 0) puv_nil)))) (PuE.p pu_int)) (PuX.e (pu_cb l_all (puv_cons (PuE.p (PuX.e (pu_lc (pui_seq (pu_var 0)) (pu_gname 1) pu_yes (pu_op v_in (pu_see 1) (PuE.p pu_str))))) puv_nil)))))))⟩) ?_ ?_
  · intro ds q h
    unfold sp_is_name at h
    split at h <;> first | rfl | exact h.elim
  · intro ds q h
    unfold sp_is_name at h
    split at h
    case h_2 => exact h.elim
    rename_i d
    cases d with
    | str x =>
      walk_at "dl"
      simp only [isName] at h
      split
      · rename_i c1
        split
        · rename_i c2
          refine compD_map (fun d => .bool (inLetters d)) _ (fun d hd kt hk => ?_) ?_
          · obtain ⟨c, hc, rfl⟩ := List.mem_map.mp hd
            walk_at "dl"
            exact hk
          · have e : (signsD x).map (fun d => PyData.bool (inLetters d)) = (x.cps.toList.map fun c => decide (c ∈ letters)).map .bool := by
              unfold signsD
              rw [List.map_map, List.map_map]
              rfl
            rw [e, boolsD_map]
            have e2 : (x.cps.toList.map fun c => decide (c ∈ letters)).all id = x.cps.toList.all fun c => decide (c ∈ letters) := by
              rw [List.all_map]
              rfl
            dsimp only
            rw [e2]
            rw [decide_eq_true (by omega), decide_eq_true (by omega)] at h
            exact h
        · rw [decide_eq_false (p := x.length ≤ 8) (by omega), Bool.and_false, Bool.false_and] at h
          exact h
      · rw [decide_eq_false (p := 1 ≤ x.length) (by omega), Bool.false_and, Bool.false_and] at h
        exact h
    | _ => exact h

theorem ok_is_hush (T : Tp K mg) {f_is_pair : Addr} {d_is_pair : FuncData} (G_is_pair : FnD P w K mg base 1 "is_pair" ["thing"] sp_is_pair f_is_pair d_is_pair) {f_is_whole : Addr} {d_is_whole : FuncData} (G_is_whole : FnD P w K mg base 1 "is_whole" ["thing", "low", "high"] sp_is_whole f_is_whole d_is_whole) {f : Addr} {fd : FuncData} (m : mg "is_hush" = some (.ref f)) (F : Fun K "is_hush" "is_hush" s_is_hush f fd) : FnD P w K mg base 2 "is_hush" ["thing"] sp_is_hush f fd := by
  refine fnD_ok m F sc_is_hush (fun _ _ _ _ _ _ us hl => match us, hl with | [_], _ => rfl) (fun cdv A outer s H E hr => ⟨_, (pss_cons (ps_if (PW.pt (pw_or (pt_not (pt_val (pe_callB (call_isiN K rfl) (by rfl) T.b_isinstance (by decide +kernel) (pa_cons (pv 0) (pa_cons (pe_bty "tuple" (by rfl) T.b_tuple (by decide +kernel)) pa_nil))))) (pw_or1 (pt_cmpR op_gt (pe_callB (call_lenK K rfl) (by rfl) T.b_len (by decide +kernel) (pa_cons (pv 0) pa_nil)) (pe_gint rfl T.c_MOST_PAIRS) (nomark _))))) (pss_one (ps_ret pe_bl)) pss_nil)
      (pss_cons (ps_set (i := 1) sc_is_hush.nd rfl (Or.inl rfl) (pe_un un_neg pe_int))
      (pss_cons (ps_for PassesOwn.never rfl (pi_seqK K rfl (pv 0)) (pg_name (i := 2) sc_is_hush.nd rfl (by first | exact Or.inl rfl | exact Or.inr rfl)) (pss_cons (ps_if (PW.pt (pw_or (pt_not (pt_val (pe_call G_is_pair.ok (hr.mono (by decide)) (by rfl) G_is_pair.mgf G_is_pair.kp G_is_pair.bd .nil pass0 (pa_cons (pv 2) pa_nil)))) (pw_or1 (pt_not (pt_val (pe_call G_is_whole.ok (hr.mono (by decide)) (by rfl) G_is_whole.mgf G_is_whole.kp G_is_whole.bd .nil pass0 (pa_cons (pe_ix (ix_K K rfl) (pv 2) pe_int (fun _ _ => rfl)) (pa_cons (pe_op (op_addK K rfl) (pv 1) pe_int) (pa_cons (pe_op op_sub (pe_gint rfl T.c_DAY) pe_int) pa_nil))))))))) (pss_one (ps_ret pe_bl)) pss_nil)
      (pss_cons (ps_if (pt_not (pt_val (pe_call G_is_whole.ok (hr.mono (by decide)) (by rfl) G_is_whole.mgf G_is_whole.kp G_is_whole.bd .nil pass0 (pa_cons (pe_ix (ix_K K rfl) (pv 2) pe_int (fun _ _ => rfl)) (pa_cons (pe_op (op_addK K rfl) (pe_ix (ix_K K rfl) (pv 2) pe_int (fun _ _ => rfl)) pe_int) (pa_cons (pe_gint rfl T.c_DAY) pa_nil)))))) (pss_one (ps_ret pe_bl)) pss_nil)
      (pss_one (ps_set (i := 1) sc_is_hush.nd rfl (Or.inl rfl) (pe_ix (ix_K K rfl) (pv 2) pe_int (fun _ _ => rfl)))))))
      (pss_one (ps_ret pe_bl))))),
    fun w1 H0 F0 => (pu_seq (pu_if (pu_or (pu_not (pu_tB (pu_isi kit_tup (pu_see 0)))) (pu_tTest (pu_op v_cmp (PuE.p (PuX.e (pu_cb l_len (puv_cons (pu_see 0) puv_nil)))) (PuE.p pu_int)))) (pu_ret (PuE.x pu_bl)) pu_next)
      (pu_seq (pu_set 1 (PuE.x (pu_un v_neg (PuE.p pu_int))))
      (pu_seq (pu_for (vs := [2]) (pui_seq (pu_var 0)) (pu_gname 2) (pu_seq (pu_if (pu_or (pu_not (pu_tB (PuX.e (pu_call (puc_cons (pu_var 2) puc_nil))))) (pu_not (pu_tB (PuX.e (pu_call (puc_cons (pu_op v_ix (pu_see 2) (PuE.p pu_int)) (puc_cons (pu_op v_add (pu_see 1) (PuE.p pu_int)) (puc_cons (pu_op v_sub (PuE.p pu_int) (PuE.p pu_int)) puc_nil)))))))) (pu_ret (PuE.x pu_bl)) pu_next)
      (pu_seq (pu_if (pu_not (pu_tB (PuX.e (pu_call (puc_cons (pu_op v_ix (pu_see 2) (PuE.p pu_int)) (puc_cons (pu_op v_add (PuE.p (pu_op v_ix (pu_see 2) (PuE.p pu_int))) (PuE.p pu_int)) (puc_cons pu_int puc_nil))))))) (pu_ret (PuE.x pu_bl)) pu_next)
      (pu_set 1 (PuE.x (pu_op v_ix (pu_see 2) (PuE.p pu_int)))))))
      (pu_ret (PuE.x pu_bl)))))⟩) ?_ ?_
  · intro ds q h
    unfold sp_is_hush at h
    split at h <;> first | rfl | exact h.elim
  · intro ds q h
    unfold sp_is_hush at h
    split at h
    case h_2 => exact h.elim
    rename_i d
    cases d with
    | tuple ds =>
      walk_at "dl"
      simp only [isHush] at h
      split
      · rename_i c
        rw [decide_eq_false (by omega), Bool.false_and] at h
        exact h
      · rename_i c
        rw [decide_eq_true (by omega), Bool.true_and] at h
        refine loopD_by (fun ps ρ => ∃ last x, ρ = [.dat (.tuple ds), .dat (.int last), x] ∧ q (.dat (.bool (hushFrom last ps)))) ⟨-1, .un, rfl, h⟩ ?_ ?_
        · rintro ρ ⟨last, x, rfl, hq⟩
          exact hq
        · rintro p ps ρ nx ⟨last, x, rfl, hq⟩ hn
          by_cases hp : isPair p = true
          · obtain ⟨a, b, rfl⟩ := isPair_of hp
            simp only [hushFrom] at hq
            walk_at "dl"
            rw [if_neg (by rw [hp]; decide)]
            split
            · rename_i e
              rw [e, Bool.false_and, Bool.false_and] at hq
              exact hq
            · rename_i e
              have e1 : isWhole a (last + 1) 95 = true := by simpa using e
              rw [e1, Bool.true_and] at hq
              cases a with
              | int i =>
                walk_at "dl"
                simp only [intOf] at hq
                split
                · rename_i e2
                  rw [e2, Bool.false_and] at hq
                  exact hq
                · rename_i e2
                  have e3 : isWhole b (i + 1) 96 = true := by simpa using e2
                  rw [e3, Bool.true_and] at hq
                  cases b with
                  | int j => exact hn _ ⟨j, _, rfl, hq⟩
                  | _ => cases e3
              | _ => cases e1
          · walk_at "dl"
            rw [Bool.not_eq_true] at hp
            rw [if_pos hp]
            have e : hushFrom last (p :: ps) = false := by
              unfold hushFrom
              split
              · cases hp
              · rfl
            rw [e] at hq
            exact hq
    | _ => exact h

def rowOk (d : D) : Bool := match d with
  | .tuple [a, h] => isName a && isHush h
  | _ => false
def nameOf (d : D) : Str := match d with
  | .tuple (.str x :: _) => x
  | _ => Str.empty
def areWishes (d : D) : Bool := match d with
  | .tuple ds => (decide (1 ≤ ds.length) && decide (ds.length ≤ 4)) && (ds.all rowOk && decide (setSize (ds.map nameOf) = ds.length))
  | _ => false
theorem rowOk_of {d : D} (h : rowOk d = true) : ∃ x g, d = .tuple [.str x, g] ∧ isName (.str x) = true ∧ isHush g = true := by
  unfold rowOk at h
  split at h
  · rename_i a g
    rw [Bool.and_eq_true] at h
    cases a with
    | str x => exact ⟨x, g, rfl, h⟩
    | _ => exact absurd h.1 (by simp [isName])
  · cases h
def sp_are_wishes : DL.Spec
  | [.dat d], q => q (.dat (.bool (areWishes d)))
  | _, _ => False
def q_sp_are_wishes := @sp_are_wishes.eq_1
local macro_rules | `(tactic| walk_at "dl") => `(tactic| simp only [q_startD_1, q_gNext_1, q_gSeq_1, q_gBreak_1, q_gCont_1, q_gNever_1, q_gDrop_1, q_gRet_1, q_gRetN_1, q_gRetV_1, q_gIf_1, q_gSet_1, q_gPar_1, q_gAsg_1, q_gnm_1, q_gnil_1, q_gcons_1, q_gtup_1, q_gFor_1, q_iL_1, q_iT_1, q_iR1_1, q_iR2_1, q_iR3_1, q_iSeqD_1, q_iStrD_1, q_iEnumD_1, q_iZipD_1, q_xComp_1, q_xOf_1, q_eOf_1, q_dVar_1, q_dSee_1, q_dC_1, q_dNil_1, q_dCons_1, q_cNil_1, q_cCons_1, q_cWel_1, q_cScr_1, q_dOp_1, q_dUn_1, q_xB_1, q_dBool_1, q_bAnd_1, q_bOr_1, q_bNot_1, q_dAndV_1, q_dOrV_1, q_dNotV_1, q_dIf_1, q_dChain_1, q_dTup_1, q_xLst_1, q_xDict_1, q_dIsi_1, q_xSl_1, q_oNo_1, q_oSome_1, q_xRev_1, q_gAppend_1, q_gPop_1, q_gPopAt_1, q_gInsert_1, q_gSetIx_1, q_gSetSl_1, q_xCall_1, q_dLenSet_1, q_xLenScr_1, q_dIxScr_1, q_gWell_1, q_dAdd_1, q_dAdd_2, q_dAdd_3, q_dAdd_4, q_dSub_1, q_dMul_1, q_dMul_2, q_dMod_1, q_dFdiv_1, q_dPow_1, q_dNeg_1, q_dLt_1, q_dLt_2, q_dCmp_1, q_dEq_1, q_dNe_1, q_dIs_1, q_dIsNot_1, q_dIn_1, q_dIn_2, q_dIn_3, q_dNotIn_1, q_dIx_1, q_dIx_2, q_dIx_3, q_gLen_1, q_gLen_2, q_gLen_3, q_gAll_1, q_gAny_1, q_gMax_1, q_gMin_1, q_gMax2_1, q_gMin2_1, q_gTuple_1, q_gTuple_2, q_gList_1, q_gList_2, q_gInt_1, q_gInt_2, q_wipeD_1, q_wipeD_2, q_unwel_1, q_unwel_2, q_uw1_1, q_uw1_2, q_intsD_1, q_intsD_2, q_boolsD_1, q_boolsD_2, q_strsD_1, q_strsD_2, q_xCallE_1, q_dIsE_1, q_xSplit_1, q_xSortZip_1, q_dIsB_1, q_xCallDf_1, q_xTupRg_1, q_xLstRg_1, q_gFrz_1, q_xRevA_1, q_gRetT2_1, q_xSortSet_1, q_dIdx_1, q_xCallX_1, q_xCallNX_1, q_gRaise_1, q_gRaiseP_1, q_gTry_1, q_gTryAs_1, q_dPlace_1, q_cExn_1, q_xDictT_1, q_xSortedT_1, q_xCallN_1, q_gDPut_1, q_gDPutT_1, q_dInK_1, q_xListK_1, q_keyD_1, q_keyD_2, q_keysD_1, q_keysD_2, isIntD_none, isIntD_bool, isIntD_int, isIntD_str, isIntD_list, isIntD_tuple, isIntD_dict, isBoolD_none, isBoolD_bool, isBoolD_int, isBoolD_str, isBoolD_list, isBoolD_tuple, isBoolD_dict, isStrD_none, isStrD_bool, isStrD_int, isStrD_str, isStrD_list, isStrD_tuple, isStrD_dict, isTupD_none, isTupD_bool, isTupD_int, isTupD_str, isTupD_list, isTupD_tuple, isTupD_dict, isListD_none, isListD_bool, isListD_int, isListD_str, isListD_list, isListD_tuple, isListD_dict, isNoneD_none, isNoneD_bool, isNoneD_int, isNoneD_str, isNoneD_list, isNoneD_tuple, isNoneD_dict, flatD_none, flatD_bool, flatD_int, flatD_str, flatD_list, flatD_tuple, flatD_dict, Option.map_some, sizeLine_eq, Int.cast_ofNat_Int, eq_self, dpI, dpB, dpS, dpN, evII, evBB, evSS, Nat.zero_le, Int.reduceSub, Int.reduceAdd, Int.reduceMul, Int.reduceNeg, Int.reduceLT, Int.reduceLE, Int.reduceMod, Int.reduceDiv, Int.reduceEq, Int.reduceToNat, Int.reducePow, Nat.reduceLT, Nat.reduceLeDiff, Nat.reduceMul, Nat.reducePow, decide_true, decide_false, ite_true, ite_false, not_true_eq_false, not_false_eq_true, reduceIte, reduceCtorEq, Bool.true_eq_false, Bool.and_self, and_self, false_and, and_false, at0, at1, at2, at3, decide_eq_true_eq, decide_eq_false_iff_not, Bool.false_eq_true, if_true, if_false, Bool.not_true, Bool.not_false, true_and, and_true, Bool.true_and, Bool.and_true, Bool.false_and, Bool.and_false, decide_not, Bool.not_eq_eq_eq_not, List.map_cons, List.map_nil, List.length_cons, List.length_nil, Nat.sub_self, List.replicate_zero, List.replicate_succ, List.append_nil, List.nil_append, List.cons_append, List.getElem?_cons_zero, List.getElem?_cons_succ, List.set_cons_zero, List.set_cons_succ, Nat.add_one_sub_one, Nat.reduceAdd, Nat.reduceSub, Nat.reduceLeDiff, q_sp_take_1, q_sp_is_whole, q_sp_is_pair, q_sp_is_name, q_sp_is_hush, q_sp_are_wishes])
local macro_rules | `(tactic| walk_at "dn") => `(tactic| simp only [q_startD_1, q_gNext_1, q_gBreak_1, q_gCont_1, q_gNever_1, q_gDrop_1, q_gRet_1, q_gRetN_1, q_gRetV_1, q_gIf_1, q_gSet_1, q_gPar_1, q_gAsg_1, q_gnm_1, q_gnil_1, q_gcons_1, q_gtup_1, q_gFor_1, q_iL_1, q_iT_1, q_iR1_1, q_iR2_1, q_iR3_1, q_iSeqD_1, q_iStrD_1, q_iEnumD_1, q_iZipD_1, q_xComp_1, q_xOf_1, q_eOf_1, q_dVar_1, q_dSee_1, q_dC_1, q_dNil_1, q_dCons_1, q_cNil_1, q_cCons_1, q_cWel_1, q_cScr_1, q_dOp_1, q_dUn_1, q_xB_1, q_dBool_1, q_bAnd_1, q_bOr_1, q_bNot_1, q_dAndV_1, q_dOrV_1, q_dNotV_1, q_dIf_1, q_dChain_1, q_dTup_1, q_xLst_1, q_xDict_1, q_dIsi_1, q_xSl_1, q_oNo_1, q_oSome_1, q_xRev_1, q_gAppend_1, q_gPop_1, q_gPopAt_1, q_gInsert_1, q_gSetIx_1, q_gSetSl_1, q_xCall_1, q_dLenSet_1, q_xLenScr_1, q_dIxScr_1, q_gWell_1, q_dAdd_1, q_dAdd_2, q_dAdd_3, q_dAdd_4, q_dSub_1, q_dMul_1, q_dMul_2, q_dMod_1, q_dFdiv_1, q_dPow_1, q_dNeg_1, q_dLt_1, q_dLt_2, q_dCmp_1, q_dEq_1, q_dNe_1, q_dIs_1, q_dIsNot_1, q_dIn_1, q_dIn_2, q_dIn_3, q_dNotIn_1, q_dIx_1, q_dIx_2, q_dIx_3, q_gLen_1, q_gLen_2, q_gLen_3, q_gAll_1, q_gAny_1, q_gMax_1, q_gMin_1, q_gMax2_1, q_gMin2_1, q_gTuple_1, q_gTuple_2, q_gList_1, q_gList_2, q_gInt_1, q_gInt_2, q_wipeD_1, q_wipeD_2, q_unwel_1, q_unwel_2, q_uw1_1, q_uw1_2, q_intsD_1, q_intsD_2, q_boolsD_1, q_boolsD_2, q_strsD_1, q_strsD_2, q_xCallE_1, q_dIsE_1, q_xSplit_1, q_xSortZip_1, q_dIsB_1, q_xCallDf_1, q_xTupRg_1, q_xLstRg_1, q_gFrz_1, q_xRevA_1, q_gRetT2_1, q_xSortSet_1, q_dIdx_1, q_xCallX_1, q_xCallNX_1, q_gRaise_1, q_gRaiseP_1, q_gTry_1, q_gTryAs_1, q_dPlace_1, q_cExn_1, q_xDictT_1, q_xSortedT_1, q_xCallN_1, q_gDPut_1, q_gDPutT_1, q_dInK_1, q_xListK_1, q_keyD_1, q_keyD_2, q_keysD_1, q_keysD_2, isIntD_none, isIntD_bool, isIntD_int, isIntD_str, isIntD_list, isIntD_tuple, isIntD_dict, isBoolD_none, isBoolD_bool, isBoolD_int, isBoolD_str, isBoolD_list, isBoolD_tuple, isBoolD_dict, isStrD_none, isStrD_bool, isStrD_int, isStrD_str, isStrD_list, isStrD_tuple, isStrD_dict, isTupD_none, isTupD_bool, isTupD_int, isTupD_str, isTupD_list, isTupD_tuple, isTupD_dict, isListD_none, isListD_bool, isListD_int, isListD_str, isListD_list, isListD_tuple, isListD_dict, isNoneD_none, isNoneD_bool, isNoneD_int, isNoneD_str, isNoneD_list, isNoneD_tuple, isNoneD_dict, flatD_none, flatD_bool, flatD_int, flatD_str, flatD_list, flatD_tuple, flatD_dict, Option.map_some, sizeLine_eq, Int.cast_ofNat_Int, eq_self, dpI, dpB, dpS, dpN, evII, evBB, evSS, Nat.zero_le, Int.reduceSub, Int.reduceAdd, Int.reduceMul, Int.reduceNeg, Int.reduceLT, Int.reduceLE, Int.reduceMod, Int.reduceDiv, Int.reduceEq, Int.reduceToNat, Int.reducePow, Nat.reduceLT, Nat.reduceLeDiff, Nat.reduceMul, Nat.reducePow, decide_true, decide_false, ite_true, ite_false, not_true_eq_false, not_false_eq_true, reduceIte, reduceCtorEq, Bool.true_eq_false, Bool.and_self, and_self, false_and, and_false, at0, at1, at2, at3, decide_eq_true_eq, decide_eq_false_iff_not, Bool.false_eq_true, if_true, if_false, Bool.not_true, Bool.not_false, true_and, and_true, Bool.true_and, Bool.and_true, Bool.false_and, Bool.and_false, decide_not, Bool.not_eq_eq_eq_not, List.map_cons, List.map_nil, List.length_cons, List.length_nil, Nat.sub_self, List.replicate_zero, List.replicate_succ, List.append_nil, List.nil_append, List.cons_append, List.getElem?_cons_zero, List.getElem?_cons_succ, List.set_cons_zero, List.set_cons_succ, Nat.add_one_sub_one, Nat.reduceAdd, Nat.reduceSub, Nat.reduceLeDiff, q_sp_take_1, q_sp_is_whole, q_sp_is_pair, q_sp_is_name, q_sp_is_hush, q_sp_are_wishes])
local macro_rules | `(tactic| walk_at "sq") => `(tactic| simp only [q_gSeq_1])
theorem ok_are_wishes (T : Tp K mg) {f_is_pair : Addr} {d_is_pair : FuncData} (G_is_pair : FnD P w K mg base 1 "is_pair" ["thing"] sp_is_pair f_is_pair d_is_pair) {f_is_name : Addr} {d_is_name : FuncData} (G_is_name : FnD P w K mg base 1 "is_name" ["thing"] sp_is_name f_is_name d_is_name) {f_is_hush : Addr} {d_is_hush : FuncData} (G_is_hush : FnD P w K mg base 2 "is_hush" ["thing"] sp_is_hush f_is_hush d_is_hush) {f : Addr} {fd : FuncData} (m : mg "are_wishes" = some (.ref f)) (F : Fun K "are_wishes" "are_wishes" s_are_wishes f fd) : FnD P w K mg base 3 "are_wishes" ["thing"] sp_are_wishes f fd := by
  refine fnD_ok m F sc_are_wishes (fun _ _ _ _ _ _ us hl => match us, hl with | [_], _ => rfl) (fun cdv A outer s H E hr => ⟨_, (pss_cons (ps_if (PW.pt (pw_or (pt_not (pt_val (pe_callB (call_isiN K rfl) (by rfl) T.b_isinstance (by decide +kernel) (pa_cons (pv 0) (pa_cons (pe_bty "tuple" (by rfl) T.b_tuple (by decide +kernel)) pa_nil))))) (pw_or1 (pt_not (pt_chain op_le op_le pe_int (pe_callB (call_lenK K rfl) (by rfl) T.b_len (by decide +kernel) (pa_cons (pv 0) pa_nil)) (pe_gint rfl T.c_MOST_WAYS)))))) (pss_one (ps_ret pe_bl)) pss_nil)
      (pss_cons (ps_if (pt_not (pt_val (pe_callB (cr_allK K rfl rfl) (by rfl) T.b_all (by decide +kernel) (pa_cons (pe_lc (own := [("row", 1)]) rfl sc_are_wishes.nd (pi_seqK K rfl (pv 0)) (blkOk_by (own := [("row", 1)]) (N := ["thing", "row"]) (sc := defScope s_are_wishes) (by decide +kernel)) (fun _ _ _ _ _ => (pg_name (i := 1) sc_are_wishes.nd rfl (by first | exact Or.inl rfl | exact Or.inr rfl))) (fun _ _ _ _ _ => pts_nil) (fun _ _ _ _ _ => (pe_and (pe_call G_is_pair.ok (hr.mono (by decide)) (by rfl) G_is_pair.mgf G_is_pair.kp G_is_pair.bd .nil pass0 (pa_cons (pv 1) pa_nil)) (pe_and (pe_call G_is_name.ok (hr.mono (by decide)) (by rfl) G_is_name.mgf G_is_name.kp G_is_name.bd .nil pass0 (pa_cons (pe_ix (ix_K K rfl) (pv 1) pe_int (fun _ _ => rfl)) pa_nil)) (pe_one (pe_call G_is_hush.ok (hr.mono (by decide)) (by rfl) G_is_hush.mgf G_is_hush.kp G_is_hush.bd .nil pass0 (pa_cons (pe_ix (ix_K K rfl) (pv 1) pe_int (fun _ _ => rfl)) pa_nil))))))) pa_nil)))) (pss_one (ps_ret pe_bl)) pss_nil)
      (pss_one (ps_ret (pe_cmpR (op_eqK K rfl hr.units) (pe_lenSetK K rfl rfl (by rfl) T.b_len (by rfl) T.b_set (pe_lc (own := [("row", 1)]) rfl sc_are_wishes.nd (pi_seqK K rfl (pv 0)) (blkOk_by (own := [("row", 1)]) (N := ["thing", "row"]) (sc := defScope s_are_wishes) (by decide +kernel)) (fun _ _ _ _ _ => (pg_name (i := 1) sc_are_wishes.nd rfl (by first | exact Or.inl rfl | exact Or.inr rfl))) (fun _ _ _ _ _ => pts_nil) (fun _ _ _ _ _ => (pe_ix (ix_K K rfl) (pv 1) pe_int (fun _ _ => rfl))))) (pe_callB (call_lenK K rfl) (by rfl) T.b_len (by decide +kernel) (pa_cons (pv 0) pa_nil)) (nomark _)))))),
    fun w1 H0 F0 => (pu_seq (pu_if (pu_or (pu_not (pu_tB (pu_isi kit_tup (pu_see 0)))) (pu_not (pu_tTest (pu_chain v_cmp v_cmp (PuE.p pu_int) (PuE.p (PuX.e (pu_cb l_len (puv_cons (pu_see 0) puv_nil)))) (PuE.p pu_int))))) (pu_ret (PuE.x pu_bl)) pu_next)
      (pu_seq (pu_if (pu_not (pu_tB (PuX.e (pu_cb l_all (puv_cons (PuE.p (PuX.e (pu_lc (pui_seq (pu_var 0)) (pu_gname 1) pu_yes (pu_andV (PuX.e (pu_call (puc_cons (pu_var 1) puc_nil))) (pu_andV (PuX.e (pu_call (puc_cons (pu_op v_ix (pu_see 1) (PuE.p pu_int)) puc_nil))) (PuX.e (pu_call (puc_cons (pu_op v_ix (pu_see 1) (PuE.p pu_int)) puc_nil)))))))) puv_nil))))) (pu_ret (PuE.x pu_bl)) pu_next)
      (pu_ret (PuE.x (pu_op v_eq (PuE.p (pu_lenSet (PuE.p (PuX.e (pu_lc (pui_seq (pu_var 0)) (pu_gname 1) pu_yes (pu_op v_ix (pu_see 1) (PuE.p pu_int))))))) (PuE.p (PuX.e (pu_cb l_len (puv_cons (pu_see 0) puv_nil)))))))))⟩) ?_ ?_
  · intro ds q h
    unfold sp_are_wishes at h
    split at h <;> first | rfl | exact h.elim
  · intro ds q h
    unfold sp_are_wishes at h
    split at h
    case h_2 => exact h.elim
    rename_i d
    cases d with
    | tuple ds =>
      walk_at "dl"
      simp only [areWishes] at h
      split
      · rename_i c1
        rw [decide_eq_true (by omega), Bool.true_and] at h
        split
        · rename_i c2
          rw [decide_eq_false (by omega), Bool.false_and] at h
          exact h
        · rename_i c2
          rw [decide_eq_true (by omega), Bool.true_and] at h
          refine compD_map (fun d => .bool (rowOk d)) _ (fun d hd kt hk => ?_) ?_
          · walk_at "dl"
            by_cases hp : isPair d = true
            · obtain ⟨a, g, rfl⟩ := isPair_of hp
              walk_at "dl"
              rw [if_pos hp]
              simp only [rowOk] at hk
              split
              · rename_i e
                rw [e] at hk
                exact hk
              · rename_i e
                rw [Bool.not_eq_true] at e
                rw [e, Bool.false_and] at hk
                exact hk
            · rw [if_neg hp]
              have e : rowOk d = false := by
                unfold rowOk
                split
                · exact absurd rfl hp
                · rfl
              rw [e] at hk
              exact hk
          · simp only [boolsD_mapf, all_id_map]
            split
            · rename_i e
              rw [e, Bool.false_and] at h
              exact h
            · rename_i e
              have ha : ds.all rowOk = true := by simpa using e
              rw [ha, Bool.true_and] at h
              refine compD_map (fun d => .str (nameOf d)) _ (fun d hd kt hk => ?_) ?_
              · obtain ⟨x, g, rfl, _⟩ := rowOk_of (List.all_eq_true.mp ha d hd)
                walk_at "dl"
                exact hk
              · simp only [strsD_mapf]
                refine ⟨by rw [List.length_map]; omega, ?_⟩
                have e2 : decide (((setSize (ds.map nameOf) : Nat) : Int) = ((ds.length : Nat) : Int)) = decide (setSize (ds.map nameOf) = ds.length) := by
                  rw [Bool.eq_iff_iff]
                  simp
                  omega
                rw [e2]
                exact h
      · rename_i c1
        rw [decide_eq_false (by omega), Bool.false_and, Bool.false_and] at h
        exact h
    | _ => exact h

def sp__law_is_int : DL.Spec
  | [.dat d, .dat (.int lo), .dat (.int hi)], q => q (.dat (.bool (isWhole d lo hi)))
  | _, _ => False
def sp__law_says : DL.Spec
  | [.dat (.bool a), .dat (.bool b)], q => q (.dat (.bool (decide (a = b))))
  | _, _ => False
def sp__law_well : DL.Spec
  | [.scr ns, .dat (.int k)], q => (0 ≤ k ∧ k < 1000) ∧ ∀ x y z, 0 < z → z < 4294967296 → q (.own [.int x, .int y, .int z])
  | _, _ => False
/-- how many parts a thing has, itself -/
def topLen (d : D) : Nat := match d with
  | .tuple ds => ds.length
  | .list ds => ds.length
  | _ => 0
def AllLe (n : Nat) (l : List D) : Prop := ∀ d ∈ l, d.depth ≤ n
theorem AllLe.nil {n : Nat} : AllLe n [] := fun _ h => by cases h
theorem AllLe.cons {n : Nat} {a : D} {l : List D} (ha : a.depth ≤ n) (h : AllLe n l) : AllLe n (a :: l) := fun d hd => by
  rcases List.mem_cons.mp hd with rfl | hd
  · exact ha
  · exact h d hd
theorem AllLe.append {n : Nat} {l m : List D} (h : AllLe n l) (g : AllLe n m) : AllLe n (l ++ m) := fun d hd => by
  rcases List.mem_append.mp hd with hd | hd
  · exact h d hd
  · exact g d hd
theorem AllLe.set {n i : Nat} {a : D} {l : List D} (h : AllLe n l) (ha : a.depth ≤ n) : AllLe n (l.set i a) := fun d hd => by
  rcases List.mem_or_eq_of_mem_set hd with hd | rfl
  · exact h d hd
  · exact ha
theorem AllLe.take {n i : Nat} {l : List D} (h : AllLe n l) : AllLe n (l.take i) := fun d hd => h d (List.mem_of_mem_take hd)
theorem AllLe.drop {n i : Nat} {l : List D} (h : AllLe n l) : AllLe n (l.drop i) := fun d hd => h d (List.mem_of_mem_drop hd)
theorem AllLe.reverse {n : Nat} {l : List D} (h : AllLe n l) : AllLe n l.reverse := fun d hd => h d (List.mem_reverse.mp hd)
theorem AllLe.erase {n i : Nat} {l : List D} (h : AllLe n l) : AllLe n (l.eraseIdx i) := fun d hd => h d (List.mem_of_mem_eraseIdx hd)
theorem AllLe.cut {n : Nat} {a b : Option Int} {l : List D} (h : AllLe n l) : AllLe n (DL.cutD l a b) := by
  unfold DL.cutD
  exact h.drop.take
theorem AllLe.tuple {n : Nat} {l : List D} (h : AllLe n l) : (PyData.tuple l).depth ≤ n + 1 := depth_tuple h
theorem AllLe.list {n : Nat} {l : List D} (h : AllLe n l) : (PyData.list l).depth ≤ n + 1 := depth_list h
def sp__law_hush : DL.Spec
  | [.wel], q => ∀ d, isHush d = true → q (.dat d)
  | _, _ => False
/-- wishes as the laws draw them -/
def LawW (d : D) : Prop := areWishes d = true ∧ ∃ rows, d = .tuple rows ∧ rows.length ≤ 3 ∧ ∀ r ∈ rows, nameOf r = "call" ∨ nameOf r = "bell" ∨ nameOf r = "zz"
def sp__law_wishes : DL.Spec
  | [.wel], q => ∀ d, LawW d → q (.dat d)
  | _, _ => False
def q_sp__law_is_int := @sp__law_is_int.eq_1
def q_sp__law_says := @sp__law_says.eq_1
def q_sp__law_well := @sp__law_well.eq_1
def q_sp__law_hush := @sp__law_hush.eq_1
def q_sp__law_wishes := @sp__law_wishes.eq_1
local macro_rules | `(tactic| walk_at "dl") => `(tactic| simp only [q_startD_1, q_gNext_1, q_gSeq_1, q_gBreak_1, q_gCont_1, q_gNever_1, q_gDrop_1, q_gRet_1, q_gRetN_1, q_gRetV_1, q_gIf_1, q_gSet_1, q_gPar_1, q_gAsg_1, q_gnm_1, q_gnil_1, q_gcons_1, q_gtup_1, q_gFor_1, q_iL_1, q_iT_1, q_iR1_1, q_iR2_1, q_iR3_1, q_iSeqD_1, q_iStrD_1, q_iEnumD_1, q_iZipD_1, q_xComp_1, q_xOf_1, q_eOf_1, q_dVar_1, q_dSee_1, q_dC_1, q_dNil_1, q_dCons_1, q_cNil_1, q_cCons_1, q_cWel_1, q_cScr_1, q_dOp_1, q_dUn_1, q_xB_1, q_dBool_1, q_bAnd_1, q_bOr_1, q_bNot_1, q_dAndV_1, q_dOrV_1, q_dNotV_1, q_dIf_1, q_dChain_1, q_dTup_1, q_xLst_1, q_xDict_1, q_dIsi_1, q_xSl_1, q_oNo_1, q_oSome_1, q_xRev_1, q_gAppend_1, q_gPop_1, q_gPopAt_1, q_gInsert_1, q_gSetIx_1, q_gSetSl_1, q_xCall_1, q_dLenSet_1, q_xLenScr_1, q_dIxScr_1, q_gWell_1, q_dAdd_1, q_dAdd_2, q_dAdd_3, q_dAdd_4, q_dSub_1, q_dMul_1, q_dMul_2, q_dMod_1, q_dFdiv_1, q_dPow_1, q_dNeg_1, q_dLt_1, q_dLt_2, q_dCmp_1, q_dEq_1, q_dNe_1, q_dIs_1, q_dIsNot_1, q_dIn_1, q_dIn_2, q_dIn_3, q_dNotIn_1, q_dIx_1, q_dIx_2, q_dIx_3, q_gLen_1, q_gLen_2, q_gLen_3, q_gAll_1, q_gAny_1, q_gMax_1, q_gMin_1, q_gMax2_1, q_gMin2_1, q_gTuple_1, q_gTuple_2, q_gList_1, q_gList_2, q_gInt_1, q_gInt_2, q_wipeD_1, q_wipeD_2, q_unwel_1, q_unwel_2, q_uw1_1, q_uw1_2, q_intsD_1, q_intsD_2, q_boolsD_1, q_boolsD_2, q_strsD_1, q_strsD_2, q_xCallE_1, q_dIsE_1, q_xSplit_1, q_xSortZip_1, q_dIsB_1, q_xCallDf_1, q_xTupRg_1, q_xLstRg_1, q_gFrz_1, q_xRevA_1, q_gRetT2_1, q_xSortSet_1, q_dIdx_1, q_xCallX_1, q_xCallNX_1, q_gRaise_1, q_gRaiseP_1, q_gTry_1, q_gTryAs_1, q_dPlace_1, q_cExn_1, q_xDictT_1, q_xSortedT_1, q_xCallN_1, q_gDPut_1, q_gDPutT_1, q_dInK_1, q_xListK_1, q_keyD_1, q_keyD_2, q_keysD_1, q_keysD_2, isIntD_none, isIntD_bool, isIntD_int, isIntD_str, isIntD_list, isIntD_tuple, isIntD_dict, isBoolD_none, isBoolD_bool, isBoolD_int, isBoolD_str, isBoolD_list, isBoolD_tuple, isBoolD_dict, isStrD_none, isStrD_bool, isStrD_int, isStrD_str, isStrD_list, isStrD_tuple, isStrD_dict, isTupD_none, isTupD_bool, isTupD_int, isTupD_str, isTupD_list, isTupD_tuple, isTupD_dict, isListD_none, isListD_bool, isListD_int, isListD_str, isListD_list, isListD_tuple, isListD_dict, isNoneD_none, isNoneD_bool, isNoneD_int, isNoneD_str, isNoneD_list, isNoneD_tuple, isNoneD_dict, flatD_none, flatD_bool, flatD_int, flatD_str, flatD_list, flatD_tuple, flatD_dict, Option.map_some, sizeLine_eq, Int.cast_ofNat_Int, eq_self, dpI, dpB, dpS, dpN, evII, evBB, evSS, Nat.zero_le, Int.reduceSub, Int.reduceAdd, Int.reduceMul, Int.reduceNeg, Int.reduceLT, Int.reduceLE, Int.reduceMod, Int.reduceDiv, Int.reduceEq, Int.reduceToNat, Int.reducePow, Nat.reduceLT, Nat.reduceLeDiff, Nat.reduceMul, Nat.reducePow, decide_true, decide_false, ite_true, ite_false, not_true_eq_false, not_false_eq_true, reduceIte, reduceCtorEq, Bool.true_eq_false, Bool.and_self, and_self, false_and, and_false, at0, at1, at2, at3, decide_eq_true_eq, decide_eq_false_iff_not, Bool.false_eq_true, if_true, if_false, Bool.not_true, Bool.not_false, true_and, and_true, Bool.true_and, Bool.and_true, Bool.false_and, Bool.and_false, decide_not, Bool.not_eq_eq_eq_not, List.map_cons, List.map_nil, List.length_cons, List.length_nil, Nat.sub_self, List.replicate_zero, List.replicate_succ, List.append_nil, List.nil_append, List.cons_append, List.getElem?_cons_zero, List.getElem?_cons_succ, List.set_cons_zero, List.set_cons_succ, Nat.add_one_sub_one, Nat.reduceAdd, Nat.reduceSub, Nat.reduceLeDiff, q_sp_take_1, q_sp_is_whole, q_sp_is_pair, q_sp_is_name, q_sp_is_hush, q_sp_are_wishes, q_sp__law_is_int, q_sp__law_says, q_sp__law_well, q_sp__law_hush, q_sp__law_wishes])
local macro_rules | `(tactic| walk_at "dn") => `(tactic| simp only [q_startD_1, q_gNext_1, q_gBreak_1, q_gCont_1, q_gNever_1, q_gDrop_1, q_gRet_1, q_gRetN_1, q_gRetV_1, q_gIf_1, q_gSet_1, q_gPar_1, q_gAsg_1, q_gnm_1, q_gnil_1, q_gcons_1, q_gtup_1, q_gFor_1, q_iL_1, q_iT_1, q_iR1_1, q_iR2_1, q_iR3_1, q_iSeqD_1, q_iStrD_1, q_iEnumD_1, q_iZipD_1, q_xComp_1, q_xOf_1, q_eOf_1, q_dVar_1, q_dSee_1, q_dC_1, q_dNil_1, q_dCons_1, q_cNil_1, q_cCons_1, q_cWel_1, q_cScr_1, q_dOp_1, q_dUn_1, q_xB_1, q_dBool_1, q_bAnd_1, q_bOr_1, q_bNot_1, q_dAndV_1, q_dOrV_1, q_dNotV_1, q_dIf_1, q_dChain_1, q_dTup_1, q_xLst_1, q_xDict_1, q_dIsi_1, q_xSl_1, q_oNo_1, q_oSome_1, q_xRev_1, q_gAppend_1, q_gPop_1, q_gPopAt_1, q_gInsert_1, q_gSetIx_1, q_gSetSl_1, q_xCall_1, q_dLenSet_1, q_xLenScr_1, q_dIxScr_1, q_gWell_1, q_dAdd_1, q_dAdd_2, q_dAdd_3, q_dAdd_4, q_dSub_1, q_dMul_1, q_dMul_2, q_dMod_1, q_dFdiv_1, q_dPow_1, q_dNeg_1, q_dLt_1, q_dLt_2, q_dCmp_1, q_dEq_1, q_dNe_1, q_dIs_1, q_dIsNot_1, q_dIn_1, q_dIn_2, q_dIn_3, q_dNotIn_1, q_dIx_1, q_dIx_2, q_dIx_3, q_gLen_1, q_gLen_2, q_gLen_3, q_gAll_1, q_gAny_1, q_gMax_1, q_gMin_1, q_gMax2_1, q_gMin2_1, q_gTuple_1, q_gTuple_2, q_gList_1, q_gList_2, q_gInt_1, q_gInt_2, q_wipeD_1, q_wipeD_2, q_unwel_1, q_unwel_2, q_uw1_1, q_uw1_2, q_intsD_1, q_intsD_2, q_boolsD_1, q_boolsD_2, q_strsD_1, q_strsD_2, q_xCallE_1, q_dIsE_1, q_xSplit_1, q_xSortZip_1, q_dIsB_1, q_xCallDf_1, q_xTupRg_1, q_xLstRg_1, q_gFrz_1, q_xRevA_1, q_gRetT2_1, q_xSortSet_1, q_dIdx_1, q_xCallX_1, q_xCallNX_1, q_gRaise_1, q_gRaiseP_1, q_gTry_1, q_gTryAs_1, q_dPlace_1, q_cExn_1, q_xDictT_1, q_xSortedT_1, q_xCallN_1, q_gDPut_1, q_gDPutT_1, q_dInK_1, q_xListK_1, q_keyD_1, q_keyD_2, q_keysD_1, q_keysD_2, isIntD_none, isIntD_bool, isIntD_int, isIntD_str, isIntD_list, isIntD_tuple, isIntD_dict, isBoolD_none, isBoolD_bool, isBoolD_int, isBoolD_str, isBoolD_list, isBoolD_tuple, isBoolD_dict, isStrD_none, isStrD_bool, isStrD_int, isStrD_str, isStrD_list, isStrD_tuple, isStrD_dict, isTupD_none, isTupD_bool, isTupD_int, isTupD_str, isTupD_list, isTupD_tuple, isTupD_dict, isListD_none, isListD_bool, isListD_int, isListD_str, isListD_list, isListD_tuple, isListD_dict, isNoneD_none, isNoneD_bool, isNoneD_int, isNoneD_str, isNoneD_list, isNoneD_tuple, isNoneD_dict, flatD_none, flatD_bool, flatD_int, flatD_str, flatD_list, flatD_tuple, flatD_dict, Option.map_some, sizeLine_eq, Int.cast_ofNat_Int, eq_self, dpI, dpB, dpS, dpN, evII, evBB, evSS, Nat.zero_le, Int.reduceSub, Int.reduceAdd, Int.reduceMul, Int.reduceNeg, Int.reduceLT, Int.reduceLE, Int.reduceMod, Int.reduceDiv, Int.reduceEq, Int.reduceToNat, Int.reducePow, Nat.reduceLT, Nat.reduceLeDiff, Nat.reduceMul, Nat.reducePow, decide_true, decide_false, ite_true, ite_false, not_true_eq_false, not_false_eq_true, reduceIte, reduceCtorEq, Bool.true_eq_false, Bool.and_self, and_self, false_and, and_false, at0, at1, at2, at3, decide_eq_true_eq, decide_eq_false_iff_not, Bool.false_eq_true, if_true, if_false, Bool.not_true, Bool.not_false, true_and, and_true, Bool.true_and, Bool.and_true, Bool.false_and, Bool.and_false, decide_not, Bool.not_eq_eq_eq_not, List.map_cons, List.map_nil, List.length_cons, List.length_nil, Nat.sub_self, List.replicate_zero, List.replicate_succ, List.append_nil, List.nil_append, List.cons_append, List.getElem?_cons_zero, List.getElem?_cons_succ, List.set_cons_zero, List.set_cons_succ, Nat.add_one_sub_one, Nat.reduceAdd, Nat.reduceSub, Nat.reduceLeDiff, q_sp_take_1, q_sp_is_whole, q_sp_is_pair, q_sp_is_name, q_sp_is_hush, q_sp_are_wishes, q_sp__law_is_int, q_sp__law_says, q_sp__law_well, q_sp__law_hush, q_sp__law_wishes])
local macro_rules | `(tactic| walk_at "sq") => `(tactic| simp only [q_gSeq_1])
theorem ok__law_take {f : Addr} {fd : FuncData} (m : mg "_law_take" = some (.ref f)) (F : Fun K "_law_take" "_law_take" s__law_take f fd) : FnD P w K mg base 1 "_law_take" ["well", "many"] sp_take f fd := by
  refine ⟨m, F.kp, F.binds (fun _ _ _ _ _ _ us hl => match us, hl with | [_, _], _ => rfl), F.ok sc__law_take (fun vs H Q E h => ?_) (fun cdv A outer s H vs Q E hr h => ?_)⟩
  · obtain ⟨w1, F1, ds, q, b, r, hs, _⟩ := h
    obtain ⟨a, m, _, e, _⟩ := sp_take_args hs r
    rw [e]
    rfl
  · obtain ⟨w1, F1, ds, q, b, r, hs, hk⟩ := h
    obtain ⟨a, m, hw, rfl, _, ⟨m0, m1⟩, hq⟩ := sp_take_args hs r
    obtain ⟨⟨x, y, z, hh, z0, z1⟩, hF⟩ := b.wl a hw
    have L := SqL.of (K := K) hh
    refine ⟨_, pss_cons (ps_if (pt_cmpR op_gt (pe_ix ix_list (pv 0) pe_int (fun _ _ => rfl)) pe_int (nomark _))
        (pss_cons (ps_set (i := 2) sc__law_take.nd rfl (.inl rfl) (pe_op op_mod (pe_ix ix_list (pv 0) pe_int (fun _ _ => rfl)) (pv 1)))
        (pss_cons (ps_asg (pe_op op_fdiv (pe_ix ix_list (pv 0) pe_int (fun _ _ => rfl)) (pv 1)) (pg_sub (pv 0) pe_int set_list)) (pss_one (ps_ret (pv 2))))) pss_nil)
      (pss_cons (ps_asg (pe_op op_add (pe_op op_mod (pe_op op_mul (pe_ix ix_list (pv 0) pe_int (fun _ _ => rfl)) pe_int) (pe_ix ix_list (pv 0) pe_int (fun _ _ => rfl))) pe_int) (pg_sub (pv 0) pe_int set_list))
      (pss_one (ps_ret (pe_op op_mod (pe_op op_fdiv (pe_op op_mod (pe_op op_mul (pe_ix ix_list (pv 0) pe_int (fun _ _ => rfl)) (pe_ix ix_list (pv 0) pe_int (fun _ _ => rfl))) pe_int) pe_int) (pv 1))))), ?_⟩
    refine ⟨_, rfl, a, _, 0, .int x, rfl, rfl, L, rfl, x, 0, rfl, rfl, _, rfl, ite2 (fun c => ?_) (fun c => ?_)⟩
    · refine ⟨_, rfl, a, _, 0, .int x, rfl, rfl, L, rfl, .int m, rfl, x, m, rfl, rfl, m0, ?_⟩
      refine ⟨_, rfl, a, _, 0, .int x, rfl, rfl, L, rfl, .int m, rfl, x, m, rfl, rfl, ⟨m0, m1⟩, _, rfl, a, _, 0, 0, rfl, rfl, hh, rfl, _, rfl, ?_⟩
      exact hk (.dat (.int (x % m))) _ _ F1 (hq _ (Int.emod_nonneg _ (by omega)) (Int.emod_lt_of_pos _ m0)) (Step.drawn (x := x / m) (y := y) b hw z0 z1) (.int _)
    · refine ⟨_, rfl, a, _, 1, .int y, rfl, rfl, L, rfl, y, 48271, rfl, rfl, .inr ⟨by decide, by decide⟩, _, rfl, a, _, 2, .int z, rfl, rfl, L, rfl, _, z, rfl, rfl, z0, _, 1, rfl, rfl, _, rfl, a, _, 1, 1, rfl, rfl, hh, rfl, ?_⟩
      have n0 : 0 ≤ y * 48271 % z := Int.emod_nonneg _ (by omega)
      have n1 : y * 48271 % z < z := Int.emod_lt_of_pos _ z0
      have L2' : SqL K (upd H a (.lst [.int x, .int (y * 48271 % z + 1), .int z])) a [.int x, .int (y * 48271 % z + 1), .int z] := SqL.of upd_same
      refine ⟨_, rfl, a, _, 1, .int (y * 48271 % z + 1), rfl, rfl, L2', rfl, _, rfl, a, _, 1, .int (y * 48271 % z + 1), rfl, rfl, L2', rfl, _, _, rfl, rfl, .inl ⟨by omega, by omega⟩, _, _, rfl, rfl, (by show (0 : Int) < 2147483423; decide), _, _, rfl, rfl, ⟨by decide, by decide⟩, .int m, rfl, _, m, rfl, rfl, m0, ?_⟩
      exact hk (.dat (.int _)) _ _ F1 (hq _ (Int.emod_nonneg _ (by omega)) (Int.emod_lt_of_pos _ m0)) (Step.drawn b hw z0 z1) (.int _)

theorem ok__law_well (T : Tp K mg) {f : Addr} {fd : FuncData} (m : mg "_law_well" = some (.ref f)) (F : Fun K "_law_well" "_law_well" s__law_well f fd) : FnD P w K mg base 1 "_law_well" ["script", "k"] sp__law_well f fd := by
  refine fnD_ok m F sc__law_well (fun _ _ _ _ _ _ us hl => match us, hl with | [_, _], _ => rfl) (fun cdv A outer s H E hr => ⟨_, (pss_cons (ps_set (i := 2) sc__law_well.nd rfl (Or.inl rfl) pe_int)
      (pss_cons (ps_if (pt_cmpR (op_ltK K rfl hr.units0) (pv 1) (pe_callB (call_lenK K rfl) (by rfl) T.b_len (by decide +kernel) (pa_cons (pv 0) pa_nil)) (nomark _)) (pss_one (ps_set (i := 2) sc__law_well.nd rfl (Or.inl rfl) (pe_ix (ix_K K rfl) (pv 0) (pv 1) (fun _ _ => rfl)))) pss_nil)
      (pss_cons (ps_set (i := 3) sc__law_well.nd rfl (Or.inl rfl) (pe_lst (pa_cons pe_int (pa_cons pe_int (pa_cons pe_int (pa_cons pe_int (pa_cons pe_int (pa_cons pe_int (pa_cons pe_int (pa_cons pe_int pa_nil))))))))))
      (pss_cons (ps_set (i := 4) sc__law_well.nd rfl (Or.inl rfl) (pe_op op_mod (pe_op op_mulX (pe_op (op_addK K rfl) (pe_op op_mod (pv 2) pe_int) pe_int) (pe_op (op_addK K rfl) pe_int (pe_op op_mulX pe_int (pv 1)))) pe_int))
      (pss_cons (ps_set (i := 4) sc__law_well.nd rfl (Or.inl rfl) (pe_op (op_addK K rfl) (pe_op (op_addK K rfl) (pe_op op_mod (pe_op op_mulX (pv 4) (pv 4)) pe_int) (pv 1)) pe_int))
      (pss_cons (ps_if (pt_cmpR op_ge (pv 2) (pe_op op_pow pe_int pe_int) (nomark _)) (pss_one (ps_ret (pe_lst (pa_cons (pv 2) (pa_cons (pv 4) (pa_cons (pe_ix (ix_K K rfl) (pv 3) (pe_op op_mod (pv 1) pe_int) (fun _ _ => rfl)) pa_nil)))))) pss_nil)
      (pss_one (ps_ret (pe_lst (pa_cons pe_int (pa_cons (pv 4) (pa_cons (pe_ix (ix_K K rfl) (pv 3) (pe_op op_mod (pv 1) pe_int) (fun _ _ => rfl)) pa_nil)))))))))))),
    fun w1 H0 F0 => (pu_seq (pu_set 2 (PuE.x pu_int))
      (pu_seq (pu_if (pu_tTest (pu_op v_lt (pu_see 1) (PuE.p (pu_lenScr 0)))) (pu_set 2 (PuE.x (pu_ixScr 0 (pu_var 1)))) pu_next)
      (pu_seq (pu_set 3 (PuE.x (PuX.e (pu_lst (pua_cons pu_int (pua_cons pu_int (pua_cons pu_int (pua_cons pu_int (pua_cons pu_int (pua_cons pu_int (pua_cons pu_int (pua_cons pu_int pua_nil))))))))))))
      (pu_seq (pu_set 4 (PuE.x (pu_op v_mod (PuE.p (pu_op v_mul (PuE.p (pu_op v_add (PuE.p (pu_op v_mod (pu_see 2) (PuE.p pu_int))) (PuE.p pu_int))) (PuE.p (pu_op v_add (PuE.p pu_int) (PuE.p (pu_op v_mul (PuE.p pu_int) (pu_see 1))))))) (PuE.p pu_int))))
      (pu_seq (pu_set 4 (PuE.x (pu_op v_add (PuE.p (pu_op v_add (PuE.p (pu_op v_mod (PuE.p (pu_op v_mul (pu_see 4) (pu_see 4))) (PuE.p pu_int))) (pu_see 1))) (PuE.p pu_int))))
      (pu_seq (pu_if (pu_tTest (pu_op v_cmp (pu_see 2) (PuE.p (pu_op v_pow (PuE.p pu_int) (PuE.p pu_int))))) (pu_ret (pu_lst (pua_cons (pu_var 2) (pua_cons (pu_var 4) (pua_cons (pu_op v_ix (pu_see 3) (PuE.p (pu_op v_mod (pu_see 1) (PuE.p pu_int)))) pua_nil))))) pu_next)
      (pu_ret (pu_lst (pua_cons pu_int (pua_cons (pu_var 4) (pua_cons (pu_op v_ix (pu_see 3) (PuE.p (pu_op v_mod (pu_see 1) (PuE.p pu_int)))) pua_nil)))))))))))⟩) ?_ ?_
  · intro ds q h
    unfold sp__law_well at h
    split at h <;> first | rfl | exact h.elim
  · intro ds q h
    unfold sp__law_well at h
    split at h
    case h_2 => exact h.elim
    rename_i ns k
    obtain ⟨hk, h⟩ := h
    walk_at "dl"
    have hm : ∀ (i j : Int), (-(2 ^ 64) < i ∧ i < 2 ^ 64) → CMul i j := fun i j a => .inl a
    have key : ∀ (x y : Int), dIx (.list [.int 2147483647, .int 2147483629, .int 2147483587, .int 2147483579, .int 2147483563, .int 2147483549, .int 2147483543, .int 2147483497]) (.int (k % 8)) fun d => q (SV.own [PyData.int x, PyData.int y, d]) := fun x y => by
      refine ix_any (by omega) (by simp only [List.length_cons, List.length_nil]; omega) fun d hd => ?_
      simp only [List.mem_cons, List.not_mem_nil, or_false] at hd
      rcases hd with rfl | rfl | rfl | rfl | rfl | rfl | rfl | rfl <;> exact h _ _ _ (by decide) (by decide)
    split
    · rename_i c
      obtain ⟨v, hv, e⟩ := atI_lt hk.1 c
      rw [e]
      refine ⟨hm _ _ (by omega), hm _ _ (by omega), hm _ _ (by omega), by decide, ?_⟩
      split
      · exact key _ _
      · exact key _ _
    · exact ⟨hm _ _ (by omega), hm _ _ (by omega), hm _ _ (by omega), by decide, key _ _⟩

def hushEnd : Int → List D → Int
  | last, [] => last
  | _, p :: ps => match p with
    | .tuple [_, b] => hushEnd (intOf b) ps
    | _ => 0
theorem hushFrom_snoc : ∀ (ps : List D) (last : Int) (i j : Int), hushFrom last ps = true → hushEnd last ps < i → i ≤ 95 → i < j → j ≤ 96 →
    hushFrom last (ps ++ [.tuple [.int i, .int j]]) = true ∧ hushEnd last (ps ++ [.tuple [.int i, .int j]]) = j := by
  intro ps
  induction ps with
  | nil =>
    intro last i j _ h1 h2 h3 h4
    simp only [hushEnd] at h1
    refine ⟨?_, by simp [hushEnd, intOf]⟩
    simp [hushFrom, isWhole, intOf]
    exact ⟨by omega, by first | omega | exact decide_eq_true (by omega), by omega⟩
  | cons p ps ih =>
    intro last i j h0 h1 h2 h3 h4
    unfold hushFrom at h0
    split at h0
    · rename_i a b
      simp only [Bool.and_eq_true] at h0
      simp only [hushEnd] at h1
      have := ih (intOf b) i j h0.2 h1 h2 h3 h4
      refine ⟨?_, this.2⟩
      simp only [List.cons_append, hushFrom, h0.1.1, h0.1.2, this.1, Bool.and_self]
    · cases h0
local macro_rules | `(tactic| walk_at "dl") => `(tactic| simp only [q_startD_1, q_gNext_1, q_gSeq_1, q_gBreak_1, q_gCont_1, q_gNever_1, q_gDrop_1, q_gRet_1, q_gRetN_1, q_gRetV_1, q_gIf_1, q_gSet_1, q_gPar_1, q_gAsg_1, q_gnm_1, q_gnil_1, q_gcons_1, q_gtup_1, q_gFor_1, q_iL_1, q_iT_1, q_iR1_1, q_iR2_1, q_iR3_1, q_iSeqD_1, q_iStrD_1, q_iEnumD_1, q_iZipD_1, q_xComp_1, q_xOf_1, q_eOf_1, q_dVar_1, q_dSee_1, q_dC_1, q_dNil_1, q_dCons_1, q_cNil_1, q_cCons_1, q_cWel_1, q_cScr_1, q_dOp_1, q_dUn_1, q_xB_1, q_dBool_1, q_bAnd_1, q_bOr_1, q_bNot_1, q_dAndV_1, q_dOrV_1, q_dNotV_1, q_dIf_1, q_dChain_1, q_dTup_1, q_xLst_1, q_xDict_1, q_dIsi_1, q_xSl_1, q_oNo_1, q_oSome_1, q_xRev_1, q_gAppend_1, q_gPop_1, q_gPopAt_1, q_gInsert_1, q_gSetIx_1, q_gSetSl_1, q_xCall_1, q_dLenSet_1, q_xLenScr_1, q_dIxScr_1, q_gWell_1, q_dAdd_1, q_dAdd_2, q_dAdd_3, q_dAdd_4, q_dSub_1, q_dMul_1, q_dMul_2, q_dMod_1, q_dFdiv_1, q_dPow_1, q_dNeg_1, q_dLt_1, q_dLt_2, q_dCmp_1, q_dEq_1, q_dNe_1, q_dIs_1, q_dIsNot_1, q_dIn_1, q_dIn_2, q_dIn_3, q_dNotIn_1, q_dIx_1, q_dIx_2, q_dIx_3, q_gLen_1, q_gLen_2, q_gLen_3, q_gAll_1, q_gAny_1, q_gMax_1, q_gMin_1, q_gMax2_1, q_gMin2_1, q_gTuple_1, q_gTuple_2, q_gList_1, q_gList_2, q_gInt_1, q_gInt_2, q_wipeD_1, q_wipeD_2, q_unwel_1, q_unwel_2, q_uw1_1, q_uw1_2, q_intsD_1, q_intsD_2, q_boolsD_1, q_boolsD_2, q_strsD_1, q_strsD_2, q_xCallE_1, q_dIsE_1, q_xSplit_1, q_xSortZip_1, q_dIsB_1, q_xCallDf_1, q_xTupRg_1, q_xLstRg_1, q_gFrz_1, q_xRevA_1, q_gRetT2_1, q_xSortSet_1, q_dIdx_1, q_xCallX_1, q_xCallNX_1, q_gRaise_1, q_gRaiseP_1, q_gTry_1, q_gTryAs_1, q_dPlace_1, q_cExn_1, q_xDictT_1, q_xSortedT_1, q_xCallN_1, q_gDPut_1, q_gDPutT_1, q_dInK_1, q_xListK_1, q_keyD_1, q_keyD_2, q_keysD_1, q_keysD_2, isIntD_none, isIntD_bool, isIntD_int, isIntD_str, isIntD_list, isIntD_tuple, isIntD_dict, isBoolD_none, isBoolD_bool, isBoolD_int, isBoolD_str, isBoolD_list, isBoolD_tuple, isBoolD_dict, isStrD_none, isStrD_bool, isStrD_int, isStrD_str, isStrD_list, isStrD_tuple, isStrD_dict, isTupD_none, isTupD_bool, isTupD_int, isTupD_str, isTupD_list, isTupD_tuple, isTupD_dict, isListD_none, isListD_bool, isListD_int, isListD_str, isListD_list, isListD_tuple, isListD_dict, isNoneD_none, isNoneD_bool, isNoneD_int, isNoneD_str, isNoneD_list, isNoneD_tuple, isNoneD_dict, flatD_none, flatD_bool, flatD_int, flatD_str, flatD_list, flatD_tuple, flatD_dict, Option.map_some, sizeLine_eq, Int.cast_ofNat_Int, eq_self, dpI, dpB, dpS, dpN, evII, evBB, evSS, Nat.zero_le, Int.reduceSub, Int.reduceAdd, Int.reduceMul, Int.reduceNeg, Int.reduceLT, Int.reduceLE, Int.reduceMod, Int.reduceDiv, Int.reduceEq, Int.reduceToNat, Int.reducePow, Nat.reduceLT, Nat.reduceLeDiff, Nat.reduceMul, Nat.reducePow, decide_true, decide_false, ite_true, ite_false, not_true_eq_false, not_false_eq_true, reduceIte, reduceCtorEq, Bool.true_eq_false, Bool.and_self, and_self, false_and, and_false, at0, at1, at2, at3, decide_eq_true_eq, decide_eq_false_iff_not, Bool.false_eq_true, if_true, if_false, Bool.not_true, Bool.not_false, true_and, and_true, Bool.true_and, Bool.and_true, Bool.false_and, Bool.and_false, decide_not, Bool.not_eq_eq_eq_not, List.map_cons, List.map_nil, List.length_cons, List.length_nil, Nat.sub_self, List.replicate_zero, List.replicate_succ, List.append_nil, List.nil_append, List.cons_append, List.getElem?_cons_zero, List.getElem?_cons_succ, List.set_cons_zero, List.set_cons_succ, Nat.add_one_sub_one, Nat.reduceAdd, Nat.reduceSub, Nat.reduceLeDiff, q_sp_take_1, q_sp_is_whole, q_sp_is_pair, q_sp_is_name, q_sp_is_hush, q_sp_are_wishes, q_sp__law_is_int, q_sp__law_says, q_sp__law_well, q_sp__law_hush, q_sp__law_wishes])
local macro_rules | `(tactic| walk_at "dn") => `(tactic| simp only [q_startD_1, q_gNext_1, q_gBreak_1, q_gCont_1, q_gNever_1, q_gDrop_1, q_gRet_1, q_gRetN_1, q_gRetV_1, q_gIf_1, q_gSet_1, q_gPar_1, q_gAsg_1, q_gnm_1, q_gnil_1, q_gcons_1, q_gtup_1, q_gFor_1, q_iL_1, q_iT_1, q_iR1_1, q_iR2_1, q_iR3_1, q_iSeqD_1, q_iStrD_1, q_iEnumD_1, q_iZipD_1, q_xComp_1, q_xOf_1, q_eOf_1, q_dVar_1, q_dSee_1, q_dC_1, q_dNil_1, q_dCons_1, q_cNil_1, q_cCons_1, q_cWel_1, q_cScr_1, q_dOp_1, q_dUn_1, q_xB_1, q_dBool_1, q_bAnd_1, q_bOr_1, q_bNot_1, q_dAndV_1, q_dOrV_1, q_dNotV_1, q_dIf_1, q_dChain_1, q_dTup_1, q_xLst_1, q_xDict_1, q_dIsi_1, q_xSl_1, q_oNo_1, q_oSome_1, q_xRev_1, q_gAppend_1, q_gPop_1, q_gPopAt_1, q_gInsert_1, q_gSetIx_1, q_gSetSl_1, q_xCall_1, q_dLenSet_1, q_xLenScr_1, q_dIxScr_1, q_gWell_1, q_dAdd_1, q_dAdd_2, q_dAdd_3, q_dAdd_4, q_dSub_1, q_dMul_1, q_dMul_2, q_dMod_1, q_dFdiv_1, q_dPow_1, q_dNeg_1, q_dLt_1, q_dLt_2, q_dCmp_1, q_dEq_1, q_dNe_1, q_dIs_1, q_dIsNot_1, q_dIn_1, q_dIn_2, q_dIn_3, q_dNotIn_1, q_dIx_1, q_dIx_2, q_dIx_3, q_gLen_1, q_gLen_2, q_gLen_3, q_gAll_1, q_gAny_1, q_gMax_1, q_gMin_1, q_gMax2_1, q_gMin2_1, q_gTuple_1, q_gTuple_2, q_gList_1, q_gList_2, q_gInt_1, q_gInt_2, q_wipeD_1, q_wipeD_2, q_unwel_1, q_unwel_2, q_uw1_1, q_uw1_2, q_intsD_1, q_intsD_2, q_boolsD_1, q_boolsD_2, q_strsD_1, q_strsD_2, q_xCallE_1, q_dIsE_1, q_xSplit_1, q_xSortZip_1, q_dIsB_1, q_xCallDf_1, q_xTupRg_1, q_xLstRg_1, q_gFrz_1, q_xRevA_1, q_gRetT2_1, q_xSortSet_1, q_dIdx_1, q_xCallX_1, q_xCallNX_1, q_gRaise_1, q_gRaiseP_1, q_gTry_1, q_gTryAs_1, q_dPlace_1, q_cExn_1, q_xDictT_1, q_xSortedT_1, q_xCallN_1, q_gDPut_1, q_gDPutT_1, q_dInK_1, q_xListK_1, q_keyD_1, q_keyD_2, q_keysD_1, q_keysD_2, isIntD_none, isIntD_bool, isIntD_int, isIntD_str, isIntD_list, isIntD_tuple, isIntD_dict, isBoolD_none, isBoolD_bool, isBoolD_int, isBoolD_str, isBoolD_list, isBoolD_tuple, isBoolD_dict, isStrD_none, isStrD_bool, isStrD_int, isStrD_str, isStrD_list, isStrD_tuple, isStrD_dict, isTupD_none, isTupD_bool, isTupD_int, isTupD_str, isTupD_list, isTupD_tuple, isTupD_dict, isListD_none, isListD_bool, isListD_int, isListD_str, isListD_list, isListD_tuple, isListD_dict, isNoneD_none, isNoneD_bool, isNoneD_int, isNoneD_str, isNoneD_list, isNoneD_tuple, isNoneD_dict, flatD_none, flatD_bool, flatD_int, flatD_str, flatD_list, flatD_tuple, flatD_dict, Option.map_some, sizeLine_eq, Int.cast_ofNat_Int, eq_self, dpI, dpB, dpS, dpN, evII, evBB, evSS, Nat.zero_le, Int.reduceSub, Int.reduceAdd, Int.reduceMul, Int.reduceNeg, Int.reduceLT, Int.reduceLE, Int.reduceMod, Int.reduceDiv, Int.reduceEq, Int.reduceToNat, Int.reducePow, Nat.reduceLT, Nat.reduceLeDiff, Nat.reduceMul, Nat.reducePow, decide_true, decide_false, ite_true, ite_false, not_true_eq_false, not_false_eq_true, reduceIte, reduceCtorEq, Bool.true_eq_false, Bool.and_self, and_self, false_and, and_false, at0, at1, at2, at3, decide_eq_true_eq, decide_eq_false_iff_not, Bool.false_eq_true, if_true, if_false, Bool.not_true, Bool.not_false, true_and, and_true, Bool.true_and, Bool.and_true, Bool.false_and, Bool.and_false, decide_not, Bool.not_eq_eq_eq_not, List.map_cons, List.map_nil, List.length_cons, List.length_nil, Nat.sub_self, List.replicate_zero, List.replicate_succ, List.append_nil, List.nil_append, List.cons_append, List.getElem?_cons_zero, List.getElem?_cons_succ, List.set_cons_zero, List.set_cons_succ, Nat.add_one_sub_one, Nat.reduceAdd, Nat.reduceSub, Nat.reduceLeDiff, q_sp_take_1, q_sp_is_whole, q_sp_is_pair, q_sp_is_name, q_sp_is_hush, q_sp_are_wishes, q_sp__law_is_int, q_sp__law_says, q_sp__law_well, q_sp__law_hush, q_sp__law_wishes])
local macro_rules | `(tactic| walk_at "sq") => `(tactic| simp only [q_gSeq_1])
theorem ok__law_hush (T : Tp K mg) {f__law_take : Addr} {d__law_take : FuncData} (G__law_take : FnD P w K mg base 1 "_law_take" ["well", "many"] (sp_take) f__law_take d__law_take) {f : Addr} {fd : FuncData} (m : mg "_law_hush" = some (.ref f)) (F : Fun K "_law_hush" "_law_hush" s__law_hush f fd) : FnD P w K mg base 2 "_law_hush" ["well"] sp__law_hush f fd := by
  refine fnD_ok m F sc__law_hush (fun _ _ _ _ _ _ us hl => match us, hl with | [_], _ => rfl) (fun cdv A outer s H E hr => ⟨_, (pss_cons (ps_par rfl sc__law_hush.nd rfl rfl (by decide) rfl rfl (pa_cons (pe_lst pa_nil) (pa_cons (pe_call G__law_take.ok (hr.mono (by decide)) (by rfl) G__law_take.mgf G__law_take.kp G__law_take.bd .nil pass0 (pa_cons (pv 0) (pa_cons (pe_ix (ix_K K rfl) (pe_lst (pa_cons pe_int (pa_cons pe_int pa_nil))) (pe_call G__law_take.ok (hr.mono (by decide)) (by rfl) G__law_take.mgf G__law_take.kp G__law_take.bd .nil pass0 (pa_cons (pv 0) (pa_cons pe_int pa_nil))) (fun _ _ => rfl)) pa_nil))) pa_nil)) rfl)
      (pss_cons (ps_for PassesOwn.never rfl (pi_range1 rfl T.b_range (pa_cons (pe_call G__law_take.ok (hr.mono (by decide)) (by rfl) G__law_take.mgf G__law_take.kp G__law_take.bd .nil pass0 (pa_cons (pv 0) (pa_cons pe_int pa_nil))) pa_nil)) (pg_name (i := 3) sc__law_hush.nd rfl (by first | exact Or.inl rfl | exact Or.inr rfl)) (pss_one (ps_if (pt_cmpR (op_ltK K rfl hr.units0) (pv 2) pe_int (nomark _)) (pss_cons (ps_set (i := 4) sc__law_hush.nd rfl (Or.inl rfl) (pe_callB (call_min2 rfl) (by rfl) T.b_min (by decide +kernel) (pa_cons pe_int (pa_cons (pe_op (op_addK K rfl) (pe_op (op_addK K rfl) (pv 2) pe_int) (pe_call G__law_take.ok (hr.mono (by decide)) (by rfl) G__law_take.mgf G__law_take.kp G__law_take.bd .nil pass0 (pa_cons (pv 0) (pa_cons (pe_ix (ix_K K rfl) (pe_lst (pa_cons pe_int (pa_cons pe_int (pa_cons pe_int pa_nil)))) (pe_call G__law_take.ok (hr.mono (by decide)) (by rfl) G__law_take.mgf G__law_take.kp G__law_take.bd .nil pass0 (pa_cons (pv 0) (pa_cons pe_int pa_nil))) (fun _ _ => rfl)) pa_nil)))) pa_nil))))
      (pss_cons (ps_expr (pe_bm PySem.F.plainAttrs_list PySem.F.slot_list_append PySem.F.type_list_append mt_append (pv 1) (pa_cons (pe_tup (pa_cons (pv 2) (pa_cons (pv 4) pa_nil))) pa_nil)))
      (pss_one (ps_set (i := 2) sc__law_hush.nd rfl (Or.inl rfl) (pe_op (op_addK K rfl) (pe_op (op_addK K rfl) (pv 4) pe_int) (pe_call G__law_take.ok (hr.mono (by decide)) (by rfl) G__law_take.mgf G__law_take.kp G__law_take.bd .nil pass0 (pa_cons (pv 0) (pa_cons (pe_ix (ix_K K rfl) (pe_lst (pa_cons pe_int (pa_cons pe_int pa_nil))) (pe_call G__law_take.ok (hr.mono (by decide)) (by rfl) G__law_take.mgf G__law_take.kp G__law_take.bd .nil pass0 (pa_cons (pv 0) (pa_cons pe_int pa_nil))) (fun _ _ => rfl)) pa_nil)))))))) pss_nil)))
      (pss_one (ps_ret (pe_callTy (call_tupK K rfl) (by rfl) T.b_tuple (by decide +kernel) (pa_cons (pv 1) pa_nil)))))),
    fun w1 H0 F0 => (pu_seq (pu_par 1 2 (pu_lst pua_nil) (PuE.x (PuX.e (pu_call (puc_wel 0 (puc_cons (pu_op v_ix (PuE.p (PuX.e (pu_lst (pua_cons pu_int (pua_cons pu_int pua_nil))))) (PuE.p (PuX.e (pu_call (puc_wel 0 (puc_cons pu_int puc_nil)))))) puc_nil))))))
      (pu_seq (pu_for (vs := [3]) (pui_range1 (puv_cons (PuE.p (PuX.e (pu_call (puc_wel 0 (puc_cons pu_int puc_nil))))) puv_nil)) (pu_gname 3) (pu_if (pu_tTest (pu_op v_lt (pu_see 2) (PuE.p pu_int))) (pu_seq (pu_set 4 (PuE.x (PuX.e (pu_cb l_min2 (puv_cons (PuE.p pu_int) (puv_cons (PuE.p (pu_op v_add (PuE.p (pu_op v_add (pu_see 2) (PuE.p pu_int))) (PuE.p (PuX.e (pu_call (puc_wel 0 (puc_cons (pu_op v_ix (PuE.p (PuX.e (pu_lst (pua_cons pu_int (pua_cons pu_int (pua_cons pu_int pua_nil)))))) (PuE.p (PuX.e (pu_call (puc_wel 0 (puc_cons pu_int puc_nil)))))) puc_nil))))))) puv_nil))))))
      (pu_seq (pu_append 1 (pu_tup (pua_cons (pu_var 2) (pua_cons (pu_var 4) pua_nil))))
      (pu_set 2 (PuE.x (pu_op v_add (PuE.p (pu_op v_add (pu_see 4) (PuE.p pu_int))) (PuE.p (PuX.e (pu_call (puc_wel 0 (puc_cons (pu_op v_ix (PuE.p (PuX.e (pu_lst (pua_cons pu_int (pua_cons pu_int pua_nil))))) (PuE.p (PuX.e (pu_call (puc_wel 0 (puc_cons pu_int puc_nil)))))) puc_nil)))))))))) pu_next))
      (pu_ret (pu_cb l_tuple (puv_cons (pu_see 1) puv_nil)))))⟩) ?_ ?_
  · intro ds q h
    unfold sp__law_hush at h
    split at h <;> first | rfl | exact h.elim
  · intro ds q h
    unfold sp__law_hush at h
    split at h
    case h_2 => exact h.elim
    walk_at "dl"
    intro r r0 r1
    refine ix_any r0 (by simp only [List.length_cons, List.length_nil]; omega) fun d hd => ?_
    have e : ∃ m : Int, d = .int m ∧ 0 < m ∧ m < 1000 := by
      simp only [List.mem_cons, List.not_mem_nil, or_false] at hd
      rcases hd with rfl | rfl
      · exact ⟨1, rfl, by decide, by decide⟩
      · exact ⟨40, rfl, by decide, by decide⟩
    obtain ⟨m, rfl, m0, m1⟩ := e
    walk_at "dl"
    refine ⟨⟨m0, by omega⟩, fun at0 a0 a1 n n0 n1 => ⟨by omega, ?_⟩⟩
    refine loopD_by (fun ds ρ => ∃ ps at1 x y, ρ = [.wel, .own ps, .dat (.int at1), x, y] ∧ hushFrom (-1) ps = true ∧ hushEnd (-1) ps < at1 ∧ 0 ≤ at1 ∧ ps.length + ds.length ≤ 5) ⟨[], at0, .un, .un, rfl, rfl, (show (-1 : Int) < at0 by omega), a0, ?_⟩ ?_ ?_
    · rw [rangeD_len]
      simp only [List.length_nil]
      omega
    · rintro ρ ⟨ps, at1, x, y, rfl, h1, h2, h3, h4⟩
      walk_at "dl"
      refine h _ ?_
      simp only [isHush, h1, Bool.and_true, decide_eq_true_eq]
      simp only [List.length_nil] at h4
      omega
    · rintro p ds ρ nx ⟨ps, at1, x, y, rfl, h1, h2, h3, h4⟩ hn
      simp only [List.length_cons] at h4
      walk_at "dl"
      split
      · rename_i c
        intro r r0 r1
        refine ix_any r0 (by simp only [List.length_cons, List.length_nil]; omega) fun d hd => ?_
        have e : ∃ m : Int, d = .int m ∧ 0 < m ∧ m < 1000 := by
          simp only [List.mem_cons, List.not_mem_nil, or_false] at hd
          rcases hd with rfl | rfl | rfl
          · exact ⟨6, rfl, by decide, by decide⟩
          · exact ⟨40, rfl, by decide, by decide⟩
          · exact ⟨96, rfl, by decide, by decide⟩
        obtain ⟨m, rfl, m0, m1⟩ := e
        walk_at "dl"
        refine ⟨⟨m0, by omega⟩, fun r2 r20 r21 => ⟨by omega, ?_⟩⟩
        intro r3 r30 r31
        refine ix_any r30 (by simp only [List.length_cons, List.length_nil]; omega) fun d hd => ?_
        have e : ∃ m : Int, d = .int m ∧ 0 < m ∧ m < 1000 := by
          simp only [List.mem_cons, List.not_mem_nil, or_false] at hd
          rcases hd with rfl | rfl
          · exact ⟨2, rfl, by decide, by decide⟩
          · exact ⟨30, rfl, by decide, by decide⟩
        obtain ⟨m', rfl, m0', m1'⟩ := e
        walk_at "dl"
        refine ⟨⟨m0', by omega⟩, fun r4 r40 r41 => hn _ ?_⟩
        obtain ⟨g1, g2⟩ := hushFrom_snoc ps (-1) at1 (min 96 (at1 + 1 + r2)) h1 h2 (by omega) (by omega) (by omega)
        refine ⟨_, _, _, _, rfl, g1, ?_, ?_, ?_⟩
        · rw [g2]; omega
        · omega
        · rw [List.length_append, List.length_cons, List.length_nil]; omega
      · exact hn _ ⟨ps, at1, _, _, rfl, h1, h2, h3, by omega⟩

theorem ok__law_wishes (T : Tp K mg) {f__law_take : Addr} {d__law_take : FuncData} (G__law_take : FnD P w K mg base 1 "_law_take" ["well", "many"] (sp_take) f__law_take d__law_take) {f__law_hush : Addr} {d__law_hush : FuncData} (G__law_hush : FnD P w K mg base 2 "_law_hush" ["well"] sp__law_hush f__law_hush d__law_hush) {f : Addr} {fd : FuncData} (m : mg "_law_wishes" = some (.ref f)) (F : Fun K "_law_wishes" "_law_wishes" s__law_wishes f fd) : FnD P w K mg base 3 "_law_wishes" ["well"] sp__law_wishes f fd := by
  refine fnD_ok m F sc__law_wishes (fun _ _ _ _ _ _ us hl => match us, hl with | [_], _ => rfl) (fun cdv A outer s H E hr => ⟨_, (pss_cons (ps_set (i := 1) sc__law_wishes.nd rfl (Or.inl rfl) (pe_lst (pa_cons pe_str (pa_cons pe_str (pa_cons pe_str (pa_cons pe_str pa_nil))))))
      (pss_cons (ps_set (i := 2) sc__law_wishes.nd rfl (Or.inl rfl) (pe_op (op_addK K rfl) pe_int (pe_call G__law_take.ok (hr.mono (by decide)) (by rfl) G__law_take.mgf G__law_take.kp G__law_take.bd .nil pass0 (pa_cons (pv 0) (pa_cons pe_int pa_nil)))))
      (pss_one (ps_ret (pe_callTy (call_tupK K rfl) (by rfl) T.b_tuple (by decide +kernel) (pa_cons (pe_lc (own := [("name", 3)]) rfl sc__law_wishes.nd (pi_seqK K rfl (pe_slice (sl_K K rfl) (pv 1) po_none (po_some (pv 2)))) (blkOk_by (own := [("name", 3)]) (N := ["well", "names", "many", "name"]) (sc := defScope s__law_wishes) (by decide +kernel)) (fun _ _ _ _ _ => (pg_name (i := 3) sc__law_wishes.nd rfl (by first | exact Or.inl rfl | exact Or.inr rfl))) (fun _ _ _ _ _ => pts_nil) (fun _ _ _ _ _ => (pe_tup (pa_cons (pv 3) (pa_cons (pe_call G__law_hush.ok (hr.mono (by decide)) (by rfl) G__law_hush.mgf G__law_hush.kp G__law_hush.bd .nil pass0 (pa_cons (pv 0) pa_nil)) pa_nil))))) pa_nil)))))),
    fun w1 H0 F0 => (pu_seq (pu_set 1 (PuE.x (PuX.e (pu_lst (pua_cons pu_str (pua_cons pu_str (pua_cons pu_str (pua_cons pu_str pua_nil))))))))
      (pu_seq (pu_set 2 (PuE.x (pu_op v_add (PuE.p pu_int) (PuE.p (PuX.e (pu_call (puc_wel 0 (puc_cons pu_int puc_nil))))))))
      (pu_ret (pu_cb l_tuple (puv_cons (PuE.p (PuX.e (pu_lc (pui_seq (PuX.e (pu_slice (pu_see 1) puo_none (puo_some (pu_var 2))))) (pu_gname 3) pu_yes (pu_tup (pua_cons (pu_var 3) (pua_cons (PuX.e (pu_call (puc_wel 0 puc_nil))) pua_nil)))))) puv_nil)))))⟩) ?_ ?_
  · intro ds q h
    unfold sp__law_wishes at h
    split at h <;> first | rfl | exact h.elim
  · intro ds q h
    unfold sp__law_wishes at h
    split at h
    case h_2 => exact h.elim
    walk_at "dl"
    intro r r0 r1
    have c : r = 0 ∨ r = 1 ∨ r = 2 := by omega
    have k1 : isName (.str "call") = true := by decide +kernel
    have k2 : isName (.str "bell") = true := by decide +kernel
    have k3 : isName (.str "zz") = true := by decide +kernel
    rcases c with rfl | rfl | rfl
    · rw [show (DL.cutD [PyData.str "call", .str "bell", .str "zz", .str "mail"] none (some (1 + 0))) = [.str "call"] from rfl]
      simp only [compD]
      walk_at "dl"
      intro d hd
      refine h _ ⟨?_, _, rfl, by simp, fun r hr => by
        simp only [List.mem_cons, List.not_mem_nil, or_false] at hr
        subst hr
        exact .inl rfl⟩
      simp only [areWishes, List.all_cons, List.all_nil, rowOk, k1, hd, List.map_cons, List.map_nil, nameOf]
      kernel_rfl
    · rw [show (DL.cutD [PyData.str "call", .str "bell", .str "zz", .str "mail"] none (some (1 + 1))) = [.str "call", .str "bell"] from rfl]
      simp only [compD]
      walk_at "dl"
      intro d hd d2 hd2
      refine h _ ⟨?_, _, rfl, by simp, fun r hr => by
        simp only [List.mem_cons, List.not_mem_nil, or_false] at hr
        rcases hr with rfl | rfl
        · exact .inl rfl
        · exact .inr (.inl rfl)⟩
      simp only [areWishes, List.all_cons, List.all_nil, rowOk, k1, k2, hd, hd2, List.map_cons, List.map_nil, nameOf]
      kernel_rfl
    · rw [show (DL.cutD [PyData.str "call", .str "bell", .str "zz", .str "mail"] none (some (1 + 2))) = [.str "call", .str "bell", .str "zz"] from rfl]
      simp only [compD]
      walk_at "dl"
      intro d hd d2 hd2 d3 hd3
      refine h _ ⟨?_, _, rfl, by simp, fun r hr => by
        simp only [List.mem_cons, List.not_mem_nil, or_false] at hr
        rcases hr with rfl | rfl | rfl
        · exact .inl rfl
        · exact .inr (.inl rfl)
        · exact .inr (.inr rfl)⟩
      simp only [areWishes, List.all_cons, List.all_nil, rowOk, k1, k2, k3, hd, hd2, hd3, List.map_cons, List.map_nil, nameOf]
      kernel_rfl

def inHush (t : Int) (d : D) : Bool := match d with
  | .tuple [.int b, .int e] => decide (b ≤ t % 96) && decide (t % 96 < e)
  | _ => false
def hushOpen (h : D) (t : Int) : Bool := match h with
  | .tuple ps => !(ps.any (inHush t))
  | _ => true
def rowOpen (t : Int) (row : D) : Bool := match row with
  | .tuple [_, h] => hushOpen h t
  | _ => false
def rowName (row : D) : D := match row with
  | .tuple (n :: _) => n
  | _ => .none
def rowsOf (ws : D) : List D := match ws with
  | .tuple rows => rows
  | _ => []
def waysOpen (ws : D) (t : Int) : List D := ((rowsOf ws).filter (rowOpen t)).map rowName
def opens (ws : D) (t : Int) : Bool := (rowsOf ws).any (rowOpen t)
theorem opens_mod (ws : D) (u v : Int) (h : u % 96 = v % 96) : opens ws u = opens ws v := by
  have : rowOpen u = rowOpen v := by
    funext row
    have e : inHush u = inHush v := by
      funext d
      unfold inHush
      rw [h]
    unfold rowOpen hushOpen
    rw [e]
  unfold opens
  rw [this]
theorem waysOpen_nil (ws : D) (t : Int) : PyData.eqv (.list (waysOpen ws t)) (.list []) = !opens ws t := by
  have e : ∀ l : List D, PyData.eqv (.list l) (.list []) = l.isEmpty := fun l => by cases l <;> simp [PyData.eqv, PyData.eqvAll]
  rw [e]
  unfold waysOpen opens
  generalize rowsOf ws = rows
  induction rows with
  | nil => rfl
  | cons r rows ih =>
    cases c : rowOpen t r with
    | true => rw [List.filter_cons_of_pos c, List.any_cons, c]; rfl
    | false => rw [List.filter_cons_of_neg (by rw [c]; decide), List.any_cons, c, ih, Bool.false_or]
theorem hush_pairs : ∀ {ps : List D} {last : Int}, hushFrom last ps = true → ∀ d ∈ ps, ∃ b e : Int, d = .tuple [.int b, .int e] := by
  intro ps
  induction ps with
  | nil => intro _ _ d hd; cases hd
  | cons p ps ih =>
    intro last h d hd
    unfold hushFrom at h
    split at h
    · rename_i a b
      simp only [Bool.and_eq_true] at h
      rcases List.mem_cons.mp hd with rfl | hd
      · cases a <;> first
          | (simp [isWhole] at h; done)
          | skip
        cases b <;> first
          | (simp [isWhole] at h; done)
          | skip
        exact ⟨_, _, rfl⟩
      · exact ih h.2 d hd
    · cases h
theorem hush_of {h : D} (e : isHush h = true) : ∃ ps, h = .tuple ps ∧ ps.length ≤ 6 ∧ ∀ d ∈ ps, ∃ b e : Int, d = .tuple [.int b, .int e] := by
  unfold isHush at e
  split at e
  · rename_i ps
    rw [Bool.and_eq_true, decide_eq_true_eq] at e
    exact ⟨ps, rfl, e.1, hush_pairs e.2⟩
  · cases e
theorem evPr : ∀ A C : List (Int × Int), PyData.eqvAll (A.map prD) (C.map prD) = decide (A = C)
  | [], [] => by simp [PyData.eqvAll]
  | [], c :: C => by simp [PyData.eqvAll]
  | a :: A, [] => by simp [PyData.eqvAll]
  | a :: A, c :: C => by
    have ih := evPr A C
    rw [List.map_cons, List.map_cons]
    simp only [PyData.eqvAll, ih, prD, PyData.eqv]
    rw [Bool.eq_iff_iff]
    simp only [Bool.and_eq_true, decide_eq_true_eq, List.cons.injEq, beq_iff_eq, Bool.and_true]
    constructor
    · rintro ⟨⟨h1, h2⟩, h3⟩
      exact ⟨by cases a; cases c; simp_all, h3⟩
    · rintro ⟨rfl, rfl⟩
      simp
theorem evLp (A C : List (Int × Int)) : PyData.eqv (.list (A.map prD)) (.list (C.map prD)) = decide (A = C) := by
  simp only [PyData.eqv]
  exact evPr A C
theorem dpPr (A : List (Int × Int)) : (PyData.list (A.map prD)).depth ≤ 64 := Nat.le_trans (depth_list (n := 1) fun d hd => by
  obtain ⟨e, _, rfl⟩ := List.mem_map.mp hd
  simp [PyData.depth, PyData.depthAll]) (by decide)
theorem dpPt (A : List (Int × Int)) : (PyData.tuple (A.map prD)).depth ≤ 64 := Nat.le_trans (depth_tuple (n := 1) fun d hd => by
  obtain ⟨e, _, rfl⟩ := List.mem_map.mp hd
  simp [PyData.depth, PyData.depthAll]) (by decide)
/-- rows of wishes -/
def rowGood (d : D) : Prop := ∃ x g, d = .tuple [.str x, g] ∧ isName (.str x) = true ∧ isHush g = true
theorem wishes_rows {ws : D} (h : areWishes ws = true) : ∃ rows, ws = .tuple rows ∧ 1 ≤ rows.length ∧ rows.length ≤ 4 ∧ ∀ d ∈ rows, rowGood d := by
  unfold areWishes at h
  split at h
  · rename_i ds
    simp only [Bool.and_eq_true, decide_eq_true_eq] at h
    exact ⟨ds, rfl, h.1.1, h.1.2, fun d hd => rowOk_of (List.all_eq_true.mp h.2.1 d hd)⟩
  · cases h
theorem depthN {n : Nat} {d : D} (h : d.depth ≤ n) (hn : n ≤ 64 := by decide) : d.depth ≤ 64 := Nat.le_trans h hn
theorem ways_depth {ws : D} (h : areWishes ws = true) (t : Int) : (PyData.list (waysOpen ws t)).depth ≤ 64 := by
  refine depthN (depth_list (n := 0) fun d hd => ?_)
  obtain ⟨rows, rfl, _, _, hr⟩ := wishes_rows h
  obtain ⟨r, hr1, rfl⟩ := List.mem_map.mp hd
  obtain ⟨x, g, rfl, _⟩ := hr r (List.mem_filter.mp hr1).1
  simp [rowName, PyData.depth]
def oD : Option Int → D
  | none => .none
  | some t => .int t
def sp_is_open : DL.Spec
  | [.dat h, .dat (.int t)], q => isHush h = true ∧ q (.dat (.bool (hushOpen h t)))
  | _, _ => False
def sp_need_wishes : DL.Spec
  | [.dat ws], q => areWishes ws = true ∧ q (.dat .none)
  | _, _ => False
def sp_ways_open : DL.Spec
  | [.dat ws, .dat (.int t)], q => areWishes ws = true ∧ q (.own (waysOpen ws t))
  | _, _ => False
def sp_last_open : DL.Spec
  | [.dat ws, .dat (.int lo), .dat (.int hi)], q => (areWishes ws = true ∧ (-1000000 ≤ lo ∧ lo ≤ 1000000) ∧ (-1000000 ≤ hi ∧ hi ≤ 1000000)) ∧ q (.dat (oD (lastO (opens ws) lo hi)))
  | _, _ => False
def sp__law_opens : DL.Spec
  | [.dat ws, .dat (.int t)], q => areWishes ws = true ∧ q (.own (waysOpen ws t))
  | _, _ => False
def sp__law_last : DL.Spec
  | [.dat ws, .dat (.int lo), .dat (.int hi)], q => areWishes ws = true ∧ q (.dat (oD (lastO (opens ws) lo hi)))
  | _, _ => False
def q_sp_is_open := @sp_is_open.eq_1
def q_sp_need_wishes := @sp_need_wishes.eq_1
def q_sp_ways_open := @sp_ways_open.eq_1
def q_sp_last_open := @sp_last_open.eq_1
def q_sp__law_opens := @sp__law_opens.eq_1
def q_sp__law_last := @sp__law_last.eq_1
local macro_rules | `(tactic| walk_at "dl") => `(tactic| simp only [q_startD_1, q_gNext_1, q_gSeq_1, q_gBreak_1, q_gCont_1, q_gNever_1, q_gDrop_1, q_gRet_1, q_gRetN_1, q_gRetV_1, q_gIf_1, q_gSet_1, q_gPar_1, q_gAsg_1, q_gnm_1, q_gnil_1, q_gcons_1, q_gtup_1, q_gFor_1, q_iL_1, q_iT_1, q_iR1_1, q_iR2_1, q_iR3_1, q_iSeqD_1, q_iStrD_1, q_iEnumD_1, q_iZipD_1, q_xComp_1, q_xOf_1, q_eOf_1, q_dVar_1, q_dSee_1, q_dC_1, q_dNil_1, q_dCons_1, q_cNil_1, q_cCons_1, q_cWel_1, q_cScr_1, q_dOp_1, q_dUn_1, q_xB_1, q_dBool_1, q_bAnd_1, q_bOr_1, q_bNot_1, q_dAndV_1, q_dOrV_1, q_dNotV_1, q_dIf_1, q_dChain_1, q_dTup_1, q_xLst_1, q_xDict_1, q_dIsi_1, q_xSl_1, q_oNo_1, q_oSome_1, q_xRev_1, q_gAppend_1, q_gPop_1, q_gPopAt_1, q_gInsert_1, q_gSetIx_1, q_gSetSl_1, q_xCall_1, q_dLenSet_1, q_xLenScr_1, q_dIxScr_1, q_gWell_1, q_dAdd_1, q_dAdd_2, q_dAdd_3, q_dAdd_4, q_dSub_1, q_dMul_1, q_dMul_2, q_dMod_1, q_dFdiv_1, q_dPow_1, q_dNeg_1, q_dLt_1, q_dLt_2, q_dCmp_1, q_dEq_1, q_dNe_1, q_dIs_1, q_dIsNot_1, q_dIn_1, q_dIn_2, q_dIn_3, q_dNotIn_1, q_dIx_1, q_dIx_2, q_dIx_3, q_gLen_1, q_gLen_2, q_gLen_3, q_gAll_1, q_gAny_1, q_gMax_1, q_gMin_1, q_gMax2_1, q_gMin2_1, q_gTuple_1, q_gTuple_2, q_gList_1, q_gList_2, q_gInt_1, q_gInt_2, q_wipeD_1, q_wipeD_2, q_unwel_1, q_unwel_2, q_uw1_1, q_uw1_2, q_intsD_1, q_intsD_2, q_boolsD_1, q_boolsD_2, q_strsD_1, q_strsD_2, q_xCallE_1, q_dIsE_1, q_xSplit_1, q_xSortZip_1, q_dIsB_1, q_xCallDf_1, q_xTupRg_1, q_xLstRg_1, q_gFrz_1, q_xRevA_1, q_gRetT2_1, q_xSortSet_1, q_dIdx_1, q_xCallX_1, q_xCallNX_1, q_gRaise_1, q_gRaiseP_1, q_gTry_1, q_gTryAs_1, q_dPlace_1, q_cExn_1, q_xDictT_1, q_xSortedT_1, q_xCallN_1, q_gDPut_1, q_gDPutT_1, q_dInK_1, q_xListK_1, q_keyD_1, q_keyD_2, q_keysD_1, q_keysD_2, isIntD_none, isIntD_bool, isIntD_int, isIntD_str, isIntD_list, isIntD_tuple, isIntD_dict, isBoolD_none, isBoolD_bool, isBoolD_int, isBoolD_str, isBoolD_list, isBoolD_tuple, isBoolD_dict, isStrD_none, isStrD_bool, isStrD_int, isStrD_str, isStrD_list, isStrD_tuple, isStrD_dict, isTupD_none, isTupD_bool, isTupD_int, isTupD_str, isTupD_list, isTupD_tuple, isTupD_dict, isListD_none, isListD_bool, isListD_int, isListD_str, isListD_list, isListD_tuple, isListD_dict, isNoneD_none, isNoneD_bool, isNoneD_int, isNoneD_str, isNoneD_list, isNoneD_tuple, isNoneD_dict, flatD_none, flatD_bool, flatD_int, flatD_str, flatD_list, flatD_tuple, flatD_dict, Option.map_some, sizeLine_eq, Int.cast_ofNat_Int, eq_self, dpI, dpB, dpS, dpN, evII, evBB, evSS, Nat.zero_le, Int.reduceSub, Int.reduceAdd, Int.reduceMul, Int.reduceNeg, Int.reduceLT, Int.reduceLE, Int.reduceMod, Int.reduceDiv, Int.reduceEq, Int.reduceToNat, Int.reducePow, Nat.reduceLT, Nat.reduceLeDiff, Nat.reduceMul, Nat.reducePow, decide_true, decide_false, ite_true, ite_false, not_true_eq_false, not_false_eq_true, reduceIte, reduceCtorEq, Bool.true_eq_false, Bool.and_self, and_self, false_and, and_false, at0, at1, at2, at3, decide_eq_true_eq, decide_eq_false_iff_not, Bool.false_eq_true, if_true, if_false, Bool.not_true, Bool.not_false, true_and, and_true, Bool.true_and, Bool.and_true, Bool.false_and, Bool.and_false, decide_not, Bool.not_eq_eq_eq_not, List.map_cons, List.map_nil, List.length_cons, List.length_nil, Nat.sub_self, List.replicate_zero, List.replicate_succ, List.append_nil, List.nil_append, List.cons_append, List.getElem?_cons_zero, List.getElem?_cons_succ, List.set_cons_zero, List.set_cons_succ, Nat.add_one_sub_one, Nat.reduceAdd, Nat.reduceSub, Nat.reduceLeDiff, q_sp_take_1, q_sp_is_whole, q_sp_is_pair, q_sp_is_name, q_sp_is_hush, q_sp_are_wishes, q_sp__law_is_int, q_sp__law_says, q_sp__law_well, q_sp__law_hush, q_sp__law_wishes, q_sp_is_open, q_sp_need_wishes, q_sp_ways_open, q_sp_last_open, q_sp__law_opens, q_sp__law_last])
local macro_rules | `(tactic| walk_at "dn") => `(tactic| simp only [q_startD_1, q_gNext_1, q_gBreak_1, q_gCont_1, q_gNever_1, q_gDrop_1, q_gRet_1, q_gRetN_1, q_gRetV_1, q_gIf_1, q_gSet_1, q_gPar_1, q_gAsg_1, q_gnm_1, q_gnil_1, q_gcons_1, q_gtup_1, q_gFor_1, q_iL_1, q_iT_1, q_iR1_1, q_iR2_1, q_iR3_1, q_iSeqD_1, q_iStrD_1, q_iEnumD_1, q_iZipD_1, q_xComp_1, q_xOf_1, q_eOf_1, q_dVar_1, q_dSee_1, q_dC_1, q_dNil_1, q_dCons_1, q_cNil_1, q_cCons_1, q_cWel_1, q_cScr_1, q_dOp_1, q_dUn_1, q_xB_1, q_dBool_1, q_bAnd_1, q_bOr_1, q_bNot_1, q_dAndV_1, q_dOrV_1, q_dNotV_1, q_dIf_1, q_dChain_1, q_dTup_1, q_xLst_1, q_xDict_1, q_dIsi_1, q_xSl_1, q_oNo_1, q_oSome_1, q_xRev_1, q_gAppend_1, q_gPop_1, q_gPopAt_1, q_gInsert_1, q_gSetIx_1, q_gSetSl_1, q_xCall_1, q_dLenSet_1, q_xLenScr_1, q_dIxScr_1, q_gWell_1, q_dAdd_1, q_dAdd_2, q_dAdd_3, q_dAdd_4, q_dSub_1, q_dMul_1, q_dMul_2, q_dMod_1, q_dFdiv_1, q_dPow_1, q_dNeg_1, q_dLt_1, q_dLt_2, q_dCmp_1, q_dEq_1, q_dNe_1, q_dIs_1, q_dIsNot_1, q_dIn_1, q_dIn_2, q_dIn_3, q_dNotIn_1, q_dIx_1, q_dIx_2, q_dIx_3, q_gLen_1, q_gLen_2, q_gLen_3, q_gAll_1, q_gAny_1, q_gMax_1, q_gMin_1, q_gMax2_1, q_gMin2_1, q_gTuple_1, q_gTuple_2, q_gList_1, q_gList_2, q_gInt_1, q_gInt_2, q_wipeD_1, q_wipeD_2, q_unwel_1, q_unwel_2, q_uw1_1, q_uw1_2, q_intsD_1, q_intsD_2, q_boolsD_1, q_boolsD_2, q_strsD_1, q_strsD_2, q_xCallE_1, q_dIsE_1, q_xSplit_1, q_xSortZip_1, q_dIsB_1, q_xCallDf_1, q_xTupRg_1, q_xLstRg_1, q_gFrz_1, q_xRevA_1, q_gRetT2_1, q_xSortSet_1, q_dIdx_1, q_xCallX_1, q_xCallNX_1, q_gRaise_1, q_gRaiseP_1, q_gTry_1, q_gTryAs_1, q_dPlace_1, q_cExn_1, q_xDictT_1, q_xSortedT_1, q_xCallN_1, q_gDPut_1, q_gDPutT_1, q_dInK_1, q_xListK_1, q_keyD_1, q_keyD_2, q_keysD_1, q_keysD_2, isIntD_none, isIntD_bool, isIntD_int, isIntD_str, isIntD_list, isIntD_tuple, isIntD_dict, isBoolD_none, isBoolD_bool, isBoolD_int, isBoolD_str, isBoolD_list, isBoolD_tuple, isBoolD_dict, isStrD_none, isStrD_bool, isStrD_int, isStrD_str, isStrD_list, isStrD_tuple, isStrD_dict, isTupD_none, isTupD_bool, isTupD_int, isTupD_str, isTupD_list, isTupD_tuple, isTupD_dict, isListD_none, isListD_bool, isListD_int, isListD_str, isListD_list, isListD_tuple, isListD_dict, isNoneD_none, isNoneD_bool, isNoneD_int, isNoneD_str, isNoneD_list, isNoneD_tuple, isNoneD_dict, flatD_none, flatD_bool, flatD_int, flatD_str, flatD_list, flatD_tuple, flatD_dict, Option.map_some, sizeLine_eq, Int.cast_ofNat_Int, eq_self, dpI, dpB, dpS, dpN, evII, evBB, evSS, Nat.zero_le, Int.reduceSub, Int.reduceAdd, Int.reduceMul, Int.reduceNeg, Int.reduceLT, Int.reduceLE, Int.reduceMod, Int.reduceDiv, Int.reduceEq, Int.reduceToNat, Int.reducePow, Nat.reduceLT, Nat.reduceLeDiff, Nat.reduceMul, Nat.reducePow, decide_true, decide_false, ite_true, ite_false, not_true_eq_false, not_false_eq_true, reduceIte, reduceCtorEq, Bool.true_eq_false, Bool.and_self, and_self, false_and, and_false, at0, at1, at2, at3, decide_eq_true_eq, decide_eq_false_iff_not, Bool.false_eq_true, if_true, if_false, Bool.not_true, Bool.not_false, true_and, and_true, Bool.true_and, Bool.and_true, Bool.false_and, Bool.and_false, decide_not, Bool.not_eq_eq_eq_not, List.map_cons, List.map_nil, List.length_cons, List.length_nil, Nat.sub_self, List.replicate_zero, List.replicate_succ, List.append_nil, List.nil_append, List.cons_append, List.getElem?_cons_zero, List.getElem?_cons_succ, List.set_cons_zero, List.set_cons_succ, Nat.add_one_sub_one, Nat.reduceAdd, Nat.reduceSub, Nat.reduceLeDiff, q_sp_take_1, q_sp_is_whole, q_sp_is_pair, q_sp_is_name, q_sp_is_hush, q_sp_are_wishes, q_sp__law_is_int, q_sp__law_says, q_sp__law_well, q_sp__law_hush, q_sp__law_wishes, q_sp_is_open, q_sp_need_wishes, q_sp_ways_open, q_sp_last_open, q_sp__law_opens, q_sp__law_last])
local macro_rules | `(tactic| walk_at "sq") => `(tactic| simp only [q_gSeq_1])
theorem ok_is_open (T : Tp K mg) {f : Addr} {fd : FuncData} (m : mg "is_open" = some (.ref f)) (F : Fun K "is_open" "is_open" s_is_open f fd) : FnD P w K mg base 1 "is_open" ["hush", "tick"] sp_is_open f fd := by
  refine fnD_ok m F sc_is_open (fun _ _ _ _ _ _ us hl => match us, hl with | [_, _], _ => rfl) (fun cdv A outer s H E hr => ⟨_, (pss_one (ps_ret (pe_not (pe_callB (cr_anyK K rfl rfl) (by rfl) T.b_any (by decide +kernel) (pa_cons (pe_lc (own := [("begin", 2), ("end", 3)]) rfl sc_is_open.nd (pi_seqK K rfl (pv 0)) (blkOk_by (own := [("begin", 2), ("end", 3)]) (N := ["hush", "tick", "begin", "end"]) (sc := defScope s_is_open) (by decide +kernel)) (fun _ _ _ _ _ => (pg_tupK (n := 2) K rfl rfl (pgs_cons (pg_name (i := 2) sc_is_open.nd rfl (by first | exact Or.inl rfl | exact Or.inr rfl)) (pgs_cons (pg_name (i := 3) sc_is_open.nd rfl (by first | exact Or.inl rfl | exact Or.inr rfl)) pgs_nil)))) (fun _ _ _ _ _ => pts_nil) (fun _ _ _ _ _ => (pe_chain op_le (op_ltK K rfl hr.units0) (pv 2) (pe_op op_mod (pv 1) (pe_gint rfl T.c_DAY)) (pv 3)))) pa_nil))))),
    fun w1 H0 F0 => (pu_ret (PuE.x (pu_notV (PuX.e (pu_cb l_any (puv_cons (PuE.p (PuX.e (pu_lc (pui_seq (pu_var 0)) (pu_gtup (pu_gcons (pu_gname 2) (pu_gcons (pu_gname 3) pu_gnil))) pu_yes (pu_chain v_cmp v_lt (pu_see 2) (PuE.p (pu_op v_mod (pu_see 1) (PuE.p pu_int))) (pu_see 3))))) puv_nil))))))⟩) ?_ ?_
  · intro ds q h
    unfold sp_is_open at h
    split at h <;> first | rfl | exact h.elim
  · intro ds q h
    unfold sp_is_open at h
    split at h
    case h_2 => exact h.elim
    rename_i h t
    obtain ⟨hh, h⟩ := h
    obtain ⟨ps, rfl, hl, hp⟩ := hush_of hh
    walk_at "dl"
    refine compD_map (fun d => .bool (inHush t d)) _ (fun d hd kt hk => ?_) ?_
    · obtain ⟨b, e, rfl⟩ := hp d hd
      walk_at "dl"
      have hk2 : kt (.bool (decide (b ≤ t % 96) && decide (t % 96 < e))) := hk
      refine ite2 (fun c => ?_) (fun c => ?_)
      · rw [decide_eq_true c, Bool.true_and] at hk2
        exact hk2
      · rw [decide_eq_false c, Bool.false_and] at hk2
        exact hk2
    · simp only [boolsD_mapf, any_id_map]
      exact h

theorem ok_ways_open (T : Tp K mg) {f_is_open : Addr} {d_is_open : FuncData} (G_is_open : FnD P w K mg base 1 "is_open" ["hush", "tick"] sp_is_open f_is_open d_is_open) {f : Addr} {fd : FuncData} (m : mg "ways_open" = some (.ref f)) (F : Fun K "ways_open" "ways_open" s_ways_open f fd) : FnD P w K mg base 2 "ways_open" ["wishes", "tick"] sp_ways_open f fd := by
  refine fnD_ok m F sc_ways_open (fun _ _ _ _ _ _ us hl => match us, hl with | [_, _], _ => rfl) (fun cdv A outer s H E hr => ⟨_, (pss_one (ps_ret (pe_lc (own := [("way", 2), ("hush", 3)]) rfl sc_ways_open.nd (pi_seqK K rfl (pv 0)) (blkOk_by (own := [("way", 2), ("hush", 3)]) (N := ["wishes", "tick", "way", "hush"]) (sc := defScope s_ways_open) (by decide +kernel)) (fun _ _ _ _ _ => (pg_tupK (n := 2) K rfl rfl (pgs_cons (pg_name (i := 2) sc_ways_open.nd rfl (by first | exact Or.inl rfl | exact Or.inr rfl)) (pgs_cons (pg_name (i := 3) sc_ways_open.nd rfl (by first | exact Or.inl rfl | exact Or.inr rfl)) pgs_nil)))) (fun _ _ _ _ _ => (pts_one (pt_val (pe_call G_is_open.ok (hr.mono (by decide)) (by rfl) G_is_open.mgf G_is_open.kp G_is_open.bd .nil pass0 (pa_cons (pv 3) (pa_cons (pv 1) pa_nil)))))) (fun _ _ _ _ _ => (pv 2))))),
    fun w1 H0 F0 => (pu_ret (pu_lc (pui_seq (pu_var 0)) (pu_gtup (pu_gcons (pu_gname 2) (pu_gcons (pu_gname 3) pu_gnil))) (pu_tB (PuX.e (pu_call (puc_cons (pu_var 3) (puc_cons (pu_var 1) puc_nil))))) (pu_var 2)))⟩) ?_ ?_
  · intro ds q h
    unfold sp_ways_open at h
    split at h <;> first | rfl | exact h.elim
  · intro ds q h
    unfold sp_ways_open at h
    split at h
    case h_2 => exact h.elim
    rename_i ws t
    obtain ⟨hw, h⟩ := h
    obtain ⟨rows, rfl, _, _, hr⟩ := wishes_rows hw
    walk_at "dl"
    refine compD_if (rowOpen t) rowName _ (fun d hd kt kf hk => ?_) ?_
    · obtain ⟨x, g, rfl, _, hg⟩ := hr d hd
      walk_at "dl"
      exact ⟨hg, hk⟩
    · exact h

theorem ok__law_opens (T : Tp K mg) {f : Addr} {fd : FuncData} (m : mg "_law_opens" = some (.ref f)) (F : Fun K "_law_opens" "_law_opens" s__law_opens f fd) : FnD P w K mg base 1 "_law_opens" ["wishes", "tick"] sp__law_opens f fd := by
  refine fnD_ok m F sc__law_opens (fun _ _ _ _ _ _ us hl => match us, hl with | [_, _], _ => rfl) (fun cdv A outer s H E hr => ⟨_, (pss_cons (ps_set (i := 2) sc__law_opens.nd rfl (Or.inl rfl) (pe_lst pa_nil))
      (pss_cons (ps_for PassesOwn.never rfl (pi_seqK K rfl (pv 0)) (pg_tupK (n := 2) K rfl rfl (pgs_cons (pg_name (i := 3) sc__law_opens.nd rfl (by first | exact Or.inl rfl | exact Or.inr rfl)) (pgs_cons (pg_name (i := 4) sc__law_opens.nd rfl (by first | exact Or.inl rfl | exact Or.inr rfl)) pgs_nil))) (pss_one (ps_if (pt_cmpR (op_eqK K rfl hr.units) (pe_lc (own := [("pair", 5)]) rfl sc__law_opens.nd (pi_seqK K rfl (pv 4)) (blkOk_by (own := [("pair", 5)]) (N := ["wishes", "tick", "found", "way", "hush", "pair"]) (sc := defScope s__law_opens) (by decide +kernel)) (fun _ _ _ _ _ => (pg_name (i := 5) sc__law_opens.nd rfl (by first | exact Or.inl rfl | exact Or.inr rfl))) (fun _ _ _ _ _ => (pts_one (PW.pt (pw_and (pt_cmpR op_le (pe_ix (ix_K K rfl) (pv 5) pe_int (fun _ _ => rfl)) (pe_op op_mod (pv 1) pe_int) (nomark _)) (pw_and1 (pt_cmpR (op_ltK K rfl hr.units0) (pe_op op_mod (pv 1) pe_int) (pe_ix (ix_K K rfl) (pv 5) pe_int (fun _ _ => rfl)) (nomark _))))))) (fun _ _ _ _ _ => (pv 5))) (pe_lst pa_nil) (nomark _)) (pss_one (ps_expr (pe_bm PySem.F.plainAttrs_list PySem.F.slot_list_append PySem.F.type_list_append mt_append (pv 2) (pa_cons (pv 3) pa_nil)))) pss_nil)))
      (pss_one (ps_ret (pv 2))))),
    fun w1 H0 F0 => (pu_seq (pu_set 2 (pu_lst pua_nil))
      (pu_seq (pu_for (vs := [3, 4]) (pui_seq (pu_var 0)) (pu_gtup (pu_gcons (pu_gname 3) (pu_gcons (pu_gname 4) pu_gnil))) (pu_if (pu_tTest (pu_op v_eq (PuE.p (PuX.e (pu_lc (pui_seq (pu_var 4)) (pu_gname 5) (pu_and (pu_tTest (pu_op v_cmp (PuE.p (pu_op v_ix (pu_see 5) (PuE.p pu_int))) (PuE.p (pu_op v_mod (pu_see 1) (PuE.p pu_int))))) (pu_tTest (pu_op v_lt (PuE.p (pu_op v_mod (pu_see 1) (PuE.p pu_int))) (PuE.p (pu_op v_ix (pu_see 5) (PuE.p pu_int)))))) (pu_var 5)))) (PuE.p (PuX.e (pu_lst pua_nil))))) (pu_append 2 (pu_var 3)) pu_next))
      (pu_retV 2)))⟩) ?_ ?_
  · intro ds q h
    unfold sp__law_opens at h
    split at h <;> first | rfl | exact h.elim
  · intro ds q h
    unfold sp__law_opens at h
    split at h
    case h_2 => exact h.elim
    rename_i ws t
    obtain ⟨hw, h⟩ := h
    obtain ⟨rows, rfl, _, hl4, hr⟩ := wishes_rows hw
    walk_at "sq"
    walk_at "dn"
    walk_at "sq"
    walk_at "dn"
    refine loopD_by (fun ds ρ => ∃ (done : List D) (x y z : SV), rows = done ++ ds ∧ ρ = [.dat (.tuple rows), .dat (.int t), .own ((done.filter (rowOpen t)).map rowName), x, y, z]) ⟨[], _, _, _, rfl, rfl⟩ ?_ ?_
    · rintro ρ ⟨done, x, y, z, e, rfl⟩
      rw [List.append_nil] at e
      subst e
      walk_at "dn"
      exact h
    · rintro d ds ρ nx ⟨done, x, y, z, e, rfl⟩ hn
      obtain ⟨nm, g, rfl, _, hg⟩ := hr d (by rw [e]; simp)
      obtain ⟨ps, rfl, hpl, hp⟩ := hush_of hg
      walk_at "dn"
      refine compD_if (inHush t) id _ (fun d hd kt kf hk => ?_) ?_
      · obtain ⟨b, e2, rfl⟩ := hp d hd
        walk_at "dn"
        have hk2 : if (decide (b ≤ t % 96) && decide (t % 96 < e2)) = true then kt (.tuple [.int b, .int e2]) else kf := hk
        refine ite2 (fun c => ?_) (fun c => ?_)
        · rw [decide_eq_true c, Bool.true_and] at hk2
          refine ite2 (fun c2 => ?_) (fun c2 => ?_)
          · rw [decide_eq_true c2, if_pos rfl] at hk2
            exact hk2
          · rw [decide_eq_false c2, if_neg (by decide)] at hk2
            exact hk2
        · rw [decide_eq_false c, Bool.false_and, if_neg (by decide)] at hk2
          exact hk2
      · rw [List.map_id]
        have hdep : (PyData.list (ps.filter (inHush t))).depth ≤ 64 := depthN (depth_list (n := 1) fun d hd => by
          obtain ⟨b, e2, rfl⟩ := hp d (List.mem_filter.mp hd).1
          simp [PyData.depth, PyData.depthAll])
        refine ⟨⟨hdep, by decide +kernel⟩, ?_⟩
        have ev : PyData.eqv (.list (ps.filter (inHush t))) (.list []) = hushOpen (.tuple ps) t := by
          have e1 : ∀ l : List D, PyData.eqv (.list l) (.list []) = l.isEmpty := fun l => by cases l <;> simp [PyData.eqv, PyData.eqvAll]
          rw [e1]
          simp only [hushOpen]
          generalize ps = qs
          induction qs with
          | nil => rfl
          | cons q qs ih =>
            cases c : inHush t q with
            | true => rw [List.filter_cons_of_pos c, List.any_cons, c]; rfl
            | false => rw [List.filter_cons_of_neg (by rw [c]; decide), List.any_cons, c, ih, Bool.false_or]
        rw [ev]
        have e2 : rows = (done ++ [.tuple [.str nm, .tuple ps]]) ++ ds := by rw [e, List.append_assoc]; rfl
        refine ite2 (fun c => ⟨?_, hn _ ⟨_, .dat (.str nm), .dat (.tuple ps), z, e2, ?_⟩⟩) (fun c => hn _ ⟨_, .dat (.str nm), .dat (.tuple ps), z, e2, ?_⟩)
        · have := List.length_filter_le (rowOpen t) done
          have : rows.length = done.length + (ds.length + 1) := by rw [e, List.length_append, List.length_cons]
          rw [List.length_map]
          omega
        · rw [List.filter_append, List.filter_cons_of_pos (show rowOpen t (.tuple [.str nm, .tuple ps]) = true from c), List.map_append]
          rfl
        · rw [List.filter_append, List.filter_cons_of_neg (show ¬ rowOpen t (.tuple [.str nm, .tuple ps]) = true from c)]
          rw [show ([] : List D).filter (rowOpen t) = [] from rfl, List.append_nil]

theorem ok__law_last (T : Tp K mg) {f__law_opens : Addr} {d__law_opens : FuncData} (G__law_opens : FnD P w K mg base 1 "_law_opens" ["wishes", "tick"] sp__law_opens f__law_opens d__law_opens) {f : Addr} {fd : FuncData} (m : mg "_law_last" = some (.ref f)) (F : Fun K "_law_last" "_law_last" s__law_last f fd) : FnD P w K mg base 2 "_law_last" ["wishes", "low", "high"] sp__law_last f fd := by
  refine fnD_ok m F sc__law_last (fun _ _ _ _ _ _ us hl => match us, hl with | [_, _, _], _ => rfl) (fun cdv A outer s H E hr => ⟨_, (pss_cons (ps_for PassesOwn.never rfl (pi_range1 rfl T.b_range (pa_cons pe_int pa_nil)) (pg_name (i := 3) sc__law_last.nd rfl (by first | exact Or.inl rfl | exact Or.inr rfl)) (pss_one (ps_if (PW.pt (pw_and (pt_cmpR op_ge (pe_op op_sub (pv 2) (pv 3)) (pv 1) (nomark _)) (pw_and1 (pt_cmpR (op_neK K rfl hr.units) (pe_call G__law_opens.ok (hr.mono (by decide)) (by rfl) G__law_opens.mgf G__law_opens.kp G__law_opens.bd .nil pass0 (pa_cons (pv 0) (pa_cons (pe_op op_sub (pv 2) (pv 3)) pa_nil))) (pe_lst pa_nil) (nomark _))))) (pss_one (ps_ret (pe_op op_sub (pv 2) (pv 3)))) pss_nil)))
      (pss_one (ps_ret pe_non))),
    fun w1 H0 F0 => (pu_seq (pu_for (vs := [3]) (pui_range1 (puv_cons (PuE.p pu_int) puv_nil)) (pu_gname 3) (pu_if (pu_and (pu_tTest (pu_op v_cmp (PuE.p (pu_op v_sub (pu_see 2) (pu_see 3))) (pu_see 1))) (pu_tTest (pu_op v_ne (PuE.p (PuX.e (pu_call (puc_cons (pu_var 0) (puc_cons (pu_op v_sub (pu_see 2) (pu_see 3)) puc_nil))))) (PuE.p (PuX.e (pu_lst pua_nil)))))) (pu_ret (PuE.x (pu_op v_sub (pu_see 2) (pu_see 3)))) pu_next))
      (pu_ret (PuE.x pu_non)))⟩) ?_ ?_
  · intro ds q h
    unfold sp__law_last at h
    split at h <;> first | rfl | exact h.elim
  · intro ds q h
    unfold sp__law_last at h
    split at h
    case h_2 => exact h.elim
    rename_i ws lo hi
    obtain ⟨hw, h⟩ := h
    walk_at "sq"
    walk_at "dn"
    rw [lastO_window (opens_mod ws)] at h
    refine loopD_by (fun ds ρ => ∃ (k n : Nat) (x : SV), ds = rangeD k n ∧ k + n = 96 ∧ (∀ u, hi - k < u → max lo (hi - 95) ≤ u → u ≤ hi → opens ws u = false) ∧ ρ = [.dat ws, .dat (.int lo), .dat (.int hi), x]) ⟨0, 96, _, rfl, rfl, fun u h1 h2 => by omega, rfl⟩ ?_ ?_
    · rintro ρ ⟨k, n, x, e0, e1, e2, rfl⟩
      have hn : n = 0 := by
        cases n with
        | zero => rfl
        | succ n => simp [rangeD] at e0
      subst hn
      walk_at "dn"
      have : lastO (opens ws) (max lo (hi - 95)) hi = none := lastO_of fun u h1 h2 => e2 u (by omega) h1 h2
      rw [this] at h
      exact h
    · rintro d ds ρ nx ⟨k, n, x, e0, e1, e2, rfl⟩ hn
      cases n with
      | zero => simp [rangeD] at e0
      | succ n =>
        simp only [rangeD, List.cons.injEq] at e0
        obtain ⟨rfl, rfl⟩ := e0
        walk_at "dn"
        have next : opens ws (hi - k) = false ∨ hi - k < lo → nx [.dat ws, .dat (.int lo), .dat (.int hi), .dat (.int k)] := fun c =>
          hn _ ⟨k + 1, n, _, by rw [Int.natCast_add]; rfl, by omega, fun u h1 h2 h3 => by
            by_cases c2 : u = hi - k
            · rw [c2]
              rcases c with c | c
              · exact c
              · omega
            · exact e2 u (by omega) h2 h3, rfl⟩
        refine ite2 (fun c => ?_) (fun c => next (.inr (by omega)))
        refine ⟨hw, ⟨ways_depth hw _, by decide +kernel⟩, ?_⟩
        rw [waysOpen_nil]
        refine ite2 (fun c2 => ?_) (fun c2 => next (.inl (by simpa using c2)))
        have c2 : opens ws (hi - k) = true := by simpa using c2
        have : lastO (opens ws) (max lo (hi - 95)) hi = some (hi - k) := lastO_of ⟨c2, by omega, by omega, fun u h1 h2 => e2 u h1 (by omega) h2⟩
        rw [this] at h
        exact h

def sp_need_all : DL.Spec
  | [.dat ws, .dat (.list ts), .dat (.tuple os)], q => (areWishes ws = true ∧ ∃ T E, ts = T.map prD ∧ GoodT T ∧ os = E.map prD ∧ GoodE E T.length) ∧ q (.dat .none)
  | _, _ => False
def BndR (R : List (Int × Int)) : Prop := R.length ≤ 40 ∧ ∀ s ∈ R, 0 ≤ s.1 ∧ s.1 ≤ 1000000 ∧ -1000000 ≤ s.2 ∧ s.2 ≤ 1000000
def sp_greedy : DL.SpecX
  | [.dat ws, .dat (.list ss)], q, ex => ∃ R, ss = R.map prD ∧ areWishes ws = true ∧ BndR R ∧ (∀ i : Nat, NoAt (opens ws) R i → ex ("NoTime", some (.int i))) ∧
      (AllHave (opens ws) R → ∀ L, GBP (opens ws) R (-1) L → (∀ m ∈ L, (0 ≤ m.2 ∧ m.2 < R.length) ∧ tickOf (opens ws) R m.2 = some m.1) → (L.map (·.2)).Nodup → q (.dat (.tuple [.list (L.map fun m => .int m.1), .list (L.map fun m => .int m.2)])))
  | _, _, _ => False
def q_sp_need_all := @sp_need_all.eq_1
def q_sp_greedy := @sp_greedy.eq_1
local macro_rules | `(tactic| walk_at "dl") => `(tactic| simp only [q_startD_1, q_gNext_1, q_gSeq_1, q_gBreak_1, q_gCont_1, q_gNever_1, q_gDrop_1, q_gRet_1, q_gRetN_1, q_gRetV_1, q_gIf_1, q_gSet_1, q_gPar_1, q_gAsg_1, q_gnm_1, q_gnil_1, q_gcons_1, q_gtup_1, q_gFor_1, q_iL_1, q_iT_1, q_iR1_1, q_iR2_1, q_iR3_1, q_iSeqD_1, q_iStrD_1, q_iEnumD_1, q_iZipD_1, q_xComp_1, q_xOf_1, q_eOf_1, q_dVar_1, q_dSee_1, q_dC_1, q_dNil_1, q_dCons_1, q_cNil_1, q_cCons_1, q_cWel_1, q_cScr_1, q_dOp_1, q_dUn_1, q_xB_1, q_dBool_1, q_bAnd_1, q_bOr_1, q_bNot_1, q_dAndV_1, q_dOrV_1, q_dNotV_1, q_dIf_1, q_dChain_1, q_dTup_1, q_xLst_1, q_xDict_1, q_dIsi_1, q_xSl_1, q_oNo_1, q_oSome_1, q_xRev_1, q_gAppend_1, q_gPop_1, q_gPopAt_1, q_gInsert_1, q_gSetIx_1, q_gSetSl_1, q_xCall_1, q_dLenSet_1, q_xLenScr_1, q_dIxScr_1, q_gWell_1, q_dAdd_1, q_dAdd_2, q_dAdd_3, q_dAdd_4, q_dSub_1, q_dMul_1, q_dMul_2, q_dMod_1, q_dFdiv_1, q_dPow_1, q_dNeg_1, q_dLt_1, q_dLt_2, q_dCmp_1, q_dEq_1, q_dNe_1, q_dIs_1, q_dIsNot_1, q_dIn_1, q_dIn_2, q_dIn_3, q_dNotIn_1, q_dIx_1, q_dIx_2, q_dIx_3, q_gLen_1, q_gLen_2, q_gLen_3, q_gAll_1, q_gAny_1, q_gMax_1, q_gMin_1, q_gMax2_1, q_gMin2_1, q_gTuple_1, q_gTuple_2, q_gList_1, q_gList_2, q_gInt_1, q_gInt_2, q_wipeD_1, q_wipeD_2, q_unwel_1, q_unwel_2, q_uw1_1, q_uw1_2, q_intsD_1, q_intsD_2, q_boolsD_1, q_boolsD_2, q_strsD_1, q_strsD_2, q_xCallE_1, q_dIsE_1, q_xSplit_1, q_xSortZip_1, q_dIsB_1, q_xCallDf_1, q_xTupRg_1, q_xLstRg_1, q_gFrz_1, q_xRevA_1, q_gRetT2_1, q_xSortSet_1, q_dIdx_1, q_xCallX_1, q_xCallNX_1, q_gRaise_1, q_gRaiseP_1, q_gTry_1, q_gTryAs_1, q_dPlace_1, q_cExn_1, q_xDictT_1, q_xSortedT_1, q_xCallN_1, q_gDPut_1, q_gDPutT_1, q_dInK_1, q_xListK_1, q_keyD_1, q_keyD_2, q_keysD_1, q_keysD_2, isIntD_none, isIntD_bool, isIntD_int, isIntD_str, isIntD_list, isIntD_tuple, isIntD_dict, isBoolD_none, isBoolD_bool, isBoolD_int, isBoolD_str, isBoolD_list, isBoolD_tuple, isBoolD_dict, isStrD_none, isStrD_bool, isStrD_int, isStrD_str, isStrD_list, isStrD_tuple, isStrD_dict, isTupD_none, isTupD_bool, isTupD_int, isTupD_str, isTupD_list, isTupD_tuple, isTupD_dict, isListD_none, isListD_bool, isListD_int, isListD_str, isListD_list, isListD_tuple, isListD_dict, isNoneD_none, isNoneD_bool, isNoneD_int, isNoneD_str, isNoneD_list, isNoneD_tuple, isNoneD_dict, flatD_none, flatD_bool, flatD_int, flatD_str, flatD_list, flatD_tuple, flatD_dict, Option.map_some, sizeLine_eq, Int.cast_ofNat_Int, eq_self, dpI, dpB, dpS, dpN, evII, evBB, evSS, Nat.zero_le, Int.reduceSub, Int.reduceAdd, Int.reduceMul, Int.reduceNeg, Int.reduceLT, Int.reduceLE, Int.reduceMod, Int.reduceDiv, Int.reduceEq, Int.reduceToNat, Int.reducePow, Nat.reduceLT, Nat.reduceLeDiff, Nat.reduceMul, Nat.reducePow, decide_true, decide_false, ite_true, ite_false, not_true_eq_false, not_false_eq_true, reduceIte, reduceCtorEq, Bool.true_eq_false, Bool.and_self, and_self, false_and, and_false, at0, at1, at2, at3, decide_eq_true_eq, decide_eq_false_iff_not, Bool.false_eq_true, if_true, if_false, Bool.not_true, Bool.not_false, true_and, and_true, Bool.true_and, Bool.and_true, Bool.false_and, Bool.and_false, decide_not, Bool.not_eq_eq_eq_not, List.map_cons, List.map_nil, List.length_cons, List.length_nil, Nat.sub_self, List.replicate_zero, List.replicate_succ, List.append_nil, List.nil_append, List.cons_append, List.getElem?_cons_zero, List.getElem?_cons_succ, List.set_cons_zero, List.set_cons_succ, Nat.add_one_sub_one, Nat.reduceAdd, Nat.reduceSub, Nat.reduceLeDiff, q_sp_take_1, q_sp_is_whole, q_sp_is_pair, q_sp_is_name, q_sp_is_hush, q_sp_are_wishes, q_sp__law_is_int, q_sp__law_says, q_sp__law_well, q_sp__law_hush, q_sp__law_wishes, q_sp_is_open, q_sp_need_wishes, q_sp_ways_open, q_sp_last_open, q_sp__law_opens, q_sp__law_last, q_sp_need_all, q_sp_greedy])
local macro_rules | `(tactic| walk_at "dn") => `(tactic| simp only [q_startD_1, q_gNext_1, q_gBreak_1, q_gCont_1, q_gNever_1, q_gDrop_1, q_gRet_1, q_gRetN_1, q_gRetV_1, q_gIf_1, q_gSet_1, q_gPar_1, q_gAsg_1, q_gnm_1, q_gnil_1, q_gcons_1, q_gtup_1, q_gFor_1, q_iL_1, q_iT_1, q_iR1_1, q_iR2_1, q_iR3_1, q_iSeqD_1, q_iStrD_1, q_iEnumD_1, q_iZipD_1, q_xComp_1, q_xOf_1, q_eOf_1, q_dVar_1, q_dSee_1, q_dC_1, q_dNil_1, q_dCons_1, q_cNil_1, q_cCons_1, q_cWel_1, q_cScr_1, q_dOp_1, q_dUn_1, q_xB_1, q_dBool_1, q_bAnd_1, q_bOr_1, q_bNot_1, q_dAndV_1, q_dOrV_1, q_dNotV_1, q_dIf_1, q_dChain_1, q_dTup_1, q_xLst_1, q_xDict_1, q_dIsi_1, q_xSl_1, q_oNo_1, q_oSome_1, q_xRev_1, q_gAppend_1, q_gPop_1, q_gPopAt_1, q_gInsert_1, q_gSetIx_1, q_gSetSl_1, q_xCall_1, q_dLenSet_1, q_xLenScr_1, q_dIxScr_1, q_gWell_1, q_dAdd_1, q_dAdd_2, q_dAdd_3, q_dAdd_4, q_dSub_1, q_dMul_1, q_dMul_2, q_dMod_1, q_dFdiv_1, q_dPow_1, q_dNeg_1, q_dLt_1, q_dLt_2, q_dCmp_1, q_dEq_1, q_dNe_1, q_dIs_1, q_dIsNot_1, q_dIn_1, q_dIn_2, q_dIn_3, q_dNotIn_1, q_dIx_1, q_dIx_2, q_dIx_3, q_gLen_1, q_gLen_2, q_gLen_3, q_gAll_1, q_gAny_1, q_gMax_1, q_gMin_1, q_gMax2_1, q_gMin2_1, q_gTuple_1, q_gTuple_2, q_gList_1, q_gList_2, q_gInt_1, q_gInt_2, q_wipeD_1, q_wipeD_2, q_unwel_1, q_unwel_2, q_uw1_1, q_uw1_2, q_intsD_1, q_intsD_2, q_boolsD_1, q_boolsD_2, q_strsD_1, q_strsD_2, q_xCallE_1, q_dIsE_1, q_xSplit_1, q_xSortZip_1, q_dIsB_1, q_xCallDf_1, q_xTupRg_1, q_xLstRg_1, q_gFrz_1, q_xRevA_1, q_gRetT2_1, q_xSortSet_1, q_dIdx_1, q_xCallX_1, q_xCallNX_1, q_gRaise_1, q_gRaiseP_1, q_gTry_1, q_gTryAs_1, q_dPlace_1, q_cExn_1, q_xDictT_1, q_xSortedT_1, q_xCallN_1, q_gDPut_1, q_gDPutT_1, q_dInK_1, q_xListK_1, q_keyD_1, q_keyD_2, q_keysD_1, q_keysD_2, isIntD_none, isIntD_bool, isIntD_int, isIntD_str, isIntD_list, isIntD_tuple, isIntD_dict, isBoolD_none, isBoolD_bool, isBoolD_int, isBoolD_str, isBoolD_list, isBoolD_tuple, isBoolD_dict, isStrD_none, isStrD_bool, isStrD_int, isStrD_str, isStrD_list, isStrD_tuple, isStrD_dict, isTupD_none, isTupD_bool, isTupD_int, isTupD_str, isTupD_list, isTupD_tuple, isTupD_dict, isListD_none, isListD_bool, isListD_int, isListD_str, isListD_list, isListD_tuple, isListD_dict, isNoneD_none, isNoneD_bool, isNoneD_int, isNoneD_str, isNoneD_list, isNoneD_tuple, isNoneD_dict, flatD_none, flatD_bool, flatD_int, flatD_str, flatD_list, flatD_tuple, flatD_dict, Option.map_some, sizeLine_eq, Int.cast_ofNat_Int, eq_self, dpI, dpB, dpS, dpN, evII, evBB, evSS, Nat.zero_le, Int.reduceSub, Int.reduceAdd, Int.reduceMul, Int.reduceNeg, Int.reduceLT, Int.reduceLE, Int.reduceMod, Int.reduceDiv, Int.reduceEq, Int.reduceToNat, Int.reducePow, Nat.reduceLT, Nat.reduceLeDiff, Nat.reduceMul, Nat.reducePow, decide_true, decide_false, ite_true, ite_false, not_true_eq_false, not_false_eq_true, reduceIte, reduceCtorEq, Bool.true_eq_false, Bool.and_self, and_self, false_and, and_false, at0, at1, at2, at3, decide_eq_true_eq, decide_eq_false_iff_not, Bool.false_eq_true, if_true, if_false, Bool.not_true, Bool.not_false, true_and, and_true, Bool.true_and, Bool.and_true, Bool.false_and, Bool.and_false, decide_not, Bool.not_eq_eq_eq_not, List.map_cons, List.map_nil, List.length_cons, List.length_nil, Nat.sub_self, List.replicate_zero, List.replicate_succ, List.append_nil, List.nil_append, List.cons_append, List.getElem?_cons_zero, List.getElem?_cons_succ, List.set_cons_zero, List.set_cons_succ, Nat.add_one_sub_one, Nat.reduceAdd, Nat.reduceSub, Nat.reduceLeDiff, q_sp_take_1, q_sp_is_whole, q_sp_is_pair, q_sp_is_name, q_sp_is_hush, q_sp_are_wishes, q_sp__law_is_int, q_sp__law_says, q_sp__law_well, q_sp__law_hush, q_sp__law_wishes, q_sp_is_open, q_sp_need_wishes, q_sp_ways_open, q_sp_last_open, q_sp__law_opens, q_sp__law_last, q_sp_need_all, q_sp_greedy])
local macro_rules | `(tactic| walk_at "sq") => `(tactic| simp only [q_gSeq_1])
theorem narrow_bnd {T E R : List (Int × Int)} (hT : GoodT T) (h : IsNarrow T E R) : BndR R := by
  refine ⟨by rw [h.1]; exact hT.1, fun s hs => ?_⟩
  obtain ⟨i, hi, rfl⟩ := List.mem_iff_getElem.mp hs
  have n := h.2 i _ (List.getElem?_eq_getElem hi)
  obtain ⟨j, t, _, h1, h2⟩ := n.s1
  obtain ⟨k, u, _, h3, h4⟩ := n.u1
  have := hT.2 t (List.mem_of_getElem? h1)
  have := hT.2 u (List.mem_of_getElem? h3)
  omega
def NarrowArgs (ws : D) (ts os : List D) (T E : List (Int × Int)) : Prop := (ts = T.map prD ∧ os = E.map prD) ∧ areWishes ws = true ∧ GoodT T ∧ GoodE E T.length
def geD (f : Int) : D → Bool
  | .int b => decide (f ≤ b)
  | _ => false
theorem ge_filter (f : Int) (B : List Int) : (B.map PyData.int).filter (geD f) = (B.filter fun b => decide (f ≤ b)).map .int := by
  rw [List.filter_map]
  rfl
def getB (B : List Int) (f : Int) : Int := mnI (B.filter fun b => decide (f ≤ b))
def sp_fewest_bells : DL.SpecX
  | [.dat ws, .dat (.list ts), .dat (.tuple os)], q, ex => ∃ T E, NarrowArgs ws ts os T E ∧ ∀ R, IsNarrow T E R → (∀ i : Nat, NoAt (opens ws) R i → ex ("NoTime", some (.int i))) ∧ (AllHave (opens ws) R → ∀ B, GB (opens ws) R (-1) B → q (.dat (.list (B.map .int))))
  | _, _, _ => False
def sp_got : DL.SpecX
  | [.dat ws, .dat (.list ts), .dat (.tuple os)], q, ex => ∃ T E, NarrowArgs ws ts os T E ∧ ∀ R, IsNarrow T E R → (∀ i : Nat, NoAt (opens ws) R i → ex ("NoTime", some (.int i))) ∧ (AllHave (opens ws) R → ∀ B, GB (opens ws) R (-1) B → q (.own (R.map fun s => .int (getB B s.1))))
  | _, _, _ => False
def PaperOf (op : Int → Bool) (R : List (Int × Int)) (P : List Int) : Prop := ∃ L, GBP op R (-1) L ∧ (∀ m ∈ L, (0 ≤ m.2 ∧ m.2 < R.length) ∧ tickOf op R m.2 = some m.1) ∧ P.Perm (L.map (·.2)) ∧ P.Pairwise (· < ·)
def sp_apart : DL.SpecX
  | [.dat ws, .dat (.list ts), .dat (.tuple os)], q, ex => ∃ T E, NarrowArgs ws ts os T E ∧ ∀ R, IsNarrow T E R → (∀ i : Nat, NoAt (opens ws) R i → ex ("NoTime", some (.int i))) ∧ (AllHave (opens ws) R → ∀ P, PaperOf (opens ws) R P → q (.dat (.tuple (P.map .int))))
  | _, _, _ => False
def sp__law_many : DL.Spec
  | [.dat ws, .dat (.list ts), .dat (.tuple os)], q => ∃ T E, NarrowArgs ws ts os T E ∧ ∀ R o, IsNarrow T E R → Out (opens ws) R o → q (.dat (oL o))
  | _, _ => False
def q_sp_fewest_bells := @sp_fewest_bells.eq_1
def q_sp_got := @sp_got.eq_1
def q_sp_apart := @sp_apart.eq_1
def q_sp__law_many := @sp__law_many.eq_1
local macro_rules | `(tactic| walk_at "dl") => `(tactic| simp only [q_startD_1, q_gNext_1, q_gSeq_1, q_gBreak_1, q_gCont_1, q_gNever_1, q_gDrop_1, q_gRet_1, q_gRetN_1, q_gRetV_1, q_gIf_1, q_gSet_1, q_gPar_1, q_gAsg_1, q_gnm_1, q_gnil_1, q_gcons_1, q_gtup_1, q_gFor_1, q_iL_1, q_iT_1, q_iR1_1, q_iR2_1, q_iR3_1, q_iSeqD_1, q_iStrD_1, q_iEnumD_1, q_iZipD_1, q_xComp_1, q_xOf_1, q_eOf_1, q_dVar_1, q_dSee_1, q_dC_1, q_dNil_1, q_dCons_1, q_cNil_1, q_cCons_1, q_cWel_1, q_cScr_1, q_dOp_1, q_dUn_1, q_xB_1, q_dBool_1, q_bAnd_1, q_bOr_1, q_bNot_1, q_dAndV_1, q_dOrV_1, q_dNotV_1, q_dIf_1, q_dChain_1, q_dTup_1, q_xLst_1, q_xDict_1, q_dIsi_1, q_xSl_1, q_oNo_1, q_oSome_1, q_xRev_1, q_gAppend_1, q_gPop_1, q_gPopAt_1, q_gInsert_1, q_gSetIx_1, q_gSetSl_1, q_xCall_1, q_dLenSet_1, q_xLenScr_1, q_dIxScr_1, q_gWell_1, q_dAdd_1, q_dAdd_2, q_dAdd_3, q_dAdd_4, q_dSub_1, q_dMul_1, q_dMul_2, q_dMod_1, q_dFdiv_1, q_dPow_1, q_dNeg_1, q_dLt_1, q_dLt_2, q_dCmp_1, q_dEq_1, q_dNe_1, q_dIs_1, q_dIsNot_1, q_dIn_1, q_dIn_2, q_dIn_3, q_dNotIn_1, q_dIx_1, q_dIx_2, q_dIx_3, q_gLen_1, q_gLen_2, q_gLen_3, q_gAll_1, q_gAny_1, q_gMax_1, q_gMin_1, q_gMax2_1, q_gMin2_1, q_gTuple_1, q_gTuple_2, q_gList_1, q_gList_2, q_gInt_1, q_gInt_2, q_wipeD_1, q_wipeD_2, q_unwel_1, q_unwel_2, q_uw1_1, q_uw1_2, q_intsD_1, q_intsD_2, q_boolsD_1, q_boolsD_2, q_strsD_1, q_strsD_2, q_xCallE_1, q_dIsE_1, q_xSplit_1, q_xSortZip_1, q_dIsB_1, q_xCallDf_1, q_xTupRg_1, q_xLstRg_1, q_gFrz_1, q_xRevA_1, q_gRetT2_1, q_xSortSet_1, q_dIdx_1, q_xCallX_1, q_xCallNX_1, q_gRaise_1, q_gRaiseP_1, q_gTry_1, q_gTryAs_1, q_dPlace_1, q_cExn_1, q_xDictT_1, q_xSortedT_1, q_xCallN_1, q_gDPut_1, q_gDPutT_1, q_dInK_1, q_xListK_1, q_keyD_1, q_keyD_2, q_keysD_1, q_keysD_2, isIntD_none, isIntD_bool, isIntD_int, isIntD_str, isIntD_list, isIntD_tuple, isIntD_dict, isBoolD_none, isBoolD_bool, isBoolD_int, isBoolD_str, isBoolD_list, isBoolD_tuple, isBoolD_dict, isStrD_none, isStrD_bool, isStrD_int, isStrD_str, isStrD_list, isStrD_tuple, isStrD_dict, isTupD_none, isTupD_bool, isTupD_int, isTupD_str, isTupD_list, isTupD_tuple, isTupD_dict, isListD_none, isListD_bool, isListD_int, isListD_str, isListD_list, isListD_tuple, isListD_dict, isNoneD_none, isNoneD_bool, isNoneD_int, isNoneD_str, isNoneD_list, isNoneD_tuple, isNoneD_dict, flatD_none, flatD_bool, flatD_int, flatD_str, flatD_list, flatD_tuple, flatD_dict, Option.map_some, sizeLine_eq, Int.cast_ofNat_Int, eq_self, dpI, dpB, dpS, dpN, evII, evBB, evSS, Nat.zero_le, Int.reduceSub, Int.reduceAdd, Int.reduceMul, Int.reduceNeg, Int.reduceLT, Int.reduceLE, Int.reduceMod, Int.reduceDiv, Int.reduceEq, Int.reduceToNat, Int.reducePow, Nat.reduceLT, Nat.reduceLeDiff, Nat.reduceMul, Nat.reducePow, decide_true, decide_false, ite_true, ite_false, not_true_eq_false, not_false_eq_true, reduceIte, reduceCtorEq, Bool.true_eq_false, Bool.and_self, and_self, false_and, and_false, at0, at1, at2, at3, decide_eq_true_eq, decide_eq_false_iff_not, Bool.false_eq_true, if_true, if_false, Bool.not_true, Bool.not_false, true_and, and_true, Bool.true_and, Bool.and_true, Bool.false_and, Bool.and_false, decide_not, Bool.not_eq_eq_eq_not, List.map_cons, List.map_nil, List.length_cons, List.length_nil, Nat.sub_self, List.replicate_zero, List.replicate_succ, List.append_nil, List.nil_append, List.cons_append, List.getElem?_cons_zero, List.getElem?_cons_succ, List.set_cons_zero, List.set_cons_succ, Nat.add_one_sub_one, Nat.reduceAdd, Nat.reduceSub, Nat.reduceLeDiff, q_sp_take_1, q_sp_is_whole, q_sp_is_pair, q_sp_is_name, q_sp_is_hush, q_sp_are_wishes, q_sp__law_is_int, q_sp__law_says, q_sp__law_well, q_sp__law_hush, q_sp__law_wishes, q_sp_is_open, q_sp_need_wishes, q_sp_ways_open, q_sp_last_open, q_sp__law_opens, q_sp__law_last, q_sp_need_all, q_sp_greedy, q_sp_fewest_bells, q_sp_got, q_sp_apart, q_sp__law_many])
local macro_rules | `(tactic| walk_at "dn") => `(tactic| simp only [q_startD_1, q_gNext_1, q_gBreak_1, q_gCont_1, q_gNever_1, q_gDrop_1, q_gRet_1, q_gRetN_1, q_gRetV_1, q_gIf_1, q_gSet_1, q_gPar_1, q_gAsg_1, q_gnm_1, q_gnil_1, q_gcons_1, q_gtup_1, q_gFor_1, q_iL_1, q_iT_1, q_iR1_1, q_iR2_1, q_iR3_1, q_iSeqD_1, q_iStrD_1, q_iEnumD_1, q_iZipD_1, q_xComp_1, q_xOf_1, q_eOf_1, q_dVar_1, q_dSee_1, q_dC_1, q_dNil_1, q_dCons_1, q_cNil_1, q_cCons_1, q_cWel_1, q_cScr_1, q_dOp_1, q_dUn_1, q_xB_1, q_dBool_1, q_bAnd_1, q_bOr_1, q_bNot_1, q_dAndV_1, q_dOrV_1, q_dNotV_1, q_dIf_1, q_dChain_1, q_dTup_1, q_xLst_1, q_xDict_1, q_dIsi_1, q_xSl_1, q_oNo_1, q_oSome_1, q_xRev_1, q_gAppend_1, q_gPop_1, q_gPopAt_1, q_gInsert_1, q_gSetIx_1, q_gSetSl_1, q_xCall_1, q_dLenSet_1, q_xLenScr_1, q_dIxScr_1, q_gWell_1, q_dAdd_1, q_dAdd_2, q_dAdd_3, q_dAdd_4, q_dSub_1, q_dMul_1, q_dMul_2, q_dMod_1, q_dFdiv_1, q_dPow_1, q_dNeg_1, q_dLt_1, q_dLt_2, q_dCmp_1, q_dEq_1, q_dNe_1, q_dIs_1, q_dIsNot_1, q_dIn_1, q_dIn_2, q_dIn_3, q_dNotIn_1, q_dIx_1, q_dIx_2, q_dIx_3, q_gLen_1, q_gLen_2, q_gLen_3, q_gAll_1, q_gAny_1, q_gMax_1, q_gMin_1, q_gMax2_1, q_gMin2_1, q_gTuple_1, q_gTuple_2, q_gList_1, q_gList_2, q_gInt_1, q_gInt_2, q_wipeD_1, q_wipeD_2, q_unwel_1, q_unwel_2, q_uw1_1, q_uw1_2, q_intsD_1, q_intsD_2, q_boolsD_1, q_boolsD_2, q_strsD_1, q_strsD_2, q_xCallE_1, q_dIsE_1, q_xSplit_1, q_xSortZip_1, q_dIsB_1, q_xCallDf_1, q_xTupRg_1, q_xLstRg_1, q_gFrz_1, q_xRevA_1, q_gRetT2_1, q_xSortSet_1, q_dIdx_1, q_xCallX_1, q_xCallNX_1, q_gRaise_1, q_gRaiseP_1, q_gTry_1, q_gTryAs_1, q_dPlace_1, q_cExn_1, q_xDictT_1, q_xSortedT_1, q_xCallN_1, q_gDPut_1, q_gDPutT_1, q_dInK_1, q_xListK_1, q_keyD_1, q_keyD_2, q_keysD_1, q_keysD_2, isIntD_none, isIntD_bool, isIntD_int, isIntD_str, isIntD_list, isIntD_tuple, isIntD_dict, isBoolD_none, isBoolD_bool, isBoolD_int, isBoolD_str, isBoolD_list, isBoolD_tuple, isBoolD_dict, isStrD_none, isStrD_bool, isStrD_int, isStrD_str, isStrD_list, isStrD_tuple, isStrD_dict, isTupD_none, isTupD_bool, isTupD_int, isTupD_str, isTupD_list, isTupD_tuple, isTupD_dict, isListD_none, isListD_bool, isListD_int, isListD_str, isListD_list, isListD_tuple, isListD_dict, isNoneD_none, isNoneD_bool, isNoneD_int, isNoneD_str, isNoneD_list, isNoneD_tuple, isNoneD_dict, flatD_none, flatD_bool, flatD_int, flatD_str, flatD_list, flatD_tuple, flatD_dict, Option.map_some, sizeLine_eq, Int.cast_ofNat_Int, eq_self, dpI, dpB, dpS, dpN, evII, evBB, evSS, Nat.zero_le, Int.reduceSub, Int.reduceAdd, Int.reduceMul, Int.reduceNeg, Int.reduceLT, Int.reduceLE, Int.reduceMod, Int.reduceDiv, Int.reduceEq, Int.reduceToNat, Int.reducePow, Nat.reduceLT, Nat.reduceLeDiff, Nat.reduceMul, Nat.reducePow, decide_true, decide_false, ite_true, ite_false, not_true_eq_false, not_false_eq_true, reduceIte, reduceCtorEq, Bool.true_eq_false, Bool.and_self, and_self, false_and, and_false, at0, at1, at2, at3, decide_eq_true_eq, decide_eq_false_iff_not, Bool.false_eq_true, if_true, if_false, Bool.not_true, Bool.not_false, true_and, and_true, Bool.true_and, Bool.and_true, Bool.false_and, Bool.and_false, decide_not, Bool.not_eq_eq_eq_not, List.map_cons, List.map_nil, List.length_cons, List.length_nil, Nat.sub_self, List.replicate_zero, List.replicate_succ, List.append_nil, List.nil_append, List.cons_append, List.getElem?_cons_zero, List.getElem?_cons_succ, List.set_cons_zero, List.set_cons_succ, Nat.add_one_sub_one, Nat.reduceAdd, Nat.reduceSub, Nat.reduceLeDiff, q_sp_take_1, q_sp_is_whole, q_sp_is_pair, q_sp_is_name, q_sp_is_hush, q_sp_are_wishes, q_sp__law_is_int, q_sp__law_says, q_sp__law_well, q_sp__law_hush, q_sp__law_wishes, q_sp_is_open, q_sp_need_wishes, q_sp_ways_open, q_sp_last_open, q_sp__law_opens, q_sp__law_last, q_sp_need_all, q_sp_greedy, q_sp_fewest_bells, q_sp_got, q_sp_apart, q_sp__law_many])
local macro_rules | `(tactic| walk_at "sq") => `(tactic| simp only [q_gSeq_1])
def okL : List Str := ["NoWishes"]
def nextN (op : Int → Bool) : Nat → Int → Option Int
  | 0, _ => none
  | n + 1, t => if op t = true then some t else nextN op n (t + 1)
def spx_need_wishes : DL.SpecX
  | [.dat ws], q, ex => (areWishes ws = true → q (.dat .none)) ∧ (areWishes ws = false → ex ("NoWishes", none))
  | _, _, _ => False
def spx_open_ways : DL.SpecX
  | [.dat ws, .dat (.int t)], q, ex => (areWishes ws = true → q (.own (waysOpen ws t))) ∧ (areWishes ws = false → ex ("NoWishes", none))
  | _, _, _ => False
def spx_next_open : DL.SpecX
  | [.dat ws, .dat (.int t)], q, ex => (areWishes ws = true → q (.dat (oD (nextN (opens ws) 96 t)))) ∧ (areWishes ws = false → ex ("NoWishes", none))
  | _, _, _ => False
def spx_last_open : DL.SpecX
  | [.dat ws, .dat (.int lo), .dat (.int hi)], q, ex => ((-1000000 ≤ lo ∧ lo ≤ 1000000) ∧ (-1000000 ≤ hi ∧ hi ≤ 1000000)) ∧ (areWishes ws = true → q (.dat (oD (lastO (opens ws) lo hi)))) ∧ (areWishes ws = false → ex ("NoWishes", none))
  | _, _, _ => False
def sp__law_next : DL.Spec
  | [.dat ws, .dat (.int t)], q => areWishes ws = true ∧ q (.dat (oD (nextN (opens ws) 96 t)))
  | _, _ => False
def sp__law_refused : DL.Spec
  | [.dat (.int _), .dat ws], q => areWishes ws = false ∧ q (.dat (.bool true))
  | _, _ => False
def sp_law : DL.Spec
  | [.scr ns], q => ns.length ≤ 63 ∧ q (.dat (.bool true))
  | _, _ => False
theorem evStrs : ∀ A C : List Str, PyData.eqvAll (A.map .str) (C.map .str) = decide (A = C)
  | [], [] => by simp [PyData.eqvAll]
  | [], c :: C => by simp [PyData.eqvAll]
  | a :: A, [] => by simp [PyData.eqvAll]
  | a :: A, c :: C => by
    have ih := evStrs A C
    rw [List.map_cons, List.map_cons]
    simp only [PyData.eqvAll, ih, PyData.eqv]
    rw [Bool.eq_iff_iff]
    simp
theorem evO (a b : Option Int) : PyData.eqv (oD a) (oD b) = decide (a = b) := by
  cases a <;> cases b <;> simp [oD, PyData.eqv] <;> rfl
theorem map_strs {f : D → D} : ∀ {l : List D}, (∀ d ∈ l, ∃ x, f d = .str x) → ∃ A : List Str, l.map f = A.map .str
  | [], _ => ⟨[], rfl⟩
  | d :: l, h => by
    obtain ⟨x, hx⟩ := h d List.mem_cons_self
    obtain ⟨A, hA⟩ := map_strs fun e he => h e (List.mem_cons_of_mem _ he)
    exact ⟨x :: A, by rw [List.map_cons, hx, hA]; rfl⟩
theorem ways_strs {ws : D} (h : areWishes ws = true) (t : Int) : ∃ A : List Str, waysOpen ws t = A.map .str := by
  obtain ⟨rows, rfl, _, _, hr⟩ := wishes_rows h
  refine map_strs fun d hd => ?_
  obtain ⟨x, g, rfl, _⟩ := hr d (List.mem_filter.mp hd).1
  exact ⟨x, rfl⟩
theorem ways_len {ws : D} (h : areWishes ws = true) (t : Int) : (waysOpen ws t).length ≤ 4 := by
  obtain ⟨rows, rfl, _, h4, _⟩ := wishes_rows h
  show (((rows.filter (rowOpen t)).map rowName).length) ≤ 4
  rw [List.length_map]
  exact Nat.le_trans (List.length_filter_le _ _) h4
theorem ints_depth {A : List Str} : (PyData.list (A.map .str)).depth ≤ 64 := depthN (depth_list (n := 0) fun d hd => by
  obtain ⟨x, _, rfl⟩ := List.mem_map.mp hd
  simp [PyData.depth])
def q_spx_need_wishes := @spx_need_wishes.eq_1
def q_spx_open_ways := @spx_open_ways.eq_1
def q_spx_next_open := @spx_next_open.eq_1
def q_spx_last_open := @spx_last_open.eq_1
def q_sp__law_next := @sp__law_next.eq_1
def q_sp__law_refused := @sp__law_refused.eq_1
def q_sp_law := @sp_law.eq_1
local macro_rules | `(tactic| walk_at "dl") => `(tactic| simp only [q_startD_1, q_gNext_1, q_gSeq_1, q_gBreak_1, q_gCont_1, q_gNever_1, q_gDrop_1, q_gRet_1, q_gRetN_1, q_gRetV_1, q_gIf_1, q_gSet_1, q_gPar_1, q_gAsg_1, q_gnm_1, q_gnil_1, q_gcons_1, q_gtup_1, q_gFor_1, q_iL_1, q_iT_1, q_iR1_1, q_iR2_1, q_iR3_1, q_iSeqD_1, q_iStrD_1, q_iEnumD_1, q_iZipD_1, q_xComp_1, q_xOf_1, q_eOf_1, q_dVar_1, q_dSee_1, q_dC_1, q_dNil_1, q_dCons_1, q_cNil_1, q_cCons_1, q_cWel_1, q_cScr_1, q_dOp_1, q_dUn_1, q_xB_1, q_dBool_1, q_bAnd_1, q_bOr_1, q_bNot_1, q_dAndV_1, q_dOrV_1, q_dNotV_1, q_dIf_1, q_dChain_1, q_dTup_1, q_xLst_1, q_xDict_1, q_dIsi_1, q_xSl_1, q_oNo_1, q_oSome_1, q_xRev_1, q_gAppend_1, q_gPop_1, q_gPopAt_1, q_gInsert_1, q_gSetIx_1, q_gSetSl_1, q_xCall_1, q_dLenSet_1, q_xLenScr_1, q_dIxScr_1, q_gWell_1, q_dAdd_1, q_dAdd_2, q_dAdd_3, q_dAdd_4, q_dSub_1, q_dMul_1, q_dMul_2, q_dMod_1, q_dFdiv_1, q_dPow_1, q_dNeg_1, q_dLt_1, q_dLt_2, q_dCmp_1, q_dEq_1, q_dNe_1, q_dIs_1, q_dIsNot_1, q_dIn_1, q_dIn_2, q_dIn_3, q_dNotIn_1, q_dIx_1, q_dIx_2, q_dIx_3, q_gLen_1, q_gLen_2, q_gLen_3, q_gAll_1, q_gAny_1, q_gMax_1, q_gMin_1, q_gMax2_1, q_gMin2_1, q_gTuple_1, q_gTuple_2, q_gList_1, q_gList_2, q_gInt_1, q_gInt_2, q_wipeD_1, q_wipeD_2, q_unwel_1, q_unwel_2, q_uw1_1, q_uw1_2, q_intsD_1, q_intsD_2, q_boolsD_1, q_boolsD_2, q_strsD_1, q_strsD_2, q_xCallE_1, q_dIsE_1, q_xSplit_1, q_xSortZip_1, q_dIsB_1, q_xCallDf_1, q_xTupRg_1, q_xLstRg_1, q_gFrz_1, q_xRevA_1, q_gRetT2_1, q_xSortSet_1, q_dIdx_1, q_xCallX_1, q_xCallNX_1, q_gRaise_1, q_gRaiseP_1, q_gTry_1, q_gTryAs_1, q_dPlace_1, q_cExn_1, q_xDictT_1, q_xSortedT_1, q_xCallN_1, q_gDPut_1, q_gDPutT_1, q_dInK_1, q_xListK_1, q_keyD_1, q_keyD_2, q_keysD_1, q_keysD_2, isIntD_none, isIntD_bool, isIntD_int, isIntD_str, isIntD_list, isIntD_tuple, isIntD_dict, isBoolD_none, isBoolD_bool, isBoolD_int, isBoolD_str, isBoolD_list, isBoolD_tuple, isBoolD_dict, isStrD_none, isStrD_bool, isStrD_int, isStrD_str, isStrD_list, isStrD_tuple, isStrD_dict, isTupD_none, isTupD_bool, isTupD_int, isTupD_str, isTupD_list, isTupD_tuple, isTupD_dict, isListD_none, isListD_bool, isListD_int, isListD_str, isListD_list, isListD_tuple, isListD_dict, isNoneD_none, isNoneD_bool, isNoneD_int, isNoneD_str, isNoneD_list, isNoneD_tuple, isNoneD_dict, flatD_none, flatD_bool, flatD_int, flatD_str, flatD_list, flatD_tuple, flatD_dict, Option.map_some, sizeLine_eq, Int.cast_ofNat_Int, eq_self, dpI, dpB, dpS, dpN, evII, evBB, evSS, Nat.zero_le, Int.reduceSub, Int.reduceAdd, Int.reduceMul, Int.reduceNeg, Int.reduceLT, Int.reduceLE, Int.reduceMod, Int.reduceDiv, Int.reduceEq, Int.reduceToNat, Int.reducePow, Nat.reduceLT, Nat.reduceLeDiff, Nat.reduceMul, Nat.reducePow, decide_true, decide_false, ite_true, ite_false, not_true_eq_false, not_false_eq_true, reduceIte, reduceCtorEq, Bool.true_eq_false, Bool.and_self, and_self, false_and, and_false, at0, at1, at2, at3, decide_eq_true_eq, decide_eq_false_iff_not, Bool.false_eq_true, if_true, if_false, Bool.not_true, Bool.not_false, true_and, and_true, Bool.true_and, Bool.and_true, Bool.false_and, Bool.and_false, decide_not, Bool.not_eq_eq_eq_not, List.map_cons, List.map_nil, List.length_cons, List.length_nil, Nat.sub_self, List.replicate_zero, List.replicate_succ, List.append_nil, List.nil_append, List.cons_append, List.getElem?_cons_zero, List.getElem?_cons_succ, List.set_cons_zero, List.set_cons_succ, Nat.add_one_sub_one, Nat.reduceAdd, Nat.reduceSub, Nat.reduceLeDiff, q_sp_take_1, q_sp_is_whole, q_sp_is_pair, q_sp_is_name, q_sp_is_hush, q_sp_are_wishes, q_sp__law_is_int, q_sp__law_says, q_sp__law_well, q_sp__law_hush, q_sp__law_wishes, q_sp_is_open, q_sp_need_wishes, q_sp_ways_open, q_sp_last_open, q_sp__law_opens, q_sp__law_last, q_sp_need_all, q_sp_greedy, q_sp_fewest_bells, q_sp_got, q_sp_apart, q_sp__law_many, q_spx_need_wishes, q_spx_open_ways, q_spx_next_open, q_spx_last_open, q_sp__law_next, q_sp__law_refused, q_sp_law])
local macro_rules | `(tactic| walk_at "dn") => `(tactic| simp only [q_startD_1, q_gNext_1, q_gBreak_1, q_gCont_1, q_gNever_1, q_gDrop_1, q_gRet_1, q_gRetN_1, q_gRetV_1, q_gIf_1, q_gSet_1, q_gPar_1, q_gAsg_1, q_gnm_1, q_gnil_1, q_gcons_1, q_gtup_1, q_gFor_1, q_iL_1, q_iT_1, q_iR1_1, q_iR2_1, q_iR3_1, q_iSeqD_1, q_iStrD_1, q_iEnumD_1, q_iZipD_1, q_xComp_1, q_xOf_1, q_eOf_1, q_dVar_1, q_dSee_1, q_dC_1, q_dNil_1, q_dCons_1, q_cNil_1, q_cCons_1, q_cWel_1, q_cScr_1, q_dOp_1, q_dUn_1, q_xB_1, q_dBool_1, q_bAnd_1, q_bOr_1, q_bNot_1, q_dAndV_1, q_dOrV_1, q_dNotV_1, q_dIf_1, q_dChain_1, q_dTup_1, q_xLst_1, q_xDict_1, q_dIsi_1, q_xSl_1, q_oNo_1, q_oSome_1, q_xRev_1, q_gAppend_1, q_gPop_1, q_gPopAt_1, q_gInsert_1, q_gSetIx_1, q_gSetSl_1, q_xCall_1, q_dLenSet_1, q_xLenScr_1, q_dIxScr_1, q_gWell_1, q_dAdd_1, q_dAdd_2, q_dAdd_3, q_dAdd_4, q_dSub_1, q_dMul_1, q_dMul_2, q_dMod_1, q_dFdiv_1, q_dPow_1, q_dNeg_1, q_dLt_1, q_dLt_2, q_dCmp_1, q_dEq_1, q_dNe_1, q_dIs_1, q_dIsNot_1, q_dIn_1, q_dIn_2, q_dIn_3, q_dNotIn_1, q_dIx_1, q_dIx_2, q_dIx_3, q_gLen_1, q_gLen_2, q_gLen_3, q_gAll_1, q_gAny_1, q_gMax_1, q_gMin_1, q_gMax2_1, q_gMin2_1, q_gTuple_1, q_gTuple_2, q_gList_1, q_gList_2, q_gInt_1, q_gInt_2, q_wipeD_1, q_wipeD_2, q_unwel_1, q_unwel_2, q_uw1_1, q_uw1_2, q_intsD_1, q_intsD_2, q_boolsD_1, q_boolsD_2, q_strsD_1, q_strsD_2, q_xCallE_1, q_dIsE_1, q_xSplit_1, q_xSortZip_1, q_dIsB_1, q_xCallDf_1, q_xTupRg_1, q_xLstRg_1, q_gFrz_1, q_xRevA_1, q_gRetT2_1, q_xSortSet_1, q_dIdx_1, q_xCallX_1, q_xCallNX_1, q_gRaise_1, q_gRaiseP_1, q_gTry_1, q_gTryAs_1, q_dPlace_1, q_cExn_1, q_xDictT_1, q_xSortedT_1, q_xCallN_1, q_gDPut_1, q_gDPutT_1, q_dInK_1, q_xListK_1, q_keyD_1, q_keyD_2, q_keysD_1, q_keysD_2, isIntD_none, isIntD_bool, isIntD_int, isIntD_str, isIntD_list, isIntD_tuple, isIntD_dict, isBoolD_none, isBoolD_bool, isBoolD_int, isBoolD_str, isBoolD_list, isBoolD_tuple, isBoolD_dict, isStrD_none, isStrD_bool, isStrD_int, isStrD_str, isStrD_list, isStrD_tuple, isStrD_dict, isTupD_none, isTupD_bool, isTupD_int, isTupD_str, isTupD_list, isTupD_tuple, isTupD_dict, isListD_none, isListD_bool, isListD_int, isListD_str, isListD_list, isListD_tuple, isListD_dict, isNoneD_none, isNoneD_bool, isNoneD_int, isNoneD_str, isNoneD_list, isNoneD_tuple, isNoneD_dict, flatD_none, flatD_bool, flatD_int, flatD_str, flatD_list, flatD_tuple, flatD_dict, Option.map_some, sizeLine_eq, Int.cast_ofNat_Int, eq_self, dpI, dpB, dpS, dpN, evII, evBB, evSS, Nat.zero_le, Int.reduceSub, Int.reduceAdd, Int.reduceMul, Int.reduceNeg, Int.reduceLT, Int.reduceLE, Int.reduceMod, Int.reduceDiv, Int.reduceEq, Int.reduceToNat, Int.reducePow, Nat.reduceLT, Nat.reduceLeDiff, Nat.reduceMul, Nat.reducePow, decide_true, decide_false, ite_true, ite_false, not_true_eq_false, not_false_eq_true, reduceIte, reduceCtorEq, Bool.true_eq_false, Bool.and_self, and_self, false_and, and_false, at0, at1, at2, at3, decide_eq_true_eq, decide_eq_false_iff_not, Bool.false_eq_true, if_true, if_false, Bool.not_true, Bool.not_false, true_and, and_true, Bool.true_and, Bool.and_true, Bool.false_and, Bool.and_false, decide_not, Bool.not_eq_eq_eq_not, List.map_cons, List.map_nil, List.length_cons, List.length_nil, Nat.sub_self, List.replicate_zero, List.replicate_succ, List.append_nil, List.nil_append, List.cons_append, List.getElem?_cons_zero, List.getElem?_cons_succ, List.set_cons_zero, List.set_cons_succ, Nat.add_one_sub_one, Nat.reduceAdd, Nat.reduceSub, Nat.reduceLeDiff, q_sp_take_1, q_sp_is_whole, q_sp_is_pair, q_sp_is_name, q_sp_is_hush, q_sp_are_wishes, q_sp__law_is_int, q_sp__law_says, q_sp__law_well, q_sp__law_hush, q_sp__law_wishes, q_sp_is_open, q_sp_need_wishes, q_sp_ways_open, q_sp_last_open, q_sp__law_opens, q_sp__law_last, q_sp_need_all, q_sp_greedy, q_sp_fewest_bells, q_sp_got, q_sp_apart, q_sp__law_many, q_spx_need_wishes, q_spx_open_ways, q_spx_next_open, q_spx_last_open, q_sp__law_next, q_sp__law_refused, q_sp_law])
local macro_rules | `(tactic| walk_at "sq") => `(tactic| simp only [q_gSeq_1])
theorem ok_need_wishes (T : Tp K mg) {C_NoWishes : Addr} (X_NoWishes : OwnX K mg "NoWishes" C_NoWishes) {f_are_wishes : Addr} {d_are_wishes : FuncData} (G_are_wishes : FnD P w K mg base 3 "are_wishes" ["thing"] sp_are_wishes f_are_wishes d_are_wishes) {f : Addr} {fd : FuncData} (m : mg "need_wishes" = some (.ref f)) (F : Fun K "need_wishes" "need_wishes" s_need_wishes f fd) : FnX P w K mg base 4 "need_wishes" ["thing"] spx_need_wishes f fd := by
  refine fnX_ok m F sc_need_wishes (fun _ _ _ _ _ _ us hl => match us, hl with | [_], _ => rfl) (fun cdv A outer s H E hr => ⟨_, (pss_one (ps_if (pt_not (pt_val (pe_call G_are_wishes.ok (hr.mono (by decide)) (by rfl) G_are_wishes.mgf G_are_wishes.kp G_are_wishes.bd .nil pass0 (pa_cons (pv 0) pa_nil)))) (pss_one (L2N.ps_raise rfl (L2N.takes_of rfl rfl rfl rfl) (L2N.pmk_own PySem.F.excBase_ValueError X_NoWishes.xC X_NoWishes.gC X_NoWishes.kC (raises_own X_NoWishes.bC X_NoWishes.tC) (by rfl)))) pss_nil)),
    fun w1 H0 F0 ex hW => (PuS.top (pu_if (pu_not (pu_tB (PuX.e (pu_call (puc_cons (pu_var 0) puc_nil))))) (pu_raise X_NoWishes.gC hW) pu_next))⟩) ?_ ?_
  · intro ds q ex h
    unfold spx_need_wishes at h
    split at h <;> first | rfl | exact h.elim
  · intro ds q ex h
    unfold spx_need_wishes at h
    split at h
    case h_2 => exact h.elim
    rename_i ws
    obtain ⟨h1, h2⟩ := h
    walk_at "dl"
    cases c : areWishes ws with
    | true =>
      rw [if_neg (by decide)]
      exact h1 c
    | false =>
      rw [if_pos (by decide)]
      exact h2 c

theorem ok_open_ways (T : Tp K mg) {f_need_wishes : Addr} {d_need_wishes : FuncData} (G_need_wishes : FnX P w K mg base 4 "need_wishes" ["thing"] (spx_need_wishes) f_need_wishes d_need_wishes) {f_ways_open : Addr} {d_ways_open : FuncData} (G_ways_open : FnD P w K mg base 2 "ways_open" ["wishes", "tick"] sp_ways_open f_ways_open d_ways_open) {f : Addr} {fd : FuncData} (m : mg "open_ways" = some (.ref f)) (F : Fun K "open_ways" "open_ways" s_open_ways f fd) : FnX P w K mg base 5 "open_ways" ["wishes", "tick"] spx_open_ways f fd := by
  refine fnX_ok m F sc_open_ways (fun _ _ _ _ _ _ us hl => match us, hl with | [_, _], _ => rfl) (fun cdv A outer s H E hr => ⟨_, (pss_cons (ps_expr (pe_callS G_need_wishes.ok (hr.mono (by decide)) (by rfl) G_need_wishes.mgf G_need_wishes.kp G_need_wishes.bd (fun σ => L2N.passAt (L2N.takes_of rfl rfl rfl rfl) σ) (pa_cons (pv 0) pa_nil)))
      (pss_one (ps_ret (pe_call G_ways_open.ok (hr.mono (by decide)) (by rfl) G_ways_open.mgf G_ways_open.kp G_ways_open.bd .nil pass0 (pa_cons (pv 0) (pa_cons (pv 1) pa_nil)))))),
    fun w1 H0 F0 ex hW => (PuS.top (pu_seq (pu_drop (PuX.e (pu_callX hW (puc_cons (pu_var 0) puc_nil))))
      (pu_ret (pu_call (puc_cons (pu_var 0) (puc_cons (pu_var 1) puc_nil))))))⟩) ?_ ?_
  · intro ds q ex h
    unfold spx_open_ways at h
    split at h <;> first | rfl | exact h.elim
  · intro ds q ex h
    unfold spx_open_ways at h
    split at h
    case h_2 => exact h.elim
    rename_i ws t
    obtain ⟨h1, h2⟩ := h
    walk_at "sq"
    walk_at "dn"
    exact ⟨fun c => ⟨c, h1 c⟩, h2⟩

theorem ok_next_open (T : Tp K mg) {f_need_wishes : Addr} {d_need_wishes : FuncData} (G_need_wishes : FnX P w K mg base 4 "need_wishes" ["thing"] (spx_need_wishes) f_need_wishes d_need_wishes) {f_ways_open : Addr} {d_ways_open : FuncData} (G_ways_open : FnD P w K mg base 2 "ways_open" ["wishes", "tick"] sp_ways_open f_ways_open d_ways_open) {f : Addr} {fd : FuncData} (m : mg "next_open" = some (.ref f)) (F : Fun K "next_open" "next_open" s_next_open f fd) : FnX P w K mg base 5 "next_open" ["wishes", "tick"] spx_next_open f fd := by
  refine fnX_ok m F sc_next_open (fun _ _ _ _ _ _ us hl => match us, hl with | [_, _], _ => rfl) (fun cdv A outer s H E hr => ⟨_, (pss_cons (ps_expr (pe_callS G_need_wishes.ok (hr.mono (by decide)) (by rfl) G_need_wishes.mgf G_need_wishes.kp G_need_wishes.bd (fun σ => L2N.passAt (L2N.takes_of rfl rfl rfl rfl) σ) (pa_cons (pv 0) pa_nil)))
      (pss_cons (ps_for (passes_of rfl) rfl (pi_range1 rfl T.b_range (pa_cons (pe_gint rfl T.c_DAY) pa_nil)) (pg_name (i := 2) sc_next_open.nd rfl (by first | exact Or.inl rfl | exact Or.inr rfl)) (pss_one (ps_if (pt_cmpR (op_neK K rfl hr.units) (pe_call G_ways_open.ok (hr.mono (by decide)) (by rfl) G_ways_open.mgf G_ways_open.kp G_ways_open.bd .nil pass0 (pa_cons (pv 0) (pa_cons (pe_op (op_addK K rfl) (pv 1) (pv 2)) pa_nil))) (pe_lst pa_nil) (nomark _)) (pss_one (ps_ret (pe_op (op_addK K rfl) (pv 1) (pv 2)))) pss_nil)))
      (pss_one (ps_ret pe_non)))),
    fun w1 H0 F0 ex hW => (PuS.top (pu_seq (pu_drop (PuX.e (pu_callX hW (puc_cons (pu_var 0) puc_nil))))
      (pu_seq (pu_for (vs := [2]) (pui_range1 (puv_cons (PuE.p pu_int) puv_nil)) (pu_gname 2) (pu_if (pu_tTest (pu_op v_ne (PuE.p (PuX.e (pu_call (puc_cons (pu_var 0) (puc_cons (pu_op v_add (pu_see 1) (pu_see 2)) puc_nil))))) (PuE.p (PuX.e (pu_lst pua_nil))))) (pu_ret (PuE.x (pu_op v_add (pu_see 1) (pu_see 2)))) pu_next))
      (pu_ret (PuE.x pu_non)))))⟩) ?_ ?_
  · intro ds q ex h
    unfold spx_next_open at h
    split at h <;> first | rfl | exact h.elim
  · intro ds q ex h
    unfold spx_next_open at h
    split at h
    case h_2 => exact h.elim
    rename_i ws t
    obtain ⟨h1, h2⟩ := h
    walk_at "sq"
    walk_at "dn"
    refine ⟨fun c => ?_, h2⟩
    have h := h1 c
    walk_at "sq"
    walk_at "dn"
    refine loopD_by (fun ds ρ => ∃ (k n : Nat) (x : SV), ds = rangeD k n ∧ nextN (opens ws) 96 t = nextN (opens ws) n (t + k) ∧ ρ = [.dat ws, .dat (.int t), x]) ⟨0, 96, _, rfl, by simp, rfl⟩ ?_ ?_
    · rintro ρ ⟨k, n, x, e0, e1, rfl⟩
      have hn : n = 0 := by
        cases n with
        | zero => rfl
        | succ n => simp [rangeD] at e0
      subst hn
      walk_at "dn"
      rw [e1] at h
      exact h
    · rintro d ds ρ nx ⟨k, n, x, e0, e1, rfl⟩ hn
      cases n with
      | zero => simp [rangeD] at e0
      | succ n =>
        simp only [rangeD, List.cons.injEq] at e0
        obtain ⟨rfl, rfl⟩ := e0
        walk_at "dn"
        refine ⟨c, ⟨ways_depth c _, by decide +kernel⟩, ?_⟩
        rw [waysOpen_nil]
        refine ite2 (fun c2 => ?_) (fun c2 => hn _ ⟨k + 1, n, _, by rw [Int.natCast_add]; rfl, ?_, rfl⟩)
        · have c1 : opens ws (t + k) = true := by simpa using c2
          rw [e1, nextN, if_pos c1] at h
          exact h
        · rw [e1, nextN, if_neg (by simpa using c2), show t + (k : Int) + 1 = t + ((k + 1 : Nat) : Int) by omega]

theorem ok_last_open (T : Tp K mg) {f_need_wishes : Addr} {d_need_wishes : FuncData} (G_need_wishes : FnX P w K mg base 4 "need_wishes" ["thing"] (spx_need_wishes) f_need_wishes d_need_wishes) {f_ways_open : Addr} {d_ways_open : FuncData} (G_ways_open : FnD P w K mg base 2 "ways_open" ["wishes", "tick"] sp_ways_open f_ways_open d_ways_open) {f : Addr} {fd : FuncData} (m : mg "last_open" = some (.ref f)) (F : Fun K "last_open" "last_open" s_last_open f fd) : FnX P w K mg base 5 "last_open" ["wishes", "low", "high"] spx_last_open f fd := by
  refine fnX_ok m F sc_last_open (fun _ _ _ _ _ _ us hl => match us, hl with | [_, _, _], _ => rfl) (fun cdv A outer s H E hr => ⟨_, (pss_cons (ps_expr (pe_callS G_need_wishes.ok (hr.mono (by decide)) (by rfl) G_need_wishes.mgf G_need_wishes.kp G_need_wishes.bd (fun σ => L2N.passAt (L2N.takes_of rfl rfl rfl rfl) σ) (pa_cons (pv 0) pa_nil)))
      (pss_cons (ps_for (passes_of rfl) rfl (pi_range3 rfl T.b_range (pa_cons (pv 2) (pa_cons (pe_op op_sub (pe_callB (call_max2 rfl) (by rfl) T.b_max (by decide +kernel) (pa_cons (pv 1) (pa_cons (pe_op (op_addK K rfl) (pe_op op_sub (pv 2) (pe_gint rfl T.c_DAY)) pe_int) pa_nil))) pe_int) (pa_cons (pe_un un_neg pe_int) pa_nil)))) (pg_name (i := 3) sc_last_open.nd rfl (by first | exact Or.inl rfl | exact Or.inr rfl)) (pss_one (ps_if (pt_cmpR (op_neK K rfl hr.units) (pe_call G_ways_open.ok (hr.mono (by decide)) (by rfl) G_ways_open.mgf G_ways_open.kp G_ways_open.bd .nil pass0 (pa_cons (pv 0) (pa_cons (pv 3) pa_nil))) (pe_lst pa_nil) (nomark _)) (pss_one (ps_ret (pv 3))) pss_nil)))
      (pss_one (ps_ret pe_non)))),
    fun w1 H0 F0 ex hW => (PuS.top (pu_seq (pu_drop (PuX.e (pu_callX hW (puc_cons (pu_var 0) puc_nil))))
      (pu_seq (pu_for (vs := [3]) (pui_range3 (puv_cons (pu_see 2) (puv_cons (PuE.p (pu_op v_sub (PuE.p (PuX.e (pu_cb l_max2 (puv_cons (pu_see 1) (puv_cons (PuE.p (pu_op v_add (PuE.p (pu_op v_sub (pu_see 2) (PuE.p pu_int))) (PuE.p pu_int))) puv_nil))))) (PuE.p pu_int))) (puv_cons (PuE.p (pu_un v_neg (PuE.p pu_int))) puv_nil)))) (pu_gname 3) (pu_if (pu_tTest (pu_op v_ne (PuE.p (PuX.e (pu_call (puc_cons (pu_var 0) (puc_cons (pu_var 3) puc_nil))))) (PuE.p (PuX.e (pu_lst pua_nil))))) (pu_retV 3) pu_next))
      (pu_ret (PuE.x pu_non)))))⟩) ?_ ?_
  · intro ds q ex h
    unfold spx_last_open at h
    split at h <;> first | rfl | exact h.elim
  · intro ds q ex h
    unfold spx_last_open at h
    split at h
    case h_2 => exact h.elim
    rename_i ws lo hi
    obtain ⟨⟨hlo, hhi⟩, h1, h2⟩ := h
    walk_at "sq"
    walk_at "dn"
    refine ⟨fun hw => ?_, h2⟩
    have h := h1 hw
    walk_at "sq"
    walk_at "dn"
    refine ⟨⟨by omega, by omega, by omega, by omega, by omega⟩, ?_⟩
    rw [lastO_window (opens_mod ws)] at h
    generalize hm : max lo (hi - 95) = m at h
    have em : max lo (hi - 96 + 1) = m := by omega
    have hmm : m ≤ 1000000 ∧ -1000100 ≤ m := by omega
    rw [em]
    have en : (hi - (m - 1)).toNat = (hi - m + 1).toNat := by omega
    rw [en]
    refine loopD_by (fun ds ρ => ∃ (k n : Nat) (x : SV), ds = rangeC (hi - k) (-1) n ∧ k + n = (hi - m + 1).toNat ∧ (∀ u, hi - k < u → u ≤ hi → opens ws u = false) ∧ ρ = [.dat ws, .dat (.int lo), .dat (.int hi), x]) ⟨0, (hi - m + 1).toNat, _, by simp, by simp, fun u h1 h2 => by omega, rfl⟩ ?_ ?_
    · rintro ρ ⟨k, n, x, e0, e1, e2, rfl⟩
      have hn : n = 0 := by
        cases n with
        | zero => rfl
        | succ n => simp [rangeC] at e0
      subst hn
      walk_at "dn"
      have : lastO (opens ws) m hi = none := lastO_of fun u h1 h2 => e2 u (by omega) h2
      rw [this] at h
      exact h
    · rintro d ds ρ nx ⟨k, n, x, e0, e1, e2, rfl⟩ hn
      cases n with
      | zero => simp [rangeC] at e0
      | succ n =>
        simp only [rangeC, List.cons.injEq] at e0
        obtain ⟨rfl, rfl⟩ := e0
        walk_at "dn"
        refine ⟨hw, ⟨ways_depth hw _, by decide +kernel⟩, ?_⟩
        rw [waysOpen_nil]
        refine ite2 (fun c => ?_) (fun c => hn _ ⟨k + 1, n, _, by rw [show hi - ((k + 1 : Nat) : Int) = hi - k + -1 by omega], by omega, fun u h1 h2 => ?_, rfl⟩)
        · have c1 : opens ws (hi - k) = true := by simpa using c
          have : lastO (opens ws) m hi = some (hi - k) := lastO_of ⟨c1, by omega, by omega, e2⟩
          rw [this] at h
          exact h
        · by_cases c2 : u = hi - k
          · rw [c2]; simpa using c
          · exact e2 u (by omega) h2

theorem ok__law_next (T : Tp K mg) {f__law_opens : Addr} {d__law_opens : FuncData} (G__law_opens : FnD P w K mg base 1 "_law_opens" ["wishes", "tick"] sp__law_opens f__law_opens d__law_opens) {f : Addr} {fd : FuncData} (m : mg "_law_next" = some (.ref f)) (F : Fun K "_law_next" "_law_next" s__law_next f fd) : FnD P w K mg base 2 "_law_next" ["wishes", "tick"] sp__law_next f fd := by
  refine fnD_ok m F sc__law_next (fun _ _ _ _ _ _ us hl => match us, hl with | [_, _], _ => rfl) (fun cdv A outer s H E hr => ⟨_, (pss_cons (ps_for PassesOwn.never rfl (pi_range1 rfl T.b_range (pa_cons pe_int pa_nil)) (pg_name (i := 2) sc__law_next.nd rfl (by first | exact Or.inl rfl | exact Or.inr rfl)) (pss_one (ps_if (pt_cmpR (op_neK K rfl hr.units) (pe_call G__law_opens.ok (hr.mono (by decide)) (by rfl) G__law_opens.mgf G__law_opens.kp G__law_opens.bd .nil pass0 (pa_cons (pv 0) (pa_cons (pe_op (op_addK K rfl) (pv 1) (pv 2)) pa_nil))) (pe_lst pa_nil) (nomark _)) (pss_one (ps_ret (pe_op (op_addK K rfl) (pv 1) (pv 2)))) pss_nil)))
      (pss_one (ps_ret pe_non))),
    fun w1 H0 F0 => (pu_seq (pu_for (vs := [2]) (pui_range1 (puv_cons (PuE.p pu_int) puv_nil)) (pu_gname 2) (pu_if (pu_tTest (pu_op v_ne (PuE.p (PuX.e (pu_call (puc_cons (pu_var 0) (puc_cons (pu_op v_add (pu_see 1) (pu_see 2)) puc_nil))))) (PuE.p (PuX.e (pu_lst pua_nil))))) (pu_ret (PuE.x (pu_op v_add (pu_see 1) (pu_see 2)))) pu_next))
      (pu_ret (PuE.x pu_non)))⟩) ?_ ?_
  · intro ds q h
    unfold sp__law_next at h
    split at h <;> first | rfl | exact h.elim
  · intro ds q h
    unfold sp__law_next at h
    split at h
    case h_2 => exact h.elim
    rename_i ws t
    obtain ⟨c, h⟩ := h
    walk_at "sq"
    walk_at "dn"
    refine loopD_by (fun ds ρ => ∃ (k n : Nat) (x : SV), ds = rangeD k n ∧ nextN (opens ws) 96 t = nextN (opens ws) n (t + k) ∧ ρ = [.dat ws, .dat (.int t), x]) ⟨0, 96, _, rfl, by simp, rfl⟩ ?_ ?_
    · rintro ρ ⟨k, n, x, e0, e1, rfl⟩
      have hn : n = 0 := by
        cases n with
        | zero => rfl
        | succ n => simp [rangeD] at e0
      subst hn
      walk_at "dn"
      rw [e1] at h
      exact h
    · rintro d ds ρ nx ⟨k, n, x, e0, e1, rfl⟩ hn
      cases n with
      | zero => simp [rangeD] at e0
      | succ n =>
        simp only [rangeD, List.cons.injEq] at e0
        obtain ⟨rfl, rfl⟩ := e0
        walk_at "dn"
        refine ⟨c, ⟨ways_depth c _, by decide +kernel⟩, ?_⟩
        rw [waysOpen_nil]
        refine ite2 (fun c2 => ?_) (fun c2 => hn _ ⟨k + 1, n, _, by rw [Int.natCast_add]; rfl, ?_, rfl⟩)
        · have c1 : opens ws (t + k) = true := by simpa using c2
          rw [e1, nextN, if_pos c1] at h
          exact h
        · rw [e1, nextN, if_neg (by simpa using c2), show t + (k : Int) + 1 = t + ((k + 1 : Nat) : Int) by omega]

def okE (nm : Str) : Prop := nm ∈ okL
def wordOf (nm : Str) : Str := if nm = "NoWishes" then "wishes" else if nm = "NoTellings" then "tellings" else if nm = "NoOrders" then "orders" else if nm = "NoTime" then "time" else "else"
def kindsD (nm : Str) : List D := [.str (wordOf nm), .str "own", .str "value"]
def kindWords : List Str := Txt.split "wishes tellings orders name tick number twice full time own value" " "
def kindBools (nm : Str) : List Bool := [isaB nm "NoWishes", isaB nm "NoTellings", isaB nm "NoOrders", isaB nm "NoName", isaB nm "NoTick", isaB nm "NoNumber", isaB nm "Twice", isaB nm "Full", isaB nm "NoTime", isaB nm "BellError", isaB nm "ValueError"]
def pm_BellError (n : Str) : Option Bool := if n ∈ okL then some true else none
def pairOn (d : D) : Bool := match d with
  | .tuple [_, .bool b] => b
  | _ => false
def pairWord (d : D) : D := match d with
  | .tuple [w, _] => w
  | _ => d
def sp__law_kinds : SpecE := fun nm q => okE nm ∧ q (.own (kindsD nm))
def sp__law_refusal : SpecE := fun nm q => okE nm ∧ q (.dat (.str (wordOf nm)))
theorem kind_ok : ∀ nm ∈ okL, ((zipD (kindWords.map .str) ((kindBools nm).map .bool)).filter pairOn).map pairWord = kindsD nm := by
  repeat' (first | exact List.forall_mem_nil _ | refine List.forall_mem_cons.mpr ⟨by kernel_rfl, ?_⟩)
theorem words_ok : (((" " : Str).length == 0) = false ∧ ("wishes tellings orders name tick number twice full time own value" : Str).length ≤ 16777214 ∧ kindWords.length ≤ 16777216 ∧ ∀ y ∈ kindWords, y.length ≤ 16777216 ∧ strOk y = true) := by decide +kernel
theorem zip_pairs : ∀ (A : List Str) (B : List Bool), ∀ d ∈ zipD (A.map .str) (B.map .bool), ∃ (w : Str) (b : Bool), d = .tuple [.str w, .bool b]
  | [], _ => fun d hd => by simp [zipD] at hd
  | _ :: _, [] => fun d hd => by simp [zipD] at hd
  | a :: A, b :: B => fun d hd => by
    simp only [List.map_cons, zipD, List.mem_cons] at hd
    rcases hd with rfl | hd
    · exact ⟨a, b, rfl⟩
    · exact zip_pairs A B d hd
theorem kind_pairs {nm : Str} : ∀ d ∈ zipD (kindWords.map .str) ((kindBools nm).map .bool), ∃ (w : Str) (b : Bool), d = .tuple [.str w, .bool b] := zip_pairs _ _
def q_sp__law_kinds := @sp__law_kinds.eq_1
def q_sp__law_refusal := @sp__law_refusal.eq_1
local macro_rules | `(tactic| walk_at "dl") => `(tactic| simp only [q_startD_1, q_gNext_1, q_gSeq_1, q_gBreak_1, q_gCont_1, q_gNever_1, q_gDrop_1, q_gRet_1, q_gRetN_1, q_gRetV_1, q_gIf_1, q_gSet_1, q_gPar_1, q_gAsg_1, q_gnm_1, q_gnil_1, q_gcons_1, q_gtup_1, q_gFor_1, q_iL_1, q_iT_1, q_iR1_1, q_iR2_1, q_iR3_1, q_iSeqD_1, q_iStrD_1, q_iEnumD_1, q_iZipD_1, q_xComp_1, q_xOf_1, q_eOf_1, q_dVar_1, q_dSee_1, q_dC_1, q_dNil_1, q_dCons_1, q_cNil_1, q_cCons_1, q_cWel_1, q_cScr_1, q_dOp_1, q_dUn_1, q_xB_1, q_dBool_1, q_bAnd_1, q_bOr_1, q_bNot_1, q_dAndV_1, q_dOrV_1, q_dNotV_1, q_dIf_1, q_dChain_1, q_dTup_1, q_xLst_1, q_xDict_1, q_dIsi_1, q_xSl_1, q_oNo_1, q_oSome_1, q_xRev_1, q_gAppend_1, q_gPop_1, q_gPopAt_1, q_gInsert_1, q_gSetIx_1, q_gSetSl_1, q_xCall_1, q_dLenSet_1, q_xLenScr_1, q_dIxScr_1, q_gWell_1, q_dAdd_1, q_dAdd_2, q_dAdd_3, q_dAdd_4, q_dSub_1, q_dMul_1, q_dMul_2, q_dMod_1, q_dFdiv_1, q_dPow_1, q_dNeg_1, q_dLt_1, q_dLt_2, q_dCmp_1, q_dEq_1, q_dNe_1, q_dIs_1, q_dIsNot_1, q_dIn_1, q_dIn_2, q_dIn_3, q_dNotIn_1, q_dIx_1, q_dIx_2, q_dIx_3, q_gLen_1, q_gLen_2, q_gLen_3, q_gAll_1, q_gAny_1, q_gMax_1, q_gMin_1, q_gMax2_1, q_gMin2_1, q_gTuple_1, q_gTuple_2, q_gList_1, q_gList_2, q_gInt_1, q_gInt_2, q_wipeD_1, q_wipeD_2, q_unwel_1, q_unwel_2, q_uw1_1, q_uw1_2, q_intsD_1, q_intsD_2, q_boolsD_1, q_boolsD_2, q_strsD_1, q_strsD_2, q_xCallE_1, q_dIsE_1, q_xSplit_1, q_xSortZip_1, q_dIsB_1, q_xCallDf_1, q_xTupRg_1, q_xLstRg_1, q_gFrz_1, q_xRevA_1, q_gRetT2_1, q_xSortSet_1, q_dIdx_1, q_xCallX_1, q_xCallNX_1, q_gRaise_1, q_gRaiseP_1, q_gTry_1, q_gTryAs_1, q_dPlace_1, q_cExn_1, q_xDictT_1, q_xSortedT_1, q_xCallN_1, q_gDPut_1, q_gDPutT_1, q_dInK_1, q_xListK_1, q_keyD_1, q_keyD_2, q_keysD_1, q_keysD_2, isIntD_none, isIntD_bool, isIntD_int, isIntD_str, isIntD_list, isIntD_tuple, isIntD_dict, isBoolD_none, isBoolD_bool, isBoolD_int, isBoolD_str, isBoolD_list, isBoolD_tuple, isBoolD_dict, isStrD_none, isStrD_bool, isStrD_int, isStrD_str, isStrD_list, isStrD_tuple, isStrD_dict, isTupD_none, isTupD_bool, isTupD_int, isTupD_str, isTupD_list, isTupD_tuple, isTupD_dict, isListD_none, isListD_bool, isListD_int, isListD_str, isListD_list, isListD_tuple, isListD_dict, isNoneD_none, isNoneD_bool, isNoneD_int, isNoneD_str, isNoneD_list, isNoneD_tuple, isNoneD_dict, flatD_none, flatD_bool, flatD_int, flatD_str, flatD_list, flatD_tuple, flatD_dict, Option.map_some, sizeLine_eq, Int.cast_ofNat_Int, eq_self, dpI, dpB, dpS, dpN, evII, evBB, evSS, Nat.zero_le, Int.reduceSub, Int.reduceAdd, Int.reduceMul, Int.reduceNeg, Int.reduceLT, Int.reduceLE, Int.reduceMod, Int.reduceDiv, Int.reduceEq, Int.reduceToNat, Int.reducePow, Nat.reduceLT, Nat.reduceLeDiff, Nat.reduceMul, Nat.reducePow, decide_true, decide_false, ite_true, ite_false, not_true_eq_false, not_false_eq_true, reduceIte, reduceCtorEq, Bool.true_eq_false, Bool.and_self, and_self, false_and, and_false, at0, at1, at2, at3, decide_eq_true_eq, decide_eq_false_iff_not, Bool.false_eq_true, if_true, if_false, Bool.not_true, Bool.not_false, true_and, and_true, Bool.true_and, Bool.and_true, Bool.false_and, Bool.and_false, decide_not, Bool.not_eq_eq_eq_not, List.map_cons, List.map_nil, List.length_cons, List.length_nil, Nat.sub_self, List.replicate_zero, List.replicate_succ, List.append_nil, List.nil_append, List.cons_append, List.getElem?_cons_zero, List.getElem?_cons_succ, List.set_cons_zero, List.set_cons_succ, Nat.add_one_sub_one, Nat.reduceAdd, Nat.reduceSub, Nat.reduceLeDiff, q_sp_take_1, q_sp_is_whole, q_sp_is_pair, q_sp_is_name, q_sp_is_hush, q_sp_are_wishes, q_sp__law_is_int, q_sp__law_says, q_sp__law_well, q_sp__law_hush, q_sp__law_wishes, q_sp_is_open, q_sp_need_wishes, q_sp_ways_open, q_sp_last_open, q_sp__law_opens, q_sp__law_last, q_sp_need_all, q_sp_greedy, q_sp_fewest_bells, q_sp_got, q_sp_apart, q_sp__law_many, q_spx_need_wishes, q_spx_open_ways, q_spx_next_open, q_spx_last_open, q_sp__law_next, q_sp__law_refused, q_sp_law, q_sp__law_kinds, q_sp__law_refusal])
local macro_rules | `(tactic| walk_at "dn") => `(tactic| simp only [q_startD_1, q_gNext_1, q_gBreak_1, q_gCont_1, q_gNever_1, q_gDrop_1, q_gRet_1, q_gRetN_1, q_gRetV_1, q_gIf_1, q_gSet_1, q_gPar_1, q_gAsg_1, q_gnm_1, q_gnil_1, q_gcons_1, q_gtup_1, q_gFor_1, q_iL_1, q_iT_1, q_iR1_1, q_iR2_1, q_iR3_1, q_iSeqD_1, q_iStrD_1, q_iEnumD_1, q_iZipD_1, q_xComp_1, q_xOf_1, q_eOf_1, q_dVar_1, q_dSee_1, q_dC_1, q_dNil_1, q_dCons_1, q_cNil_1, q_cCons_1, q_cWel_1, q_cScr_1, q_dOp_1, q_dUn_1, q_xB_1, q_dBool_1, q_bAnd_1, q_bOr_1, q_bNot_1, q_dAndV_1, q_dOrV_1, q_dNotV_1, q_dIf_1, q_dChain_1, q_dTup_1, q_xLst_1, q_xDict_1, q_dIsi_1, q_xSl_1, q_oNo_1, q_oSome_1, q_xRev_1, q_gAppend_1, q_gPop_1, q_gPopAt_1, q_gInsert_1, q_gSetIx_1, q_gSetSl_1, q_xCall_1, q_dLenSet_1, q_xLenScr_1, q_dIxScr_1, q_gWell_1, q_dAdd_1, q_dAdd_2, q_dAdd_3, q_dAdd_4, q_dSub_1, q_dMul_1, q_dMul_2, q_dMod_1, q_dFdiv_1, q_dPow_1, q_dNeg_1, q_dLt_1, q_dLt_2, q_dCmp_1, q_dEq_1, q_dNe_1, q_dIs_1, q_dIsNot_1, q_dIn_1, q_dIn_2, q_dIn_3, q_dNotIn_1, q_dIx_1, q_dIx_2, q_dIx_3, q_gLen_1, q_gLen_2, q_gLen_3, q_gAll_1, q_gAny_1, q_gMax_1, q_gMin_1, q_gMax2_1, q_gMin2_1, q_gTuple_1, q_gTuple_2, q_gList_1, q_gList_2, q_gInt_1, q_gInt_2, q_wipeD_1, q_wipeD_2, q_unwel_1, q_unwel_2, q_uw1_1, q_uw1_2, q_intsD_1, q_intsD_2, q_boolsD_1, q_boolsD_2, q_strsD_1, q_strsD_2, q_xCallE_1, q_dIsE_1, q_xSplit_1, q_xSortZip_1, q_dIsB_1, q_xCallDf_1, q_xTupRg_1, q_xLstRg_1, q_gFrz_1, q_xRevA_1, q_gRetT2_1, q_xSortSet_1, q_dIdx_1, q_xCallX_1, q_xCallNX_1, q_gRaise_1, q_gRaiseP_1, q_gTry_1, q_gTryAs_1, q_dPlace_1, q_cExn_1, q_xDictT_1, q_xSortedT_1, q_xCallN_1, q_gDPut_1, q_gDPutT_1, q_dInK_1, q_xListK_1, q_keyD_1, q_keyD_2, q_keysD_1, q_keysD_2, isIntD_none, isIntD_bool, isIntD_int, isIntD_str, isIntD_list, isIntD_tuple, isIntD_dict, isBoolD_none, isBoolD_bool, isBoolD_int, isBoolD_str, isBoolD_list, isBoolD_tuple, isBoolD_dict, isStrD_none, isStrD_bool, isStrD_int, isStrD_str, isStrD_list, isStrD_tuple, isStrD_dict, isTupD_none, isTupD_bool, isTupD_int, isTupD_str, isTupD_list, isTupD_tuple, isTupD_dict, isListD_none, isListD_bool, isListD_int, isListD_str, isListD_list, isListD_tuple, isListD_dict, isNoneD_none, isNoneD_bool, isNoneD_int, isNoneD_str, isNoneD_list, isNoneD_tuple, isNoneD_dict, flatD_none, flatD_bool, flatD_int, flatD_str, flatD_list, flatD_tuple, flatD_dict, Option.map_some, sizeLine_eq, Int.cast_ofNat_Int, eq_self, dpI, dpB, dpS, dpN, evII, evBB, evSS, Nat.zero_le, Int.reduceSub, Int.reduceAdd, Int.reduceMul, Int.reduceNeg, Int.reduceLT, Int.reduceLE, Int.reduceMod, Int.reduceDiv, Int.reduceEq, Int.reduceToNat, Int.reducePow, Nat.reduceLT, Nat.reduceLeDiff, Nat.reduceMul, Nat.reducePow, decide_true, decide_false, ite_true, ite_false, not_true_eq_false, not_false_eq_true, reduceIte, reduceCtorEq, Bool.true_eq_false, Bool.and_self, and_self, false_and, and_false, at0, at1, at2, at3, decide_eq_true_eq, decide_eq_false_iff_not, Bool.false_eq_true, if_true, if_false, Bool.not_true, Bool.not_false, true_and, and_true, Bool.true_and, Bool.and_true, Bool.false_and, Bool.and_false, decide_not, Bool.not_eq_eq_eq_not, List.map_cons, List.map_nil, List.length_cons, List.length_nil, Nat.sub_self, List.replicate_zero, List.replicate_succ, List.append_nil, List.nil_append, List.cons_append, List.getElem?_cons_zero, List.getElem?_cons_succ, List.set_cons_zero, List.set_cons_succ, Nat.add_one_sub_one, Nat.reduceAdd, Nat.reduceSub, Nat.reduceLeDiff, q_sp_take_1, q_sp_is_whole, q_sp_is_pair, q_sp_is_name, q_sp_is_hush, q_sp_are_wishes, q_sp__law_is_int, q_sp__law_says, q_sp__law_well, q_sp__law_hush, q_sp__law_wishes, q_sp_is_open, q_sp_need_wishes, q_sp_ways_open, q_sp_last_open, q_sp__law_opens, q_sp__law_last, q_sp_need_all, q_sp_greedy, q_sp_fewest_bells, q_sp_got, q_sp_apart, q_sp__law_many, q_spx_need_wishes, q_spx_open_ways, q_spx_next_open, q_spx_last_open, q_sp__law_next, q_sp__law_refused, q_sp_law, q_sp__law_kinds, q_sp__law_refusal])
local macro_rules | `(tactic| walk_at "sq") => `(tactic| simp only [q_gSeq_1])
theorem ok__law_kinds (T : Tp K mg) {C_NoWishes : Addr} (gk_NoWishes : mg "NoWishes" = some (.ref C_NoWishes)) {C_NoTellings : Addr} (gk_NoTellings : mg "NoTellings" = some (.ref C_NoTellings)) {C_NoOrders : Addr} (gk_NoOrders : mg "NoOrders" = some (.ref C_NoOrders)) {C_NoName : Addr} (gk_NoName : mg "NoName" = some (.ref C_NoName)) {C_NoTick : Addr} (gk_NoTick : mg "NoTick" = some (.ref C_NoTick)) {C_NoNumber : Addr} (gk_NoNumber : mg "NoNumber" = some (.ref C_NoNumber)) {C_Twice : Addr} (gk_Twice : mg "Twice" = some (.ref C_Twice)) {C_Full : Addr} (gk_Full : mg "Full" = some (.ref C_Full)) {C_NoTime : Addr} (gk_NoTime : mg "NoTime" = some (.ref C_NoTime)) {C_BellError : Addr} (gk_BellError : mg "BellError" = some (.ref C_BellError)) (KT : KindT K mg okE [("NoWishes", .ref C_NoWishes), ("NoTellings", .ref C_NoTellings), ("NoOrders", .ref C_NoOrders), ("NoName", .ref C_NoName), ("NoTick", .ref C_NoTick), ("NoNumber", .ref C_NoNumber), ("Twice", .ref C_Twice), ("Full", .ref C_Full), ("NoTime", .ref C_NoTime), ("BellError", .ref C_BellError), ("ValueError", .type "ValueError")]) {f : Addr} {fd : FuncData} (m : mg "_law_kinds" = some (.ref f)) (F : Fun K "_law_kinds" "_law_kinds" s__law_kinds f fd) : FnED P w K mg base 1 "_law_kinds" ["e"] sp__law_kinds f fd := by
  refine fnED_ok (ok := okE) m F sc__law_kinds (fun _ _ _ _ _ _ us hl => match us, hl with | [_], _ => rfl) (fun cdv A outer s H E a oe cls d nm Dx hot hz hf hr hcl hm hok => ⟨_, (pss_cons (ps_set (i := 1) sc__law_kinds.nd rfl (Or.inl rfl) (pe_lst (pa_cons (pe_callB (DHa.call_isP List.mem_cons_self (KT.exc nm Dx hok hm) hz hcl hf) (by rfl) T.b_isinstance (by decide +kernel) (pa_cons (pv 0) (pa_cons (pe_glob (v := .ref C_NoWishes) (by rfl) gk_NoWishes rfl) pa_nil))) (pa_cons (pe_callB (DHa.call_isP List.mem_cons_self (KT.exc nm Dx hok hm) hz hcl hf) (by rfl) T.b_isinstance (by decide +kernel) (pa_cons (pv 0) (pa_cons (pe_glob (v := .ref C_NoTellings) (by rfl) gk_NoTellings rfl) pa_nil))) (pa_cons (pe_callB (DHa.call_isP List.mem_cons_self (KT.exc nm Dx hok hm) hz hcl hf) (by rfl) T.b_isinstance (by decide +kernel) (pa_cons (pv 0) (pa_cons (pe_glob (v := .ref C_NoOrders) (by rfl) gk_NoOrders rfl) pa_nil))) (pa_cons (pe_callB (DHa.call_isP List.mem_cons_self (KT.exc nm Dx hok hm) hz hcl hf) (by rfl) T.b_isinstance (by decide +kernel) (pa_cons (pv 0) (pa_cons (pe_glob (v := .ref C_NoName) (by rfl) gk_NoName rfl) pa_nil))) pa_nil))))))
      (pss_cons (ps_set (i := 1) sc__law_kinds.nd rfl (Or.inl rfl) (pe_op (op_addK K rfl) (pv 1) (pe_lst (pa_cons (pe_callB (DHa.call_isP List.mem_cons_self (KT.exc nm Dx hok hm) hz hcl hf) (by rfl) T.b_isinstance (by decide +kernel) (pa_cons (pv 0) (pa_cons (pe_glob (v := .ref C_NoTick) (by rfl) gk_NoTick rfl) pa_nil))) (pa_cons (pe_callB (DHa.call_isP List.mem_cons_self (KT.exc nm Dx hok hm) hz hcl hf) (by rfl) T.b_isinstance (by decide +kernel) (pa_cons (pv 0) (pa_cons (pe_glob (v := .ref C_NoNumber) (by rfl) gk_NoNumber rfl) pa_nil))) (pa_cons (pe_callB (DHa.call_isP List.mem_cons_self (KT.exc nm Dx hok hm) hz hcl hf) (by rfl) T.b_isinstance (by decide +kernel) (pa_cons (pv 0) (pa_cons (pe_glob (v := .ref C_Twice) (by rfl) gk_Twice rfl) pa_nil))) (pa_cons (pe_callB (DHa.call_isP List.mem_cons_self (KT.exc nm Dx hok hm) hz hcl hf) (by rfl) T.b_isinstance (by decide +kernel) (pa_cons (pv 0) (pa_cons (pe_glob (v := .ref C_Full) (by rfl) gk_Full rfl) pa_nil))) pa_nil)))))))
      (pss_cons (ps_set (i := 1) sc__law_kinds.nd rfl (Or.inl rfl) (pe_op (op_addK K rfl) (pv 1) (pe_lst (pa_cons (pe_callB (DHa.call_isP List.mem_cons_self (KT.exc nm Dx hok hm) hz hcl hf) (by rfl) T.b_isinstance (by decide +kernel) (pa_cons (pv 0) (pa_cons (pe_glob (v := .ref C_NoTime) (by rfl) gk_NoTime rfl) pa_nil))) (pa_cons (pe_callB (DHa.call_isP List.mem_cons_self (KT.exc nm Dx hok hm) hz hcl hf) (by rfl) T.b_isinstance (by decide +kernel) (pa_cons (pv 0) (pa_cons (pe_glob (v := .ref C_BellError) (by rfl) gk_BellError rfl) pa_nil))) (pa_cons (pe_callB (DHa.call_isP List.mem_cons_self (KT.exc nm Dx hok hm) hz hcl hf) (by rfl) T.b_isinstance (by decide +kernel) (pa_cons (pv 0) (pa_cons (pe_bty "ValueError" (by rfl) T.b_ValueError (by decide +kernel)) pa_nil))) pa_nil))))))
      (pss_cons (ps_set (i := 2) sc__law_kinds.nd rfl (Or.inl rfl) pe_str)
      (pss_one (ps_ret (DHa.pe_lcZ (own := [("word", 3), ("good", 4)]) ⟨(a, oe), hot, List.mem_cons_self⟩ sc__law_kinds.nd (by rfl) T.b_zip (pa_cons (pe_bm PySem.F.plainAttrs_str PySem.F.slot_str_split PySem.F.type_str_split mt_split1 (pv 2) (pa_cons pe_str pa_nil)) (pa_cons (pv 1) pa_nil)) (blkOk_by (own := [("word", 3), ("good", 4)]) (N := ["e", "some", "words", "word", "good"]) (sc := defScope s__law_kinds) (by decide +kernel)) (fun _ _ _ _ _ _ wm => (pg_tupWK (n := 2) K rfl wm (pgs_cons (pg_name (i := 3) sc__law_kinds.nd rfl (by first | exact Or.inl rfl | exact Or.inr rfl)) (pgs_cons (pg_name (i := 4) sc__law_kinds.nd rfl (by first | exact Or.inl rfl | exact Or.inr rfl)) pgs_nil)))) (fun _ _ _ _ _ => (pts_one (pt_val (pv 4)))) (fun _ _ _ _ _ => (pv 3))))))))),
    fun w1 H0 F0 => (pu_seq (pu_set 1 (PuE.x (PuX.e (pu_lst (pua_cons (pu_isE (b := isaB nm "NoWishes") (cV := (.ref C_NoWishes)) (cv := (.ref C_NoWishes)) 0 (fun _ h => h) (KT.kit nm Dx hok hm ("NoWishes", (.ref C_NoWishes)) (by simp))) (pua_cons (pu_isE (b := isaB nm "NoTellings") (cV := (.ref C_NoTellings)) (cv := (.ref C_NoTellings)) 0 (fun _ h => h) (KT.kit nm Dx hok hm ("NoTellings", (.ref C_NoTellings)) (by simp))) (pua_cons (pu_isE (b := isaB nm "NoOrders") (cV := (.ref C_NoOrders)) (cv := (.ref C_NoOrders)) 0 (fun _ h => h) (KT.kit nm Dx hok hm ("NoOrders", (.ref C_NoOrders)) (by simp))) (pua_cons (pu_isE (b := isaB nm "NoName") (cV := (.ref C_NoName)) (cv := (.ref C_NoName)) 0 (fun _ h => h) (KT.kit nm Dx hok hm ("NoName", (.ref C_NoName)) (by simp))) pua_nil))))))))
      (pu_seq (pu_set 1 (PuE.x (pu_op v_add (pu_see 1) (PuE.p (PuX.e (pu_lst (pua_cons (pu_isE (b := isaB nm "NoTick") (cV := (.ref C_NoTick)) (cv := (.ref C_NoTick)) 0 (fun _ h => h) (KT.kit nm Dx hok hm ("NoTick", (.ref C_NoTick)) (by simp))) (pua_cons (pu_isE (b := isaB nm "NoNumber") (cV := (.ref C_NoNumber)) (cv := (.ref C_NoNumber)) 0 (fun _ h => h) (KT.kit nm Dx hok hm ("NoNumber", (.ref C_NoNumber)) (by simp))) (pua_cons (pu_isE (b := isaB nm "Twice") (cV := (.ref C_Twice)) (cv := (.ref C_Twice)) 0 (fun _ h => h) (KT.kit nm Dx hok hm ("Twice", (.ref C_Twice)) (by simp))) (pua_cons (pu_isE (b := isaB nm "Full") (cV := (.ref C_Full)) (cv := (.ref C_Full)) 0 (fun _ h => h) (KT.kit nm Dx hok hm ("Full", (.ref C_Full)) (by simp))) pua_nil))))))))))
      (pu_seq (pu_set 1 (PuE.x (pu_op v_add (pu_see 1) (PuE.p (PuX.e (pu_lst (pua_cons (pu_isE (b := isaB nm "NoTime") (cV := (.ref C_NoTime)) (cv := (.ref C_NoTime)) 0 (fun _ h => h) (KT.kit nm Dx hok hm ("NoTime", (.ref C_NoTime)) (by simp))) (pua_cons (pu_isE (b := isaB nm "BellError") (cV := (.ref C_BellError)) (cv := (.ref C_BellError)) 0 (fun _ h => h) (KT.kit nm Dx hok hm ("BellError", (.ref C_BellError)) (by simp))) (pua_cons (pu_isE (b := isaB nm "ValueError") (cV := (.ty "ValueError")) (cv := (.type "ValueError")) 0 (fun _ h => h) (KT.kit nm Dx hok hm ("ValueError", (.type "ValueError")) (by simp))) pua_nil)))))))))
      (pu_seq (pu_set 2 (PuE.x pu_str))
      (pu_ret (pu_lc (vs := [3, 4]) (pui_zip (pua_cons (PuX.e (pu_split (pu_var 2))) (pua_cons (pu_var 1) pua_nil))) (pu_gtup (pu_gcons (pu_gname 3) (pu_gcons (pu_gname 4) pu_gnil))) (pu_tB (pu_var 4)) (pu_var 3)))))))⟩) ?_ ?_
  · intro nm q h
    exact h.1
  · intro a cls d x q C hcl hcm h
    obtain ⟨hok, h⟩ := h
    walk_at "sq"
    walk_at "dn"
    walk_at "sq"
    walk_at "dn"
    walk_at "sq"
    walk_at "dn"
    walk_at "sq"
    walk_at "dn"
    refine ⟨words_ok, ?_⟩
    refine compD_if pairOn pairWord _ (fun d2 hd kt kf hk => ?_) ?_
    · obtain ⟨w1, b1, rfl⟩ := kind_pairs (nm := x.1) d2 hd
      walk_at "dn"
      exact hk
    · have e := kind_ok x.1 hok
      show q (SV.own (((zipD (kindWords.map .str) ((kindBools x.1).map .bool)).filter pairOn).map pairWord))
      rw [e]
      exact h

theorem ok__law_refusal (T : Tp K mg) {f__law_kinds : Addr} {d__law_kinds : FuncData} (G__law_kinds : FnED P w K mg base 1 "_law_kinds" ["e"] sp__law_kinds f__law_kinds d__law_kinds) {f : Addr} {fd : FuncData} (m : mg "_law_refusal" = some (.ref f)) (F : Fun K "_law_refusal" "_law_refusal" s__law_refusal f fd) : FnED P w K mg base 2 "_law_refusal" ["e"] sp__law_refusal f fd := by
  refine fnED_ok (ok := okE) m F sc__law_refusal (fun _ _ _ _ _ _ us hl => match us, hl with | [_], _ => rfl) (fun cdv A outer s H E a oe cls d nm Dx hot hz hf hr hcl hm hok => ⟨_, (pss_cons (ps_set (i := 1) sc__law_refusal.nd rfl (Or.inl rfl) (DHa.pe_callEa (a := a) (oe := oe) (cls := cls) (d := d) G__law_kinds.ok (hr.mono (by decide)) hot List.mem_cons_self hz (by rfl) G__law_kinds.mgf G__law_kinds.kp G__law_kinds.bd (E := fun _ _ _ _ => False) (fun σ => pAt0 (E := fun _ _ _ _ => False) σ) (pa_cons (pv 0) pa_nil)))
      (pss_one (ps_ret (pe_ifExp (pt_cmpR (op_eqK K rfl hr.units) (pe_slice (sl_K K rfl) (pv 1) (po_some pe_int) po_none) (pe_lst (pa_cons pe_str (pa_cons pe_str pa_nil))) (nomark _)) (pe_ix (ix_K K rfl) (pv 1) pe_int (fun _ _ => rfl)) pe_str)))),
    fun w1 H0 F0 => (pu_seq (pu_set 1 (PuE.x (PuX.e (pu_callE 0))))
      (pu_ret (PuE.x (pu_ifE (pu_tTest (pu_op v_eq (PuE.p (PuX.e (pu_slice (pu_see 1) (puo_some pu_int) puo_none))) (PuE.p (PuX.e (pu_lst (pua_cons pu_str (pua_cons pu_str pua_nil))))))) (pu_op v_ix (pu_see 1) (PuE.p pu_int)) pu_str))))⟩) ?_ ?_
  · intro nm q h
    exact h.1
  · intro a cls d x q C hcl hcm h
    obtain ⟨hok, h⟩ := h
    walk_at "sq"
    walk_at "dn"
    have e1 : DL.cutD (kindsD x.1) (some 1) none = [.str "own", .str "value"] := by kernel_rfl
    refine ⟨⟨C, hcl, hcm⟩, hok, ?_⟩
    rw [e1]
    refine ⟨⟨by simp [PyData.depth, PyData.depthAll], by simp [PyData.depth, PyData.depthAll]⟩, ?_⟩
    rw [if_pos (by decide +kernel), show atI (kindsD x.1) 0 = some (.str (wordOf x.1)) from rfl]
    exact h

theorem ok__law_refused (T : Tp K mg) {C_BellError : Addr} (X_BellError : OwnX K mg "BellError" C_BellError) (M_BellError : MatchOk K mg (.ref C_BellError) pm_BellError) {f_open_ways : Addr} {d_open_ways : FuncData} (G_open_ways : FnX P w K mg base 5 "open_ways" ["wishes", "tick"] (spx_open_ways) f_open_ways d_open_ways) {f_next_open : Addr} {d_next_open : FuncData} (G_next_open : FnX P w K mg base 5 "next_open" ["wishes", "tick"] (spx_next_open) f_next_open d_next_open) {f_last_open : Addr} {d_last_open : FuncData} (G_last_open : FnX P w K mg base 5 "last_open" ["wishes", "low", "high"] (spx_last_open) f_last_open d_last_open) {f__law_refusal : Addr} {d__law_refusal : FuncData} (G__law_refusal : FnED P w K mg base 2 "_law_refusal" ["e"] sp__law_refusal f__law_refusal d__law_refusal) {f : Addr} {fd : FuncData} (m : mg "_law_refused" = some (.ref f)) (F : Fun K "_law_refused" "_law_refused" s__law_refused f fd) : FnD P w K mg base 6 "_law_refused" ["ask", "thing"] sp__law_refused f fd := by
  refine fnD_ok0 m F sc__law_refused (fun _ _ _ _ _ _ us hl => match us, hl with | [_, _], _ => rfl) (fun cdv A outer s H E hr => ⟨_, (pss_cons (L2N.ps_try_as (i := 2) rfl rfl sc__law_refused.nd rfl rfl ⟨rfl, by decide, .inl X_BellError.gC⟩ takes0N (fun W1 pn xe tk po => (pss_one (ps_if (pt_cmpR (op_eqK K rfl hr.units) (pv 0) pe_int (nomark _)) (pss_one (ps_expr (pe_callS G_open_ways.ok (hr.mono (by decide)) (by rfl) G_open_ways.mgf G_open_ways.kp G_open_ways.bd (fun σ => L2N.passAt tk σ) (pa_cons (pv 1) (pa_cons pe_int pa_nil))))) (pss_one (ps_if (pt_cmpR (op_eqK K rfl hr.units) (pv 0) pe_int (nomark _)) (pss_one (ps_expr (pe_callS G_next_open.ok (hr.mono (by decide)) (by rfl) G_next_open.mgf G_next_open.kp G_next_open.bd (fun σ => L2N.passAt tk σ) (pa_cons (pv 1) (pa_cons pe_int pa_nil))))) (pss_one (ps_expr (pe_callS G_last_open.ok (hr.mono (by decide)) (by rfl) G_last_open.mgf G_last_open.kp G_last_open.bd (fun σ => L2N.passAt tk σ) (pa_cons (pv 1) (pa_cons pe_int (pa_cons pe_int pa_nil))))))))))) (fun a oe cls d pn hz hf => (pss_one (ps_ret (pe_cmpR (op_eqK K rfl hr.units) (DHa.pe_callEa (a := a) (oe := oe) (cls := cls) (d := d) G__law_refusal.ok (roomH_mark (hr.mono (by decide))) (hot_suite hz hf) List.mem_cons_self ⟨hz.1, hz.2.1⟩ (by rfl) G__law_refusal.mgf G__law_refusal.kp G__law_refusal.bd (E := fun _ _ _ _ => False) (fun σ => pAt0 (E := fun _ _ _ _ => False) σ) (pa_cons (pv 2) pa_nil)) pe_str (nomark _))))))
      (pss_one (ps_ret pe_bl))),
    fun w1 H0 F0 => (pu_seq0 (pu_tryAs M_BellError wx0 (fun W1 ex1 hW1 => (PuS.top (pu_if (pu_tTest (pu_op v_eq (pu_see 0) (PuE.p pu_int))) (pu_drop (PuX.e (pu_callX hW1 (puc_cons (pu_var 1) (puc_cons pu_int puc_nil))))) (pu_if (pu_tTest (pu_op v_eq (pu_see 0) (PuE.p pu_int))) (pu_drop (PuX.e (pu_callX hW1 (puc_cons (pu_var 1) (puc_cons pu_int puc_nil))))) (pu_drop (PuX.e (pu_callX hW1 (puc_cons (pu_var 1) (puc_cons pu_int (puc_cons pu_int puc_nil)))))))))) (fun a cls d => (PuS.top (pu_ret (PuE.x (pu_op v_eq (PuE.p (PuX.e (pu_callE 2))) (PuE.p pu_str)))))))
      (PuS.top (pu_ret (PuE.x pu_bl))))⟩) ?_ ?_
  · intro ds q h
    unfold sp__law_refused at h
    split at h <;> first | rfl | exact h.elim
  · intro ds q h
    unfold sp__law_refused at h
    split at h
    case h_2 => exact h.elim
    rename_i a ws
    obtain ⟨hw, h⟩ := h
    walk_at "sq"
    walk_at "dn"
    have key : ∃ b, pm_BellError "NoWishes" = some b ∧ if b = true then ∀ (a C : Addr) (d : Option Addr), mg "NoWishes" = some (.ref C) → (∃ C_1, Value.ref C = .ref C_1 ∧ mg "NoWishes" = some (.ref C_1)) ∧ okE "NoWishes" ∧ q (.dat (.bool (decide (wordOf "NoWishes" = "wishes")))) else False := by
      refine ⟨true, by decide +kernel, ?_⟩
      rw [if_pos rfl]
      intro a C d hC
      refine ⟨⟨C, rfl, hC⟩, by unfold okE; decide +kernel, ?_⟩
      rw [decide_eq_true (by decide +kernel)]
      exact h
    refine ite2 (fun _ => ?_) (fun _ => ite2 (fun _ => ?_) fun _ => ?_)
    all_goals exact ⟨fun c => absurd (hw.symm.trans c) (by decide), fun _ => key⟩

theorem ok_law (T : Tp K mg) {f__law_well : Addr} {d__law_well : FuncData} (G__law_well : FnD P w K mg base 1 "_law_well" ["script", "k"] sp__law_well f__law_well d__law_well) {f__law_wishes : Addr} {d__law_wishes : FuncData} (G__law_wishes : FnD P w K mg base 3 "_law_wishes" ["well"] sp__law_wishes f__law_wishes d__law_wishes) {f__law_take : Addr} {d__law_take : FuncData} (G__law_take : FnD P w K mg base 1 "_law_take" ["well", "many"] (sp_take) f__law_take d__law_take) {f_open_ways : Addr} {d_open_ways : FuncData} (G_open_ways : FnX P w K mg base 5 "open_ways" ["wishes", "tick"] (spx_open_ways) f_open_ways d_open_ways) {f__law_opens : Addr} {d__law_opens : FuncData} (G__law_opens : FnD P w K mg base 1 "_law_opens" ["wishes", "tick"] sp__law_opens f__law_opens d__law_opens) {f_next_open : Addr} {d_next_open : FuncData} (G_next_open : FnX P w K mg base 5 "next_open" ["wishes", "tick"] (spx_next_open) f_next_open d_next_open) {f__law_next : Addr} {d__law_next : FuncData} (G__law_next : FnD P w K mg base 2 "_law_next" ["wishes", "tick"] sp__law_next f__law_next d__law_next) {f_last_open : Addr} {d_last_open : FuncData} (G_last_open : FnX P w K mg base 5 "last_open" ["wishes", "low", "high"] (spx_last_open) f_last_open d_last_open) {f__law_last : Addr} {d__law_last : FuncData} (G__law_last : FnD P w K mg base 2 "_law_last" ["wishes", "low", "high"] sp__law_last f__law_last d__law_last) {f__law_refused : Addr} {d__law_refused : FuncData} (G__law_refused : FnD P w K mg base 6 "_law_refused" ["ask", "thing"] sp__law_refused f__law_refused d__law_refused) {f : Addr} {fd : FuncData} (m : mg "law" = some (.ref f)) (F : Fun K "law" "law" s_law f fd) : FnD P w K mg base 7 "law" ["script"] sp_law f fd := by
  refine fnD_ok m F sc_law (fun _ _ _ _ _ _ us hl => match us, hl with | [_], _ => rfl) (fun cdv A outer s H E hr => ⟨_, (pss_cons (ps_for PassesOwn.never rfl (pi_range1 rfl T.b_range (pa_cons (pe_callB (call_max2 rfl) (by rfl) T.b_max (by decide +kernel) (pa_cons pe_int (pa_cons (pe_callB (call_min2 rfl) (by rfl) T.b_min (by decide +kernel) (pa_cons pe_int (pa_cons (pe_callB (call_lenK K rfl) (by rfl) T.b_len (by decide +kernel) (pa_cons (pv 0) pa_nil)) pa_nil))) pa_nil))) pa_nil)) (pg_name (i := 1) sc_law.nd rfl (by first | exact Or.inl rfl | exact Or.inr rfl)) (pss_cons (ps_set (i := 2) sc_law.nd rfl (Or.inl rfl) (pe_call G__law_well.ok (hr.mono (by decide)) (by rfl) G__law_well.mgf G__law_well.kp G__law_well.bd .nil pass0 (pa_cons (pv 0) (pa_cons (pv 1) pa_nil))))
      (pss_cons (ps_set (i := 3) sc_law.nd rfl (Or.inl rfl) (pe_ix (ix_K K rfl) (pe_lst (pa_cons (pe_call G__law_wishes.ok (hr.mono (by decide)) (by rfl) G__law_wishes.mgf G__law_wishes.kp G__law_wishes.bd .nil pass0 (pa_cons (pv 2) pa_nil)) (pa_cons (pe_tup (pa_cons (pe_tup (pa_cons pe_str (pa_cons (pe_tup (pa_cons (pe_tup (pa_cons pe_int (pa_cons pe_int pa_nil))) pa_nil)) pa_nil))) pa_nil)) pa_nil))) (pe_op op_fdiv (pe_call G__law_take.ok (hr.mono (by decide)) (by rfl) G__law_take.mgf G__law_take.kp G__law_take.bd .nil pass0 (pa_cons (pv 2) (pa_cons pe_int pa_nil))) pe_int) (fun _ _ => rfl)))
      (pss_cons (ps_for PassesOwn.never rfl (pi_range1 rfl T.b_range (pa_cons pe_int pa_nil)) (pg_name (i := 4) sc_law.nd rfl (by first | exact Or.inl rfl | exact Or.inr rfl)) (pss_cons (ps_set (i := 5) sc_law.nd rfl (Or.inl rfl) (pe_call G__law_take.ok (hr.mono (by decide)) (by rfl) G__law_take.mgf G__law_take.kp G__law_take.bd .nil pass0 (pa_cons (pv 2) (pa_cons (pe_ix (ix_K K rfl) (pe_lst (pa_cons pe_int (pa_cons pe_int (pa_cons pe_int pa_nil)))) (pe_call G__law_take.ok (hr.mono (by decide)) (by rfl) G__law_take.mgf G__law_take.kp G__law_take.bd .nil pass0 (pa_cons (pv 2) (pa_cons pe_int pa_nil))) (fun _ _ => rfl)) pa_nil))))
      (pss_cons (ps_set (i := 6) sc_law.nd rfl (Or.inl rfl) (pe_callS G_open_ways.ok (hr.mono (by decide)) (by rfl) G_open_ways.mgf G_open_ways.kp G_open_ways.bd (fun σ => L2N.passAt takes0N σ) (pa_cons (pv 3) (pa_cons (pv 5) pa_nil))))
      (pss_cons (ps_if (PW.pt (pw_or (pt_cmpR (op_neK K rfl hr.units) (pv 6) (pe_call G__law_opens.ok (hr.mono (by decide)) (by rfl) G__law_opens.mgf G__law_opens.kp G__law_opens.bd .nil pass0 (pa_cons (pv 3) (pa_cons (pv 5) pa_nil))) (nomark _)) (pw_or1 (pt_cmpR (op_neK K rfl hr.units) (pe_callS G_next_open.ok (hr.mono (by decide)) (by rfl) G_next_open.mgf G_next_open.kp G_next_open.bd (fun σ => L2N.passAt takes0N σ) (pa_cons (pv 3) (pa_cons (pv 5) pa_nil))) (pe_call G__law_next.ok (hr.mono (by decide)) (by rfl) G__law_next.mgf G__law_next.kp G__law_next.bd .nil pass0 (pa_cons (pv 3) (pa_cons (pv 5) pa_nil))) (nomark _))))) (pss_one (ps_ret pe_bl)) pss_nil)
      (pss_cons (ps_expr (pe_bm PySem.F.plainAttrs_list PySem.F.slot_list_append PySem.F.type_list_append mt_append (pv 6) (pa_cons pe_str pa_nil)))
      (pss_cons (ps_if (pt_cmpR (op_eqK K rfl hr.units) (pe_callS G_open_ways.ok (hr.mono (by decide)) (by rfl) G_open_ways.mgf G_open_ways.kp G_open_ways.bd (fun σ => L2N.passAt takes0N σ) (pa_cons (pv 3) (pa_cons (pv 5) pa_nil))) (pv 6) (nomark _)) (pss_one (ps_ret pe_bl)) pss_nil)
      (pss_cons (ps_set (i := 7) sc_law.nd rfl (Or.inl rfl) (pe_op (op_addK K rfl) (pv 5) (pe_call G__law_take.ok (hr.mono (by decide)) (by rfl) G__law_take.mgf G__law_take.kp G__law_take.bd .nil pass0 (pa_cons (pv 2) (pa_cons (pe_ix (ix_K K rfl) (pe_lst (pa_cons pe_int (pa_cons pe_int (pa_cons pe_int pa_nil)))) (pe_call G__law_take.ok (hr.mono (by decide)) (by rfl) G__law_take.mgf G__law_take.kp G__law_take.bd .nil pass0 (pa_cons (pv 2) (pa_cons pe_int pa_nil))) (fun _ _ => rfl)) pa_nil)))))
      (pss_one (ps_if (pt_cmpR (op_neK K rfl hr.units) (pe_callS G_last_open.ok (hr.mono (by decide)) (by rfl) G_last_open.mgf G_last_open.kp G_last_open.bd (fun σ => L2N.passAt takes0N σ) (pa_cons (pv 3) (pa_cons (pv 5) (pa_cons (pv 7) pa_nil)))) (pe_call G__law_last.ok (hr.mono (by decide)) (by rfl) G__law_last.mgf G__law_last.kp G__law_last.bd .nil pass0 (pa_cons (pv 3) (pa_cons (pv 5) (pa_cons (pv 7) pa_nil)))) (nomark _)) (pss_one (ps_ret pe_bl)) pss_nil)))))))))
      (pss_cons (ps_set (i := 8) sc_law.nd rfl (Or.inr rfl) (pe_ix (ix_K K rfl) (pe_lst (pa_cons pe_non (pa_cons (pe_tup pa_nil) (pa_cons (pe_tup (pa_cons pe_str (pa_cons (pe_tup pa_nil) pa_nil))) (pa_cons (pe_callTy (call_listK K rfl) (by rfl) T.b_list (by decide +kernel) (pa_cons (pv 3) pa_nil)) (pa_cons pe_int pa_nil)))))) (pe_call G__law_take.ok (hr.mono (by decide)) (by rfl) G__law_take.mgf G__law_take.kp G__law_take.bd .nil pass0 (pa_cons (pv 2) (pa_cons pe_int pa_nil))) (fun _ _ => rfl)))
      (pss_one (ps_if (pt_cmpR (op_neK K rfl hr.units) (pe_lc (own := [("ask", 9)]) rfl sc_law.nd (pi_range1 rfl T.b_range (pa_cons pe_int pa_nil)) (blkOk_by (own := [("ask", 9)]) (N := ["script", "k", "well", "wishes", "turn", "tick", "told", "high", "bad", "ask"]) (sc := defScope s_law) (by decide +kernel)) (fun _ _ _ _ _ => (pg_name (i := 9) sc_law.nd rfl (by first | exact Or.inl rfl | exact Or.inr rfl))) (fun _ _ _ _ _ => (pts_one (pt_not (pt_val (pe_call G__law_refused.ok (hr.mono (by decide)) (by rfl) G__law_refused.mgf G__law_refused.kp G__law_refused.bd .nil pass0 (pa_cons (pv 9) (pa_cons (pv 8) pa_nil))))))) (fun _ _ _ _ _ => (pv 9))) (pe_lst pa_nil) (nomark _)) (pss_one (ps_ret pe_bl)) pss_nil)))))))
      (pss_one (ps_ret pe_bl))),
    fun w1 H0 F0 => (pu_seq (pu_for (vs := [1]) (pui_range1 (puv_cons (PuE.p (PuX.e (pu_cb l_max2 (puv_cons (PuE.p pu_int) (puv_cons (PuE.p (PuX.e (pu_cb l_min2 (puv_cons (PuE.p pu_int) (puv_cons (PuE.p (pu_lenScr 0)) puv_nil))))) puv_nil))))) puv_nil)) (pu_gname 1) (pu_well 2 (pu_call (puc_scr 0 (puc_cons (pu_var 1) puc_nil))) (fun _ _ _ =>
      (pu_seq (pu_set 3 (PuE.x (pu_op v_ix (PuE.p (PuX.e (pu_lst (pua_cons (PuX.e (pu_call (puc_wel 2 puc_nil))) (pua_cons (pu_tup (pua_cons (pu_tup (pua_cons pu_str (pua_cons (pu_tup (pua_cons (pu_tup (pua_cons pu_int (pua_cons pu_int pua_nil))) pua_nil)) pua_nil))) pua_nil)) pua_nil))))) (PuE.p (pu_op v_fdiv (PuE.p (PuX.e (pu_call (puc_wel 2 (puc_cons pu_int puc_nil))))) (PuE.p pu_int))))))
      (pu_seq (pu_for (vs := [4]) (pui_range1 (puv_cons (PuE.p pu_int) puv_nil)) (pu_gname 4) (pu_seq (pu_set 5 (PuE.x (PuX.e (pu_call (puc_wel 2 (puc_cons (pu_op v_ix (PuE.p (PuX.e (pu_lst (pua_cons pu_int (pua_cons pu_int (pua_cons pu_int pua_nil)))))) (PuE.p (PuX.e (pu_call (puc_wel 2 (puc_cons pu_int puc_nil)))))) puc_nil))))))
      (pu_seq (pu_set 6 (pu_callX wx0 (puc_cons (pu_var 3) (puc_cons (pu_var 5) puc_nil))))
      (pu_seq (pu_if (pu_or (pu_tTest (pu_op v_ne (pu_see 6) (PuE.p (PuX.e (pu_call (puc_cons (pu_var 3) (puc_cons (pu_var 5) puc_nil))))))) (pu_tTest (pu_op v_ne (PuE.p (PuX.e (pu_callX wx0 (puc_cons (pu_var 3) (puc_cons (pu_var 5) puc_nil))))) (PuE.p (PuX.e (pu_call (puc_cons (pu_var 3) (puc_cons (pu_var 5) puc_nil)))))))) (pu_ret (PuE.x pu_bl)) pu_next)
      (pu_seq (pu_append 6 pu_str)
      (pu_seq (pu_if (pu_tTest (pu_op v_eq (PuE.p (PuX.e (pu_callX wx0 (puc_cons (pu_var 3) (puc_cons (pu_var 5) puc_nil))))) (pu_see 6))) (pu_ret (PuE.x pu_bl)) pu_next)
      (pu_seq (pu_set 7 (PuE.x (pu_op v_add (pu_see 5) (PuE.p (PuX.e (pu_call (puc_wel 2 (puc_cons (pu_op v_ix (PuE.p (PuX.e (pu_lst (pua_cons pu_int (pua_cons pu_int (pua_cons pu_int pua_nil)))))) (PuE.p (PuX.e (pu_call (puc_wel 2 (puc_cons pu_int puc_nil)))))) puc_nil))))))))
      (pu_if (pu_tTest (pu_op v_ne (PuE.p (PuX.e (pu_callX wx0 (puc_cons (pu_var 3) (puc_cons (pu_var 5) (puc_cons (pu_var 7) puc_nil)))))) (PuE.p (PuX.e (pu_call (puc_cons (pu_var 3) (puc_cons (pu_var 5) (puc_cons (pu_var 7) puc_nil)))))))) (pu_ret (PuE.x pu_bl)) pu_next))))))))
      (pu_seq (pu_set 8 (PuE.x (pu_op v_ix (PuE.p (PuX.e (pu_lst (pua_cons pu_non (pua_cons (pu_tup pua_nil) (pua_cons (pu_tup (pua_cons pu_str (pua_cons (pu_tup pua_nil) pua_nil))) (pua_cons (PuX.e (pu_cb l_list (puv_cons (pu_see 3) puv_nil))) (pua_cons pu_int pua_nil)))))))) (PuE.p (PuX.e (pu_call (puc_wel 2 (puc_cons pu_int puc_nil))))))))
      (pu_if (pu_tTest (pu_op v_ne (PuE.p (PuX.e (pu_lc (pui_range1 (puv_cons (PuE.p pu_int) puv_nil)) (pu_gname 9) (pu_not (pu_tB (PuX.e (pu_call (puc_cons (pu_var 9) (puc_cons (pu_var 8) puc_nil)))))) (pu_var 9)))) (PuE.p (PuX.e (pu_lst pua_nil))))) (pu_ret (PuE.x pu_bl)) pu_next)))))))
      (pu_ret (PuE.x pu_bl)))⟩) ?_ ?_
  · intro ds q h
    unfold sp_law at h
    split at h <;> first | rfl | exact h.elim
  · intro ds q h
    unfold sp_law at h
    split at h
    case h_2 => exact h.elim
    rename_i ns
    obtain ⟨hl, h⟩ := h
    walk_at "sq"
    walk_at "dn"
    refine ⟨⟨by omega, by omega⟩, ?_⟩
    refine loopD_by (fun ds ρ => (∃ x1 x2 x3 x4 x5 x6 x7 x8 x9, ρ = [.scr ns, x1, x2, x3, x4, x5, x6, x7, x8, x9]) ∧ ∀ d ∈ ds, ∃ k : Int, d = .int k ∧ 0 ≤ k ∧ k < 100) ⟨⟨_, _, _, _, _, _, _, _, _, rfl⟩, fun d hd => ?_⟩ ?_ ?_
    · obtain ⟨k, rfl, k0, k1⟩ := rangeD_mem hd
      exact ⟨k, rfl, by omega, by omega⟩
    · rintro ρ ⟨⟨_, _, _, _, _, _, _, _, _, rfl⟩, _⟩
      exact h
    · rintro p ds ρ nx ⟨⟨x1, x2, x3, x4, x5, x6, x7, x8, x9, rfl⟩, hks⟩ hn
      obtain ⟨k, rfl, k0, k1⟩ := hks p (by simp)
      have hnext : ∀ y1 y2 y3 y4 y5 y6 y7 y8 y9, nx [.scr ns, y1, y2, y3, y4, y5, y6, y7, y8, y9] := fun _ _ _ _ _ _ _ _ _ => hn _ ⟨⟨_, _, _, _, _, _, _, _, _, rfl⟩, fun d hd => hks d (List.mem_cons_of_mem _ hd)⟩
      walk_at "dn"
      refine ⟨by omega, fun x y z z0 z1 => ⟨⟨z0, z1⟩, ?_⟩⟩
      walk_at "sq"
      walk_at "dn"
      intro ws0 hLW r r0 r1
      refine ix_any (by omega) (by simp only [List.length_cons, List.length_nil]; omega) fun ws hws => ?_
      have hw : areWishes ws = true := by
        simp only [List.mem_cons, List.not_mem_nil, or_false] at hws
        rcases hws with rfl | rfl
        · exact hLW.1
        · decide +kernel
      walk_at "sq"
      walk_at "dn"
      have nw : ∀ {X : Prop}, areWishes ws = false → X := fun c => absurd (hw.symm.trans c) (by decide)
      refine loopD_by (fun es ρ => ∃ y4 y5 y6 y7, ρ = [.scr ns, .dat (.int k), .wel, .dat ws, y4, y5, y6, y7, uw1 x8, uw1 x9]) ⟨_, _, _, _, rfl⟩ ?_ ?_
      · rintro ρ ⟨y4, y5, y6, y7, rfl⟩
        obtain ⟨rows, rfl, hr1, hr4, hr⟩ := wishes_rows hw
        walk_at "sq"
        walk_at "dn"
        intro r2 r20 r21
        refine ix_any r20 (by simp only [List.length_cons, List.length_nil]; omega) fun bad hbad => ?_
        have hb : areWishes bad = false := by
          simp only [List.mem_cons, List.not_mem_nil, or_false] at hbad
          rcases hbad with rfl | rfl | rfl | rfl | rfl
          · rfl
          · rfl
          · decide +kernel
          · rfl
          · rfl
        try (walk_at "dn")
        refine compD_if (fun _ => false) id _ (fun d2 hd2 kt kf hk => ?_) ?_
        · obtain ⟨z, rfl, _, _⟩ := rangeD_mem hd2
          walk_at "dn"
          exact ⟨hb, hk⟩
        · rw [show (((rangeD 0 3).filter fun _ => false).map id) = [] by simp]
          refine ⟨⟨by simp [PyData.depth, PyData.depthAll], by simp [PyData.depth, PyData.depthAll]⟩, ?_⟩
          rw [if_neg (by simp [PyData.eqv, PyData.eqvAll])]
          exact hnext _ _ _ _ _ _ _ _ _
      · rintro p es ρ nx2 ⟨y4, y5, y6, y7, rfl⟩ hn2
        walk_at "sq"
        walk_at "dn"
        intro r1 r10 r11
        refine ix_any r10 (by simp only [List.length_cons, List.length_nil]; omega) fun d hd => ?_
        have e : ∃ m : Int, d = .int m ∧ 0 < m ∧ m ≤ 20000 := by
          simp only [List.mem_cons, List.not_mem_nil, or_false] at hd
          rcases hd with rfl | rfl | rfl
          · exact ⟨96, rfl, by decide, by decide⟩
          · exact ⟨400, rfl, by decide, by decide⟩
          · exact ⟨20000, rfl, by decide, by decide⟩
        obtain ⟨m, rfl, m0, m1⟩ := e
        walk_at "dn"
        refine ⟨⟨m0, by omega⟩, fun tick t0 t1 => ?_⟩
        walk_at "sq"
        walk_at "dn"
        refine ⟨fun _ => ?_, nw⟩
        walk_at "sq"
        walk_at "dn"
        obtain ⟨A1, hA⟩ := ways_strs hw tick
        have hd1 := ways_depth hw tick
        refine ⟨hw, hd1, ?_⟩
        rw [if_neg (by rw [hA]; simp only [PyData.eqv]; rw [evStrs, decide_eq_true rfl]; decide)]
        refine ⟨fun _ => ⟨hw, ?_, ?_⟩, nw⟩
        · cases nextN (opens ws) 96 tick <;> simp [oD, PyData.depth]
        rw [evO, decide_eq_true rfl, if_neg (by decide)]
        walk_at "sq"
        walk_at "dn"
        have hl4 := ways_len hw tick
        refine ⟨by omega, ?_⟩
        walk_at "sq"
        walk_at "dn"
        rw [hA]
        rw [show List.map PyData.str A1 ++ [PyData.str "x"] = (A1 ++ [("x" : Str)]).map PyData.str by rw [List.map_append]; rfl]
        refine ⟨fun _ => ⟨⟨ints_depth, ints_depth⟩, ?_⟩, nw⟩
        rw [if_neg (by simp only [PyData.eqv]; rw [evStrs, decide_eq_false (fun z => by have := congrArg List.length z; simp at this)]; decide)]
        walk_at "sq"
        walk_at "dn"
        intro r3 r30 r31
        refine ix_any r30 (by simp only [List.length_cons, List.length_nil]; omega) fun d hd => ?_
        have e : ∃ m : Int, d = .int m ∧ 0 < m ∧ m ≤ 300 := by
          simp only [List.mem_cons, List.not_mem_nil, or_false] at hd
          rcases hd with rfl | rfl | rfl
          · exact ⟨3, rfl, by decide, by decide⟩
          · exact ⟨60, rfl, by decide, by decide⟩
          · exact ⟨300, rfl, by decide, by decide⟩
        obtain ⟨m2, rfl, m20, m21⟩ := e
        walk_at "dn"
        refine ⟨⟨m20, by omega⟩, fun more t20 t21 => ?_⟩
        try (walk_at "sq")
        try (walk_at "dn")
        refine ⟨⟨⟨by omega, by omega⟩, by omega, by omega⟩, fun _ => ⟨hw, ?_, ?_⟩, nw⟩
        · cases lastO (opens ws) tick (tick + more) <;> simp [oD, PyData.depth]
        rw [evO, decide_eq_true rfl, if_neg (by decide)]
        exact hn2 _ ⟨_, _, _, _, rfl⟩

end
def spLaw (K : PySem.W.Frag) : Sp := fun vs H Q _ => ∃ (a : Addr) (ns : List Int), vs = [.ref a] ∧ SqL K H a (ns.map V.int) ∧ ns.length ≤ 63 ∧ ∀ H', Q (.bl true) H'
theorem all_mk {l : PySem.W.OpenLaw} {w : World} {K : PySem.W.Frag} {h : Heap} {mg : Str → Option Value} {fa : Addr} (X : K.In h) (G : h.Ns mainGlobals mg) (hfa : mg "law" = some (.ref fa))
    {C_NoWishes : Addr}
    {C_BellError : Addr}
    {C_NoTellings : Addr}
    {C_NoOrders : Addr}
    {C_NoName : Addr}
    {C_NoTick : Addr}
    {C_NoNumber : Addr}
    {C_Twice : Addr}
    {C_Full : Addr}
    {C_NoTime : Addr}
    {f_is_whole : Addr} {od_is_whole an_is_whole : Option Addr} {sl_is_whole : Array (Option Value)} {oc_is_whole kV_is_whole dc_is_whole pm_is_whole cd_is_whole ct_is_whole : Value}
    {f_is_pair : Addr} {od_is_pair an_is_pair : Option Addr} {sl_is_pair : Array (Option Value)} {oc_is_pair kV_is_pair dc_is_pair pm_is_pair cd_is_pair ct_is_pair : Value}
    {f_is_name : Addr} {od_is_name an_is_name : Option Addr} {sl_is_name : Array (Option Value)} {oc_is_name kV_is_name dc_is_name pm_is_name cd_is_name ct_is_name : Value}
    {f_is_hush : Addr} {od_is_hush an_is_hush : Option Addr} {sl_is_hush : Array (Option Value)} {oc_is_hush kV_is_hush dc_is_hush pm_is_hush cd_is_hush ct_is_hush : Value}
    {f_are_wishes : Addr} {od_are_wishes an_are_wishes : Option Addr} {sl_are_wishes : Array (Option Value)} {oc_are_wishes kV_are_wishes dc_are_wishes pm_are_wishes cd_are_wishes ct_are_wishes : Value}
    {f__law_take : Addr} {od__law_take an__law_take : Option Addr} {sl__law_take : Array (Option Value)} {oc__law_take kV__law_take dc__law_take pm__law_take cd__law_take ct__law_take : Value}
    {f__law_well : Addr} {od__law_well an__law_well : Option Addr} {sl__law_well : Array (Option Value)} {oc__law_well kV__law_well dc__law_well pm__law_well cd__law_well ct__law_well : Value}
    {f__law_hush : Addr} {od__law_hush an__law_hush : Option Addr} {sl__law_hush : Array (Option Value)} {oc__law_hush kV__law_hush dc__law_hush pm__law_hush cd__law_hush ct__law_hush : Value}
    {f__law_wishes : Addr} {od__law_wishes an__law_wishes : Option Addr} {sl__law_wishes : Array (Option Value)} {oc__law_wishes kV__law_wishes dc__law_wishes pm__law_wishes cd__law_wishes ct__law_wishes : Value}
    {f_is_open : Addr} {od_is_open an_is_open : Option Addr} {sl_is_open : Array (Option Value)} {oc_is_open kV_is_open dc_is_open pm_is_open cd_is_open ct_is_open : Value}
    {f_ways_open : Addr} {od_ways_open an_ways_open : Option Addr} {sl_ways_open : Array (Option Value)} {oc_ways_open kV_ways_open dc_ways_open pm_ways_open cd_ways_open ct_ways_open : Value}
    {f__law_opens : Addr} {od__law_opens an__law_opens : Option Addr} {sl__law_opens : Array (Option Value)} {oc__law_opens kV__law_opens dc__law_opens pm__law_opens cd__law_opens ct__law_opens : Value}
    {f__law_last : Addr} {od__law_last an__law_last : Option Addr} {sl__law_last : Array (Option Value)} {oc__law_last kV__law_last dc__law_last pm__law_last cd__law_last ct__law_last : Value}
    {f_need_wishes : Addr} {od_need_wishes an_need_wishes : Option Addr} {sl_need_wishes : Array (Option Value)} {oc_need_wishes kV_need_wishes dc_need_wishes pm_need_wishes cd_need_wishes ct_need_wishes : Value}
    {f_open_ways : Addr} {od_open_ways an_open_ways : Option Addr} {sl_open_ways : Array (Option Value)} {oc_open_ways kV_open_ways dc_open_ways pm_open_ways cd_open_ways ct_open_ways : Value}
    {f_next_open : Addr} {od_next_open an_next_open : Option Addr} {sl_next_open : Array (Option Value)} {oc_next_open kV_next_open dc_next_open pm_next_open cd_next_open ct_next_open : Value}
    {f_last_open : Addr} {od_last_open an_last_open : Option Addr} {sl_last_open : Array (Option Value)} {oc_last_open kV_last_open dc_last_open pm_last_open cd_last_open ct_last_open : Value}
    {f__law_next : Addr} {od__law_next an__law_next : Option Addr} {sl__law_next : Array (Option Value)} {oc__law_next kV__law_next dc__law_next pm__law_next cd__law_next ct__law_next : Value}
    {f__law_kinds : Addr} {od__law_kinds an__law_kinds : Option Addr} {sl__law_kinds : Array (Option Value)} {oc__law_kinds kV__law_kinds dc__law_kinds pm__law_kinds cd__law_kinds ct__law_kinds : Value}
    {f__law_refusal : Addr} {od__law_refusal an__law_refusal : Option Addr} {sl__law_refusal : Array (Option Value)} {oc__law_refusal kV__law_refusal dc__law_refusal pm__law_refusal cd__law_refusal ct__law_refusal : Value}
    {f__law_refused : Addr} {od__law_refused an__law_refused : Option Addr} {sl__law_refused : Array (Option Value)} {oc__law_refused kV__law_refused dc__law_refused pm__law_refused cd__law_refused ct__law_refused : Value}
    {f_law : Addr} {od_law an_law : Option Addr} {sl_law : Array (Option Value)} {oc_law kV_law dc_law pm_law cd_law ct_law : Value}
    (aC_NoWishes : PySem.W.nsIn K mainGlobals "NoWishes" = some (some (.ref C_NoWishes)))
    (aC_BellError : PySem.W.nsIn K mainGlobals "BellError" = some (some (.ref C_BellError)))
    (aC_NoTellings : PySem.W.nsIn K mainGlobals "NoTellings" = some (some (.ref C_NoTellings)))
    (aC_NoOrders : PySem.W.nsIn K mainGlobals "NoOrders" = some (some (.ref C_NoOrders)))
    (aC_NoName : PySem.W.nsIn K mainGlobals "NoName" = some (some (.ref C_NoName)))
    (aC_NoTick : PySem.W.nsIn K mainGlobals "NoTick" = some (some (.ref C_NoTick)))
    (aC_NoNumber : PySem.W.nsIn K mainGlobals "NoNumber" = some (some (.ref C_NoNumber)))
    (aC_Twice : PySem.W.nsIn K mainGlobals "Twice" = some (some (.ref C_Twice)))
    (aC_Full : PySem.W.nsIn K mainGlobals "Full" = some (some (.ref C_Full)))
    (aC_NoTime : PySem.W.nsIn K mainGlobals "NoTime" = some (some (.ref C_NoTime)))
    (xC_NoWishes : PySem.W.excIn K C_NoWishes [.type "ValueError", .type "Exception", .type "BaseException", .type "object"] "ValueError.__new__" = true) (kC_NoWishes : PySem.W.keepIn K (.ref C_NoWishes) = true) (bC_NoWishes : PySem.W.subIn K (.ref C_NoWishes) (.type "BaseException") = some true) (tC_NoWishes : PySem.W.typeIn K (.ref C_NoWishes) = some (.type "type"))
    (xC_BellError : PySem.W.excIn K C_BellError [.type "ValueError", .type "Exception", .type "BaseException", .type "object"] "ValueError.__new__" = true) (kC_BellError : PySem.W.keepIn K (.ref C_BellError) = true) (bC_BellError : PySem.W.subIn K (.ref C_BellError) (.type "BaseException") = some true) (tC_BellError : PySem.W.typeIn K (.ref C_BellError) = some (.type "type"))
    (dC_BellError : PySem.W.hasDictIn K C_BellError = true)
    (sC_NoWishes_BellError : PySem.W.subIn K (.ref C_NoWishes) (.ref C_BellError) = some true)
    (hn0 : PySem.W.specialIn K (.builtin "object.__class__") "__get__" = some (some (.builtin "getset_descriptor.__get__"))) (ht0 : PySem.W.takesIn K (.builtin "object.__class__") = some true)
    (hg_NoWishes : PySem.W.findIn K (.ref C_NoWishes) "__getattribute__" = some (some (.builtin "BaseException.__getattribute__"))) (hk_NoWishes : PySem.W.findIn K (.ref C_NoWishes) "__getattr__" = some none) (hs_NoWishes : PySem.W.subIn K (.ref C_NoWishes) (.type "BaseException") = some true) (hd_NoWishes : PySem.W.hasDictIn K C_NoWishes = true) (ha_NoWishes : PySem.W.findIn K (.ref C_NoWishes) "__class__" = some (some (.builtin "object.__class__"))) (hm_NoWishes : PySem.W.mroIn K C_NoWishes (.type "object") = some true)
    (kit_NoWishes_NoWishes : PySem.W.kitOne K (.ref C_NoWishes) (.ref C_NoWishes) = some true)
    (kit_NoWishes_NoTellings : PySem.W.kitOne K (.ref C_NoWishes) (.ref C_NoTellings) = some false)
    (kit_NoWishes_NoOrders : PySem.W.kitOne K (.ref C_NoWishes) (.ref C_NoOrders) = some false)
    (kit_NoWishes_NoName : PySem.W.kitOne K (.ref C_NoWishes) (.ref C_NoName) = some false)
    (kit_NoWishes_NoTick : PySem.W.kitOne K (.ref C_NoWishes) (.ref C_NoTick) = some false)
    (kit_NoWishes_NoNumber : PySem.W.kitOne K (.ref C_NoWishes) (.ref C_NoNumber) = some false)
    (kit_NoWishes_Twice : PySem.W.kitOne K (.ref C_NoWishes) (.ref C_Twice) = some false)
    (kit_NoWishes_Full : PySem.W.kitOne K (.ref C_NoWishes) (.ref C_Full) = some false)
    (kit_NoWishes_NoTime : PySem.W.kitOne K (.ref C_NoWishes) (.ref C_NoTime) = some false)
    (kit_NoWishes_BellError : PySem.W.kitOne K (.ref C_NoWishes) (.ref C_BellError) = some true)
    (kit_NoWishes_ValueError : PySem.W.kitOne K (.ref C_NoWishes) (.type "ValueError") = some true)
    (a_is_whole : PySem.W.nsIn K mainGlobals "is_whole" = some (some (.ref f_is_whole))) (l_is_whole : K.lookup f_is_whole = some ⟨oc_is_whole, od_is_whole, .func (PySem.W.fnOf "is_whole" "is_whole" (defArgs s_is_whole) (defBody s_is_whole) (defScope s_is_whole) .none kV_is_whole dc_is_whole pm_is_whole an_is_whole cd_is_whole ct_is_whole), sl_is_whole⟩) (c_is_whole : PySem.W.codeIn K cd_is_whole "is_whole" = true) (k_is_whole : PySem.W.keepIn K (.ref f_is_whole) = true)
    (a_is_pair : PySem.W.nsIn K mainGlobals "is_pair" = some (some (.ref f_is_pair))) (l_is_pair : K.lookup f_is_pair = some ⟨oc_is_pair, od_is_pair, .func (PySem.W.fnOf "is_pair" "is_pair" (defArgs s_is_pair) (defBody s_is_pair) (defScope s_is_pair) .none kV_is_pair dc_is_pair pm_is_pair an_is_pair cd_is_pair ct_is_pair), sl_is_pair⟩) (c_is_pair : PySem.W.codeIn K cd_is_pair "is_pair" = true) (k_is_pair : PySem.W.keepIn K (.ref f_is_pair) = true)
    (a_is_name : PySem.W.nsIn K mainGlobals "is_name" = some (some (.ref f_is_name))) (l_is_name : K.lookup f_is_name = some ⟨oc_is_name, od_is_name, .func (PySem.W.fnOf "is_name" "is_name" (defArgs s_is_name) (defBody s_is_name) (defScope s_is_name) .none kV_is_name dc_is_name pm_is_name an_is_name cd_is_name ct_is_name), sl_is_name⟩) (c_is_name : PySem.W.codeIn K cd_is_name "is_name" = true) (k_is_name : PySem.W.keepIn K (.ref f_is_name) = true)
    (a_is_hush : PySem.W.nsIn K mainGlobals "is_hush" = some (some (.ref f_is_hush))) (l_is_hush : K.lookup f_is_hush = some ⟨oc_is_hush, od_is_hush, .func (PySem.W.fnOf "is_hush" "is_hush" (defArgs s_is_hush) (defBody s_is_hush) (defScope s_is_hush) .none kV_is_hush dc_is_hush pm_is_hush an_is_hush cd_is_hush ct_is_hush), sl_is_hush⟩) (c_is_hush : PySem.W.codeIn K cd_is_hush "is_hush" = true) (k_is_hush : PySem.W.keepIn K (.ref f_is_hush) = true)
    (a_are_wishes : PySem.W.nsIn K mainGlobals "are_wishes" = some (some (.ref f_are_wishes))) (l_are_wishes : K.lookup f_are_wishes = some ⟨oc_are_wishes, od_are_wishes, .func (PySem.W.fnOf "are_wishes" "are_wishes" (defArgs s_are_wishes) (defBody s_are_wishes) (defScope s_are_wishes) .none kV_are_wishes dc_are_wishes pm_are_wishes an_are_wishes cd_are_wishes ct_are_wishes), sl_are_wishes⟩) (c_are_wishes : PySem.W.codeIn K cd_are_wishes "are_wishes" = true) (k_are_wishes : PySem.W.keepIn K (.ref f_are_wishes) = true)
    (a__law_take : PySem.W.nsIn K mainGlobals "_law_take" = some (some (.ref f__law_take))) (l__law_take : K.lookup f__law_take = some ⟨oc__law_take, od__law_take, .func (PySem.W.fnOf "_law_take" "_law_take" (defArgs s__law_take) (defBody s__law_take) (defScope s__law_take) .none kV__law_take dc__law_take pm__law_take an__law_take cd__law_take ct__law_take), sl__law_take⟩) (c__law_take : PySem.W.codeIn K cd__law_take "_law_take" = true) (k__law_take : PySem.W.keepIn K (.ref f__law_take) = true)
    (a__law_well : PySem.W.nsIn K mainGlobals "_law_well" = some (some (.ref f__law_well))) (l__law_well : K.lookup f__law_well = some ⟨oc__law_well, od__law_well, .func (PySem.W.fnOf "_law_well" "_law_well" (defArgs s__law_well) (defBody s__law_well) (defScope s__law_well) .none kV__law_well dc__law_well pm__law_well an__law_well cd__law_well ct__law_well), sl__law_well⟩) (c__law_well : PySem.W.codeIn K cd__law_well "_law_well" = true) (k__law_well : PySem.W.keepIn K (.ref f__law_well) = true)
    (a__law_hush : PySem.W.nsIn K mainGlobals "_law_hush" = some (some (.ref f__law_hush))) (l__law_hush : K.lookup f__law_hush = some ⟨oc__law_hush, od__law_hush, .func (PySem.W.fnOf "_law_hush" "_law_hush" (defArgs s__law_hush) (defBody s__law_hush) (defScope s__law_hush) .none kV__law_hush dc__law_hush pm__law_hush an__law_hush cd__law_hush ct__law_hush), sl__law_hush⟩) (c__law_hush : PySem.W.codeIn K cd__law_hush "_law_hush" = true) (k__law_hush : PySem.W.keepIn K (.ref f__law_hush) = true)
    (a__law_wishes : PySem.W.nsIn K mainGlobals "_law_wishes" = some (some (.ref f__law_wishes))) (l__law_wishes : K.lookup f__law_wishes = some ⟨oc__law_wishes, od__law_wishes, .func (PySem.W.fnOf "_law_wishes" "_law_wishes" (defArgs s__law_wishes) (defBody s__law_wishes) (defScope s__law_wishes) .none kV__law_wishes dc__law_wishes pm__law_wishes an__law_wishes cd__law_wishes ct__law_wishes), sl__law_wishes⟩) (c__law_wishes : PySem.W.codeIn K cd__law_wishes "_law_wishes" = true) (k__law_wishes : PySem.W.keepIn K (.ref f__law_wishes) = true)
    (a_is_open : PySem.W.nsIn K mainGlobals "is_open" = some (some (.ref f_is_open))) (l_is_open : K.lookup f_is_open = some ⟨oc_is_open, od_is_open, .func (PySem.W.fnOf "is_open" "is_open" (defArgs s_is_open) (defBody s_is_open) (defScope s_is_open) .none kV_is_open dc_is_open pm_is_open an_is_open cd_is_open ct_is_open), sl_is_open⟩) (c_is_open : PySem.W.codeIn K cd_is_open "is_open" = true) (k_is_open : PySem.W.keepIn K (.ref f_is_open) = true)
    (a_ways_open : PySem.W.nsIn K mainGlobals "ways_open" = some (some (.ref f_ways_open))) (l_ways_open : K.lookup f_ways_open = some ⟨oc_ways_open, od_ways_open, .func (PySem.W.fnOf "ways_open" "ways_open" (defArgs s_ways_open) (defBody s_ways_open) (defScope s_ways_open) .none kV_ways_open dc_ways_open pm_ways_open an_ways_open cd_ways_open ct_ways_open), sl_ways_open⟩) (c_ways_open : PySem.W.codeIn K cd_ways_open "ways_open" = true) (k_ways_open : PySem.W.keepIn K (.ref f_ways_open) = true)
    (a__law_opens : PySem.W.nsIn K mainGlobals "_law_opens" = some (some (.ref f__law_opens))) (l__law_opens : K.lookup f__law_opens = some ⟨oc__law_opens, od__law_opens, .func (PySem.W.fnOf "_law_opens" "_law_opens" (defArgs s__law_opens) (defBody s__law_opens) (defScope s__law_opens) .none kV__law_opens dc__law_opens pm__law_opens an__law_opens cd__law_opens ct__law_opens), sl__law_opens⟩) (c__law_opens : PySem.W.codeIn K cd__law_opens "_law_opens" = true) (k__law_opens : PySem.W.keepIn K (.ref f__law_opens) = true)
    (a__law_last : PySem.W.nsIn K mainGlobals "_law_last" = some (some (.ref f__law_last))) (l__law_last : K.lookup f__law_last = some ⟨oc__law_last, od__law_last, .func (PySem.W.fnOf "_law_last" "_law_last" (defArgs s__law_last) (defBody s__law_last) (defScope s__law_last) .none kV__law_last dc__law_last pm__law_last an__law_last cd__law_last ct__law_last), sl__law_last⟩) (c__law_last : PySem.W.codeIn K cd__law_last "_law_last" = true) (k__law_last : PySem.W.keepIn K (.ref f__law_last) = true)
    (a_need_wishes : PySem.W.nsIn K mainGlobals "need_wishes" = some (some (.ref f_need_wishes))) (l_need_wishes : K.lookup f_need_wishes = some ⟨oc_need_wishes, od_need_wishes, .func (PySem.W.fnOf "need_wishes" "need_wishes" (defArgs s_need_wishes) (defBody s_need_wishes) (defScope s_need_wishes) .none kV_need_wishes dc_need_wishes pm_need_wishes an_need_wishes cd_need_wishes ct_need_wishes), sl_need_wishes⟩) (c_need_wishes : PySem.W.codeIn K cd_need_wishes "need_wishes" = true) (k_need_wishes : PySem.W.keepIn K (.ref f_need_wishes) = true)
    (a_open_ways : PySem.W.nsIn K mainGlobals "open_ways" = some (some (.ref f_open_ways))) (l_open_ways : K.lookup f_open_ways = some ⟨oc_open_ways, od_open_ways, .func (PySem.W.fnOf "open_ways" "open_ways" (defArgs s_open_ways) (defBody s_open_ways) (defScope s_open_ways) .none kV_open_ways dc_open_ways pm_open_ways an_open_ways cd_open_ways ct_open_ways), sl_open_ways⟩) (c_open_ways : PySem.W.codeIn K cd_open_ways "open_ways" = true) (k_open_ways : PySem.W.keepIn K (.ref f_open_ways) = true)
    (a_next_open : PySem.W.nsIn K mainGlobals "next_open" = some (some (.ref f_next_open))) (l_next_open : K.lookup f_next_open = some ⟨oc_next_open, od_next_open, .func (PySem.W.fnOf "next_open" "next_open" (defArgs s_next_open) (defBody s_next_open) (defScope s_next_open) .none kV_next_open dc_next_open pm_next_open an_next_open cd_next_open ct_next_open), sl_next_open⟩) (c_next_open : PySem.W.codeIn K cd_next_open "next_open" = true) (k_next_open : PySem.W.keepIn K (.ref f_next_open) = true)
    (a_last_open : PySem.W.nsIn K mainGlobals "last_open" = some (some (.ref f_last_open))) (l_last_open : K.lookup f_last_open = some ⟨oc_last_open, od_last_open, .func (PySem.W.fnOf "last_open" "last_open" (defArgs s_last_open) (defBody s_last_open) (defScope s_last_open) .none kV_last_open dc_last_open pm_last_open an_last_open cd_last_open ct_last_open), sl_last_open⟩) (c_last_open : PySem.W.codeIn K cd_last_open "last_open" = true) (k_last_open : PySem.W.keepIn K (.ref f_last_open) = true)
    (a__law_next : PySem.W.nsIn K mainGlobals "_law_next" = some (some (.ref f__law_next))) (l__law_next : K.lookup f__law_next = some ⟨oc__law_next, od__law_next, .func (PySem.W.fnOf "_law_next" "_law_next" (defArgs s__law_next) (defBody s__law_next) (defScope s__law_next) .none kV__law_next dc__law_next pm__law_next an__law_next cd__law_next ct__law_next), sl__law_next⟩) (c__law_next : PySem.W.codeIn K cd__law_next "_law_next" = true) (k__law_next : PySem.W.keepIn K (.ref f__law_next) = true)
    (a__law_kinds : PySem.W.nsIn K mainGlobals "_law_kinds" = some (some (.ref f__law_kinds))) (l__law_kinds : K.lookup f__law_kinds = some ⟨oc__law_kinds, od__law_kinds, .func (PySem.W.fnOf "_law_kinds" "_law_kinds" (defArgs s__law_kinds) (defBody s__law_kinds) (defScope s__law_kinds) .none kV__law_kinds dc__law_kinds pm__law_kinds an__law_kinds cd__law_kinds ct__law_kinds), sl__law_kinds⟩) (c__law_kinds : PySem.W.codeIn K cd__law_kinds "_law_kinds" = true) (k__law_kinds : PySem.W.keepIn K (.ref f__law_kinds) = true)
    (a__law_refusal : PySem.W.nsIn K mainGlobals "_law_refusal" = some (some (.ref f__law_refusal))) (l__law_refusal : K.lookup f__law_refusal = some ⟨oc__law_refusal, od__law_refusal, .func (PySem.W.fnOf "_law_refusal" "_law_refusal" (defArgs s__law_refusal) (defBody s__law_refusal) (defScope s__law_refusal) .none kV__law_refusal dc__law_refusal pm__law_refusal an__law_refusal cd__law_refusal ct__law_refusal), sl__law_refusal⟩) (c__law_refusal : PySem.W.codeIn K cd__law_refusal "_law_refusal" = true) (k__law_refusal : PySem.W.keepIn K (.ref f__law_refusal) = true)
    (a__law_refused : PySem.W.nsIn K mainGlobals "_law_refused" = some (some (.ref f__law_refused))) (l__law_refused : K.lookup f__law_refused = some ⟨oc__law_refused, od__law_refused, .func (PySem.W.fnOf "_law_refused" "_law_refused" (defArgs s__law_refused) (defBody s__law_refused) (defScope s__law_refused) .none kV__law_refused dc__law_refused pm__law_refused an__law_refused cd__law_refused ct__law_refused), sl__law_refused⟩) (c__law_refused : PySem.W.codeIn K cd__law_refused "_law_refused" = true) (k__law_refused : PySem.W.keepIn K (.ref f__law_refused) = true)
    (a_law : PySem.W.nsIn K mainGlobals "law" = some (some (.ref f_law))) (l_law : K.lookup f_law = some ⟨oc_law, od_law, .func (PySem.W.fnOf "law" "law" (defArgs s_law) (defBody s_law) (defScope s_law) .none kV_law dc_law pm_law an_law cd_law ct_law), sl_law⟩) (c_law : PySem.W.codeIn K cd_law "law" = true) (k_law : PySem.W.keepIn K (.ref f_law) = true)
    (z_ValueError : PySem.W.nsIn K mainGlobals "ValueError" = some none)
    (z_all : PySem.W.nsIn K mainGlobals "all" = some none)
    (z_any : PySem.W.nsIn K mainGlobals "any" = some none)
    (z_bool : PySem.W.nsIn K mainGlobals "bool" = some none)
    (z_int : PySem.W.nsIn K mainGlobals "int" = some none)
    (z_isinstance : PySem.W.nsIn K mainGlobals "isinstance" = some none)
    (z_len : PySem.W.nsIn K mainGlobals "len" = some none)
    (z_list : PySem.W.nsIn K mainGlobals "list" = some none)
    (z_max : PySem.W.nsIn K mainGlobals "max" = some none)
    (z_min : PySem.W.nsIn K mainGlobals "min" = some none)
    (z_range : PySem.W.nsIn K mainGlobals "range" = some none)
    (z_set : PySem.W.nsIn K mainGlobals "set" = some none)
    (z_str : PySem.W.nsIn K mainGlobals "str" = some none)
    (z_tuple : PySem.W.nsIn K mainGlobals "tuple" = some none)
    (z_zip : PySem.W.nsIn K mainGlobals "zip" = some none)
    (y_DAY : ∃ t, PySem.W.nsIn K mainGlobals "DAY" = some (some (.int 96 t)))
    (y_LETTERS : ∃ t, PySem.W.nsIn K mainGlobals "LETTERS" = some (some (.str "abcdefghijklmnopqrstuvwxyz" t)))
    (y_MOST_PAIRS : ∃ t, PySem.W.nsIn K mainGlobals "MOST_PAIRS" = some (some (.int 6 t)))
    (y_MOST_WAYS : ∃ t, PySem.W.nsIn K mainGlobals "MOST_WAYS" = some (some (.int 4 t))) :
    ∃ fd : FuncData, (∀ (s : Shared) (v : Value), BindsTo s fd ⟨[v], []⟩ [("script", v)]) ∧ ∀ base : Heap, K.In base → base.Ns mainGlobals mg → FnOk l.prog w K mg base CX0 7 fa fd ["script"] (spLaw K) := by
  have e := hfa.symm.trans (PySem.W.mg_of X G a_law)
  cases e
  have T : Tp K mg := ⟨PySem.W.mg_none_of X G z_ValueError, PySem.W.mg_none_of X G z_all, PySem.W.mg_none_of X G z_any, PySem.W.mg_none_of X G z_bool, PySem.W.mg_none_of X G z_int, PySem.W.mg_none_of X G z_isinstance, PySem.W.mg_none_of X G z_len, PySem.W.mg_none_of X G z_list, PySem.W.mg_none_of X G z_max, PySem.W.mg_none_of X G z_min, PySem.W.mg_none_of X G z_range, PySem.W.mg_none_of X G z_set, PySem.W.mg_none_of X G z_str, PySem.W.mg_none_of X G z_tuple, PySem.W.mg_none_of X G z_zip, y_DAY.imp fun _ e => PySem.W.mg_of X G e, y_LETTERS.imp fun _ e => PySem.W.mg_of X G e, y_MOST_PAIRS.imp fun _ e => PySem.W.mg_of X G e, y_MOST_WAYS.imp fun _ e => PySem.W.mg_of X G e⟩
  refine ⟨PySem.W.fnOf "law" "law" (defArgs s_law) (defBody s_law) (defScope s_law) .none kV_law dc_law pm_law an_law cd_law ct_law, fun s v => .of_eq rfl, fun base _ _ => ?_⟩
  have gC_NoWishes : mg "NoWishes" = some (.ref C_NoWishes) := PySem.W.mg_of X G aC_NoWishes
  have gC_BellError : mg "BellError" = some (.ref C_BellError) := PySem.W.mg_of X G aC_BellError
  have gC_NoTellings : mg "NoTellings" = some (.ref C_NoTellings) := PySem.W.mg_of X G aC_NoTellings
  have gC_NoOrders : mg "NoOrders" = some (.ref C_NoOrders) := PySem.W.mg_of X G aC_NoOrders
  have gC_NoName : mg "NoName" = some (.ref C_NoName) := PySem.W.mg_of X G aC_NoName
  have gC_NoTick : mg "NoTick" = some (.ref C_NoTick) := PySem.W.mg_of X G aC_NoTick
  have gC_NoNumber : mg "NoNumber" = some (.ref C_NoNumber) := PySem.W.mg_of X G aC_NoNumber
  have gC_Twice : mg "Twice" = some (.ref C_Twice) := PySem.W.mg_of X G aC_Twice
  have gC_Full : mg "Full" = some (.ref C_Full) := PySem.W.mg_of X G aC_Full
  have gC_NoTime : mg "NoTime" = some (.ref C_NoTime) := PySem.W.mg_of X G aC_NoTime
  have X_NoWishes : OwnX K mg "NoWishes" C_NoWishes := ⟨gC_NoWishes, xC_NoWishes, kC_NoWishes, bC_NoWishes, tC_NoWishes⟩
  have X_BellError : OwnX K mg "BellError" C_BellError := ⟨gC_BellError, xC_BellError, kC_BellError, bC_BellError, tC_BellError⟩
  have M_BellError : MatchOk K mg (.ref C_BellError) pm_BellError := fun n b hb C hC => by
    unfold pm_BellError at hb
    split at hb
    · rename_i e
      cases hb
      simp only [okE, okL, List.mem_cons, List.not_mem_nil, or_false] at e
      rcases e with rfl
      · cases hC.symm.trans gC_NoWishes
        exact PySem.W.exm_ref bC_BellError dC_BellError tC_BellError sC_NoWishes_BellError
    · cases hb
  have KC_NoWishes : ∀ c ∈ ([("NoWishes", .ref C_NoWishes), ("NoTellings", .ref C_NoTellings), ("NoOrders", .ref C_NoOrders), ("NoName", .ref C_NoName), ("NoTick", .ref C_NoTick), ("NoNumber", .ref C_NoNumber), ("Twice", .ref C_Twice), ("Full", .ref C_Full), ("NoTime", .ref C_NoTime), ("BellError", .ref C_BellError), ("ValueError", .type "ValueError")] : List (Str × Value)), PySem.W.kitOne K (.ref C_NoWishes) c.2 = some (isaB "NoWishes" c.1) := fun c hc => by
    simp only [List.mem_cons, List.not_mem_nil, or_false] at hc
    rcases hc with rfl | rfl | rfl | rfl | rfl | rfl | rfl | rfl | rfl | rfl | rfl
    · exact kit_NoWishes_NoWishes.trans (congrArg some (show true = isaB "NoWishes" "NoWishes" by decide +kernel))
    · exact kit_NoWishes_NoTellings.trans (congrArg some (show false = isaB "NoWishes" "NoTellings" by decide +kernel))
    · exact kit_NoWishes_NoOrders.trans (congrArg some (show false = isaB "NoWishes" "NoOrders" by decide +kernel))
    · exact kit_NoWishes_NoName.trans (congrArg some (show false = isaB "NoWishes" "NoName" by decide +kernel))
    · exact kit_NoWishes_NoTick.trans (congrArg some (show false = isaB "NoWishes" "NoTick" by decide +kernel))
    · exact kit_NoWishes_NoNumber.trans (congrArg some (show false = isaB "NoWishes" "NoNumber" by decide +kernel))
    · exact kit_NoWishes_Twice.trans (congrArg some (show false = isaB "NoWishes" "Twice" by decide +kernel))
    · exact kit_NoWishes_Full.trans (congrArg some (show false = isaB "NoWishes" "Full" by decide +kernel))
    · exact kit_NoWishes_NoTime.trans (congrArg some (show false = isaB "NoWishes" "NoTime" by decide +kernel))
    · exact kit_NoWishes_BellError.trans (congrArg some (show true = isaB "NoWishes" "BellError" by decide +kernel))
    · exact kit_NoWishes_ValueError.trans (congrArg some (show true = isaB "NoWishes" "ValueError" by decide +kernel))
  have KT : KindT K mg okE [("NoWishes", .ref C_NoWishes), ("NoTellings", .ref C_NoTellings), ("NoOrders", .ref C_NoOrders), ("NoName", .ref C_NoName), ("NoTick", .ref C_NoTick), ("NoNumber", .ref C_NoNumber), ("Twice", .ref C_Twice), ("Full", .ref C_Full), ("NoTime", .ref C_NoTime), ("BellError", .ref C_BellError), ("ValueError", .type "ValueError")] := by
    refine ⟨fun nm D hok hm => ?_, fun nm D hok hm => ?_⟩
    · simp only [okE, okL, List.mem_cons, List.not_mem_nil, or_false] at hok
      rcases hok with rfl
      · cases hm.symm.trans gC_NoWishes
        exact ⟨hg_NoWishes, hk_NoWishes, hs_NoWishes, hd_NoWishes, ha_NoWishes, hn0, ht0, hm_NoWishes⟩
    · simp only [okE, okL, List.mem_cons, List.not_mem_nil, or_false] at hok
      rcases hok with rfl
      · cases hm.symm.trans gC_NoWishes
        exact KC_NoWishes
  have G_is_whole : FnD l.prog w K mg base 1 "is_whole" ["thing", "low", "high"] sp_is_whole f_is_whole _ := ok_is_whole T  (PySem.W.mg_of X G a_is_whole) (fun_mk (st := s_is_whole) l_is_whole c_is_whole k_is_whole)
  have G_is_pair : FnD l.prog w K mg base 1 "is_pair" ["thing"] sp_is_pair f_is_pair _ := ok_is_pair T  (PySem.W.mg_of X G a_is_pair) (fun_mk (st := s_is_pair) l_is_pair c_is_pair k_is_pair)
  have G_is_name : FnD l.prog w K mg base 1 "is_name" ["thing"] sp_is_name f_is_name _ := ok_is_name T  (PySem.W.mg_of X G a_is_name) (fun_mk (st := s_is_name) l_is_name c_is_name k_is_name)
  have G__law_take : FnD l.prog w K mg base 1 "_law_take" ["well", "many"] (sp_take) f__law_take _ := ok__law_take  (PySem.W.mg_of X G a__law_take) (fun_mk (st := s__law_take) l__law_take c__law_take k__law_take)
  have G__law_well : FnD l.prog w K mg base 1 "_law_well" ["script", "k"] sp__law_well f__law_well _ := ok__law_well T  (PySem.W.mg_of X G a__law_well) (fun_mk (st := s__law_well) l__law_well c__law_well k__law_well)
  have G_is_open : FnD l.prog w K mg base 1 "is_open" ["hush", "tick"] sp_is_open f_is_open _ := ok_is_open T  (PySem.W.mg_of X G a_is_open) (fun_mk (st := s_is_open) l_is_open c_is_open k_is_open)
  have G__law_opens : FnD l.prog w K mg base 1 "_law_opens" ["wishes", "tick"] sp__law_opens f__law_opens _ := ok__law_opens T  (PySem.W.mg_of X G a__law_opens) (fun_mk (st := s__law_opens) l__law_opens c__law_opens k__law_opens)
  have G__law_kinds : FnED l.prog w K mg base 1 "_law_kinds" ["e"] sp__law_kinds f__law_kinds _ := ok__law_kinds T gC_NoWishes gC_NoTellings gC_NoOrders gC_NoName gC_NoTick gC_NoNumber gC_Twice gC_Full gC_NoTime gC_BellError KT (PySem.W.mg_of X G a__law_kinds) (fun_mk (st := s__law_kinds) l__law_kinds c__law_kinds k__law_kinds)
  have G_is_hush : FnD l.prog w K mg base 2 "is_hush" ["thing"] sp_is_hush f_is_hush _ := ok_is_hush T G_is_pair G_is_whole (PySem.W.mg_of X G a_is_hush) (fun_mk (st := s_is_hush) l_is_hush c_is_hush k_is_hush)
  have G__law_hush : FnD l.prog w K mg base 2 "_law_hush" ["well"] sp__law_hush f__law_hush _ := ok__law_hush T G__law_take (PySem.W.mg_of X G a__law_hush) (fun_mk (st := s__law_hush) l__law_hush c__law_hush k__law_hush)
  have G_ways_open : FnD l.prog w K mg base 2 "ways_open" ["wishes", "tick"] sp_ways_open f_ways_open _ := ok_ways_open T G_is_open (PySem.W.mg_of X G a_ways_open) (fun_mk (st := s_ways_open) l_ways_open c_ways_open k_ways_open)
  have G__law_last : FnD l.prog w K mg base 2 "_law_last" ["wishes", "low", "high"] sp__law_last f__law_last _ := ok__law_last T G__law_opens (PySem.W.mg_of X G a__law_last) (fun_mk (st := s__law_last) l__law_last c__law_last k__law_last)
  have G__law_next : FnD l.prog w K mg base 2 "_law_next" ["wishes", "tick"] sp__law_next f__law_next _ := ok__law_next T G__law_opens (PySem.W.mg_of X G a__law_next) (fun_mk (st := s__law_next) l__law_next c__law_next k__law_next)
  have G__law_refusal : FnED l.prog w K mg base 2 "_law_refusal" ["e"] sp__law_refusal f__law_refusal _ := ok__law_refusal T G__law_kinds (PySem.W.mg_of X G a__law_refusal) (fun_mk (st := s__law_refusal) l__law_refusal c__law_refusal k__law_refusal)
  have G_are_wishes : FnD l.prog w K mg base 3 "are_wishes" ["thing"] sp_are_wishes f_are_wishes _ := ok_are_wishes T G_is_pair G_is_name G_is_hush (PySem.W.mg_of X G a_are_wishes) (fun_mk (st := s_are_wishes) l_are_wishes c_are_wishes k_are_wishes)
  have G__law_wishes : FnD l.prog w K mg base 3 "_law_wishes" ["well"] sp__law_wishes f__law_wishes _ := ok__law_wishes T G__law_take G__law_hush (PySem.W.mg_of X G a__law_wishes) (fun_mk (st := s__law_wishes) l__law_wishes c__law_wishes k__law_wishes)
  have G_need_wishes : FnX l.prog w K mg base 4 "need_wishes" ["thing"] (spx_need_wishes) f_need_wishes _ := ok_need_wishes T X_NoWishes G_are_wishes (PySem.W.mg_of X G a_need_wishes) (fun_mk (st := s_need_wishes) l_need_wishes c_need_wishes k_need_wishes)
  have G_open_ways : FnX l.prog w K mg base 5 "open_ways" ["wishes", "tick"] (spx_open_ways) f_open_ways _ := ok_open_ways T G_need_wishes G_ways_open (PySem.W.mg_of X G a_open_ways) (fun_mk (st := s_open_ways) l_open_ways c_open_ways k_open_ways)
  have G_next_open : FnX l.prog w K mg base 5 "next_open" ["wishes", "tick"] (spx_next_open) f_next_open _ := ok_next_open T G_need_wishes G_ways_open (PySem.W.mg_of X G a_next_open) (fun_mk (st := s_next_open) l_next_open c_next_open k_next_open)
  have G_last_open : FnX l.prog w K mg base 5 "last_open" ["wishes", "low", "high"] (spx_last_open) f_last_open _ := ok_last_open T G_need_wishes G_ways_open (PySem.W.mg_of X G a_last_open) (fun_mk (st := s_last_open) l_last_open c_last_open k_last_open)
  have G__law_refused : FnD l.prog w K mg base 6 "_law_refused" ["ask", "thing"] sp__law_refused f__law_refused _ := ok__law_refused T X_BellError M_BellError G_open_ways G_next_open G_last_open G__law_refusal (PySem.W.mg_of X G a__law_refused) (fun_mk (st := s__law_refused) l__law_refused c__law_refused k__law_refused)
  have G_law : FnD l.prog w K mg base 7 "law" ["script"] sp_law fa _ := ok_law T G__law_well G__law_wishes G__law_take G_open_ways G__law_opens G_next_open G__law_next G_last_open G__law_last G__law_refused (PySem.W.mg_of X G a_law) (fun_mk (st := s_law) l_law c_law k_law)
  refine G_law.ok.imp fun vs H Q E hh => ?_
  obtain ⟨a, ns, rfl, hS, hl, hQ⟩ := hh
  exact ⟨none, H, [.scr ns], fun s => s = .dat (.bool true), ⟨Same.refl _, (fun a e => by cases e), fun _ _ h => h⟩, .cons (d := .scr ns) ⟨a, rfl, hS⟩ .nil, ⟨hl, rfl⟩, fun x v H' F' hx _ nv => by
    subst hx
    cases (show RD K F' v (.bool true) from nv)
    exact hQ _⟩
theorem walk {l : PySem.W.OpenLaw} {q : Program} {loose : List Str} {XP : (Str → Option Value) → Heap → Prop} {YP : World → Heap → Prop} {d : DefRec} {K : Params → PySem.W.Frag} (hn : l.most = some 63) (hdf : d.params.defaults = [])
    (hY : ∀ (w : World) (h : Heap), YP w h → (K w.params).In h)
    (F : ∀ (w : World) (mg : Str → Option Value) (fa : Addr) (h : Heap), (K w.params).In h → h.Ns mainGlobals mg → mg d.name = some (.ref fa) →
      ∃ fd : FuncData, (∀ (s : Shared) (u : Value), BindsTo s fd ⟨[u], []⟩ [("script", u)]) ∧ ∀ base : Heap, (K w.params).In base → base.Ns mainGlobals mg → FnOk l.prog w (K w.params) mg base CX0 7 fa fd ["script"] (spLaw (K w.params))) :
    PySem.W.WalkO q loose XP YP l.row.toRowW d [] (fun f vs => PySem.call f vs) :=
  L2.walk_of (n := 63) (k := 7) (x := "script") (CX := fun _ => CX0) (sp := fun w => spLaw (K w.params)) hn (by decide) hdf ⟨rfl, by decide, by decide⟩ hY F (fun _ _ a ns hl _ hS => ⟨a, ns, rfl, hS, hl, fun _ => rfl⟩) fun _ _ _ _ _ z => z
end Lw
open PySem PySem.W PyProof.Rows in
set_option maxRecDepth 100000 in
set_option maxHeartbeats 0 in
theorem PySem.Challenge.cw_hushbell_k02_hours_by_hand_holds : PySem.Challenge.rw_hushbell_k02_hours_by_hand.Holds := by
  w_on; o_law; k_head; (case hw => w_witness2)
  k_fill
  refine Lw.walk (l := PySem.Challenge.rw_hushbell_k02_hours_by_hand) rfl rfl (fun w h Y => PySem.W.kIn_of Y) ?F
  case F =>
    intro w mg fa h KX G hmg
    refine' Lw.all_mk KX G hmg ?aC_NoWishes ?aC_BellError ?aC_NoTellings ?aC_NoOrders ?aC_NoName ?aC_NoTick ?aC_NoNumber ?aC_Twice ?aC_Full ?aC_NoTime ?xC_NoWishes ?kC_NoWishes ?bC_NoWishes ?tC_NoWishes ?xC_BellError ?kC_BellError ?bC_BellError ?tC_BellError ?dC_BellError ?sC_NoWishes_BellError ?hn0 ?ht0 ?hg_NoWishes ?hk_NoWishes ?hs_NoWishes ?hd_NoWishes ?ha_NoWishes ?hm_NoWishes ?kit_NoWishes_NoWishes ?kit_NoWishes_NoTellings ?kit_NoWishes_NoOrders ?kit_NoWishes_NoName ?kit_NoWishes_NoTick ?kit_NoWishes_NoNumber ?kit_NoWishes_Twice ?kit_NoWishes_Full ?kit_NoWishes_NoTime ?kit_NoWishes_BellError ?kit_NoWishes_ValueError ?a_is_whole ?l_is_whole ?c_is_whole ?k_is_whole ?a_is_pair ?l_is_pair ?c_is_pair ?k_is_pair ?a_is_name ?l_is_name ?c_is_name ?k_is_name ?a_is_hush ?l_is_hush ?c_is_hush ?k_is_hush ?a_are_wishes ?l_are_wishes ?c_are_wishes ?k_are_wishes ?a__law_take ?l__law_take ?c__law_take ?k__law_take ?a__law_well ?l__law_well ?c__law_well ?k__law_well ?a__law_hush ?l__law_hush ?c__law_hush ?k__law_hush ?a__law_wishes ?l__law_wishes ?c__law_wishes ?k__law_wishes ?a_is_open ?l_is_open ?c_is_open ?k_is_open ?a_ways_open ?l_ways_open ?c_ways_open ?k_ways_open ?a__law_opens ?l__law_opens ?c__law_opens ?k__law_opens ?a__law_last ?l__law_last ?c__law_last ?k__law_last ?a_need_wishes ?l_need_wishes ?c_need_wishes ?k_need_wishes ?a_open_ways ?l_open_ways ?c_open_ways ?k_open_ways ?a_next_open ?l_next_open ?c_next_open ?k_next_open ?a_last_open ?l_last_open ?c_last_open ?k_last_open ?a__law_next ?l__law_next ?c__law_next ?k__law_next ?a__law_kinds ?l__law_kinds ?c__law_kinds ?k__law_kinds ?a__law_refusal ?l__law_refusal ?c__law_refusal ?k__law_refusal ?a__law_refused ?l__law_refused ?c__law_refused ?k__law_refused ?a_law ?l_law ?c_law ?k_law ?z_ValueError ?z_all ?z_any ?z_bool ?z_int ?z_isinstance ?z_len ?z_list ?z_max ?z_min ?z_range ?z_set ?z_str ?z_tuple ?z_zip ?y_DAY ?y_LETTERS ?y_MOST_PAIRS ?y_MOST_WAYS
    (case aC_NoWishes => k_is)
    (case aC_BellError => k_is)
    (case aC_NoTellings => k_is)
    (case aC_NoOrders => k_is)
    (case aC_NoName => k_is)
    (case aC_NoTick => k_is)
    (case aC_NoNumber => k_is)
    (case aC_Twice => k_is)
    (case aC_Full => k_is)
    (case aC_NoTime => k_is)
    (case xC_NoWishes => k_exc)
    (case kC_NoWishes => k_is)
    (case bC_NoWishes => k_is)
    (case tC_NoWishes => k_is)
    (case xC_BellError => k_exc)
    (case kC_BellError => k_is)
    (case bC_BellError => k_is)
    (case tC_BellError => k_is)
    (case dC_BellError => k_is)
    (case sC_NoWishes_BellError => k_is)
    (case hn0 => k_is)
    (case ht0 => k_is)
    (case hg_NoWishes => k_is)
    (case hk_NoWishes => k_is)
    (case hs_NoWishes => k_is)
    (case hd_NoWishes => k_is)
    (case ha_NoWishes => k_is)
    (case hm_NoWishes => k_is)
    (case kit_NoWishes_NoWishes => kit_is)
    (case kit_NoWishes_NoTellings => kit_is)
    (case kit_NoWishes_NoOrders => kit_is)
    (case kit_NoWishes_NoName => kit_is)
    (case kit_NoWishes_NoTick => kit_is)
    (case kit_NoWishes_NoNumber => kit_is)
    (case kit_NoWishes_Twice => kit_is)
    (case kit_NoWishes_Full => kit_is)
    (case kit_NoWishes_NoTime => kit_is)
    (case kit_NoWishes_BellError => kit_is)
    (case kit_NoWishes_ValueError => kit_is)
    (case a_is_whole => k_is)
    (case l_is_whole => k_is)
    (case c_is_whole => k_is)
    (case k_is_whole => k_is)
    (case a_is_pair => k_is)
    (case l_is_pair => k_is)
    (case c_is_pair => k_is)
    (case k_is_pair => k_is)
    (case a_is_name => k_is)
    (case l_is_name => k_is)
    (case c_is_name => k_is)
    (case k_is_name => k_is)
    (case a_is_hush => k_is)
    (case l_is_hush => k_is)
    (case c_is_hush => k_is)
    (case k_is_hush => k_is)
    (case a_are_wishes => k_is)
    (case l_are_wishes => k_is)
    (case c_are_wishes => k_is)
    (case k_are_wishes => k_is)
    (case a__law_take => k_is)
    (case l__law_take => k_is)
    (case c__law_take => k_is)
    (case k__law_take => k_is)
    (case a__law_well => k_is)
    (case l__law_well => k_is)
    (case c__law_well => k_is)
    (case k__law_well => k_is)
    (case a__law_hush => k_is)
    (case l__law_hush => k_is)
    (case c__law_hush => k_is)
    (case k__law_hush => k_is)
    (case a__law_wishes => k_is)
    (case l__law_wishes => k_is)
    (case c__law_wishes => k_is)
    (case k__law_wishes => k_is)
    (case a_is_open => k_is)
    (case l_is_open => k_is)
    (case c_is_open => k_is)
    (case k_is_open => k_is)
    (case a_ways_open => k_is)
    (case l_ways_open => k_is)
    (case c_ways_open => k_is)
    (case k_ways_open => k_is)
    (case a__law_opens => k_is)
    (case l__law_opens => k_is)
    (case c__law_opens => k_is)
    (case k__law_opens => k_is)
    (case a__law_last => k_is)
    (case l__law_last => k_is)
    (case c__law_last => k_is)
    (case k__law_last => k_is)
    (case a_need_wishes => k_is)
    (case l_need_wishes => k_is)
    (case c_need_wishes => k_is)
    (case k_need_wishes => k_is)
    (case a_open_ways => k_is)
    (case l_open_ways => k_is)
    (case c_open_ways => k_is)
    (case k_open_ways => k_is)
    (case a_next_open => k_is)
    (case l_next_open => k_is)
    (case c_next_open => k_is)
    (case k_next_open => k_is)
    (case a_last_open => k_is)
    (case l_last_open => k_is)
    (case c_last_open => k_is)
    (case k_last_open => k_is)
    (case a__law_next => k_is)
    (case l__law_next => k_is)
    (case c__law_next => k_is)
    (case k__law_next => k_is)
    (case a__law_kinds => k_is)
    (case l__law_kinds => k_is)
    (case c__law_kinds => k_is)
    (case k__law_kinds => k_is)
    (case a__law_refusal => k_is)
    (case l__law_refusal => k_is)
    (case c__law_refusal => k_is)
    (case k__law_refusal => k_is)
    (case a__law_refused => k_is)
    (case l__law_refused => k_is)
    (case c__law_refused => k_is)
    (case k__law_refused => k_is)
    (case a_law => k_is)
    (case l_law => k_is)
    (case c_law => k_is)
    (case k_law => k_is)
    (case z_ValueError => k_is)
    (case z_all => k_is)
    (case z_any => k_is)
    (case z_bool => k_is)
    (case z_int => k_is)
    (case z_isinstance => k_is)
    (case z_len => k_is)
    (case z_list => k_is)
    (case z_max => k_is)
    (case z_min => k_is)
    (case z_range => k_is)
    (case z_set => k_is)
    (case z_str => k_is)
    (case z_tuple => k_is)
    (case z_zip => k_is)
    (case y_DAY => exact ⟨_, by k_is⟩)
    (case y_LETTERS => exact ⟨_, by k_is⟩)
    (case y_MOST_PAIRS => exact ⟨_, by k_is⟩)
    (case y_MOST_WAYS => exact ⟨_, by k_is⟩)
#print axioms PySem.Challenge.cw_hushbell_k02_hours_by_hand_holds
